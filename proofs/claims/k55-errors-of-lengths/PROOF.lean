import PyProof.Rows.All
import Wide.All
import OpenK.AllK
import Wide.FinOn
import HandS.Base
import HandS.Call
import HandS.Ends
import HandS.More
import HandS.Words
import HandS.WordsExc
import HandS.Defaults
import HandS.Head0
import HandS.Head1
import HandS.Head2
import HandS.HeadEnd
import HandS.HeadHook1
import HandS.HeadHook2
import HandS.EndBits
import HandS.EndTab
import HandS.EndOwn
import HandS.ExcIs
import PySem.Challenge.RW_manymarks_k55_errors_of_lengths
import HandS.List
import HandS.Exc
import HandS.ExcOwn
import HandS.ExcValue
import HandS.ExcInit
import HandS.CallLocal
import KE.KExcIs
import HandS.ForMost
import KE.KDictDisplayH
import PyProof.ReprRoads
import PyProof.RowDictHeap
import HandS.TupMul
import HandS.IsInst
import HandS.Comp
import HandS.Text
import HandS.Dict
import HandS.Small
import HandS.Property
import PyProof.AssignAttr
import HandS.DictComp
import HandS.Iter
import HandS.Zip
import HandS.Steps
import HandS.Conv
import HandS.SortInts
import HandS.Star
import HandS.Style
import KE.KEqDict
import KE.GoesZip
import HandS.TupSets
import PyProof.WalksMore
import PyProof.MinMaxWalk
import HandS.TryMany
import HandS.Lambda
import HandS.HotCalls
import HandS.WordsDict
import HandS.ExcField
import HandS.Walk
set_option Elab.async false
set_option linter.all false
set_option maxRecDepth 100000
set_option maxHeartbeats 4000000
namespace Hx
open PySem PySem.Spec PyProof.Rows L2 He
/-! ### a Hook over any checks of the written part -/
abbrev Chk := PySem.W.Frag → Bool
def obsX (ck : List Chk) (fn : List DefD) (K : PySem.W.Frag) : AlD := ((ck.all fun f => f K) && fn.all fun d => d.ok K, fn.map fun d => fnW K d.at_)
def SaysX (ck : List Chk) (fn : List DefD) (K : PySem.W.Frag) : Prop := obsX ck fn K = valD fn
def obsXG (n : Nat) (ck : List Chk) (fn : List DefD) (g : Addr → Option Obj) : AlD := obsX ck fn (frG g (asD g n))
def hookX (n : Nat) (ck : List Chk) (fn : List DefD) : PySem.W.Hook where
  α := AlD
  obs := fun s => obsXG n ck fn s.heap.get?
  val := fun _ => valD fn
  says := fun _ h => ∃ K : PySem.W.Frag, K.In h ∧ SaysX ck fn K
  of := fun _ _ e => ⟨_, frG_in, e⟩
  keeps := fun _ _ _ ⟨K, hK, c⟩ k => ⟨K, PySem.W.Frag.In.keeps hK k, c⟩
theorem obsXG_eq {n : Nat} {ck : List Chk} {fn : List DefD} {g : Addr → Option Obj} {s : Shared} (h : ∀ a, g a = s.heap.get? a) : obsXG n ck fn g = (hookX n ck fn).obs s := by
  have e : g = s.heap.get? := funext h
  rw [e] <;> rfl
section
variable {ck : List Chk} {fn : List DefD} {K : PySem.W.Frag}
theorem SaysX.fact (c : SaysX ck fn K) (i : Nat) {f : Chk} (h : ck[i]? = some f := by rfl) : f K = true := by
  have c1 := (ba (show ((ck.all fun f => f K) && fn.all fun d => d.ok K) = true from congrArg (fun z : AlD => z.1) c)).1
  exact List.all_eq_true.mp c1 f (List.mem_of_getElem? h)
theorem SaysX.def_ (c : SaysX ck fn K) (i : Nat) {d : DefD} (h : fn[i]? = some d := by rfl) : ∃ fd, FunD K d.name d.qual d.params d.body d.scope (d.dvs K) (d.kws K) (fAd K d.at_) fd := by
  have c2 := (ba (show ((ck.all fun f => f K) && fn.all fun d => d.ok K) = true from congrArg (fun z : AlD => z.1) c)).2
  have e : fn.map (fun d => fnW K d.at_) = fn.map DefD.val := congrArg (fun z : AlD => z.2) c
  have e2 : (fn.map fun d => fnW K d.at_)[i]? = (fn.map DefD.val)[i]? := by rw [e]
  rw [List.getElem?_map, List.getElem?_map, h] at e2
  exact DefD.funD (Option.some.inj e2) (List.all_eq_true.mp c2 d (List.mem_of_getElem? h))
end

/-! ### the same, the law's own table of code objects left out of the written part -/
def lawCode (x : Str) (K : PySem.W.Frag) : Addr := match K.lookup (ga K x) with
  | some ⟨_, _, .func fd, _⟩ => (match fd.code with
    | .ref c => c
    | _ => 0)
  | _ => 0
def lawTab (x : Str) (K : PySem.W.Frag) : Addr := match K.lookup (lawCode x K) with
  | some ⟨_, _, .fields vs, _⟩ => (match (vs[11]? : Option Value) with
    | some (.ref P) => P
    | _ => 0)
  | _ => 0
def kidsF (g : Addr → Option Obj) (a : Addr) : List Addr := match g a with
  | some ⟨_, _, .func fd, _⟩ => refV fd.code ++ refV fd.defaults
  | some ⟨_, _, .cls cd, _⟩ => [cd.ns]
  | some ⟨_, _, .dict es _, _⟩ => es.toList.flatMap fun e => refV e.val
  | _ => []
/-- the module's names xs, their code objects, their classes' methods, these ones' code objects -/
def pickF (xs : List Str) (g : Addr → Option Obj) : List Addr :=
  let A1 := xs.map (ga (frG g [mainGlobals]))
  let A2 := A1.flatMap (kidsF g)
  let A3 := A2.flatMap (kidsF g)
  mainGlobals :: sysModules :: (A1 ++ (A2 ++ (A3 ++ A3.flatMap (kidsF g))))
/-- .. without the table of the def x -/
def pickT (x : Str) (xs : List Str) (g : Addr → Option Obj) : List Addr := let as := pickF xs g; let P := lawTab x (frG g as); as.filter fun a => a != P
def obsPG (pick : (Addr → Option Obj) → List Addr) (ck : List Chk) (fn : List DefD) (g : Addr → Option Obj) : AlD := obsX ck fn (frG g (pick g))
def hookP (pick : (Addr → Option Obj) → List Addr) (ck : List Chk) (fn : List DefD) : PySem.W.Hook where
  α := AlD
  obs := fun s => obsPG pick ck fn s.heap.get?
  val := fun _ => valD fn
  says := fun _ h => ∃ K : PySem.W.Frag, K.In h ∧ SaysX ck fn K
  of := fun _ _ e => ⟨_, frG_in, e⟩
  keeps := fun _ _ _ ⟨K, hK, c⟩ k => ⟨K, PySem.W.Frag.In.keeps hK k, c⟩
theorem obsPG_eq {pick : (Addr → Option Obj) → List Addr} {ck : List Chk} {fn : List DefD} {g : Addr → Option Obj} {s : Shared} (h : ∀ a, g a = s.heap.get? a) : obsPG pick ck fn g = (hookP pick ck fn).obs s := by
  have e : g = s.heap.get? := funext h
  rw [e] <;> rfl
/-- a def's body, its code object known -/
theorem okC {P : Program} {w : World} {K : PySem.W.Frag} {mg : Str → Option Value} {base : Heap} {x qual : Str} {params : Arguments} {body : List Stmt} {scope : Scope} {dvs : List V} {kws : List (Str × V)} {f : Addr} {fd : FuncData} {CX : CXT} {N ps : List Str} {k : Nat} {sp : Sp} {cdv : Value}
    (F : FunD K x qual params body scope dvs kws f fd) (hcd : fd.code = cdv) (S : FnScope N ps scope) (len : ∀ vs H Q E, sp vs H Q E → vs.length = ps.length)
    (hbody : ∀ (A : Around) (outer : List Env) (s : Shared) (H : Hp) (vs : List V) (Q : VK) (E : XK), Room k (A.deeper (envOfC qual scope s.heap.objs.size f cdv)) → sp vs H Q E →
      ∃ t, PSs (cxOf CX P w K mg base N qual scope f cdv A outer s H E) body t ∧ t { nx := fun _ H' => Q .non H', rt := Q } (start N vs) H) : FnOk P w K mg base CX (k + 1) f fd ps sp := by
  obtain ⟨oc, od, dV, kV, doc, pm, an, cdv', ct, osl, rfl, lk, hcd', _, _⟩ := F.ex
  have e : cdv' = cdv := hcd
  subst e
  exact fn_of lk hcd' S len fun A outer s H vs Q E hr hsp => hbody A outer s H vs Q E hr hsp
end Hx
namespace LamX
open PySem PySem.Spec PyProof.Rows L2
theorem walk_ofOwnE {l : PySem.W.OpenLaw} {n k : Nat} {q : Program} {loose : List Str} {XP : (Str → Option Value) → Heap → Prop} {YP : World → Heap → Prop} {d : DefRec} {CX : World → CXT} {x : Str}
    (hn : l.most = some n) (hn2 : n ≤ sizeLine) (hdf : d.params.defaults = []) (hr : Room k callerA) (hrec : ((recsOf q).any fun e => e.name == d.name) = true)
    (F : ∀ (w : World) (mg : Str → Option Value) (fa : Addr) (h : Heap), YP w h → h.Ns mainGlobals mg → mg d.name = some (.ref fa) → ∃ K : PySem.W.Frag, K.In h ∧ (OwnTab K fa h → LawAtS l w K (CX w) k n x mg fa h))
    (hCX : ∀ (w : World) (H : Hp) (s : Shared) (e : Value) (s' : Shared), CX w [] H s (fun _ _ _ => False) e s' → False) :
    PySem.W.WalkO q loose XP YP l.row.toRowW d [] (fun f vs => PySem.call f vs) := by
  refine Att.attach_callB hn hdf fun w s₀ s₁ mg mb fa o pm cd doc a vs ns G Y ho hd hcd hmg hobj hints hlen hbits hg => ?_
  obtain ⟨K, KX, F2⟩ := F w mg fa _ Y G.T.g hmg
  have own : OwnTab K fa s₁.heap := fun c P o1 fd1 e dd vs1 sl k1 k2 k3 k4 k5 => by
    obtain ⟨dL, hm, hn1⟩ := List.any_eq_true.mp hrec
    have hn2 : dL.name = d.name := beq_iff_eq.mp hn1
    obtain ⟨a', o', fd', c', P', h1, h2, h3, h4, h5, h6⟩ := G.T.tab dL hm
    rw [hn2, hmg] at h1
    cases h1
    have g1 := KX _ _ k1
    rw [g1] at h2
    cases h2
    rw [k2] at h3
    cases h3
    rw [k3] at h4
    cases h4
    obtain ⟨⟨oc, vc, e1, _, e3, e4⟩, hP⟩ := h6
    have g2 := KX _ _ k4
    rw [g2] at e1
    cases e1
    cases e3
    rw [k5] at e4
    cases e4
    exact hP
  obtain ⟨fd, cs, sp, hT, nT, C, hb, hsp, hF⟩ := F2 own
  exact law_callTs KX G.T.g G.T.b G.T.builtins G.T.nolimit hg hT nT C G.T.bmain hobj hints (Nat.le_trans hlen hn2) hr hF hb (fun H hH hS => hsp H a ns hlen hbits hH hS) fun H e s' => hCX w H s₁ e s'
end LamX
set_option maxHeartbeats 4000000
/-! the Hook again, properties' getters among the defs -/
namespace Hy
open PySem PySem.Spec PyProof.Rows L2 He Hx
/-- a function: a global's, a class's method, a property's getter -/
def fAdP (K : PySem.W.Frag) (p : Str × Option Str) : Addr := match p.2 with
  | none => ga K p.1
  | some m => match PySem.W.recIn K (ma K (ga K p.1) m) "property" with
    | some (.ref g :: _) => g
    | _ => ma K (ga K p.1) m
def fnP (K : PySem.W.Frag) (p : Str × Option Str) : FnW := match K.lookup (fAdP K p) with
  | some ⟨_, _, .func fd, _⟩ => some (fd.name, fd.qualname, fd.params, fd.body, fd.scope, fd.globals, fd.closure, fd.builtins)
  | _ => none
def okP (K : PySem.W.Frag) (d : DefD) : Bool := PySem.W.keepIn K (.ref (fAdP K d.at_)) && (match K.lookup (fAdP K d.at_) with
  | some ⟨_, _, .func fd, _⟩ => PySem.W.codeIn K fd.code d.qual && (dflB K fd.defaults (d.dvs K) && kwdB K fd.kwdefaults (d.kws K))
  | _ => false)
theorem funP {K : PySem.W.Frag} {d : DefD} (e : fnP K d.at_ = d.val) (c : okP K d = true) : ∃ fd, FunD K d.name d.qual d.params d.body d.scope (d.dvs K) (d.kws K) (fAdP K d.at_) fd := by
  obtain ⟨kp, c2⟩ := ba c
  unfold fnP at e
  cases q : K.lookup (fAdP K d.at_) with
  | none =>
    rw [q] at c2
    cases c2
  | some o =>
    obtain ⟨oc, od, dt, osl⟩ := o
    rw [q] at c2 e
    cases dt with
    | func fd =>
      obtain ⟨n1, n2, n3, n4, n5, n6, n7, n8, n9, n10, n11, n12, n13, n14, n15⟩ := fd
      have e2 : (some (n1, n2, n3, n4, n5, n6, n7, n15) : FnW) = some (d.name, d.qual, d.params, .stmts d.body, d.scope, mainGlobals, [], builtinsNs) := e
      simp only [Option.some.injEq, Prod.mk.injEq] at e2
      obtain ⟨h1, h2, h3, h4, h5, h6, h7, h8⟩ := e2
      subst h1 h2 h3 h4 h5 h6 h7 h8
      have c3 : (PySem.W.codeIn K n13 d.qual && (dflB K n8 (d.dvs K) && kwdB K n9 (d.kws K))) = true := c2
      obtain ⟨k1, k2⟩ := ba c3
      obtain ⟨k3, k4⟩ := ba k2
      exact ⟨_, ⟨oc, od, n8, n9, n10, n11, n12, n13, n14, osl, rfl, q, k1, dflB_ok k3, kwdB_ok k4⟩, kp⟩
    | _ => cases c2
def obsY (ck : List Chk) (fn : List DefD) (K : PySem.W.Frag) : AlD := ((ck.all fun f => f K) && fn.all fun d => okP K d, fn.map fun d => fnP K d.at_)
def SaysY (ck : List Chk) (fn : List DefD) (K : PySem.W.Frag) : Prop := obsY ck fn K = valD fn
section
variable {ck : List Chk} {fn : List DefD} {K : PySem.W.Frag}
theorem SaysY.fact (c : SaysY ck fn K) (i : Nat) {f : Chk} (h : ck[i]? = some f := by rfl) : f K = true := by
  have c1 := (ba (show ((ck.all fun f => f K) && fn.all fun d => okP K d) = true from congrArg (fun z : AlD => z.1) c)).1
  exact List.all_eq_true.mp c1 f (List.mem_of_getElem? h)
theorem SaysY.def_ (c : SaysY ck fn K) (i : Nat) {d : DefD} (h : fn[i]? = some d := by rfl) : ∃ fd, FunD K d.name d.qual d.params d.body d.scope (d.dvs K) (d.kws K) (fAdP K d.at_) fd := by
  have c2 := (ba (show ((ck.all fun f => f K) && fn.all fun d => okP K d) = true from congrArg (fun z : AlD => z.1) c)).2
  have e : fn.map (fun d => fnP K d.at_) = fn.map DefD.val := congrArg (fun z : AlD => z.2) c
  have e2 : (fn.map fun d => fnP K d.at_)[i]? = (fn.map DefD.val)[i]? := by rw [e]
  rw [List.getElem?_map, List.getElem?_map, h] at e2
  exact funP (Option.some.inj e2) (List.all_eq_true.mp c2 d (List.mem_of_getElem? h))
end
def kidsP (g : Addr → Option Obj) (a : Addr) : List Addr := match g a with
  | some ⟨.type t, _, .fields vs, _⟩ => if t = "property" then vs.toList.flatMap refV else []
  | _ => kidsF g a
/-- the module's names xs, their code objects, their classes' methods, these ones' code objects, properties' getters; without the tables of the defs ts -/
def pickP (xs : List Str) (g : Addr → Option Obj) : List Addr :=
  let A1 := xs.map (ga (frG g [mainGlobals]))
  let A2 := A1.flatMap (kidsF g)
  let A3 := A2.flatMap (kidsF g)
  let A4 := A3.flatMap (kidsP g)
  mainGlobals :: sysModules :: (A1 ++ (A2 ++ (A3 ++ (A4 ++ A4.flatMap (kidsF g)))))
def pickY (x : Str) (xs : List Str) (g : Addr → Option Obj) : List Addr := let as := pickP xs g; let P := lawTab x (frG g as); as.filter fun a => a != P
def obsYG (pick : (Addr → Option Obj) → List Addr) (ck : List Chk) (fn : List DefD) (g : Addr → Option Obj) : AlD := obsY ck fn (frG g (pick g))
def hookY (pick : (Addr → Option Obj) → List Addr) (ck : List Chk) (fn : List DefD) : PySem.W.Hook where
  α := AlD
  obs := fun s => obsYG pick ck fn s.heap.get?
  val := fun _ => valD fn
  says := fun _ h => ∃ K : PySem.W.Frag, K.In h ∧ SaysY ck fn K
  of := fun _ _ e => ⟨_, frG_in, e⟩
  keeps := fun _ _ _ ⟨K, hK, c⟩ k => ⟨K, PySem.W.Frag.In.keeps hK k, c⟩
theorem obsYG_eq {pick : (Addr → Option Obj) → List Addr} {ck : List Chk} {fn : List DefD} {g : Addr → Option Obj} {s : Shared} (h : ∀ a, g a = s.heap.get? a) : obsYG pick ck fn g = (hookY pick ck fn).obs s := by
  have e : g = s.heap.get? := funext h
  rw [e] <;> rfl
end Hy
namespace PB
open PySem PySem.Spec PyProof.Rows L2 He Hx Hy
def excCB (K : PySem.W.Frag) (C : Addr) : Bool := eqO (PySem.W.findIn K (.ref C) "__getattribute__") (some (some (.builtin "BaseException.__getattribute__"))) && (eqO (PySem.W.findIn K (.ref C) "__getattr__") (some none) && (decide (PySem.W.subIn K (.ref C) (.type "BaseException") = some true) &&
  (PySem.W.hasDictIn K C && (eqO (PySem.W.findIn K (.ref C) "__class__") (some (some (.builtin "object.__class__"))) && (eqO (PySem.W.specialIn K (.builtin "object.__class__") "__get__") (some (some (.builtin "getset_descriptor.__get__"))) &&
  (decide (PySem.W.takesIn K (.builtin "object.__class__") = some true) && decide (PySem.W.mroIn K C (.type "object") = some true)))))))
def clsB (K : PySem.W.Frag) (C : Addr) (bm : List Value) (newId : String) : Bool := match K.lookup C with
  | some ⟨.type "type", _, .cls cd, sl⟩ => (match sl.toList with
    | [_, _, _, _, some (.builtin n), _] => decide (n = newId) && (decide (cd.mro = .ref C :: bm) && (cd.hasDict && !cd.hasDel))
    | _ => false)
  | _ => false
def initB (K : PySem.W.Frag) (x f : Str) (bm : List Value) (newId : String) : Bool := clsB K (ga K x) bm newId && (eqO (PySem.W.findIn K (.ref (ga K x)) "__setattr__") (some (some (.builtin "object.__setattr__"))) && (eqO (PySem.W.findIn K (.ref (ga K x)) f) (some none) &&
  (eqO (PySem.W.findIn K (.ref (ga K x)) "__init__") (some (some (.ref (ma K (ga K x) "__init__")))) && (decide (PySem.W.typeIn K (.ref (ma K (ga K x) "__init__")) = some (.type "function")) && PySem.W.keepIn K (.ref (ga K x))))))
def tlIndexError : List Value := [.type "IndexError", .type "LookupError", .type "Exception", .type "BaseException", .type "object"]
def tlKeyError : List Value := [.type "KeyError", .type "LookupError", .type "Exception", .type "BaseException", .type "object"]
def tlOverflowError : List Value := [.type "OverflowError", .type "ArithmeticError", .type "Exception", .type "BaseException", .type "object"]
def tlArithmeticError : List Value := [.type "ArithmeticError", .type "Exception", .type "BaseException", .type "object"]
def tlRuntimeError : List Value := [.type "RuntimeError", .type "Exception", .type "BaseException", .type "object"]
def tlLookupError : List Value := [.type "LookupError", .type "Exception", .type "BaseException", .type "object"]
def propG (K : PySem.W.Frag) (C f : Str) : Addr := fAdP K (C, some f)
def propB (K : PySem.W.Frag) (C f : Str) : Bool := eqO (PySem.W.findIn K (.ref (ga K C)) f) (some (some (.ref (ma K (ga K C) f)))) && (eqO (PySem.W.specialIn K (.ref (ma K (ga K C) f)) "__get__") (some (some (.builtin "property.__get__"))) && (decide (PySem.W.takesIn K (.ref (ma K (ga K C) f)) = some true) &&
  (match PySem.W.recIn K (ma K (ga K C) f) "property" with
    | some (.ref g :: _) => decide (g = propG K C f)
    | _ => false)))
def isfB (K : PySem.W.Frag) (x : Str) : Bool := (Fa.cls x).ok K && ((["NoneType", "bool", "int", "str", "list", "tuple", "dict"].all fun t => decide (PySem.W.kitOne K (.type t) (.ref (ga K x)) = some false)) && (decide (PySem.W.kitOne K (.ref (ga K x)) (.ref (ga K x)) = some true) &&
  (eqO (PySem.W.findIn K (.ref (ga K x)) "__class__") (some (some (.builtin "object.__class__"))) && (eqO (PySem.W.specialIn K (.builtin "object.__class__") "__get__") (some (some (.builtin "getset_descriptor.__get__"))) && (decide (PySem.W.takesIn K (.builtin "object.__class__") = some true) && decide (PySem.W.mroIn K (ga K x) (.type "object") = some true))))))
end PB
set_option maxHeartbeats 0
namespace K5
open PySem PySem.Spec PyProof.Rows L2
def top (i : Nat) : Stmt := PySem.Challenge.pw_manymarks_k55_errors_of_lengths.main.body.getD i (.Pass ⟨0, 0, 0, 0⟩)
abbrev s_is_integer : Stmt := top 14
def d_is_integer : He.DefD := ⟨("is_integer", none), "is_integer", "is_integer", defArgs s_is_integer, defBody s_is_integer, defScope s_is_integer, [], []⟩
abbrev s_is_between : Stmt := top 15
def d_is_between : He.DefD := ⟨("is_between", none), "is_between", "is_between", defArgs s_is_between, defBody s_is_between, defScope s_is_between, [], []⟩
abbrev s_is_word : Stmt := top 16
def d_is_word : He.DefD := ⟨("is_word", none), "is_word", "is_word", defArgs s_is_word, defBody s_is_word, defScope s_is_word, [], []⟩
abbrev s_are_ascending : Stmt := top 18
def d_are_ascending : He.DefD := ⟨("are_ascending", none), "are_ascending", "are_ascending", defArgs s_are_ascending, defBody s_are_ascending, defScope s_are_ascending, [], []⟩
abbrev s_are_letters : Stmt := top 19
def d_are_letters : He.DefD := ⟨("are_letters", none), "are_letters", "are_letters", defArgs s_are_letters, defBody s_are_letters, defScope s_are_letters, [], []⟩
abbrev s_require_length : Stmt := top 20
def d_require_length : He.DefD := ⟨("require_length", none), "require_length", "require_length", defArgs s_require_length, defBody s_require_length, defScope s_require_length, [], []⟩
abbrev s_met_from : Stmt := top 38
def d_met_from : He.DefD := ⟨("met_from", none), "met_from", "met_from", defArgs s_met_from, defBody s_met_from, defScope s_met_from, [], []⟩
abbrev s_linked : Stmt := top 39
def d_linked : He.DefD := ⟨("linked", none), "linked", "linked", defArgs s_linked, defBody s_linked, defScope s_linked, [], []⟩
abbrev s_useful_in : Stmt := top 40
def d_useful_in : He.DefD := ⟨("useful_in", none), "useful_in", "useful_in", defArgs s_useful_in, defBody s_useful_in, defScope s_useful_in, [], []⟩
abbrev s_is_short : Stmt := top 70
def d_is_short : He.DefD := ⟨("is_short", none), "is_short", "is_short", defArgs s_is_short, defBody s_is_short, defScope s_is_short, [], []⟩
abbrev s_is_number : Stmt := top 71
def d_is_number : He.DefD := ⟨("is_number", none), "is_number", "is_number", defArgs s_is_number, defBody s_is_number, defScope s_is_number, [], []⟩
abbrev s_are_worded : Stmt := top 72
def d_are_worded : He.DefD := ⟨("are_worded", none), "are_worded", "are_worded", defArgs s_are_worded, defBody s_are_worded, defScope s_are_worded, [], []⟩
abbrev s_is_edge : Stmt := top 73
def d_is_edge : He.DefD := ⟨("is_edge", none), "is_edge", "is_edge", defArgs s_is_edge, defBody s_is_edge, defScope s_is_edge, [], []⟩
abbrev s_are_edges : Stmt := top 74
def d_are_edges : He.DefD := ⟨("are_edges", none), "are_edges", "are_edges", defArgs s_are_edges, defBody s_are_edges, defScope s_are_edges, [], []⟩
abbrev s_edges_after : Stmt := top 75
def d_edges_after : He.DefD := ⟨("edges_after", none), "edges_after", "edges_after", defArgs s_edges_after, defBody s_edges_after, defScope s_edges_after, [], []⟩
abbrev s_edges_before : Stmt := top 76
def d_edges_before : He.DefD := ⟨("edges_before", none), "edges_before", "edges_before", defArgs s_edges_before, defBody s_edges_before, defScope s_edges_before, [], []⟩
abbrev s_kept_words : Stmt := top 77
def d_kept_words : He.DefD := ⟨("kept_words", none), "kept_words", "kept_words", defArgs s_kept_words, defBody s_kept_words, defScope s_kept_words, [], []⟩
abbrev s_rwInit : Stmt := inClass (top 78) 0
def d_rwInit : He.DefD := ⟨("Rewriter", some "__init__"), "__init__", "Rewriter.__init__", defArgs s_rwInit, defBody s_rwInit, defScope s_rwInit, [], []⟩
abbrev s_require_rewriter : Stmt := top 79
def d_require_rewriter : He.DefD := ⟨("require_rewriter", none), "require_rewriter", "require_rewriter", defArgs s_require_rewriter, defBody s_require_rewriter, defScope s_require_rewriter, [], []⟩
abbrev s_is_edge_at : Stmt := top 84
def d_is_edge_at : He.DefD := ⟨("is_edge_at", none), "is_edge_at", "is_edge_at", defArgs s_is_edge_at, defBody s_is_edge_at, defScope s_is_edge_at, [], []⟩
abbrev s_is_path_in : Stmt := top 85
def d_is_path_in : He.DefD := ⟨("is_path_in", none), "is_path_in", "is_path_in", defArgs s_is_path_in, defBody s_is_path_in, defScope s_is_path_in, [], []⟩
abbrev s_last_in : Stmt := top 86
def d_last_in : He.DefD := ⟨("last_in", none), "last_in", "last_in", defArgs s_last_in, defBody s_last_in, defScope s_last_in, [], []⟩
abbrev s_written_in : Stmt := top 87
def d_written_in : He.DefD := ⟨("written_in", none), "written_in", "written_in", defArgs s_written_in, defBody s_written_in, defScope s_written_in, [], []⟩
abbrev s_writes_in : Stmt := top 88
def d_writes_in : He.DefD := ⟨("writes_in", none), "writes_in", "writes_in", defArgs s_writes_in, defBody s_writes_in, defScope s_writes_in, [], []⟩
abbrev s_require_path : Stmt := top 90
def d_require_path : He.DefD := ⟨("require_path", none), "require_path", "require_path", defArgs s_require_path, defBody s_require_path, defScope s_require_path, [], []⟩
abbrev s_is_edge_in : Stmt := top 98
def d_is_edge_in : He.DefD := ⟨("is_edge_in", none), "is_edge_in", "is_edge_in", defArgs s_is_edge_in, defBody s_is_edge_in, defScope s_is_edge_in, [], []⟩
abbrev s_is_circle_in : Stmt := top 99
def d_is_circle_in : He.DefD := ⟨("is_circle_in", none), "is_circle_in", "is_circle_in", defArgs s_is_circle_in, defBody s_is_circle_in, defScope s_is_circle_in, [], []⟩
abbrev s_difference_in : Stmt := top 101
def d_difference_in : He.DefD := ⟨("difference_in", none), "difference_in", "difference_in", defArgs s_difference_in, defBody s_difference_in, defScope s_difference_in, [], []⟩
abbrev s_clInit : Stmt := inClass (top 104) 0
def d_clInit : He.DefD := ⟨("Climb", some "__init__"), "__init__", "Climb.__init__", defArgs s_clInit, defBody s_clInit, defScope s_clInit, [], []⟩
abbrev s_goOn : Stmt := inClass (top 104) 1
def d_goOn : He.DefD := ⟨("Climb", some "go_on"), "go_on", "Climb.go_on", defArgs s_goOn, defBody s_goOn, defScope s_goOn, [], []⟩
abbrev s_pathTo : Stmt := inClass (top 104) 3
def d_pathTo : He.DefD := ⟨("Climb", some "path_to"), "path_to", "Climb.path_to", defArgs s_pathTo, defBody s_pathTo, defScope s_pathTo, [], []⟩
abbrev s_clCircle : Stmt := inClass (top 104) 4
def d_clCircle : He.DefD := ⟨("Climb", some "circle"), "circle", "Climb.circle", defArgs s_clCircle, defBody s_clCircle, defScope s_clCircle, [], []⟩
abbrev s_clSums : Stmt := inClass (top 104) 5
def d_clSums : He.DefD := ⟨("Climb", some "sums"), "sums", "Climb.sums", defArgs s_clSums, defBody s_clSums, defScope s_clSums, [], []⟩
abbrev s_climb_in : Stmt := top 105
def d_climb_in : He.DefD := ⟨("climb_in", none), "climb_in", "climb_in", defArgs s_climb_in, defBody s_climb_in, defScope s_climb_in, [], []⟩
abbrev s_best_end : Stmt := top 106
def d_best_end : He.DefD := ⟨("best_end", none), "best_end", "best_end", defArgs s_best_end, defBody s_best_end, defScope s_best_end, [], []⟩
abbrev s_length_told : Stmt := top 107
def d_length_told : He.DefD := ⟨("length_told", none), "length_told", "length_told", defArgs s_length_told, defBody s_length_told, defScope s_length_told, [], []⟩
abbrev s_bounds_in : Stmt := top 108
def d_bounds_in : He.DefD := ⟨("bounds_in", none), "bounds_in", "bounds_in", defArgs s_bounds_in, defBody s_bounds_in, defScope s_bounds_in, [], []⟩
abbrev s_is_even_in : Stmt := top 109
def d_is_even_in : He.DefD := ⟨("is_even_in", none), "is_even_in", "is_even_in", defArgs s_is_even_in, defBody s_is_even_in, defScope s_is_even_in, [], []⟩
abbrev s_is_table_in : Stmt := top 110
def d_is_table_in : He.DefD := ⟨("is_table_in", none), "is_table_in", "is_table_in", defArgs s_is_table_in, defBody s_is_table_in, defScope s_is_table_in, [], []⟩
abbrev s_shows_between : Stmt := top 112
def d_shows_between : He.DefD := ⟨("shows_between", none), "shows_between", "shows_between", defArgs s_shows_between, defBody s_shows_between, defScope s_shows_between, [], []⟩
abbrev s_shows_length : Stmt := top 113
def d_shows_length : He.DefD := ⟨("shows_length", none), "shows_length", "shows_length", defArgs s_shows_length, defBody s_shows_length, defScope s_shows_length, [], []⟩
abbrev s_first_circle : Stmt := top 114
def d_first_circle : He.DefD := ⟨("first_circle", none), "first_circle", "first_circle", defArgs s_first_circle, defBody s_first_circle, defScope s_first_circle, [], []⟩
abbrev s_rate_told : Stmt := top 116
def d_rate_told : He.DefD := ⟨("rate_told", none), "rate_told", "rate_told", defArgs s_rate_told, defBody s_rate_told, defScope s_rate_told, [], []⟩
abbrev s_is_rate_told : Stmt := top 117
def d_is_rate_told : He.DefD := ⟨("is_rate_told", none), "is_rate_told", "is_rate_told", defArgs s_is_rate_told, defBody s_is_rate_told, defScope s_is_rate_told, [], []⟩
abbrev s_require_circle : Stmt := top 118
def d_require_circle : He.DefD := ⟨("require_circle", none), "require_circle", "require_circle", defArgs s_require_circle, defBody s_require_circle, defScope s_require_circle, [], []⟩
abbrev s_require_word : Stmt := top 119
def d_require_word : He.DefD := ⟨("require_word", none), "require_word", "require_word", defArgs s_require_word, defBody s_require_word, defScope s_require_word, [], []⟩
abbrev s_is_circle : Stmt := top 120
def d_is_circle : He.DefD := ⟨("is_circle", none), "is_circle", "is_circle", defArgs s_is_circle, defBody s_is_circle, defScope s_is_circle, [], []⟩
abbrev s_difference : Stmt := top 121
def d_difference : He.DefD := ⟨("difference", none), "difference", "difference", defArgs s_difference, defBody s_difference, defScope s_difference, [], []⟩
abbrev s_length_paper : Stmt := top 122
def d_length_paper : He.DefD := ⟨("length_paper", none), "length_paper", "length_paper", defArgs s_length_paper, defBody s_length_paper, defScope s_length_paper, [], []⟩
abbrev s_is_length_paper : Stmt := top 123
def d_is_length_paper : He.DefD := ⟨("is_length_paper", none), "is_length_paper", "is_length_paper", defArgs s_is_length_paper, defBody s_is_length_paper, defScope s_is_length_paper, [], []⟩
abbrev s_length_bounds : Stmt := top 124
def d_length_bounds : He.DefD := ⟨("length_bounds", none), "length_bounds", "length_bounds", defArgs s_length_bounds, defBody s_length_bounds, defScope s_length_bounds, [], []⟩
abbrev s_is_even : Stmt := top 125
def d_is_even : He.DefD := ⟨("is_even", none), "is_even", "is_even", defArgs s_is_even, defBody s_is_even, defScope s_is_even, [], []⟩
abbrev s_state_differences : Stmt := top 126
def d_state_differences : He.DefD := ⟨("state_differences", none), "state_differences", "state_differences", defArgs s_state_differences, defBody s_state_differences, defScope s_state_differences, [], []⟩
abbrev s_result_lengths : Stmt := top 127
def d_result_lengths : He.DefD := ⟨("result_lengths", none), "result_lengths", "result_lengths", defArgs s_result_lengths, defBody s_result_lengths, defScope s_result_lengths, [], []⟩
abbrev s_rate_of : Stmt := top 128
def d_rate_of : He.DefD := ⟨("rate_of", none), "rate_of", "rate_of", defArgs s_rate_of, defBody s_rate_of, defScope s_rate_of, [], []⟩
abbrev s_rate : Stmt := top 129
def d_rate : He.DefD := ⟨("rate", none), "rate", "rate", defArgs s_rate, defBody s_rate, defScope s_rate, [], []⟩
abbrev s_rate_paper : Stmt := top 130
def d_rate_paper : He.DefD := ⟨("rate_paper", none), "rate_paper", "rate_paper", defArgs s_rate_paper, defBody s_rate_paper, defScope s_rate_paper, [], []⟩
abbrev s_is_rate_paper : Stmt := top 131
def d_is_rate_paper : He.DefD := ⟨("is_rate_paper", none), "is_rate_paper", "is_rate_paper", defArgs s_is_rate_paper, defBody s_is_rate_paper, defScope s_is_rate_paper, [], []⟩
abbrev s_iNumber : Stmt := inClass (top 7) 0
def d_iNumber : He.DefD := ⟨("InvalidNumber", some "__init__"), "__init__", "InvalidNumber.__init__", defArgs s_iNumber, defBody s_iNumber, defScope s_iNumber, [], []⟩
abbrev s_sack : Stmt := top 133
def d_sack : He.DefD := ⟨("_law_sack", none), "_law_sack", "_law_sack", defArgs s_sack, defBody s_sack, defScope s_sack, [], []⟩
abbrev s_dip : Stmt := top 134
def d_dip : He.DefD := ⟨("_law_dip", none), "_law_dip", "_law_dip", defArgs s_dip, defBody s_dip, defScope s_dip, [], []⟩
abbrev s_lone : Stmt := top 135
def d_lone : He.DefD := ⟨("_law_one", none), "_law_one", "_law_one", defArgs s_lone, defBody s_lone, defScope s_lone, [], []⟩
abbrev s_met : Stmt := top 136
def d_met : He.DefD := ⟨("_law_met", none), "_law_met", "_law_met", defArgs s_met, defBody s_met, defScope s_met, [], []⟩
abbrev s_right : Stmt := top 137
def d_right : He.DefD := ⟨("_law_right", none), "_law_right", "_law_right", defArgs s_right, defBody s_right, defScope s_right, [], []⟩
abbrev s_law : Stmt := top 138
def d_law : He.DefD := ⟨("law", none), "law", "law", defArgs s_law, defBody s_law, defScope s_law, [], []⟩
def fn : List He.DefD := [d_is_integer, d_is_between, d_is_word, d_are_ascending, d_are_letters, d_require_length, d_met_from, d_linked, d_useful_in, d_is_short, d_is_number, d_are_worded, d_is_edge, d_are_edges, d_edges_after, d_edges_before, d_kept_words, d_rwInit, d_require_rewriter, d_is_edge_at, d_is_path_in, d_last_in, d_written_in, d_writes_in, d_require_path, d_is_edge_in, d_is_circle_in, d_difference_in, d_clInit, d_goOn, d_pathTo, d_clCircle, d_clSums, d_climb_in, d_best_end, d_length_told, d_bounds_in, d_is_even_in, d_is_table_in, d_shows_between, d_shows_length, d_first_circle, d_rate_told, d_is_rate_told, d_require_circle, d_require_word, d_is_circle, d_difference, d_length_paper, d_is_length_paper, d_length_bounds, d_is_even, d_state_differences, d_result_lengths, d_rate_of, d_rate, d_rate_paper, d_is_rate_paper, d_iNumber, d_sack, d_dip, d_lone, d_met, d_right, d_law]
theorem sc_is_integer : FnScope ["value"] ["value"] (defScope s_is_integer) := ⟨rfl, rfl, rfl, by decide +kernel, rfl, by decide +kernel, by decide +kernel⟩
theorem sc_is_between : FnScope ["value", "low", "high"] ["value", "low", "high"] (defScope s_is_between) := ⟨rfl, rfl, rfl, by decide +kernel, rfl, by decide +kernel, by decide +kernel⟩
theorem sc_is_word : FnScope ["value", "sign"] ["value"] (defScope s_is_word) := ⟨rfl, rfl, rfl, by decide +kernel, rfl, by decide +kernel, by decide +kernel⟩
theorem sc_are_ascending : FnScope ["signs", "one", "other"] ["signs"] (defScope s_are_ascending) := ⟨rfl, rfl, rfl, by decide +kernel, rfl, by decide +kernel, by decide +kernel⟩
theorem sc_are_letters : FnScope ["value"] ["value"] (defScope s_are_letters) := ⟨rfl, rfl, rfl, by decide +kernel, rfl, by decide +kernel, by decide +kernel⟩
theorem sc_require_length : FnScope ["value"] ["value"] (defScope s_require_length) := ⟨rfl, rfl, rfl, by decide +kernel, rfl, by decide +kernel, by decide +kernel⟩
theorem sc_met_from : FnScope ["begins", "follows", "found", "waiting", "state"] ["begins", "follows"] (defScope s_met_from) := ⟨rfl, rfl, rfl, by decide +kernel, rfl, by decide +kernel, by decide +kernel⟩
theorem sc_linked : FnScope ["pairs", "found", "one", "other"] ["pairs"] (defScope s_linked) := ⟨rfl, rfl, rfl, by decide +kernel, rfl, by decide +kernel, by decide +kernel⟩
theorem sc_useful_in : FnScope ["starts", "edges", "ends", "edge", "ahead", "back", "state"] ["starts", "edges", "ends"] (defScope s_useful_in) := ⟨rfl, rfl, rfl, by decide +kernel, rfl, by decide +kernel, by decide +kernel⟩
theorem sc_is_short : FnScope ["value"] ["value"] (defScope s_is_short) := ⟨rfl, rfl, rfl, by decide +kernel, rfl, by decide +kernel, by decide +kernel⟩
theorem sc_is_number : FnScope ["value"] ["value"] (defScope s_is_number) := ⟨rfl, rfl, rfl, by decide +kernel, rfl, by decide +kernel, by decide +kernel⟩
theorem sc_are_worded : FnScope ["value", "state", "word"] ["value"] (defScope s_are_worded) := ⟨rfl, rfl, rfl, by decide +kernel, rfl, by decide +kernel, by decide +kernel⟩
theorem sc_is_edge : FnScope ["letters", "value", "state", "letter", "word", "target"] ["letters", "value"] (defScope s_is_edge) := ⟨rfl, rfl, rfl, by decide +kernel, rfl, by decide +kernel, by decide +kernel⟩
theorem sc_are_edges : FnScope ["letters", "value", "edge"] ["letters", "value"] (defScope s_are_edges) := ⟨rfl, rfl, rfl, by decide +kernel, rfl, by decide +kernel, by decide +kernel⟩
theorem sc_edges_after : FnScope ["edges", "found", "edge"] ["edges"] (defScope s_edges_after) := ⟨rfl, rfl, rfl, by decide +kernel, rfl, by decide +kernel, by decide +kernel⟩
theorem sc_edges_before : FnScope ["edges", "found", "edge", "key"] ["edges"] (defScope s_edges_before) := ⟨rfl, rfl, rfl, by decide +kernel, rfl, by decide +kernel, by decide +kernel⟩
theorem sc_kept_words : FnScope ["words", "states", "state"] ["words", "states"] (defScope s_kept_words) := ⟨rfl, rfl, rfl, by decide +kernel, rfl, by decide +kernel, by decide +kernel⟩
theorem sc_rwInit : FnScope ["self", "letters", "starts", "edges", "ends", "states", "edge", "useful"] ["self", "letters", "starts", "edges", "ends"] (defScope s_rwInit) := ⟨rfl, rfl, rfl, by decide +kernel, rfl, by decide +kernel, by decide +kernel⟩
theorem sc_require_rewriter : FnScope ["value"] ["value"] (defScope s_require_rewriter) := ⟨rfl, rfl, rfl, by decide +kernel, rfl, by decide +kernel, by decide +kernel⟩
theorem sc_is_edge_at : FnScope ["rewriter", "state", "value"] ["rewriter", "state", "value"] (defScope s_is_edge_at) := ⟨rfl, rfl, rfl, by decide +kernel, rfl, by decide +kernel, by decide +kernel⟩
theorem sc_is_path_in : FnScope ["rewriter", "value", "here", "edges", "edge"] ["rewriter", "value"] (defScope s_is_path_in) := ⟨rfl, rfl, rfl, by decide +kernel, rfl, by decide +kernel, by decide +kernel⟩
theorem sc_last_in : FnScope ["path", "state", "edges"] ["path"] (defScope s_last_in) := ⟨rfl, rfl, rfl, by decide +kernel, rfl, by decide +kernel, by decide +kernel⟩
theorem sc_written_in : FnScope ["rewriter", "path", "edge"] ["rewriter", "path"] (defScope s_written_in) := ⟨rfl, rfl, rfl, by decide +kernel, rfl, by decide +kernel, by decide +kernel⟩
theorem sc_writes_in : FnScope ["rewriter", "path"] ["rewriter", "path"] (defScope s_writes_in) := ⟨rfl, rfl, rfl, by decide +kernel, rfl, by decide +kernel, by decide +kernel⟩
theorem sc_require_path : FnScope ["rewriter", "path"] ["rewriter", "path"] (defScope s_require_path) := ⟨rfl, rfl, rfl, by decide +kernel, rfl, by decide +kernel, by decide +kernel⟩
theorem sc_is_edge_in : FnScope ["rewriter", "value"] ["rewriter", "value"] (defScope s_is_edge_in) := ⟨rfl, rfl, rfl, by decide +kernel, rfl, by decide +kernel, by decide +kernel⟩
theorem sc_is_circle_in : FnScope ["rewriter", "value", "edge", "one", "other"] ["rewriter", "value"] (defScope s_is_circle_in) := ⟨rfl, rfl, rfl, by decide +kernel, rfl, by decide +kernel, by decide +kernel⟩
theorem sc_difference_in : FnScope ["rewriter", "path"] ["rewriter", "path"] (defScope s_difference_in) := ⟨rfl, rfl, rfl, by decide +kernel, rfl, by decide +kernel, by decide +kernel⟩
theorem sc_clInit : FnScope ["self", "rewriter", "weights", "first", "turn", "goal"] ["self", "rewriter", "weights", "first"] (defScope s_clInit) := ⟨rfl, rfl, rfl, by decide +kernel, rfl, by decide +kernel, by decide +kernel⟩
theorem sc_goOn : FnScope ["self", "found", "edge", "weight", "sum_here"] ["self"] (defScope s_goOn) := ⟨rfl, rfl, rfl, by decide +kernel, rfl, by decide +kernel, by decide +kernel⟩
theorem sc_pathTo : FnScope ["self", "state", "found"] ["self", "state"] (defScope s_pathTo) := ⟨rfl, rfl, rfl, by decide +kernel, rfl, by decide +kernel, by decide +kernel⟩
theorem sc_clCircle : FnScope ["self"] ["self"] (defScope s_clCircle) := ⟨rfl, rfl, rfl, by decide +kernel, rfl, by decide +kernel, by decide +kernel⟩
theorem sc_clSums : FnScope ["self", "state"] ["self"] (defScope s_clSums) := ⟨rfl, rfl, rfl, by decide +kernel, rfl, by decide +kernel, by decide +kernel⟩
theorem sc_climb_in : FnScope ["rewriter", "sign", "state", "word", "first", "edge"] ["rewriter", "sign"] (defScope s_climb_in) := ⟨rfl, rfl, rfl, by decide +kernel, rfl, by decide +kernel, by decide +kernel⟩
theorem sc_best_end : FnScope ["rewriter", "climb", "sign", "state", "word", "some"] ["rewriter", "climb", "sign"] (defScope s_best_end) := ⟨rfl, rfl, rfl, by decide +kernel, rfl, by decide +kernel, by decide +kernel⟩
theorem sc_length_told : FnScope ["rewriter", "low", "high", "climb", "state", "table", "ends"] ["rewriter"] (defScope s_length_told) := ⟨rfl, rfl, rfl, by decide +kernel, rfl, by decide +kernel, by decide +kernel⟩
theorem sc_bounds_in : FnScope ["rewriter", "paper"] ["rewriter"] (defScope s_bounds_in) := ⟨rfl, rfl, rfl, by decide +kernel, rfl, by decide +kernel, by decide +kernel⟩
theorem sc_is_even_in : FnScope ["rewriter"] ["rewriter"] (defScope s_is_even_in) := ⟨rfl, rfl, rfl, by decide +kernel, rfl, by decide +kernel, by decide +kernel⟩
theorem sc_is_table_in : FnScope ["rewriter", "value", "state", "pair"] ["rewriter", "value"] (defScope s_is_table_in) := ⟨rfl, rfl, rfl, by decide +kernel, rfl, by decide +kernel, by decide +kernel⟩
theorem sc_shows_between : FnScope ["rewriter", "table", "path", "other", "least", "greatest", "state", "word"] ["rewriter", "table", "path", "other"] (defScope s_shows_between) := ⟨rfl, rfl, rfl, by decide +kernel, rfl, by decide +kernel, by decide +kernel⟩
theorem sc_shows_length : FnScope ["rewriter", "value"] ["rewriter", "value"] (defScope s_shows_length) := ⟨rfl, rfl, rfl, by decide +kernel, rfl, by decide +kernel, by decide +kernel⟩
theorem sc_first_circle : FnScope ["rewriter", "edge", "weights", "state"] ["rewriter"] (defScope s_first_circle) := ⟨rfl, rfl, rfl, by decide +kernel, rfl, by decide +kernel, by decide +kernel⟩
theorem sc_rate_told : FnScope ["rewriter", "word", "sign", "circle", "climb", "state", "number"] ["rewriter", "word"] (defScope s_rate_told) := ⟨rfl, rfl, rfl, by decide +kernel, rfl, by decide +kernel, by decide +kernel⟩
theorem sc_is_rate_told : FnScope ["rewriter", "word", "value", "rate", "table", "circle", "one", "state", "sign", "letter", "written", "other"] ["rewriter", "word", "value"] (defScope s_is_rate_told) := ⟨rfl, rfl, rfl, by decide +kernel, rfl, by decide +kernel, by decide +kernel⟩
theorem sc_require_circle : FnScope ["rewriter", "circle"] ["rewriter", "circle"] (defScope s_require_circle) := ⟨rfl, rfl, rfl, by decide +kernel, rfl, by decide +kernel, by decide +kernel⟩
theorem sc_require_word : FnScope ["rewriter", "word"] ["rewriter", "word"] (defScope s_require_word) := ⟨rfl, rfl, rfl, by decide +kernel, rfl, by decide +kernel, by decide +kernel⟩
theorem sc_is_circle : FnScope ["rewriter", "value"] ["rewriter", "value"] (defScope s_is_circle) := ⟨rfl, rfl, rfl, by decide +kernel, rfl, by decide +kernel, by decide +kernel⟩
theorem sc_difference : FnScope ["rewriter", "path"] ["rewriter", "path"] (defScope s_difference) := ⟨rfl, rfl, rfl, by decide +kernel, rfl, by decide +kernel, by decide +kernel⟩
theorem sc_length_paper : FnScope ["rewriter"] ["rewriter"] (defScope s_length_paper) := ⟨rfl, rfl, rfl, by decide +kernel, rfl, by decide +kernel, by decide +kernel⟩
theorem sc_is_length_paper : FnScope ["rewriter", "value"] ["rewriter", "value"] (defScope s_is_length_paper) := ⟨rfl, rfl, rfl, by decide +kernel, rfl, by decide +kernel, by decide +kernel⟩
theorem sc_length_bounds : FnScope ["rewriter"] ["rewriter"] (defScope s_length_bounds) := ⟨rfl, rfl, rfl, by decide +kernel, rfl, by decide +kernel, by decide +kernel⟩
theorem sc_is_even : FnScope ["rewriter"] ["rewriter"] (defScope s_is_even) := ⟨rfl, rfl, rfl, by decide +kernel, rfl, by decide +kernel, by decide +kernel⟩
theorem sc_state_differences : FnScope ["rewriter"] ["rewriter"] (defScope s_state_differences) := ⟨rfl, rfl, rfl, by decide +kernel, rfl, by decide +kernel, by decide +kernel⟩
theorem sc_result_lengths : FnScope ["rewriter", "length", "state", "word", "here", "turn", "later", "one", "letter", "other", "low", "high", "known", "ends", "pair", "more"] ["rewriter", "length"] (defScope s_result_lengths) := ⟨rfl, rfl, rfl, by decide +kernel, rfl, by decide +kernel, by decide +kernel⟩
theorem sc_rate_of : FnScope ["rewriter", "circle"] ["rewriter", "circle"] (defScope s_rate_of) := ⟨rfl, rfl, rfl, by decide +kernel, rfl, by decide +kernel, by decide +kernel⟩
theorem sc_rate : FnScope ["rewriter", "word", "paper"] ["rewriter", "word"] (defScope s_rate) := ⟨rfl, rfl, rfl, by decide +kernel, rfl, by decide +kernel, by decide +kernel⟩
theorem sc_rate_paper : FnScope ["rewriter", "word", "paper"] ["rewriter", "word"] (defScope s_rate_paper) := ⟨rfl, rfl, rfl, by decide +kernel, rfl, by decide +kernel, by decide +kernel⟩
theorem sc_is_rate_paper : FnScope ["rewriter", "word", "value"] ["rewriter", "word", "value"] (defScope s_is_rate_paper) := ⟨rfl, rfl, rfl, by decide +kernel, rfl, by decide +kernel, by decide +kernel⟩
theorem sc_iNumber : FnScope ["self", "value"] ["self", "value"] (defScope s_iNumber) := ⟨rfl, rfl, rfl, by decide +kernel, rfl, by decide +kernel, by decide +kernel⟩
theorem sc_sack : FnScope ["script", "spot", "cell", "great", "mixed"] ["script", "spot"] (defScope s_sack) := ⟨rfl, rfl, rfl, by decide +kernel, rfl, by decide +kernel, by decide +kernel⟩
theorem sc_dip : FnScope ["sack", "total", "found", "one", "two"] ["sack", "total"] (defScope s_dip) := ⟨rfl, rfl, rfl, by decide +kernel, rfl, by decide +kernel, by decide +kernel⟩
theorem sc_lone : FnScope ["sack", "items"] ["sack", "items"] (defScope s_lone) := ⟨rfl, rfl, rfl, by decide +kernel, rfl, by decide +kernel, by decide +kernel⟩
theorem sc_met : FnScope ["call", "e"] ["call"] (defScope s_met) := ⟨rfl, rfl, rfl, by decide +kernel, rfl, by decide +kernel, by decide +kernel⟩
theorem sc_right : FnScope ["sack", "none", "good", "path", "circle", "word", "length", "told", "due", "call", "value"] ["sack"] (defScope s_right) := ⟨rfl, rfl, rfl, by decide +kernel, rfl, by decide +kernel, by decide +kernel⟩
theorem sc_law : FnScope ["script", "spot", "sack"] ["script"] (defScope s_law) := ⟨rfl, rfl, rfl, by decide +kernel, rfl, by decide +kernel, by decide +kernel⟩
def lo1 : List PySem.Str := ["_wall", "MarkError", "InvalidText", "InvalidRewriter", "InvalidMachine", "InvalidOperation", "InvalidNumber", "TooMany", "NotSingle", "MAX_TEXT", "MOST_LETTERS_words", "LETTERS", "is_integer", "is_between", "is_word", "is_text", "are_ascending", "are_letters", "require_length", "shared_letters"]
def lo2 : List PySem.Str := ["delay_in", "led_on_in", "place_in_order", "ordered", "MOST_RESULTS", "sources_in", "lefts_in", "has_result_in", "words_behind", "some_results_in", "results_in", "MOST_STATES", "MOST_EDGES", "MOST_LETTERS_joining", "met_from", "linked", "useful_in", "numbered_in", "turned_in", "moved_by"]
def lo3 : List PySem.Str := ["chosen_in", "ways_in", "behind_in", "steps_in", "reached_in", "leading_in", "end_pairs", "two_path_in", "way_in", "row_to", "edges_of", "SINGLE_single_inner", "TWO", "whole_word", "further_paths", "two_paper", "start_delays", "unlike_ends", "single_paper_in", "MAX_STATES"]
def lo4 : List PySem.Str := ["MAX_EDGES", "MAX_WORD", "SINGLE_rewriters", "is_short", "is_number", "are_worded", "is_edge", "are_edges", "edges_after", "edges_before", "kept_words", "Rewriter", "require_rewriter", "require_one_result", "require_text", "require_rest", "is_edge_at", "is_path_in", "last_in", "written_in"]
def lo5 : List PySem.Str := ["writes_in", "is_complete_in", "require_path", "BETWEEN", "CIRCLE", "LEAST", "GREATEST", "BETWEEN_SIZE", "RATE_SIZE", "is_edge_in", "is_circle_in", "excess_in", "difference_in", "common_in", "rate_in", "Climb", "climb_in", "best_end", "length_told", "bounds_in"]
def lo6 : List PySem.Str := ["is_even_in", "is_table_in", "holds_table", "shows_between", "shows_length", "first_circle", "climb_rate", "rate_told", "is_rate_told", "require_circle", "require_word", "is_circle", "difference", "length_paper", "is_length_paper", "length_bounds", "is_even", "state_differences", "result_lengths", "rate_of"]
def lo7 : List PySem.Str := ["rate", "rate_paper", "is_rate_paper", "_law_sack", "_law_dip", "_law_one", "_law_met", "_law_right"]
def lo : List PySem.Str := lo1 ++ lo2 ++ lo3 ++ lo4 ++ lo5 ++ lo6 ++ lo7
end K5
namespace K5
open PySem PySem.Spec PyProof.Rows L2 He Hx Hy
def glo0 : List Str := ["MarkError", "is_integer", "is_between", "is_word", "are_ascending", "are_letters", "require_length", "met_from", "linked", "useful_in", "is_short", "is_number", "are_worded", "is_edge", "are_edges", "edges_after", "edges_before", "kept_words", "require_rewriter", "is_edge_at"]
def glo1 : List Str := ["is_path_in", "last_in", "written_in", "writes_in", "require_path", "is_edge_in", "is_circle_in", "difference_in", "climb_in", "best_end", "length_told", "bounds_in", "is_even_in", "is_table_in", "shows_between", "shows_length", "first_circle", "rate_told", "is_rate_told", "require_circle"]
def glo2 : List Str := ["require_word", "is_circle", "difference", "length_paper", "is_length_paper", "length_bounds", "is_even", "state_differences", "result_lengths", "rate_of", "rate", "rate_paper", "is_rate_paper", "_law_sack", "_law_dip", "_law_one", "_law_met", "_law_right", "law", "Rewriter"]
def glo3 : List Str := ["Climb", "InvalidText", "InvalidRewriter", "InvalidMachine", "InvalidOperation", "InvalidNumber", "TooMany", "NotSingle"]
def gloN : List Str := glo0 ++ glo1 ++ glo2 ++ glo3
def freeN : List Str := ["isinstance", "str", "all", "len", "zip", "tuple", "int", "bool", "dict", "list", "set", "sorted", "abs", "max", "min", "range", "repr"]
def intN : List (Str × Int) := [("MAX_TEXT", 60), ("MOST_LETTERS_words", 4), ("MAX_STATES", 12), ("MAX_EDGES", 64), ("MAX_WORD", 8), ("BETWEEN_SIZE", 4), ("RATE_SIZE", 3)]
def strN : List (Str × Str) := [("LETTERS", "abcdefghijklmnopqrstuvwxyz"), ("BETWEEN", "between"), ("CIRCLE", "circle"), ("LEAST", "least"), ("GREATEST", "greatest")]
def ownN : List Str := ["InvalidText", "InvalidRewriter", "InvalidMachine", "InvalidOperation"]
def clsN : List Str := ["Rewriter", "Climb"]
def fldN : List (Str × Str) := [("Rewriter", "own_letters"), ("Rewriter", "own_states"), ("Rewriter", "own_starts"), ("Rewriter", "own_edges"), ("Rewriter", "own_ends"), ("Rewriter", "own_after"), ("Rewriter", "own_before"), ("Climb", "own_rewriter"), ("Climb", "own_weights"), ("Climb", "own_sums"), ("Climb", "own_ways"), ("Climb", "own_circle")]
def methN : List (Str × Str) := [("Climb", "go_on"), ("Climb", "path_to")]
def propN : List (Str × Str) := [("Climb", "circle"), ("Climb", "sums")]
def isfN : List Str := ["Rewriter"]
def armN : List Str := ["InvalidText", "InvalidRewriter", "InvalidMachine", "InvalidOperation", "InvalidNumber", "TooMany", "NotSingle"]
def raisN : List Str := ["InvalidText", "InvalidRewriter", "InvalidMachine", "InvalidOperation", "InvalidNumber"]
def atN : List (Str × Str) := [("Climb", "__init__"), ("Climb", "go_on"), ("Climb", "path_to"), ("InvalidNumber", "__init__"), ("Rewriter", "__init__")]
def ckInit : Chk := fun K => PB.initB K "InvalidNumber" "value" PB.tlIndexError "IndexError.__new__"
def ckLam : Chk := fun K => (K.lookup (lawTab "_law_right" K)).isNone && PySem.W.codeHdIn K (lawCode "_law_right" K) (lawTab "_law_right" K)
def ck : List Chk := [fun K => gloN.all fun x => (Fa.glo x).ok K, fun K => freeN.all fun x => (Fa.free x).ok K, fun K => intN.all fun p => (Fa.int p.1 p.2).ok K, fun K => strN.all fun p => (Fa.str p.1 p.2).ok K,
  fun K => ownN.all fun x => (Fa.exc x).ok K, fun K => clsN.all fun x => (Fa.cls x).ok K && (Fa.mkr x).ok K, fun K => fldN.all fun p => (Fa.noat p.1 p.2).ok K, fun K => methN.all fun p => (Fa.meth p.1 p.2).ok K, fun K => propN.all fun p => PB.propB K p.1 p.2,
  fun K => isfN.all fun x => PB.isfB K x, fun K => raisN.all fun x => armN.all fun y => (Fa.exm x y (decide (x = y))).ok K, fun K => raisN.all fun x => PB.excCB K (ga K x), ckInit, ckLam, fun K => (K.lookup sysModules).isSome, fun K => atN.all fun p => decide (fAdP K (p.1, some p.2) = ma K (ga K p.1) p.2)]
abbrev R : PySem.W.OpenRow := PySem.W.OpenLaw.row PySem.Challenge.rw_manymarks_k55_errors_of_lengths
abbrev hk : PySem.W.Hook := hookY (pickY "_law_right" gloN) ck fn
def ob (s : PySem.W.SharedT) : He.AlD := obsYG (pickY "_law_right" gloN) ck fn (HandSHeadRun.getT s)
theorem ob_eq (s : PySem.W.SharedT) : ob s = hk.obs s.abs := obsYG_eq (HandSHeadRun.getT_eq s)
end K5
theorem three {σ α β γ : Type} {o : Option σ} {f : σ → α} {g : σ → β} {h : σ → γ} {a : α} {b : β} {c : γ} (p : o.map f = some a) (q : o.map g = some b) (r : o.map h = some c) : o.map (fun s => (f s, g s, h s)) = some (a, b, c) := by
  cases o with
  | none => cases p
  | some s =>
    cases p
    cases q
    cases r
    rfl
namespace K5
open PySem PySem.Spec PyProof.Rows L2 He Hx Hy HandSHeadRun PySem.W
theorem run_a (w : World) (os : OsState) : (endF (stepQ (denQ tabQ) R.prog w) 8000 R.prog w os).map (fun s => looksF R.prog (boot_heap w.params) s.abs) = some true := by
  kernel_rfl
theorem run_b (w : World) (os : OsState) : (endF (stepQ (denQ tabQ) R.prog w) 8000 R.prog w os).map (fun s => seenQ (view R.prog [137, 138]) lo (importedModules R.prog.main.body) (fun s => xlAt (view R.prog [137, 138]) [] s && recOk R.toRowW.records s) s.abs) = some (openGood (view R.prog [137, 138]) lo) := by
  kernel_rfl
theorem run_c (w : World) (os : OsState) : (endF (stepQ (denQ tabQ) R.prog w) 8000 R.prog w os).map (fun s => ob s) = some (hk.val w) := by
  kernel_rfl
theorem run (w : World) : HandSHeadRun.RunEq R (PySem.W.view R.prog [137, 138]) hk ob 8000 lo w := fun os => three (run_a w os) (run_b w os) (run_c w os)
end K5
set_option maxHeartbeats 4000000
set_option maxHeartbeats 0
set_option maxHeartbeats 4000000
/-! own exception classes over any built-in base whose __init__ stores its one argument: made as values, read, asked for their class -/
namespace PySem
namespace XT
open PySem.W PySem.Calls PyProof.Rows PySem.HandSPX Builtin Builtin.ObjectAttr
/-- what the tail bm of a class's mro must have: the base B that makes it, no AttributeError, no NameError; stores are let through -/
structure TailT (B : String) (bm : List Value) : Prop where
  base : bm.contains (.type B) = true
  attr : bm.contains (.type "AttributeError") = false
  nam : bm.contains (.type "NameError") = false
  ob : bm.contains (.type "object") = true
  pass : ∀ self : Value, refuseLoop self "__setattr__" bm = pure ()
section
variable {M : Model} {A : Around} {E : Value → Shared → Prop} {h : Heap} {g : Array GenState} {d : Drawn} {t : Nat} {os : OsState}
variable {nm q : Str} {C N : Addr} {bs bm bmB : List Value} {hdct : Bool} {sn : List Str} {sub : List Value} {ab : Bool} {col : Option Bool} {dd : Option Addr} {k0 k1 k2 k3 k5 : Option Value} {B newId initId : String}
theorem own_base (T : TailT B bm) : (Value.ref C :: bm).contains (.type B) = true := by rw [List.contains_cons, T.base]; exact Bool.or_true _
theorem own_attr (T : TailT B bm) : (Value.ref C :: bm).contains (.type "AttributeError") = false := by rw [List.contains_cons, T.attr]; rfl
theorem own_nam (T : TailT B bm) : (Value.ref C :: bm).contains (.type "NameError") = false := by rw [List.contains_cons, T.nam]; rfl
theorem look_new (F : ExcBaseFacts B newId initId bmB) (T : TailT B bm) {rest : List Value} {Q : Unit → Shared → Prop}
    (hC : h.get? C = some (excClassObj nm q C N bs bm hdct sn sub ab col dd k0 k1 k2 k3 k5 newId)) (hq : Q () ⟨h, g, d, t, os⟩) : wpAny M A (checkBuiltinCall newId ⟨.ref C :: rest, []⟩) Q E ⟨h, g, d, t, os⟩ := by
  have b1 := own_base (C := C) T
  have b2 := F.noStar
  simp only [checkBuiltinCall, F.newSplit, F.newKind, F.newRow]
  repeat (first | (refine wpAny_isSubtype_exc hC ?_; rw [b1]) | refine wpAny_madeBy_exc hC ?_ | refine wpAny_staticBase_exc hC ?_ | refine wpAny_loadPart_at hC ?_ | simp only [bne_self_eq_false, Bool.false_eq_true, if_false] | wp_step)
  exact hq
end
section
variable {prog : Program} {w : World} {A : Around} {E : Value → Shared → Prop} {R : Result → Shared → Prop} {h : Heap} {g : Array GenState} {d : Drawn} {t : Nat} {os : OsState}
variable {nm q : Str} {C N : Addr} {bs bm bmB : List Value} {hdct : Bool} {sn : List Str} {sub : List Value} {ab : Bool} {col : Option Bool} {dd : Option Addr} {k0 k1 k2 k3 k5 : Option Value} {B newId initId : String}
theorem run_new (F : ExcBaseFacts B newId initId bmB) (T : TailT B bm) {rest : List Value} (hl : rest.length ≤ sizeLine)
    (hC : h.get? C = some (excClassObj nm q C N bs bm hdct sn sub ab col dd k0 k1 k2 k3 k5 newId))
    (hq : R (.ok (.ret (.ref (h.objs.size + 1)))) ⟨(h.push (W.kdv_tup rest)).push (excO C h.objs.size), g, d, t, os⟩) :
    codeAny (model prog w) A (.builtin newId ⟨.ref C :: rest, []⟩) R ⟨h, g, d, t, os⟩ := by
  have e0 := F.ends
  have e1 := own_base (C := C) T
  have e2 := own_attr (C := C) T
  have e3 := own_nam (C := C) T
  refine codeAny_builtinAt F.entry ?_
  unfold Builtin.«BaseException.__new__»
  refine wpAt_bind ?_
  show wpAt _ _ _ (stack >>= _) _ _ _
  refine wpAt_bind (wpAt_stack fun p below => wpAt_of_wpAny ?_)
  wp_walk
  refine wpAt_of_wpAny ?_
  rw [F.owner]
  repeat (first | with_reducible refine wpAny_loadPart_at hC ?_ | with_reducible refine wpAny_madeHere_exc F.canon hC ?_ | (with_reducible refine wpAny_isSubtype_exc hC ?_; first | rw [e1] | rw [e2] | rw [e3]) | wp_step)
  show R _ _
  rw [Heap.size_push]
  exact hq
theorem run_type (F : ExcBaseFacts B newId initId bmB) (T : TailT B bm) {rest : List Value} {fI : Addr} {Q : Fin → Shared → Prop}
    (hC : h.get? C = some (excClassObj nm q C N bs bm hdct sn sub ab col dd k0 k1 k2 k3 k5 newId))
    (hi : W.Looks (model prog w) h (typeLookup (.ref C) "__init__") (some (.ref fI))) (hb : ∀ self, W.Looks (model prog w) h (bindSpecial (.ref fI) self) (.ref fI, [self])) (hl : rest.length ≤ sizeLine)
    (hq : codeAny (model prog w) A (.call (.ref fI) ⟨.ref (h.objs.size + 1) :: rest, []⟩)
      (fun r s' => match r with | .ok (.ret v) => v = .none ∧ Q (.done (.ret (.ref (h.objs.size + 1)))) s' | .ok _ => False | .error e => E e s')
      ⟨(h.push (W.kdv_tup rest)).push (excO C h.objs.size), g, d, t, os⟩) :
    wpAny (model prog w) A (Builtin.«type.__call__» ⟨.ref C :: rest, []⟩) Q E ⟨h, g, d, t, os⟩ := by
  repeat (first | with_reducible refine wpAny_madeBy_exc hC ?_ | with_reducible refine wpAny_loadPart_at hC ?_ | wp_step)
  refine codeAny_call_builtin_code (Code.quiet_builtin _ F.quiet) (look_new F T hC ?_)
  refine run_new F T hl hC ?_
  show wpAny _ _ _ _ _ _
  have kp : ∀ b o, h.get? b = some o → ((h.push (W.kdv_tup rest)).push (excO C h.objs.size)).get? b = some o := fun b o z => Heap.get?_push_of_some _ (Heap.get?_push_of_some _ z)
  have hx : ((h.push (W.kdv_tup rest)).push (excO C h.objs.size)).get? (h.objs.size + 1) = some (excO C h.objs.size) := by heap_get
  have hC' := kp _ _ hC
  have c1 : (Value.ref C :: bm).contains (.ref C) = true := by simp
  have i1 := hi.keeps kp
  have b1 := (hb (.ref (h.objs.size + 1))).keeps kp
  unfold isInstance
  repeat (first | with_reducible refine wpAny_loadPart_at hx ?_ | (with_reducible refine wpAny_isSubtype_exc hC' ?_; rw [c1]) | wp_step)
  show wpAny _ _ (typeLookup (.ref C) _) _ _ _
  refine i1.at (wpAny_holding (wpAny_bind (b1.at (wpAny_bind (wpAny_call (codeAny_mono hq fun r s' z => ?_))))))
  rcases r with e | (v | _ | _ | _) <;> first | exact z | exact z.elim | skip
  obtain ⟨rfl, z⟩ := z
  first
    | exact wpAny_pure (wpAny_pure z)
    | (wp_walk; exact z)
theorem run_call (F : ExcBaseFacts B newId initId bmB) (T : TailT B bm) {rest : List Value} {fI : Addr}
    (hC : h.get? C = some (excClassObj nm q C N bs bm hdct sn sub ab col dd k0 k1 k2 k3 k5 newId))
    (hi : W.Looks (model prog w) h (typeLookup (.ref C) "__init__") (some (.ref fI))) (hb : ∀ self, W.Looks (model prog w) h (bindSpecial (.ref fI) self) (.ref fI, [self])) (hl : rest.length ≤ sizeLine)
    (hq : codeAny (model prog w) (A.under (.builtin "type.__call__" ⟨.ref C :: rest, []⟩)) (.call (.ref fI) ⟨.ref (h.objs.size + 1) :: rest, []⟩) (W.InitBack (h.objs.size + 1) R)
      ⟨(h.push (W.kdv_tup rest)).push (excO C h.objs.size), g, d, t, os⟩) :
    codeAny (model prog w) A (.call (.ref C) ⟨rest, []⟩) R ⟨h, g, d, t, os⟩ := by
  have f1 := tc_lookup
  have f2 := tc_bind (.ref C)
  have ty : (⟨h, g, d, t, os⟩ : Shared).TypeIs (.ref C) "type" := ⟨_, hC, rfl⟩
  refine codeAny_of_tree ?_
  show wpAny _ _ (callAny (.ref C) _) _ _ _
  repeat (any_goals (first | assumption | with_reducible refine wpAny_loadPart_at hC ?_ | wp_step))
  refine ⟨rfl, codeAny_call_builtin_at (Code.quiet_builtin _ (by decide +kernel)) entry_typeCall (wpAny_check_type_call_sub hC (run_type F T hC hi hb hl ?_))⟩
  refine codeAny_mono hq fun r s' z => ?_
  rcases r with e | (v | _ | _ | _) <;> exact z
end
section
variable {prog : Program} {w : World} {A : Around} {R : Result → Shared → Prop} {hp : Heap} {g : Array GenState} {d : Drawn} {t : Nat} {os : OsState}
/-- self.name = v, the exception at x has no dict yet -/
theorem run_store {K : W.Frag} {name : Str} {tk : Tok} {v : Value} {x C : Addr} {fv : Array Value} {cd : ClassData} {bm : List Value} {B : String} (T : TailT B bm)
    (X : K.In hp) (hx : hp.get? x = some { cls := .ref C, data := .fields fv }) (hcd : W.clsIn K C = some cd) (hm : cd.mro = .ref C :: bm) (hh : cd.hasDict = true) (ha : W.findIn K (.ref C) name = some none)
    (hq : ∀ h' tk' dx, (∀ b o, b ≠ x → hp.get? b = some o → h'.get? b = some o) → hp.objs.size ≤ dx → dx ≠ x → h'.get? x = some { cls := .ref C, dict := some dx, data := .fields fv } →
      h'.Ns1 dx (fun y => if y = name then some v else none) → R (.ok (.ret .none)) ⟨h', g, d, tk', os⟩) :
    codeAny (model prog w) A (.call (.builtin "object.__setattr__") ⟨[.ref x, .str name tk, v], []⟩) R ⟨hp, g, d, t, os⟩ := by
  have I : W.InstAt hp x { cls := .ref C, data := .fields fv } C none := ⟨hx, rfl, rfl, trivial⟩
  have SF := F.store_object
  have ne : cd.mro.isEmpty = false := by rw [hm]; rfl
  have hob : cd.mro.contains (.type "object") = true := by rw [hm, List.contains_cons, T.ob]; exact Bool.or_true _
  have hxs : x ≠ hp.objs.size := Nat.ne_of_lt (Heap.lt_size hx)
  have io : W.Looks (model prog w) hp (isInstance (.ref x) (.type "object")) true := I.type.andThen (W.looks_mroIn X (by unfold W.mroIn; rw [hcd, Option.bind_some, if_neg (by rw [ne]; decide), hob]))
  refine codeAny_call_builtin SF.slot.plain SF.entry (@W.check_slot (model prog w) _ _ ⟨hp, g, d, t, os⟩ "object.__setattr__" "object" "__setattr__" (.ref x) [.str name tk, v] [] _ SF.kind SF.split io (SF.args (.ref x) (.str name tk) v) ?_)
  have lm : W.Looks (model prog w) hp (mroOf (.ref C)) cd.mro := (W.looks_clsIn X hcd).andThen .now
  have lc : W.Looks (model prog w) hp (classData C) cd := W.looks_clsIn X hcd
  have ln : W.Looks (model prog w) hp (storeTaker? none) none := .now
  rw [W.osa_eq, refuse_eq]
  refine wpAny_bind (wpAny_bind (I.type.at (wpAny_bind (lm.at ?_))))
  rw [hm, refuseLoop_ref, T.pass]
  refine wpAny_pure (wpAny_bind (I.type.at (wpAny_bind ((W.looks_findIn X ha).at (wpAny_bind (ln.at ?_))))))
  show wpAny _ _ (storeInOwnDict (.ref x) (.ref C) (.str name tk) name v false) _ _ _
  obtain ⟨nm, bs, mro, ns, qn, hd, sn, sb, ab, col, del⟩ := cd
  dsimp only at hh
  subst hh
  unfold storeInOwnDict ownDictForStores
  repeat (first | with_reducible refine store_in_new ?_ ?_ | with_reducible refine lc.at ?_ | with_reducible refine wpAny_loadPart_at hx ?_ | wp_step)
  · exact ⟨_, #[], _, (Heap.get?_update_ne _ _ _ _ hxs.symm).trans (Heap.get?_push_at rfl rfl), rfl, fun e he => absurd he (by simp), fun _ => rfl⟩
  · intro h' tk' hn' hs
    have hx' : (hp.push { cls := .type "dict", data := .dict #[] }).get? x = some { cls := .ref C, data := .fields fv } := Heap.get?_push_of_some _ hx
    refine hq h' tk' hp.objs.size (fun b o hb ho => ?_) (Nat.le_refl _) hxs.symm ((hs.2 x hxs).trans (Heap.get?_update_self _ hx' rfl)) hn'
    exact (hs.2 b (Nat.ne_of_lt (Heap.lt_size ho))).trans ((Heap.get?_update_ne _ _ _ _ hb).trans (Heap.get?_push_of_some _ ho))
end
end XT
end PySem
set_option maxHeartbeats 4000000
namespace PySem
namespace XT
open PySem.W PySem.Calls PyProof.Rows PySem.HandSPX
/-! ### the text of such an __init__(self, f): self.f = f -/
def iA (f : String) (p1 p2 : Pos) : Arguments := { posonlyargs := [], args := [{ arg := "self", annotation := none, pos := p1 }, { arg := f, annotation := none, pos := p2 }], vararg := none, kwonlyargs := [], kw_defaults := [], kwarg := none, defaults := [] }
def iB (f : String) (q1 q2 q3 q4 : Pos) : List Stmt := [.Assign [.Attribute (.Name "self" q1) f q2] (.Name f q3) q4]
def iS (f : String) : Scope := { kind := .function, names := [(PySem.Str.ofString "self", .local), (PySem.Str.ofString f, .local)], isGenerator := false, isCoroutine := false, more := [] }
/-- what the written part says of the class at C, whose __init__ stands at fI -/
structure ClsT (K : Frag) (x f : String) (B newId initId : String) (bm bmB : List Value) (C fI : Addr) : Prop where
  F : ExcBaseFacts B newId initId bmB
  T : TailT B bm
  cls : ∃ nm q N bs sn sub ab col dd k0 k1 k2 k3 k5, K.lookup C = some (excClassObj nm q C N bs bm true sn sub ab col dd k0 k1 k2 k3 k5 newId)
  sa : findIn K (.ref C) "__setattr__" = some (some (.builtin "object.__setattr__"))
  ga : findIn K (.ref C) "__getattribute__" = some (some (.builtin "BaseException.__getattribute__"))
  gg : findIn K (.ref C) "__getattr__" = some none
  noN : findIn K (.ref C) f = some none
  iC : findIn K (.ref C) "__init__" = some (some (.ref fI))
  tC : typeIn K (.ref fI) = some (.type "function")
  kC : keepIn K (.ref C) = true
  exC : subIn K (.ref C) (.type "BaseException") = some true
  hdC : hasDictIn K C = true
  fn : ∃ (oc : Value) (od : Option Addr) (kV doc pm : Value) (an : Option Addr) (cdv ct : Value) (osl : Array (Option Value)) (p1 p2 q1 q2 q3 q4 : Pos) (q : Str),
    K.lookup fI = some ⟨oc, od, .func (fnOf "__init__" q (iA f p1 p2) (iB f q1 q2 q3 q4) (iS f) .none kV doc pm an cdv ct), osl⟩ ∧ codeIn K cdv q = true
/-- what is true of each written name f -/
structure NameT (f : String) : Prop where
  bind : ∀ (q : Str) (p1 p2 q1 q2 q3 q4 : Pos) (kV doc pm : Value) (an : Option Addr) (cdv ct u v : Value),
    bindArgs (fnOf "__init__" q (iA f p1 p2) (iB f q1 q2 q3 q4) (iS f) .none kV doc pm an cdv ct) ⟨[u, v], []⟩ = pure [(("self" : Str), u), ((PySem.Str.ofString f : Str), v)]
  kind : ∀ u v : Value, (([(("self" : Str), u), ((PySem.Str.ofString f : Str), v)] : List (Str × Value)).all fun y => (iS f).names.lookup y.1 == some .local || (iS f).names.lookup y.1 == some .cell) = true
  lself : ∀ (q : Str) (L a : Addr) (cd u v : Value), bindL (envOfC q (iS f) L a cd).kindOf [(("self" : Str), u), ((PySem.Str.ofString f : Str), v)] (fun _ => none) ("self" : Str) = some u
  lf : ∀ (q : Str) (L a : Addr) (cd u v : Value), bindL (envOfC q (iS f) L a cd).kindOf [(("self" : Str), u), ((PySem.Str.ofString f : Str), v)] (fun _ => none) (PySem.Str.ofString f : Str) = some v
  kf : (iS f).names.lookup (PySem.Str.ofString f) = some .local
  db : (PySem.Str.ofString f == ("__debug__" : Str)) = false
theorem one_size (v : Value) : [v].length ≤ sizeLine := by
  rw [sizeLine_eq]
  exact (by decide : 1 ≤ 16777216)
theorem ldC {M : Model} {s : Shared} {name : Str} {scope : Scope} {L a : Addr} {cd : Value} {m : Str → Option Value} {x : Str} {pos : Pos} {v : Value} {Q : Value → Shared → Prop} {A : Around} {E : Value → Shared → Prop} (hn : s.heap.Ns L m) (hv : m x = some v) (h : Q v s)
    (hk : scope.kind = .function) (hl : (envOfC name scope L a cd).kindOf x = some .local) (hd : (x == ("__debug__" : Str)) = false) :
    wpAny M A (eval (.Name x pos) (envOfC name scope L a cd)) Q E s := wpAny_Name (wpAny_loadName_local hk hl hn hv h) hd
/-- what __init__ leaves of a fresh exception at x -/
structure InitEnd (f : Str) (h h' : Heap) (x C dx t1 : Addr) (v : Value) : Prop where
  keep : ∀ b o, b ≠ x → h.get? b = some o → h'.get? b = some o
  obj : h'.get? x = some { cls := .ref C, dict := some dx, data := .fields #[.ref t1, .none, .none, .none, .bool false, .none] }
  dbig : h.objs.size ≤ dx
  dne : dx ≠ x
  ns : h'.Ns1 dx (fun y => if y = f then some v else none)
/-- a made one -/
structure OwnMade (f : Str) (h h' : Heap) (e C d t1 : Addr) (v : Value) : Prop where
  keep : ∀ b o, h.get? b = some o → h'.get? b = some o
  new : h.objs.size ≤ e
  obj : h'.get? e = some { cls := .ref C, dict := some d, data := .fields #[.ref t1, .none, .none, .none, .bool false, .none] }
  dbig : h.objs.size ≤ d
  dne : d ≠ e
  ns : h'.Ns1 d (fun y => if y = f then some v else none)
section
variable {prog : Program} {w : World} {A : Around} {E : Value → Shared → Prop} {R : Result → Shared → Prop} {s : Shared} {K : Frag} {C fI : Addr} {x f B newId initId : String} {bm bmB : List Value}
theorem t_init (T : ClsT K x f B newId initId bm bmB C fI) (NT : NameT f) {e t0 : Addr} {v : Value} (X : K.In s.heap) (hlim : s.heap.NoLimit) (hx : s.heap.get? e = some (excO C t0)) (hroom : A.depth < recursionLimit)
    (hq : ∀ h' tk dx, InitEnd (PySem.Str.ofString f) s.heap h' e C dx t0 v → R (.ok (.ret .none)) { s with heap := h', toks := tk }) :
    codeAny (model prog w) A (.call (.ref fI) ⟨[.ref e, v], []⟩) R s := by
  obtain ⟨oc, od, kV, doc, pm, an, cdv, ct, osl, p1, p2, q1, q2, q3, q4, qq, ho, hcd⟩ := T.fn
  obtain ⟨nm, q, N, bs, sn, sub, ab, col, dd, k0, k1, k2, k3, k5, hC⟩ := T.cls
  have hcl : clsIn K C = some { name := nm, bases := bs, mro := .ref C :: bm, ns := N, qualname := q, hasDict := true, slotNames := sn, subclasses := sub, abstract := ab, collection := col, hasDel := false } := by unfold clsIn; rw [hC] <;> rfl
  refine Att.call_fn (binds := [(("self" : Str), .ref e), ((PySem.Str.ofString f : Str), v)]) X hlim ho hcd hroom (BindsTo.of_eq (NT.bind _ _ _ _ _ _ _ _ _ _ _ _ _ _ _)) (NT.kind _ _) (fun s₁ IC => ?_) rfl rfl rfl
  obtain ⟨h₁, tk₁, rfl⟩ := IC.toInCall.same
  have k : ∀ b o, s.heap.get? b = some o → h₁.get? b = some o := IC.toInCall.keep
  have hn := IC.toInCall.ns
  have hxL : s.heap.objs.size ≠ e := Nat.ne_of_gt (Heap.lt_size hx)
  have X₁ : K.In h₁ := X.keeps k
  have hx₁ := k _ _ hx
  show wpAny _ _ (execs _ _) _ _ _
  refine wpAny_execs_cons (plainObj_wpAny_Assign_Attribute ?_)
  refine ldC (v := v) hn (NT.lf _ _ _ _ _ _) (ldC (v := .ref e) hn (NT.lself _ _ _ _ _ _) ?_ rfl rfl (by decide)) rfl NT.kf NT.db
  refine set_plain X₁ (ox := excO C t0) (od := none) ⟨hx₁, rfl, rfl, trivial⟩ T.sa ?_
  refine run_store T.T X₁ hx₁ hcl rfl rfl T.noN (fun h₃ tk₃ dx k₃ dn dne hx₃ hn₃ => ?_)
  show wpAny _ _ (execs _ _) _ _ _
  have z : s.heap.objs.size < h₁.objs.size := hn.lt
  exact wpAny_execs_nil (hq h₃ tk₃ dx ⟨fun b o hb q => k₃ b o hb (k b o q), hx₃, Nat.le_of_lt (Nat.lt_of_lt_of_le z dn), dne, hn₃⟩)
theorem t_made (T : ClsT K x f B newId initId bm bmB C fI) (NT : NameT f) {v : Value} (X : K.In s.heap) (hlim : s.heap.NoLimit) (hroom : A.depth + 1 < recursionLimit)
    (hq : ∀ h' tk e d t1, OwnMade (PySem.Str.ofString f) s.heap h' e C d t1 v → R (.ok (.ret (.ref e))) { s with heap := h', toks := tk }) :
    codeAny (model prog w) A (.call (.ref C) ⟨[v], []⟩) R s := by
  obtain ⟨nm, q, N, bs, sn, sub, ab, col, dd, k0, k1, k2, k3, k5, hC⟩ := T.cls
  obtain ⟨hp, g, dr, tk, os⟩ := s
  have k : ∀ b o, hp.get? b = some o → ((hp.push (kdv_tup [v])).push (excO C hp.objs.size)).get? b = some o := fun b o z => Heap.get?_push_of_some _ (Heap.get?_push_of_some _ z)
  have hget : ((hp.push (kdv_tup [v])).push (excO C hp.objs.size)).get? (hp.objs.size + 1) = some (excO C hp.objs.size) := by heap_get
  refine run_call T.F T.T (X _ _ hC) (looks_findIn X T.iC) (fun self => bind_fn X self T.tC) (one_size v) ?_
  refine t_init (s := ⟨(hp.push (kdv_tup [v])).push (excO C hp.objs.size), g, dr, tk, os⟩) T NT (X.keeps k) (hlim.keeps k) hget ?_ fun h' tk' dx ⟨k', hx, dn, dne, hns⟩ => ?_
  · show A.depth + 1 < recursionLimit
    exact hroom
  · have old : ∀ b o, hp.get? b = some o → h'.get? b = some o := fun b o z => k' b o (Nat.ne_of_lt (Nat.lt_succ_of_lt (Heap.lt_size z))) (k b o z)
    have z : hp.objs.size + 1 + 1 ≤ dx := by
      first
        | (simpa only [Heap.size_push] using dn)
        | exact dn
        | (have q := dn; rw [Heap.size_push, Heap.size_push] at q; exact q)
    exact ⟨rfl, hq h' tk' (hp.objs.size + 1) dx _ ⟨old, Nat.le_succ _, hx, Nat.le_trans (Nat.le_trans (Nat.le_succ _) (Nat.le_succ _)) z, dne, hns⟩⟩
end
end XT
end PySem

namespace PySem.XT
theorem nt_value : NameT "value" := ⟨fun _ _ _ _ _ _ _ _ _ _ _ _ _ _ _ => rfl, fun _ _ => rfl, fun _ _ _ _ _ _ => rfl, fun _ _ _ _ _ _ => rfl, rfl, by decide⟩
theorem nt_name : NameT "name" := ⟨fun _ _ _ _ _ _ _ _ _ _ _ _ _ _ _ => rfl, fun _ _ => rfl, fun _ _ _ _ _ _ => rfl, fun _ _ _ _ _ _ => rfl, rfl, by decide⟩
theorem nt_limit : NameT "limit" := ⟨fun _ _ _ _ _ _ _ _ _ _ _ _ _ _ _ => rfl, fun _ _ => rfl, fun _ _ _ _ _ _ => rfl, fun _ _ _ _ _ _ => rfl, rfl, by decide⟩
theorem nt_paper : NameT "paper" := ⟨fun _ _ _ _ _ _ _ _ _ _ _ _ _ _ _ => rfl, fun _ _ => rfl, fun _ _ _ _ _ _ => rfl, fun _ _ _ _ _ _ => rfl, rfl, by decide⟩
theorem nt_fork : NameT "fork" := ⟨fun _ _ _ _ _ _ _ _ _ _ _ _ _ _ _ => rfl, fun _ _ => rfl, fun _ _ _ _ _ _ => rfl, fun _ _ _ _ _ _ => rfl, rfl, by decide⟩
theorem nt_many : NameT "many" := ⟨fun _ _ _ _ _ _ _ _ _ _ _ _ _ _ _ => rfl, fun _ _ => rfl, fun _ _ _ _ _ _ => rfl, fun _ _ _ _ _ _ => rfl, rfl, by decide⟩
end PySem.XT
set_option maxHeartbeats 4000000
namespace L2
open PySem PySem.Spec PyProof.Rows
theorem relO_one {v : V} {v' : Value} {g : Str} (r : RelV v v') (f : Str) : RelO (List.lookup f [(g, v)]) (if f = g then some v' else none) := by
  by_cases hw : f = g
  · subst hw
    rw [if_pos rfl]
    have q : List.lookup f [(f, v)] = some v := by simp [List.lookup]
    rw [q]
    exact r
  · rw [if_neg hw]
    have qw : (f == g) = false := by simpa using hw
    have q2 : List.lookup f [(g, v)] = none := by simp [List.lookup, qw]
    rw [q2]
    trivial
/-- C(e), the own class with an __init__ that stores its argument: a new exception object with its own dict -/
def tExcI (C : Addr) (f : Str) (ta : TA) : TE := fun σ H Q => ta σ H fun vs H1 => ∃ v, vs = [v] ∧ ∀ a d, H1 a = none → H1 d = none → d ≠ a → Q (.ref a) (upd (upd H1 d (.xd [(f, v)])) a (exo a C (some d)))
section
variable {X : Cx} {C fI : Addr} {x f B newId initId : String} {bm bmB : List Value}
theorem pe_excI {a : Expr} {ta : TA} {p pos : Pos} {k : Nat} (T : PySem.XT.ClsT X.K x f B newId initId bm bmB C fI) (NT : PySem.XT.NameT f) (gC : X.mg x = some (.ref C)) (hr : Room k X.A) (ha : PA X [a] ta) (hg : Gl X x)
    (hdb : ((PySem.Str.ofString x : Str) == ("__debug__" : Str)) = false := by decide)
    (he : starEach (a :: []) X.env = (false, eval a X.env) :: starEach [] X.env := by rfl) (hpl : (backTo pos (starEach [] X.env)).any (·.1) = false := by rfl) :
    PE X (.Call (.Name x p) [a] [] pos) (tExcI C f ta) := by
  refine ⟨fun pins s σ H Q I h => ?_⟩
  refine wpAny_Call_Name_kw (ld_glob I hg gC ?_ hdb)
  refine PySem.W.callWith_K (h₀ := X.base) I.ok.mod.kin T.kC (thn (ha.run pos pins s σ H _ I h) fun us s1 hh => ?_) he hpl
  obtain ⟨vs, H1, I1, r1, v, ev, q1⟩ := hh
  subst ev
  refine ⟨I1.kIn, ?_⟩
  cases r1 with
  | cons rv rn =>
    rename_i v' us'
    cases rn
    show wpAny _ _ (call (.ref C) [v']) _ _ _
    have hlim := I1.nolimit
    obtain ⟨hp, g, dr, tk, os⟩ := s1
    refine wpAny_call (PySem.XT.t_made T NT I1.kIn hlim (by have := hr.dp; omega) fun h' tk' e d t1 M => ?_)
    obtain ⟨G', g1, g2⟩ := restrict h' fun b => decide (b ≠ e)
    have gk : ∀ b, b ≠ e → G'.get? b = h'.get? b := fun b hb => g1 b (decide_eq_true hb)
    have ge : G'.get? e = none := g2 e (by simp)
    have old : ∀ b o, hp.get? b = some o → G'.get? b = some o := fun b o q => (gk b (Nat.ne_of_lt (Nat.lt_of_lt_of_le (Heap.lt_size q) M.new))).trans (M.keep b o q)
    have ob : ObjOk X.prog X.w (upd H1 d (.xd [((f : Str), v)])) G' d (.xd [((f : Str), v)]) :=
      ⟨_, M.ns.at (fun o q => (gk d M.dne).trans q), fun f => relO_one rv f⟩
    have J : Inv X pins σ (upd H1 d (.xd [((f : Str), v)])) ⟨G', g, dr, tk', os⟩ := I1.laid (t' := tk') old M.dbig ob
    have ke : ∀ b o, G'.get? b = some o → h'.get? b = some o := fun b o q => by
      by_cases hb : b = e
      · rw [hb, ge] at q
        cases q
      · exact (gk b hb).symm.trans q
    have n1 : H1 e = none := I1.hok.fresh M.new
    have nd : H1 d = none := I1.hok.fresh M.dbig
    have n2 : (upd H1 d (.xd [((f : Str), v)])) e = none := by
      rw [upd_ne (Ne.symm M.dne)]
      exact n1
    have J2 : Inv X pins σ (upd (upd H1 d (.xd [((f : Str), v)])) e (exo e C (some d))) ⟨h', g, dr, tk', os⟩ := J.laidN (t' := tk') (a := e) ke ge n2 (exo_ok M.obj)
    exact ⟨.ref e, _, J2, rfl, q1 e d n1 nd M.dne⟩
/-- e.f of such an exception -/
def tExF (K : PySem.W.Frag) (f : Str) (te : TE) : TE := fun σ H Q => te σ H fun x H1 => ∃ (a C d : Addr) (v : V) (fs : List (Str × V)), x = .ref a ∧ H1 a = some (exo a C (some d)) ∧ H1 d = some (.xd fs) ∧ fs.lookup f = some v ∧
  (PySem.W.findIn K (.ref C) "__getattribute__" = some (some (.builtin "BaseException.__getattribute__")) ∧ PySem.W.findIn K (.ref C) "__getattr__" = some none ∧ PySem.W.subIn K (.ref C) (.type "BaseException") = some true ∧ PySem.W.hasDictIn K C = true ∧ PySem.W.findIn K (.ref C) f = some none) ∧ Q v H1
theorem pe_exF {e : Expr} {te : TE} {f : String} {pos : Pos} (he : PE X e te) (hb : attributeBase e f X.env (eval e X.env) = eval e X.env := by rfl) : PE X (.Attribute e f pos) (tExF X.K f te) := by
  refine ⟨fun pins s σ H Q I h => ?_⟩
  refine attr_of hb (thn (he.run pins s σ H _ I h) fun u s1 hh => ?_)
  obtain ⟨x, H1, I1, rx, a, C, d, v, fs, ex, ha, hd, hl, ⟨ga, gg, exC, hdC, noN⟩, q⟩ := hh
  subst ex
  obtain rfl : u = Value.ref a := rx
  obtain ⟨t1, hget⟩ := exo_at I1.hok ha
  have hx : ObjOk X.prog X.w H1 s1.heap d (.xd fs) := I1.hok d _ hd
  obtain ⟨mA, hns, hr⟩ := hx
  obtain ⟨od, ho, hlo⟩ := lookIn_ns hns
  obtain ⟨u, hu, ru⟩ := RelO.some_of (v := v) (o := mA f) (by rw [← hl]; exact hr f)
  have J : PySem.W.InstAt s1.heap a _ C (some od) := ⟨hget, rfl, rfl, ho⟩
  exact HandSPX.exc_get I1.kIn J ga gg exC (PySem.W.findObj_own hdC noN rfl (by rw [hlo, hu])) (handed_of ru) ⟨v, H1, I1.tok _, ru, q⟩
/-- an exception object of the class at C: made (with or without a dict), or pinned -/
def IsEx (pn : List (Addr × Obj)) (H : Hp) (a C : Addr) : Prop := H a = some (ExO (.ref C) a) ∨ (∃ d u, H a = some (exo a C (some d)) ∧ H d = some u) ∨ ∃ oe vs, (a, oe) ∈ pn ∧ Zc (.ref C) none oe ∧ oe.data = .fields vs
theorem IsEx.inst {pins : List (Addr × Obj)} {σ : St} {H : Hp} {s : Shared} {a C : Addr} (e : IsEx X.pn H a C) (I : Inv X pins σ H s) : ∃ ox od, PySem.W.InstAt s.heap a ox C od := by
  rcases e with e | ⟨d, u, e, ed⟩ | ⟨oe, vs, hm, hz, hd⟩
  · have x : ObjOk X.prog X.w H s.heap a (.ext fun h => ∃ (oe : Obj) (vs : Array Value), h.get? a = some oe ∧ Zc (.ref C) none oe ∧ oe.data = .fields vs ∧ vs[1]? = some .none ∧ vs[2]? = some .none ∧ 4 < vs.size) := I.hok a _ e
    obtain ⟨⟨oe, vs, hget, hz, hd, _⟩, _, _⟩ := x
    obtain ⟨oc, od, oda, osl⟩ := oe
    obtain ⟨h1, h2⟩ := hz
    dsimp only at h1 h2 hd
    subst h1 h2 hd
    exact ⟨_, none, hget, rfl, rfl, trivial⟩
  · obtain ⟨t1, hget⟩ := exo_at I.hok e
    obtain ⟨o, ho⟩ := objOk_get (I.hok d u ed)
    exact ⟨_, some o, hget, rfl, rfl, ho⟩
  · obtain ⟨hget, _⟩ := I.pin (a, oe) (List.mem_append.mpr (.inl hm))
    obtain ⟨oc, od, oda, osl⟩ := oe
    obtain ⟨h1, h2⟩ := hz
    dsimp only at h1 h2 hd
    subst h1 h2 hd
    exact ⟨_, none, hget, rfl, rfl, trivial⟩
theorem IsEx.mono {pn : List (Addr × Obj)} {H H' : Hp} {a C : Addr} (e : IsEx pn H a C) (k : ∀ b o, H b = some o → H' b = some o) : IsEx pn H' a C := by
  rcases e with e | ⟨d, u, e, ed⟩ | e
  · exact .inl (k _ _ e)
  · exact .inr (.inl ⟨d, u, k _ _ e, k _ _ ed⟩)
  · exact .inr (.inr e)
/-- isinstance(e, c), e any exception object of an own class -/
def rIsV (K : PySem.W.Frag) (pn : List (Addr × Obj)) : List V → Hp → VK → Prop := fun xs H Q => ∃ (a C : Addr) (c : V) (cv : Value) (b : Bool), xs = [.ref a, c] ∧ ExcC K C ∧ IsEx pn H a C ∧ (∀ u, RelV c u → u = cv) ∧ PySem.W.kitOne K (.ref C) cv = some b ∧ Q (.bl b) H
theorem call_isV : CallR X (.builtin "isinstance") (rIsV X.K X.pn) := by
  intro pins s σ H xs us Q I r h
  obtain ⟨a, C, c, cv, b, rfl, F, ie, hcv, e, q⟩ := h
  cases r with
  | cons rx rr =>
    cases rr with
    | cons rt rr =>
      cases rr
      cases rx
      have ec := hcv _ rt
      subst ec
      obtain ⟨ox, od, J⟩ := ie.inst I
      have hcl : (PySem.W.clsIn X.K C).isSome = true := by
        obtain ⟨cd, hc, _⟩ := PySem.W.any_some F.hd
        rw [hc]
        rfl
      exact PySem.W.kia_one (PySem.W.kitx_exc hcl F.hg F.hk F.hs F.ha F.hn F.ht F.hm) I.kIn J e (fun z => nomatch z) fun tk => ⟨.bl b, H, I.kept (t' := tk) fun _ _ z => z, rfl, q⟩
end
end L2
set_option maxHeartbeats 4000000
namespace L2
open PySem PySem.Spec PyProof.Rows
theorem szd1 : (1 : Nat) ≤ sizeLine := by decide
section
variable {X : Cx} {pins : List (Addr × Obj)} {σ : L2.St} {H : Hp} {s : Shared}
/-- {k: v}, k a tuple of numbers and texts: a dict of one entry -/
def tDisp1T (tk tv : TE) : TE := fun σ H Q => ∀ d, H d = none → tk σ (upd H d (.dT [])) fun x H1 => tv σ H1 fun y H2 => H2 d = some (.dT []) ∧ ∃ t ks, x = .ref t ∧ H2 t = some (.tup (ks.map kV)) ∧ Q (.ref d) (upd H2 d (.dT [(ks, y)]))
theorem pe_disp1T {pos : Pos} {k v : Expr} {tk tv : TE} {n : Nat} (hr : Room n X.A) (hk : PE X k tk) (hv : PE X v tv) : PE X (.Dict [some k] [v] pos) (tDisp1T tk tv) := by
  refine ⟨fun pins s σ H Q I q => ?_⟩
  have hn := I.hok.fresh (Nat.le_refl s.heap.objs.size)
  have I1 := I.laid (a := s.heap.objs.size) (o := .dT []) (h' := s.heap.push { cls := .type "dict", data := .dict #[] }) (t' := s.toks) (fun _ _ q => Heap.get?_push_of_some _ q) (Nat.le_refl _) (dt_empty s.heap I.big)
  have hP : PPs X pos [some k] [v] [(tk, tv)] := pps_cons hk hv pps_nil
  rw [arm_eval_Dict]
  have sh : (evalEachOpt [some k] X.env).zip ((evalEach [v] X.env).map fun v => do let x ← v; standAt pos; pure x) = (pairTrees [some k] [v] X.env pos).map fun p => (some p.1, p.2) := rfl
  rw [sh, dictDisplay_pairs (pairTrees [some k] [v] X.env pos) (by simp [pairTrees]) (by simp [pairTrees])]
  refine wpAny_bind (wpAny_standAt (wpAny_bind (wpAny_subDictH (knd := tupleKind (mixKind X.prog X.w)) (Q := fun d s' => wpAny (model X.prog X.w) X.A (pure (Value.ref d)) (EP X pins σ Q) X.xe s') ?_ (by simp [pairTrees]) ?_)))
  · show X.A.units < cLine
    exact hr.units0
  refine thn (hP.run pins _ σ _ (fun ps H2 => match ps with
    | [(x, y)] => H2 s.heap.objs.size = some (.dT []) ∧ ∃ t ks, x = .ref t ∧ H2 t = some (.tup (ks.map kV)) ∧ Q (.ref s.heap.objs.size) (upd H2 s.heap.objs.size (.dT [(ks, y)]))
    | _ => False) I1 (q _ hn)) fun ws s2 ⟨ps, H2, I2, rel, q2⟩ => ?_
  match ps, q2 with
  | [(x, y)], q3 =>
    obtain ⟨e, t, ks, ex, et, q4⟩ := q3
    subst ex
    cases rel with
    | @cons p0 p ps0 qs0 h1 h2 =>
      cases h2
      obtain ⟨u, u2⟩ := p
      obtain ⟨ru, rv⟩ := h1
      obtain rfl : u = Value.ref t := ru
      obtain ⟨z, hd, xs, r0, dd⟩ := dt_of I2.hok e
      cases r0
      have kis := key_of I2.hok et
      refine ⟨[(ks, t, u2)], ⟨rfl, rfl, kis, trivial⟩, dd, fun h' tk' dd' hs => wpAny_pure ⟨.ref s.heap.objs.size, _, ?_, rfl, q4⟩⟩
      obtain ⟨o, es, ep, g1, g2, g3, g4, g5, g6⟩ := dd'
      refine d_write I2 (by rw [e]; exact True.intro) hs ⟨_, g1⟩ ?_
      have hne : t ≠ s.heap.objs.size := fun z => by
        rw [z, e] at et
        cases et
      exact ⟨szd1, hd, [(ks, t, u2)], .cons ⟨rfl, by rw [upd_ne hne]; exact et, rv⟩ .nil, o, es, ep, g1, g2, g3, g4, g6⟩
end
end L2
set_option maxHeartbeats 4000000
namespace L2
open PySem PySem.Spec PyProof.Rows
mutual
/-- a value and the data that it shows: lists, tuples, dicts of one entry are tracked -/
inductive DR (H : Hp) : V → PyData → Prop
  | non : DR H .non .none
  | bl (b : Bool) : DR H (.bl b) (.bool b)
  | int (i : Int) : DR H (.int i) (.int i)
  | str (x : Str) : DR H (.str x) (.str x)
  | lst {a : Addr} {xs : List V} {ds : List PyData} : H a = some (.lst xs) → DRs H xs ds → DR H (.ref a) (.list ds)
  | tup {a : Addr} {xs : List V} {ds : List PyData} : H a = some (.tup xs) → DRs H xs ds → DR H (.ref a) (.tuple ds)
  | d0 {a : Addr} : H a = some (.dK []) → DR H (.ref a) (.dict [])
  | dk {a : Addr} {k : Str} {v : V} {d : PyData} : H a = some (.dK [(.inr k, v)]) → DR H v d → DR H (.ref a) (.dict [(.str k, d)])
  | dt {a : Addr} {i j : Int} {v : V} {d : PyData} : H a = some (.dT [([.inl i, .inl j], v)]) → DR H v d → DR H (.ref a) (.dict [(.tuple [.int i, .int j], d)])
inductive DRs (H : Hp) : List V → List PyData → Prop
  | nil : DRs H [] []
  | cons {v : V} {vs : List V} {d : PyData} {ds : List PyData} : DR H v d → DRs H vs ds → DRs H (v :: vs) (d :: ds)
end
section
variable {H H' : Hp}
mutual
theorem DR.mono (s : Same H H') : ∀ (d : PyData) (v : V), DR H v d → DR H' v d
  | .none, _, h => by cases h; exact .non
  | .bool b, _, h => by cases h; exact .bl b
  | .int i, _, h => by cases h; exact .int i
  | .str x, _, h => by cases h; exact .str x
  | .list ds, _, h => by
    cases h with
    | lst e t => exact .lst (s _ _ e) (DRs.mono s ds _ t)
  | .tuple ds, _, h => by
    cases h with
    | tup e t => exact .tup (s _ _ e) (DRs.mono s ds _ t)
  | .dict [(k, d)], _, h => by
    cases h with
    | dk e t => exact .dk (s _ _ e) (DR.mono s d _ t)
    | dt e t => exact .dt (s _ _ e) (DR.mono s d _ t)
  | .dict [], _, h => by
    cases h with
    | d0 e => exact .d0 (s _ _ e)
  | .dict (_ :: _ :: _), _, h => by cases h
theorem DRs.mono (s : Same H H') : ∀ (ds : List PyData) (vs : List V), DRs H vs ds → DRs H' vs ds
  | [], _, h => by cases h; exact .nil
  | d :: ds, _, h => by
    cases h with
    | cons a b => exact .cons (DR.mono s d _ a) (DRs.mono s ds _ b)
end
end
section
variable {X : Cx} {pins : List (Addr × Obj)} {σ : L2.St} {H : Hp} {s : Shared}
theorem not_sys (I : Inv X pins σ H s) (hs : (X.K.lookup sysModules).isSome = true) {a : Addr} {o : HO} (e : H a = some o) : a ≠ sysModules := fun z => by
  obtain ⟨ob, hk⟩ := Option.isSome_iff_exists.mp hs
  have b := I.mod.kin _ _ hk
  have n := (I.bs _ _ b).2
  rw [z, n] at e
  cases e
theorem nin_cons {a : Addr} {as : List Addr} (h : a ≠ sysModules) (t : sysModules ∉ as) : sysModules ∉ a :: as := fun z => by
  rcases List.mem_cons.mp z with e | e
  · exact h e.symm
  · exact t e
theorem nin_app {as bs : List Addr} (h : sysModules ∉ as) (t : sysModules ∉ bs) : sysModules ∉ as ++ bs := fun z => by
  rcases List.mem_append.mp z with e | e
  · exact h e
  · exact t e
mutual
theorem DR.reads (I : Inv X pins σ H s) (hs : (X.K.lookup sysModules).isSome = true) : ∀ (d : PyData) (v : V) (u : Value), DR H v d → RelV v u → ∃ as, Reads s.heap u d as ∧ sysModules ∉ as
  | .none, _, _, h, r => by
    cases h
    cases r
    exact ⟨_, .none, by simp⟩
  | .bool b, _, _, h, r => by
    cases h
    cases r
    exact ⟨_, .bool b, by simp⟩
  | .int i, _, _, h, r => by
    cases h
    obtain ⟨t, rfl⟩ := r
    exact ⟨_, .int i t, by simp⟩
  | .str x, _, _, h, r => by
    cases h
    obtain ⟨t, rfl⟩ := r
    exact ⟨_, .str x t, by simp⟩
  | .list ds, _, _, h, r => by
    cases h with
    | lst e t =>
      cases r
      obtain ⟨_, its, n, rv, ho⟩ := (show ObjOk X.prog X.w H s.heap _ (.lst _) from I.hok _ _ e)
      obtain ⟨as, hr, ns⟩ := DRs.reads I hs ds _ its t rv
      exact ⟨_, .list ho rfl rfl (by simpa using hr), nin_cons (not_sys I hs e) ns⟩
  | .tuple ds, _, _, h, r => by
    cases h with
    | tup e t =>
      cases r
      obtain ⟨_, its, rv, o, ho, hc, n, hd⟩ := (show ObjOk X.prog X.w H s.heap _ (.tup _) from I.hok _ _ e)
      obtain ⟨as, hr, ns⟩ := DRs.reads I hs ds _ its t rv
      exact ⟨_, .tuple ho hc hd (by simpa using hr), ns⟩
  | .dict [], _, _, h, r => by
    cases h with
    | d0 e =>
      cases r
      obtain ⟨_, _, vs, rk, dd⟩ := dk_of I.hok e
      cases rk
      have pr : PyProof.V.PairsRead s.heap (fun k : Key => match k with | .inl i => PyData.int i | .inr x => PyData.str x) [] [] [] := .nil
      have rd := PyProof.V.reads_dictOf (knd := mixKind X.prog X.w) (enc := fun k : Key => match k with | .inl i => PyData.int i | .inr x => PyData.str x) (fun k key hk => by
        rcases keyIs_shape hk with ⟨i, t, rfl, rfl⟩ | ⟨x, t, rfl, rfl⟩
        · exact .int i t
        · exact .str x t) dd pr
      exact ⟨_, rd, nin_cons (not_sys I hs e) (by simp)⟩
  | .dict [(k, d)], _, _, h, r => by
    cases h with
    | dk e t =>
      rename_i a0 k0 v0
      cases r
      obtain ⟨_, _, vs, rk, dd⟩ := dk_of I.hok e
      cases rk with
      | @cons p q ps qs h1 h2 =>
        cases h2
        obtain ⟨qk, qv⟩ := q
        obtain ⟨e1, rv⟩ := h1
        obtain rfl : _ = qk := e1
        obtain ⟨bs, hr, ns⟩ := DR.reads I hs d _ qv t rv
        have pr : PyProof.V.PairsRead s.heap (fun k : Key => match k with | .inl i => PyData.int i | .inr x => PyData.str x) [(Sum.inr k0, qv)] [(.str k0, d)] (bs ++ []) := .cons hr .nil
        have rd := PyProof.V.reads_dictOf (knd := mixKind X.prog X.w) (enc := fun k : Key => match k with | .inl i => PyData.int i | .inr x => PyData.str x) (fun k key hk => by
          rcases keyIs_shape hk with ⟨i, t, rfl, rfl⟩ | ⟨x, t, rfl, rfl⟩
          · exact .int i t
          · exact .str x t) dd pr
        exact ⟨_, rd, nin_cons (not_sys I hs e) (by simpa using ns)⟩
    | dt e t =>
      rename_i a0 i0 j0 v0
      cases r
      obtain ⟨_, _, xs, rk, o, es, ep, ho, hc, hd, he, _⟩ := (show ObjOk X.prog X.w H s.heap _ (.dT _) from I.hok _ _ e)
      cases rk with
      | @cons p q ps qs h1 h2 =>
        cases h2
        obtain ⟨qk, qa, qv⟩ := q
        obtain ⟨e1, e2, rv⟩ := h1
        obtain rfl : _ = qk := e1
        obtain ⟨bs, hr, ns⟩ := DR.reads I hs d _ qv t rv
        obtain ⟨_, its, ri, o2, ho2, hc2, n2, hd2⟩ := (show ObjOk X.prog X.w H s.heap _ (.tup _) from I.hok _ _ e2)
        have rt : ∃ as, Reads s.heap (.ref qa) (.tuple [.int i0, .int j0]) as ∧ sysModules ∉ as := by
          cases ri with
          | cons r1 r2 =>
            cases r2 with
            | cons r3 r4 =>
              cases r4
              obtain ⟨t1, rfl⟩ := r1
              obtain ⟨t2, rfl⟩ := r3
              exact ⟨_, .tuple ho2 hc2 hd2 (.cons (.int i0 _) (.cons (.int j0 _) .nil)), by simp⟩
        obtain ⟨as, hr2, ns2⟩ := rt
        refine ⟨_, .dict ho hc.1 hd (as := as ++ []) (bs := bs ++ []) ?_ ?_, nin_app (nin_cons (not_sys I hs e) (by simpa using ns2)) (by simpa using ns)⟩
        · rw [he]
          exact .cons hr2 .nil
        · rw [he]
          exact .cons hr .nil
  | .dict (_ :: _ :: _), _, _, h, _ => by cases h
theorem DRs.reads (I : Inv X pins σ H s) (hs : (X.K.lookup sysModules).isSome = true) : ∀ (ds : List PyData) (vs : List V) (us : List Value), DRs H vs ds → Vals vs us → ∃ as, ReadsAll s.heap us ds as ∧ sysModules ∉ as
  | [], _, _, h, r => by
    cases h
    cases r
    exact ⟨_, .nil, by simp⟩
  | d :: ds, _, _, h, r => by
    cases h with
    | cons h1 h2 =>
      cases r with
      | cons r1 r2 =>
        obtain ⟨as, q1, n1⟩ := DR.reads I hs d _ _ h1 r1
        obtain ⟨bs, q2, n2⟩ := DRs.reads I hs ds _ _ h2 r2
        exact ⟨_, .cons q1 q2, nin_app n1 n2⟩
end
/-- repr(x), x a list | tuple | dict of data; nothing is being shown around (hg) -/
def rReprG : List V → Hp → VK → Prop := fun xs H Q => ∃ (a : Addr) (d : PyData), xs = [.ref a] ∧ DR H (.ref a) d ∧ d.showable = true ∧ d.depth ≤ 50 ∧ d.shown.length ≤ sizeLine ∧ Q (.str d.shown) H
theorem call_reprG (hs : (X.K.lookup sysModules).isSome = true) (hg : X.A.guards = some []) {n : Nat} (hr : Room n X.A) : CallR X (.builtin "repr") rReprG := by
  intro pins s σ H xs us Q I r h
  obtain ⟨a, d, rfl, hd, h1, h2, h3, q⟩ := h
  cases r with
  | cons ra rr =>
    cases rr
    obtain ⟨as, hr2, ns⟩ := DR.reads I hs d _ _ hd ra
    cases ra
    have hu := hr.un
    refine repr_of_reads' hr2 h1 (fun _ => ns) hg (by omega) (fun _ _ e => e) (fun h' u tk hk => ?_) h3
    exact ⟨.str d.shown, H, I.kept (t' := tk) hk, ⟨_, rfl⟩, q⟩
end
end L2
set_option maxHeartbeats 4000000
namespace L2
open PySem PySem.Spec PyProof.Rows
/-- the heap without the objects at hs (they may change) -/
def hidL (hs : List Addr) (H : Hp) : Hp := fun b => if b ∈ hs then none else H b
theorem hid_at {hs : List Addr} {H : Hp} {b : Addr} {o : HO} (h : hidL hs H b = some o) : H b = some o := by
  unfold hidL at h
  by_cases c : b ∈ hs
  · rw [if_pos c] at h
    cases h
  · rw [if_neg c] at h
    exact h
theorem hid_of {hs : List Addr} {H : Hp} {b : Addr} {o : HO} (n : b ∉ hs) (h : H b = some o) : hidL hs H b = some o := by
  unfold hidL
  rw [if_neg n]
  exact h
theorem hid_new {hs : List Addr} {H : Hp} {q : Addr} {o : HO} (hq : H q = none) (hh : ∀ b ∈ hs, H b ≠ none) : hidL hs (upd H q o) = upd (hidL hs H) q o := by
  funext b
  unfold hidL upd
  by_cases c : b ∈ hs
  · rw [if_pos c]
    by_cases e : b = q
    · subst e
      exact absurd hq (hh b c)
    · refine Eq.trans ?_ (if_neg e).symm
      exact (if_pos c).symm
  · rw [if_neg c]
    by_cases e : b = q
    · rw [if_pos e]
      exact (if_pos e).symm
    · rw [if_neg e]
      refine Eq.trans ?_ (if_neg e).symm
      exact (if_neg c).symm
theorem hid_none {hs : List Addr} {H : Hp} {q : Addr} (h : H q = none) : hidL hs H q = none := by
  unfold hidL
  by_cases c : q ∈ hs
  · rw [if_pos c]
  · rw [if_neg c]
    exact h
theorem hid_upd {hs : List Addr} {H : Hp} {q : Addr} {o : HO} (h : q ∈ hs) : hidL hs (upd H q o) = hidL hs H := by
  funext b
  unfold hidL upd
  by_cases c : b ∈ hs
  · rw [if_pos c, if_pos c]
  · rw [if_neg c, if_neg c]
    by_cases e : b = q
    · subst e
      exact absurd h c
    · rw [if_neg e]
theorem hid_cons {hs : List Addr} {G H : Hp} {q : Addr} (s : Same G (hidL hs H)) (hq : G q = none) : Same G (hidL (q :: hs) H) := fun b o e => by
  have z := s b o e
  unfold hidL at z ⊢
  by_cases c : b ∈ hs
  · rw [if_pos c] at z
    cases z
  · rw [if_neg c] at z
    have n : b ∉ q :: hs := fun m => by
      rcases List.mem_cons.mp m with m | m
      · rw [m, hq] at e
        cases e
      · exact c m
    rw [if_neg n]
    exact z
theorem drs_len {H : Hp} : ∀ {vs : List V} {ds : List PyData}, DRs H vs ds → vs.length = ds.length
  | _, _, .nil => rfl
  | _, _, .cons _ t => by rw [List.length_cons, List.length_cons, drs_len t]
theorem drs_at {H : Hp} : ∀ {vs : List V} {ds : List PyData} {i : Nat} {v : V}, DRs H vs ds → vs[i]? = some v → ∃ d, ds[i]? = some d ∧ DR H v d
  | _, _, _, _, .nil, h => by simp at h
  | _, _, 0, _, .cons r _, h => by
    simp at h
    subst h
    exact ⟨_, rfl, r⟩
  | _, _, i + 1, _, .cons _ t, h => by
    obtain ⟨d, h1, h2⟩ := drs_at (i := i) t (by simpa using h)
    exact ⟨d, by simpa using h1, h2⟩
theorem drs_at' {H : Hp} : ∀ {vs : List V} {ds : List PyData} {i : Nat} {d : PyData}, DRs H vs ds → ds[i]? = some d → ∃ v, vs[i]? = some v ∧ DR H v d
  | _, _, _, _, .nil, h => by simp at h
  | _, _, 0, _, .cons r _, h => by
    simp at h
    subst h
    exact ⟨_, rfl, r⟩
  | _, _, i + 1, _, .cons _ t, h => by
    obtain ⟨d, h1, h2⟩ := drs_at' (i := i) t (by simpa using h)
    exact ⟨d, by simpa using h1, h2⟩
theorem drs_app {H : Hp} : ∀ {vs ws : List V} {ds es : List PyData}, DRs H vs ds → DRs H ws es → DRs H (vs ++ ws) (ds ++ es)
  | _, _, _, _, .nil, h => h
  | _, _, _, _, .cons r t, h => .cons r (drs_app t h)
def Alive (hs : List Addr) (H : Hp) : Prop := ∀ b ∈ hs, H b ≠ none
/-- te gives a value that shows d; what stands behind hs stays; all else is new -/
def EvR (hs : List Addr) (te : TE) (σ : L2.St) (G : Hp) (d : PyData) : Prop := ∀ H1, Same G (hidL hs H1) → Alive hs H1 → ∀ Q : VK, (∀ v H2, Same (hidL hs H1) (hidL hs H2) → (∀ b ∈ hs, H2 b = H1 b) → DR (hidL hs H2) v d → Q v H2) → te σ H1 Q
def EvRs (hs : List Addr) (ta : TA) (σ : L2.St) (G : Hp) (ds : List PyData) : Prop := ∀ H1, Same G (hidL hs H1) → Alive hs H1 → ∀ Q : List V → Hp → Prop, (∀ vs H2, Same (hidL hs H1) (hidL hs H2) → (∀ b ∈ hs, H2 b = H1 b) → DRs (hidL hs H2) vs ds → Q vs H2) → ta σ H1 Q
section
variable {hs : List Addr} {σ : L2.St} {G : Hp} {te : TE} {ta : TA} {d : PyData} {ds : List PyData} {K : PySem.W.Frag}
theorem alive_eq {H1 H2 : Hp} (a : Alive hs H1) (e : ∀ b ∈ hs, H2 b = H1 b) : Alive hs H2 := fun b hb => by
  rw [e b hb]
  exact a b hb
theorem evr_non : EvR hs (tC .non) σ G .none := fun H1 s a Q q => q _ H1 (Same.refl _) (fun _ _ => rfl) .non
theorem evr_bl {b : Bool} : EvR hs (tC (.bl b)) σ G (.bool b) := fun H1 s a Q q => q _ H1 (Same.refl _) (fun _ _ => rfl) (.bl b)
theorem evr_int {i : Int} : EvR hs (tC (.int i)) σ G (.int i) := fun H1 s a Q q => q _ H1 (Same.refl _) (fun _ _ => rfl) (.int i)
theorem evr_str {x : Str} : EvR hs (tC (.str x)) σ G (.str x) := fun H1 s a Q q => q _ H1 (Same.refl _) (fun _ _ => rfl) (.str x)
theorem evr_neg {i : Int} : EvR hs (tUn (rU fun i => .int (-i)) (tC (.int i))) σ G (.int (-i)) := fun H1 s a Q q => ⟨i, rfl, q _ H1 (Same.refl _) (fun _ _ => rfl) (.int (-i))⟩
theorem evr_pow {i j : Int} (h : CPow i j) : EvR hs (tOp (rI CPow fun i j => .int (i ^ j.toNat)) (tC (.int i)) (tC (.int j))) σ G (.int (i ^ j.toNat)) := fun H1 s a Q q => ⟨i, j, rfl, rfl, h, q _ H1 (Same.refl _) (fun _ _ => rfl) (.int _)⟩
theorem evr_var {i : Nat} {v : V} (h : σ[i]? = some (some v)) (r : DR G v d) : EvR hs (tVar i) σ G d := fun H1 s a Q q => ⟨v, h, q _ H1 (Same.refl _) (fun _ _ => rfl) (DR.mono s _ _ r)⟩
theorem evrs_nil : EvRs hs tNil σ G [] := fun H1 s a Q q => q _ H1 (Same.refl _) (fun _ _ => rfl) .nil
theorem evrs_cons (h : EvR hs te σ G d) (t : EvRs hs ta σ G ds) : EvRs hs (tCons te ta) σ G (d :: ds) := fun H1 s a Q q =>
  h H1 s a _ fun v H2 s2 e2 r2 => t H2 (s.trans s2) (alive_eq a e2) _ fun vs H3 s3 e3 r3 => q _ H3 (s2.trans s3) (fun b hb => (e3 b hb).trans (e2 b hb)) (.cons (DR.mono s3 _ _ r2) r3)
theorem Same.new {G H : Hp} {q : Addr} {o : HO} (s : Same G H) (h : H q = none) : Same G (upd H q o) := fun b o' e => by
  by_cases c : b = q
  · subst c
    rw [s _ _ e] at h
    cases h
  · rw [upd_ne c]
    exact s _ _ e
theorem evr_new {H1 H2 : Hp} {Q : VK} {o : HO} {p : Addr} (a : Alive hs H1) (s2 : Same (hidL hs H1) (hidL hs H2)) (e2 : ∀ b ∈ hs, H2 b = H1 b) (hp : H2 p = none) (q : ∀ v H3, Same (hidL hs H1) (hidL hs H3) → (∀ b ∈ hs, H3 b = H1 b) → DR (hidL hs H3) v d → Q v H3)
    (r : Same (hidL hs H2) (hidL hs (upd H2 p o)) → hidL hs (upd H2 p o) p = some o → DR (hidL hs (upd H2 p o)) (.ref p) d) : Q (.ref p) (upd H2 p o) := by
  have a2 := alive_eq a e2
  have z := hid_new (o := o) hp a2
  have s3 : Same (hidL hs H2) (hidL hs (upd H2 p o)) := by
    rw [z]
    exact (Same.refl _).new (hid_none hp)
  refine q _ _ (s2.trans s3) (fun b hb => ?_) (r s3 (by rw [z]; exact upd_same))
  rw [upd_ne (fun e => a2 b hb (by rw [e]; exact hp))]
  exact e2 b hb
theorem evr_tup (h : EvRs hs ta σ G ds) (hl : ds.length ≤ 1000) : EvR hs (tTup ta) σ G (.tuple ds) := fun H1 s a Q q =>
  h H1 s a _ fun vs H2 s2 e2 r2 => ⟨by rw [drs_len r2]; exact Nat.le_trans hl (by decide), fun p hp => evr_new a s2 e2 hp q fun s3 e => .tup e (DRs.mono s3 _ _ r2)⟩
theorem evr_lst (h : EvRs hs ta σ G ds) (hl : ds.length ≤ 1000) : EvR hs (tLst ta) σ G (.list ds) := fun H1 s a Q q =>
  h H1 s a _ fun vs H2 s2 e2 r2 => ⟨by rw [drs_len r2]; exact Nat.le_trans hl (by decide), fun p hp => evr_new a s2 e2 hp q fun s3 e => .lst e (DRs.mono s3 _ _ r2)⟩
/-- {'a': 1} -/
theorem evr_dk {k : Str} {i : Int} : EvR hs (tDisp [(tC (.str k), tC (.int i))]) σ G (.dict [(.str k, .int i)]) := fun H1 s a Q q p hp => by
  refine ⟨upd_same, [(.inr k, .int i)], rfl, (by show 1 ≤ 15; decide), ?_⟩
  rw [upd_upd]
  exact evr_new a (Same.refl _) (fun _ _ => rfl) hp q fun s3 e => .dk e (.int i)
/-- {} -/
theorem evr_d0 : EvR hs tDNewK σ G (.dict []) := fun H1 s a Q q p hp => evr_new a (Same.refl _) (fun _ _ => rfl) hp q fun s3 e => .d0 e
/-- {(i, j): (x, y)} -/
theorem evr_dt {i j : Int} {x y : Str} : EvR hs (tDisp1T (tTup (tCons (tC (.int i)) (tCons (tC (.int j)) tNil))) (tTup (tCons (tC (.str x)) (tCons (tC (.str y)) tNil)))) σ G (.dict [(.tuple [.int i, .int j], .tuple [.str x, .str y])]) := fun H1 s a Q q p hp => by
  refine ⟨(by show 2 ≤ sizeLine; decide), fun t ht => ⟨(by show 2 ≤ sizeLine; decide), fun u hu => ?_⟩⟩
  have n1 : p ≠ t := ne_of_none upd_same ht
  have n2 : p ≠ u := ne_of_none (by rw [upd_ne n1]; exact upd_same) hu
  have n3 : t ≠ u := ne_of_none upd_same hu
  refine ⟨by rw [upd_ne n2, upd_ne n1]; exact upd_same, t, [.inl i, .inl j], rfl, by rw [upd_ne n3]; exact upd_same, ?_⟩
  have ht' : H1 t = none := by
    rw [upd_ne (Ne.symm n1)] at ht
    exact ht
  have hu' : H1 u = none := by
    rw [upd_ne (Ne.symm n3), upd_ne (Ne.symm n2)] at hu
    exact hu
  have eq : upd (upd (upd (upd H1 p (.dT [])) t (.tup [.int i, .int j])) u (.tup [.str x, .str y])) p (.dT [([.inl i, .inl j], .ref u)]) = upd (upd (upd H1 t (.tup [.int i, .int j])) u (.tup [.str x, .str y])) p (.dT [([.inl i, .inl j], .ref u)]) := by
    funext b
    unfold upd
    by_cases c : b = p
    · rw [if_pos c, if_pos c]
    · rw [if_neg c, if_neg c]
      by_cases c2 : b = u
      · rw [if_pos c2, if_neg c]
      · rw [if_neg c2, if_neg c]
  rw [eq]
  have at_ : ∀ {q : Addr}, H1 q = none → ∀ b ∈ hs, b ≠ q := fun hq b hb e => a b hb (by rw [e]; exact hq)
  have a1 : Alive hs (upd H1 t (.tup [.int i, .int j])) := fun b hb => by
    rw [upd_ne (at_ ht' b hb)]
    exact a b hb
  have hu2 : (upd H1 t (.tup [.int i, .int j])) u = none := by
    rw [upd_ne (Ne.symm n3)]
    exact hu'
  have a2 : Alive hs (upd (upd H1 t (.tup [.int i, .int j])) u (.tup [.str x, .str y])) := fun b hb => by
    rw [upd_ne (at_ hu' b hb)]
    exact a1 b hb
  have hp2 : (upd (upd H1 t (.tup [.int i, .int j])) u (.tup [.str x, .str y])) p = none := by
    rw [upd_ne n2, upd_ne n1]
    exact hp
  have s1 : Same (hidL hs H1) (hidL hs (upd (upd H1 t (.tup [.int i, .int j])) u (.tup [.str x, .str y]))) := by
    rw [hid_new hu2 a1, hid_new ht' a]
    exact ((Same.refl _).new (hid_none ht')).new (by rw [upd_ne (Ne.symm n3)]; exact hid_none hu')
  have e1 : ∀ b ∈ hs, (upd (upd H1 t (.tup [.int i, .int j])) u (.tup [.str x, .str y])) b = H1 b := fun b hb => by
    rw [upd_ne (at_ hu' b hb), upd_ne (at_ ht' b hb)]
  refine evr_new (H2 := upd (upd H1 t (.tup [.int i, .int j])) u (.tup [.str x, .str y])) a s1 e1 hp2 q fun s3 e => .dt e (.tup (s3 _ _ ?_) (.cons (.str x) (.cons (.str y) .nil)))
  rw [hid_new hu2 a1]
  exact upd_same
theorem dr_tup {H : Hp} {v : V} (r : DR H v (.tuple ds)) : ∃ a xs, v = .ref a ∧ H a = some (.tup xs) ∧ DRs H xs ds := by
  cases r with
  | tup e t => exact ⟨_, _, rfl, e, t⟩
theorem dr_lst {H : Hp} {v : V} (r : DR H v (.list ds)) : ∃ a xs, v = .ref a ∧ H a = some (.lst xs) ∧ DRs H xs ds := by
  cases r with
  | lst e t => exact ⟨_, _, rfl, e, t⟩
/-- t[j] -/
theorem evr_ixT {j : Nat} (h : EvR hs te σ G (.tuple ds)) (hj : ds[j]? = some d) : EvR hs (tOp (rIxT K) te (tC (.int (j : Nat)))) σ G d := fun H1 s a Q q =>
  h H1 s a _ fun v H2 s2 e2 r2 => by
    obtain ⟨b, xs, rfl, e, t⟩ := dr_tup r2
    obtain ⟨x, hx, rx⟩ := drs_at' t hj
    exact ⟨b, xs, (j : Nat), x, rfl, rfl, SqT.of (hid_at e), atI_nat hx, q x H2 s2 e2 rx⟩
/-- t * 2 -/
theorem evr_rep2 (h : EvR hs te σ G (.tuple ds)) (hn : ds ≠ []) (hl : ds.length ≤ 100) : EvR hs (tOp (rRepT K) te (tC (.int 2))) σ G (.tuple (ds ++ ds)) := fun H1 s a Q q =>
  h H1 s a _ fun v H2 s2 e2 r2 => by
    obtain ⟨b, xs, rfl, e, t⟩ := dr_tup r2
    have ln := drs_len t
    refine ⟨b, 2, xs, rfl, rfl, SqT.of (hid_at e), fun z => hn ?_, by decide, by decide, by omega, fun p hp => ?_⟩
    · rw [z] at ln
      exact List.eq_nil_of_length_eq_zero ln.symm
    · have z : (List.replicate (2 : Int).toNat xs).flatten = xs ++ xs := by
        show (List.replicate 2 xs).flatten = _
        simp [List.replicate]
      rw [z]
      refine evr_new a s2 e2 hp q fun s3 e3 => .tup e3 ?_
      exact drs_app (DRs.mono s3 _ _ t) (DRs.mono s3 _ _ t)
end
end L2
set_option maxHeartbeats 4000000
/-! Readings that run: values and objects with numbers for addresses, and for each word of the layer an evaluator with its soundness (a class, so that a printed reading finds its evaluator by itself). -/
namespace RunX
open PySem PySem.Spec PyProof.Rows L2 He
inductive DV where
  | non
  | bl (b : Bool)
  | int (i : Int)
  | str (x : Str)
  | ty (n : String)
  | glo (x : Str)
  | ref (n : Nat)
  deriving DecidableEq
inductive DO where
  | lst (xs : List DV)
  | tup (xs : List DV)
  | dK (kvs : List (Key × DV))
  | dT (kvs : List (List Key × DV))
  | xd (fs : List (Str × DV))
  | ins (C : Str) (dx : Nat) (fs : List (Str × DV))
  | own (x : Nat)
  | frz (kvs : List (Key × DV))
  deriving DecidableEq
section
variable (K : PySem.W.Frag) (ρ : List Addr)
def dV : DV → V
  | .non => .non
  | .bl b => .bl b
  | .int i => .int i
  | .str x => .str x
  | .ty n => .ty n
  | .glo x => .ref (ga K x)
  | .ref n => .ref (ρ.getD n 0)
def dO : DO → HO
  | .lst xs => .lst (xs.map (dV K ρ))
  | .tup xs => .tup (xs.map (dV K ρ))
  | .dK kvs => .dK (kvs.map fun p => (p.1, dV K ρ p.2))
  | .dT kvs => .dT (kvs.map fun p => (p.1, dV K ρ p.2))
  | .xd fs => .xd (fs.map fun p => (p.1, dV K ρ p.2))
  | .ins C dx fs => .ins (ga K C) (ρ.getD dx 0) (fs.map fun p => (p.1, dV K ρ p.2))
  | .own x => .own (ρ.getD x 0)
  | .frz kvs => .dK (kvs.map fun p => (p.1, dV K ρ p.2))
/-- h shows o (a dict that is walked is known with its object) -/
def Sh : DO → HO → Prop
  | .frz kvs, h => ∃ o, h = .frz o (.dK (kvs.map fun p => (p.1, dV K ρ p.2)))
  | o, h => h = dO K ρ o
def dSt (σ : List (Option DV)) : L2.St := σ.map (Option.map (dV K ρ))
end
def wf (n : Nat) : DV → Bool
  | .ref m => decide (m < n)
  | _ => true
def wfO (n : Nat) : DO → Bool
  | .lst xs => xs.all (wf n)
  | .tup xs => xs.all (wf n)
  | .dK kvs => kvs.all fun p => wf n p.2
  | .dT kvs => kvs.all fun p => wf n p.2
  | .xd fs => fs.all fun p => wf n p.2
  | .ins _ dx fs => decide (dx < n) && fs.all fun p => wf n p.2
  | .own x => decide (x < n)
  | .frz kvs => kvs.all fun p => wf n p.2
def plainO : DO → Bool
  | .frz _ => false
  | _ => true
def wfS (n : Nat) (σ : List (Option DV)) : Bool := σ.all fun x => match x with
  | some v => wf n v
  | none => true
variable {K : PySem.W.Frag}
theorem wf_le {m n : Nat} (h : m ≤ n) : ∀ {v : DV}, wf m v = true → wf n v = true
  | .ref k, q => decide_eq_true (Nat.lt_of_lt_of_le (of_decide_eq_true q) h)
  | .non, _ => rfl
  | .bl _, _ => rfl
  | .int _, _ => rfl
  | .str _, _ => rfl
  | .ty _, _ => rfl
  | .glo _, _ => rfl
theorem dV_app {ρ m : List Addr} : ∀ {v : DV}, wf ρ.length v = true → dV K (ρ ++ m) v = dV K ρ v
  | .ref k, q => by
    have hk : k < ρ.length := of_decide_eq_true q
    simp only [dV, List.getD_eq_getElem?_getD, List.getElem?_append_left hk]
  | .non, _ => rfl
  | .bl _, _ => rfl
  | .int _, _ => rfl
  | .str _, _ => rfl
  | .ty _, _ => rfl
  | .glo _, _ => rfl
theorem app_getD {ρ m : List Addr} {n : Nat} (h : n < ρ.length) : (ρ ++ m).getD n 0 = ρ.getD n 0 := by
  simp only [List.getD_eq_getElem?_getD, List.getElem?_append_left h]
theorem map_app {ρ m : List Addr} {xs : List DV} (h : xs.all (wf ρ.length) = true) : xs.map (dV K (ρ ++ m)) = xs.map (dV K ρ) :=
  List.map_congr_left fun v hv => dV_app (List.all_eq_true.mp h v hv)
theorem dO_app {ρ m : List Addr} : ∀ {o : DO}, wfO ρ.length o = true → dO K (ρ ++ m) o = dO K ρ o
  | .lst xs, h => by simp only [dO, map_app h]
  | .tup xs, h => by simp only [dO, map_app h]
  | .dK kvs, h => by
    simp only [dO]
    exact congrArg HO.dK (List.map_congr_left fun p hp => by rw [dV_app (List.all_eq_true.mp h p hp)])
  | .dT kvs, h => by
    simp only [dO]
    exact congrArg HO.dT (List.map_congr_left fun p hp => by rw [dV_app (List.all_eq_true.mp h p hp)])
  | .xd kvs, h => by
    simp only [dO]
    exact congrArg HO.xd (List.map_congr_left fun p hp => by rw [dV_app (List.all_eq_true.mp h p hp)])
  | .ins C dx fs, h => by
    obtain ⟨h1, h2⟩ := ba h
    simp only [dO, app_getD (of_decide_eq_true h1)]
    exact congrArg (HO.ins _ _) (List.map_congr_left fun p hp => by rw [dV_app (List.all_eq_true.mp h2 p hp)])
  | .own x, h => by
    simp only [dO, app_getD (of_decide_eq_true h)]
  | .frz kvs, h => by
    simp only [dO]
    exact congrArg HO.dK (List.map_congr_left fun p hp => by rw [dV_app (List.all_eq_true.mp h p hp)])
theorem Sh.eq {ρ : List Addr} {o : DO} {h : HO} (s : Sh K ρ o h) (p : plainO o = true) : h = dO K ρ o := by
  cases o with
  | frz kvs => cases p
  | _ => exact s
theorem dO_nf {ρ : List Addr} {o : DO} {od : Obj} {u : HO} (h : dO K ρ o = .frz od u) : False := by
  cases o <;> cases h
theorem Sh.of {ρ : List Addr} {o : DO} (p : plainO o = true) : Sh K ρ o (dO K ρ o) := by
  cases o with
  | frz kvs => cases p
  | _ => exact rfl
theorem Sh.app {ρ m : List Addr} {o : DO} {h : HO} (w : wfO ρ.length o = true) (s : Sh K ρ o h) : Sh K (ρ ++ m) o h := by
  cases o with
  | frz kvs =>
    obtain ⟨od, e⟩ := s
    refine ⟨od, ?_⟩
    have z := dO_app (K := K) (m := m) (o := .frz kvs) w
    simp only [dO] at z
    rw [z]
    exact e
  | lst _ | tup _ | dK _ | dT _ | xd _ | ins _ _ _ | own _ =>
    have e : h = dO K ρ _ := s
    rw [e, ← dO_app (m := m) w]
    exact rfl
theorem wfO_le {m n : Nat} (h : m ≤ n) : ∀ {o : DO}, wfO m o = true → wfO n o = true
  | .lst xs, q => List.all_eq_true.mpr fun v hv => wf_le h (List.all_eq_true.mp q v hv)
  | .tup xs, q => List.all_eq_true.mpr fun v hv => wf_le h (List.all_eq_true.mp q v hv)
  | .dK kvs, q => List.all_eq_true.mpr fun v hv => wf_le h (List.all_eq_true.mp q v hv)
  | .dT kvs, q => List.all_eq_true.mpr fun v hv => wf_le h (List.all_eq_true.mp q v hv)
  | .xd kvs, q => List.all_eq_true.mpr fun v hv => wf_le h (List.all_eq_true.mp q v hv)
  | .ins _ dx fs, q => by
    obtain ⟨q1, q2⟩ := ba q
    show (decide _ && _) = true
    rw [decide_eq_true (Nat.lt_of_lt_of_le (of_decide_eq_true q1) h), show (fs.all fun p => wf n p.2) = true from List.all_eq_true.mpr fun v hv => wf_le h (List.all_eq_true.mp q2 v hv)]
    rfl
  | .own x, q => decide_eq_true (Nat.lt_of_lt_of_le (of_decide_eq_true q) h)
  | .frz kvs, q => List.all_eq_true.mpr fun v hv => wf_le h (List.all_eq_true.mp q v hv)
theorem wfS_le {m n : Nat} (h : m ≤ n) {σ : List (Option DV)} (q : wfS m σ = true) : wfS n σ = true :=
  List.all_eq_true.mpr fun x hx => by
    have z := List.all_eq_true.mp q x hx
    cases x with
    | none => rfl
    | some v => exact wf_le h z
theorem dSt_app {ρ m : List Addr} {σ : List (Option DV)} (h : wfS ρ.length σ = true) : dSt K (ρ ++ m) σ = dSt K ρ σ :=
  List.map_congr_left fun x hx => by
    have z := List.all_eq_true.mp h x hx
    cases x with
    | none => rfl
    | some v =>
      show some (dV K (ρ ++ m) v) = some (dV K ρ v)
      rw [dV_app z]
def notTup : DO → Bool
  | .tup _ => false
  | _ => true
def mutO : DO → Bool
  | .tup _ => false
  | .frz _ => false
  | _ => true
theorem mutO_plain {o : DO} (h : mutO o = true) : plainO o = true := by
  cases o <;> first | rfl | cases h
theorem sh_tup {ρ : List Addr} {o : DO} {xs : List V} (s : Sh K ρ o (.tup xs)) : ∃ ys, o = .tup ys := by
  cases o with
  | tup ys => exact ⟨ys, rfl⟩
  | frz kvs => obtain ⟨_, e⟩ := s; cases e
  | lst _ | dK _ | dT _ | xd _ | ins _ _ _ | own _ => cases (show HO.tup xs = dO K ρ _ from s)
/-- the heap H shows S at the addresses ρ (a tuple may stand there twice) -/
structure Rep (K : PySem.W.Frag) (ρ : List Addr) (S : List DO) (H : Hp) : Prop where
  len : ρ.length = S.length
  nd : ∀ (i j : Nat) (a : Addr), ρ[i]? = some a → ρ[j]? = some a → i ≠ j → ∃ xs, S[i]? = some (.tup xs)
  obj : ∀ (i : Nat) (o : DO) (a : Addr), S[i]? = some o → ρ[i]? = some a → ∃ h, H a = some h ∧ Sh K ρ o h
  wf : ∀ o ∈ S, wfO S.length o = true
/-- later: ρ grew by new addresses (or by tuples that stood there), what stands outside stays, what is walked stays, tuples stay and come of nothing else -/
structure Fr (ρ : List Addr) (H : Hp) (ρ' : List Addr) (H' : Hp) : Prop where
  pre : ∃ m, ρ' = ρ ++ m ∧ ∀ a ∈ m, H a = none ∨ ∃ xs, H a = some (.tup xs)
  out : ∀ b o, b ∉ ρ → H b = some o → H' b = some o
  frz : ∀ b o u, H b = some (.frz o u) → H' b = some (.frz o u)
  tup : ∀ b xs, H b = some (.tup xs) → H' b = some (.tup xs)
  was : ∀ b xs, H' b = some (.tup xs) → H b = none ∨ H b = some (.tup xs)
theorem Fr.refl (ρ : List Addr) (H : Hp) : Fr ρ H ρ H := ⟨⟨[], by simp, fun a h => by simp at h⟩, fun _ _ _ h => h, fun _ _ _ h => h, fun _ _ h => h, fun _ _ h => .inr h⟩
theorem Rep.at_ {ρ : List Addr} {S : List DO} {H : Hp} (r : Rep K ρ S H) {a : Addr} (h : a ∈ ρ) : ∃ o, H a = some o := by
  obtain ⟨i, hi, e⟩ := List.mem_iff_getElem.mp h
  have hs : i < S.length := by rw [← r.len]; exact hi
  obtain ⟨h, eh, _⟩ := r.obj i (S[i]'hs) a (List.getElem?_eq_getElem hs) (by rw [List.getElem?_eq_getElem hi, e])
  exact ⟨h, eh⟩
theorem Fr.trans {ρ ρ1 ρ2 : List Addr} {S1 : List DO} {H H1 H2 : Hp} (a : Fr ρ H ρ1 H1) (r : Rep K ρ1 S1 H1) (b : Fr ρ1 H1 ρ2 H2) : Fr ρ H ρ2 H2 := by
  obtain ⟨⟨m, e, hm⟩, o1, f1, t1, w1⟩ := a
  obtain ⟨⟨m2, e2, hm2⟩, o2, f2, t2, w2⟩ := b
  have sub : ∀ x, x ∈ ρ → x ∈ ρ1 := fun x hx => by rw [e]; exact List.mem_append_left _ hx
  refine ⟨⟨m ++ m2, by rw [e2, e, List.append_assoc], fun x hx => ?_⟩, fun x o n h => ?_, fun x o u h => f2 x o u (f1 x o u h), fun x xs h => t2 x xs (t1 x xs h), fun x xs h => ?_⟩
  · rcases List.mem_append.mp hx with q | q
    · exact hm x q
    · cases z : H x with
      | none => exact .inl rfl
      | some o =>
        rcases hm2 x q with n1 | ⟨xs, n1⟩
        · by_cases c : x ∈ ρ
          · obtain ⟨o', h'⟩ := r.at_ (sub x c)
            rw [n1] at h'
            cases h'
          · have := o1 x o c z
            rw [n1] at this
            cases this
        · rcases w1 x xs n1 with k | k
          · rw [z] at k
            cases k
          · rw [z] at k
            exact .inr ⟨xs, k⟩
  · by_cases c : x ∈ ρ1
    · rw [e] at c
      rcases List.mem_append.mp c with q | q
      · exact absurd q n
      · rcases hm x q with k | ⟨xs, k⟩
        · rw [k] at h
          cases h
        · rw [k] at h
          cases h
          exact t2 x xs (t1 x xs k)
    · exact o2 x o c (o1 x o n h)
  · rcases w2 x xs h with k | k
    · cases z : H x with
      | none => exact .inl rfl
      | some o =>
        by_cases c : x ∈ ρ
        · obtain ⟨o', h'⟩ := r.at_ (sub x c)
          rw [k] at h'
          cases h'
        · have := o1 x o c z
          rw [k] at this
          cases this
    · exact w1 x xs k
/-- new objects -/
theorem Rep.grow {ρ ps : List Addr} {S os : List DO} {H H' : Hp} (r : Rep K ρ S H) (hl : ps.length = os.length) (nd : ps.Nodup) (fresh : ∀ a ∈ ps, H a = none) (old : ∀ b, b ∉ ps → H' b = H b)
    (new : ∀ (i : Nat) (o : DO) (a : Addr), os[i]? = some o → ps[i]? = some a → H' a = some (dO K (ρ ++ ps) o)) (w : ∀ o ∈ os, wfO (S.length + os.length) o = true ∧ plainO o = true) : Rep K (ρ ++ ps) (S ++ os) H' ∧ Fr ρ H (ρ ++ ps) H' := by
  have np : ∀ a, a ∈ ρ → a ∉ ps := fun a ha hp => by
    obtain ⟨o', e⟩ := r.at_ ha
    rw [fresh a hp] at e
    cases e
  have nb : ∀ b o, H b = some o → b ∉ ps := fun b o h z => by
    rw [fresh b z] at h
    cases h
  refine ⟨⟨by simp [r.len, hl], fun i j a hi hj ne => ?_, fun i o' a hi ha => ?_, fun o' h => ?_⟩, ⟨⟨ps, rfl, fun a h => .inl (fresh a h)⟩, fun b o' n h => ?_, fun b o' u h => ?_, fun b xs h => ?_, fun b xs h => ?_⟩⟩
  · by_cases c : i < ρ.length
    · rw [List.getElem?_append_left c] at hi
      by_cases d : j < ρ.length
      · rw [List.getElem?_append_left d] at hj
        obtain ⟨xs, e⟩ := r.nd i j a hi hj ne
        exact ⟨xs, by rw [List.getElem?_append_left (by rw [← r.len]; exact c)]; exact e⟩
      · rw [List.getElem?_append_right (Nat.le_of_not_lt d)] at hj
        exact absurd (List.mem_of_getElem? hj) (np a (List.mem_of_getElem? hi))
    · rw [List.getElem?_append_right (Nat.le_of_not_lt c)] at hi
      by_cases d : j < ρ.length
      · rw [List.getElem?_append_left d] at hj
        exact absurd (List.mem_of_getElem? hi) (np a (List.mem_of_getElem? hj))
      · rw [List.getElem?_append_right (Nat.le_of_not_lt d)] at hj
        have inj := List.pairwise_iff_getElem.mp nd
        obtain ⟨h1, e1⟩ := List.getElem?_eq_some_iff.mp hi
        obtain ⟨h2, e2⟩ := List.getElem?_eq_some_iff.mp hj
        rcases Nat.lt_or_gt_of_ne ne with q | q
        · exact absurd (e1.trans e2.symm) (inj _ _ h1 h2 (by omega))
        · exact absurd (e2.trans e1.symm) (inj _ _ h2 h1 (by omega))
  · by_cases c : i < S.length
    · rw [List.getElem?_append_left c] at hi
      rw [List.getElem?_append_left (by rw [r.len]; exact c)] at ha
      have hw := r.wf o' (List.mem_of_getElem? hi)
      obtain ⟨h, eh, sh⟩ := r.obj i o' a hi ha
      exact ⟨h, by rw [old a (np a (List.mem_of_getElem? ha))]; exact eh, sh.app (by rw [r.len]; exact hw)⟩
    · have c := Nat.le_of_not_lt c
      rw [List.getElem?_append_right c] at hi
      rw [List.getElem?_append_right (by rw [r.len]; exact c), r.len] at ha
      exact ⟨_, new _ o' a hi ha, Sh.of (w o' (List.mem_of_getElem? hi)).2⟩
  · rw [List.length_append]
    rcases List.mem_append.mp h with q | q
    · exact wfO_le (by simp) (r.wf o' q)
    · exact (w o' q).1
  · rw [old b (nb b _ h)]
    exact h
  · rw [old b (nb b _ h)]
    exact h
  · rw [old b (nb b _ h)]
    exact h
  · by_cases c : b ∈ ps
    · exact .inl (fresh b c)
    · rw [old b c] at h
      exact .inr h
/-- a new object -/
theorem Rep.new {ρ : List Addr} {S : List DO} {H : Hp} {p : Addr} {o : DO} (r : Rep K ρ S H) (hp : H p = none) (ho : wfO S.length o = true) (po : plainO o = true := by rfl) : Rep K (ρ ++ [p]) (S ++ [o]) (upd H p (dO K ρ o)) ∧ Fr ρ H (ρ ++ [p]) (upd H p (dO K ρ o)) := by
  refine r.grow rfl (List.nodup_cons.mpr ⟨List.not_mem_nil, List.nodup_nil⟩) (fun a h => by rw [List.mem_singleton.mp h]; exact hp) (fun b h => upd_ne fun z => h (by rw [z]; exact List.mem_singleton.mpr rfl)) (fun i o' a hi ha => ?_) fun o' h => ?_
  · cases i with
    | zero =>
      cases hi
      cases ha
      rw [dO_app (by rw [r.len]; exact ho)]
      exact upd_same
    | succ n => simp at hi
  · rw [List.mem_singleton.mp h]
    exact ⟨wfO_le (by simp) ho, po⟩
/-- a tuple that stands there is told -/
theorem Rep.know {ρ : List Addr} {S : List DO} {H : Hp} {p : Addr} {xs : List DV} (r : Rep K ρ S H) (hp : H p = some (.tup (xs.map (dV K ρ)))) (w : xs.all (RunX.wf S.length) = true) : Rep K (ρ ++ [p]) (S ++ [.tup xs]) H ∧ Fr ρ H (ρ ++ [p]) H := by
  have last : ∀ {i : Nat} {a : Addr}, (ρ ++ [p])[i]? = some a → ¬ i < ρ.length → i = S.length ∧ a = p := fun {i a} h c => by
    have hl := (List.getElem?_eq_some_iff.mp h).1
    rw [List.length_append, List.length_singleton] at hl
    have e : i = ρ.length := by omega
    rw [e, List.getElem?_append_right (Nat.le_refl _), Nat.sub_self] at h
    cases h
    exact ⟨e.trans r.len, rfl⟩
  refine ⟨⟨by simp [r.len], fun i j a hi hj ne => ?_, fun i o' a hi ha => ?_, fun o' h => ?_⟩, ⟨⟨[p], rfl, fun a h => .inr ⟨xs.map (dV K ρ), by rw [List.mem_singleton.mp h]; exact hp⟩⟩, fun b o' n h => h, fun b o' u h => h, fun b xs h => h, fun b xs h => .inr h⟩⟩
  · by_cases c : i < ρ.length
    · have hi' := hi
      rw [List.getElem?_append_left c] at hi'
      have cs : i < S.length := by rw [← r.len]; exact c
      rw [List.getElem?_append_left cs]
      by_cases d : j < ρ.length
      · rw [List.getElem?_append_left d] at hj
        exact r.nd i j a hi' hj ne
      · obtain ⟨_, rfl⟩ := last hj d
        obtain ⟨h, eh, sh⟩ := r.obj i _ a (List.getElem?_eq_getElem cs) hi'
        rw [hp] at eh
        cases eh
        obtain ⟨ys, ey⟩ := sh_tup sh
        exact ⟨ys, by rw [List.getElem?_eq_getElem cs, ey]⟩
    · obtain ⟨e, _⟩ := last hi c
      exact ⟨xs, by rw [e, List.getElem?_append_right (Nat.le_refl _), Nat.sub_self]; rfl⟩
  · by_cases c : i < S.length
    · rw [List.getElem?_append_left c] at hi
      rw [List.getElem?_append_left (by rw [r.len]; exact c)] at ha
      obtain ⟨h, eh, sh⟩ := r.obj i o' a hi ha
      exact ⟨h, eh, sh.app (by rw [r.len]; exact r.wf o' (List.mem_of_getElem? hi))⟩
    · obtain ⟨e, rfl⟩ := last ha (by rw [r.len]; exact c)
      rw [e, List.getElem?_append_right (Nat.le_refl _), Nat.sub_self] at hi
      cases hi
      refine ⟨_, hp, ?_⟩
      show _ = HO.tup _
      rw [map_app (by rw [r.len]; exact w)]
  · rcases List.mem_append.mp h with q | q
    · exact wfO_le (by simp) (r.wf o' q)
    · rw [List.mem_singleton.mp q]
      exact List.all_eq_true.mpr fun v hv => wf_le (by simp) (List.all_eq_true.mp w v hv)
/-! ### what an evaluation gives -/
inductive Res where
  | ret (v : DV) (S : List DO)
  | exc (C : Str) (d : Option Nat) (S : List DO)
inductive ResA where
  | ret (vs : List DV) (S : List DO)
  | exc (C : Str) (d : Option Nat) (S : List DO)
/-- an exception of the class C reaches E -/
def PostX (K : PySem.W.Frag) (E : XK) (ρ : List Addr) (H : Hp) (C : Str) (d : Option Nat) (S : List DO) : Prop := ∀ ρ' H', Rep K ρ' S H' → Fr ρ H ρ' H' → E (.ref (ga K C)) (d.map fun n => ρ'.getD n 0) H'
def Post (K : PySem.W.Frag) (E : XK) (ρ : List Addr) (H : Hp) (Q : VK) : Res → Prop
  | .ret v S => ∀ ρ' H', Rep K ρ' S H' → Fr ρ H ρ' H' → Q (dV K ρ' v) H'
  | .exc C d S => PostX K E ρ H C d S
def PostA (K : PySem.W.Frag) (E : XK) (ρ : List Addr) (H : Hp) (Q : List V → Hp → Prop) : ResA → Prop
  | .ret vs S => ∀ ρ' H', Rep K ρ' S H' → Fr ρ H ρ' H' → Q (vs.map (dV K ρ')) H'
  | .exc C d S => PostX K E ρ H C d S
def good (n : Nat) : Res → Bool
  | .ret v S => decide (n ≤ S.length) && wf S.length v
  | .exc _ _ S => decide (n ≤ S.length)
def goodA (n : Nat) : ResA → Bool
  | .ret vs S => decide (n ≤ S.length) && vs.all (wf S.length)
  | .exc _ _ S => decide (n ≤ S.length)
/-- an evaluator of the reading te -/
class EvE (K : PySem.W.Frag) (E : XK) (te : TE) where
  run : List (Option DV) → List DO → Option Res
  good : ∀ {σ S r}, run σ S = some r → wfS S.length σ = true → good S.length r = true
  ok : ∀ {σ S r ρ H Q}, run σ S = some r → wfS S.length σ = true → Rep K ρ S H → Post K E ρ H Q r → te (dSt K ρ σ) H Q
class EvA (K : PySem.W.Frag) (E : XK) (ta : TA) where
  run : List (Option DV) → List DO → Option ResA
  good : ∀ {σ S r}, run σ S = some r → wfS S.length σ = true → goodA S.length r = true
  ok : ∀ {σ S r ρ H Q}, run σ S = some r → wfS S.length σ = true → Rep K ρ S H → PostA K E ρ H Q r → ta (dSt K ρ σ) H Q
section
variable {E : XK}
theorem Fr.le {ρ ρ' : List Addr} {H H' : Hp} {σ : List (Option DV)} {n : Nat} (f : Fr ρ H ρ' H') (hn : ρ.length = n) (w : wfS n σ = true) : dSt K ρ' σ = dSt K ρ σ := by
  obtain ⟨m, e, _⟩ := f.pre
  subst hn
  rw [e]
  exact dSt_app w
theorem Fr.val {ρ ρ' : List Addr} {H H' : Hp} {v : DV} {n : Nat} (f : Fr ρ H ρ' H') (hn : ρ.length = n) (w : wf n v = true) : dV K ρ' v = dV K ρ v := by
  obtain ⟨m, e, _⟩ := f.pre
  subst hn
  rw [e]
  exact dV_app w
theorem PostX.of {ρ ρ1 : List Addr} {S1 : List DO} {H H1 : Hp} {C : Str} {d : Option Nat} {S : List DO} (p : PostX K E ρ H C d S) (r : Rep K ρ1 S1 H1) (f : Fr ρ H ρ1 H1) : PostX K E ρ1 H1 C d S :=
  fun ρ' H' r' f' => p ρ' H' r' (f.trans r f')
/-- constants -/
class CstV (K : PySem.W.Frag) (v : V) where
  d : DV
  ok : ∀ ρ, dV K ρ d = v
  wf0 : wf 0 d = true
instance : CstV K .non := ⟨.non, fun _ => rfl, rfl⟩
instance (b : Bool) : CstV K (.bl b) := ⟨.bl b, fun _ => rfl, rfl⟩
instance (i : Int) : CstV K (.int i) := ⟨.int i, fun _ => rfl, rfl⟩
instance (x : Str) : CstV K (.str x) := ⟨.str x, fun _ => rfl, rfl⟩
instance (n : String) : CstV K (.ty n) := ⟨.ty n, fun _ => rfl, rfl⟩
instance (x : Str) : CstV K (.ref (ga K x)) := ⟨.glo x, fun _ => rfl, rfl⟩
instance (v : V) [c : CstV K v] : EvE K E (tC v) where
  run := fun _ S => some (.ret c.d S)
  good := fun {σ S r} h w => by
    cases h
    show (decide _ && wf _ _) = true
    rw [wf_le (Nat.zero_le _) c.wf0]
    simp
  ok := fun {σ S r ρ H Q} h w R p => by
    cases h
    have z := p ρ H R (Fr.refl ρ H)
    rw [c.ok ρ] at z
    exact z
instance (i : Nat) : EvE K E (tVar i) where
  run := fun σ S => match σ[i]? with
    | some (some v) => some (.ret v S)
    | _ => none
  good := fun {σ S r} h w => by
    split at h
    · rename_i v hv
      cases h
      have z := List.all_eq_true.mp w _ (List.mem_of_getElem? hv)
      show (decide _ && wf _ _) = true
      rw [show wf S.length v = true from z]
      simp
    · cases h
  ok := fun {σ S r ρ H Q} h w R p => by
    split at h
    · rename_i v hv
      cases h
      refine ⟨dV K ρ v, ?_, p ρ H R (Fr.refl ρ H)⟩
      unfold dSt
      rw [List.getElem?_map, hv]
      rfl
    · cases h
instance : EvA K E tNil where
  run := fun _ S => some (.ret [] S)
  good := fun {σ S r} h w => by
    cases h
    show (decide _ && _) = true
    simp
  ok := fun {σ S r ρ H Q} h w R p => by
    cases h
    exact p ρ H R (Fr.refl ρ H)
instance (te : TE) (ta : TA) [e : EvE K E te] [a : EvA K E ta] : EvA K E (tCons te ta) where
  run := fun σ S => match e.run σ S with
    | some (.ret v S1) => (match a.run σ S1 with
      | some (.ret vs S2) => some (.ret (v :: vs) S2)
      | some (.exc C d S2) => some (.exc C d S2)
      | none => none)
    | some (.exc C d S1) => some (.exc C d S1)
    | none => none
  good := fun {σ S r} h w => by
    split at h
    · rename_i v S1 h1
      obtain ⟨l1, w1⟩ := ba (e.good h1 w)
      have l1 := of_decide_eq_true l1
      split at h
      · rename_i vs S2 h2
        cases h
        obtain ⟨l2, w2⟩ := ba (a.good h2 (wfS_le l1 w))
        have l2 := of_decide_eq_true l2
        show (decide _ && (wf _ v && vs.all _)) = true
        rw [wf_le l2 w1, w2, decide_eq_true (Nat.le_trans l1 l2)]
        rfl
      · rename_i C d S2 h2
        cases h
        exact decide_eq_true (Nat.le_trans l1 (of_decide_eq_true (a.good h2 (wfS_le l1 w))))
      · cases h
    · rename_i C d S1 h1
      cases h
      exact e.good h1 w
    · cases h
  ok := fun {σ S r ρ H Q} h w R p => by
    split at h
    · rename_i v S1 h1
      obtain ⟨l1, w1⟩ := ba (e.good h1 w)
      have l1 := of_decide_eq_true l1
      refine e.ok h1 w R fun ρ1 H1 R1 F1 => ?_
      have eσ : dSt K ρ1 σ = dSt K ρ σ := F1.le R.len w
      rw [← eσ]
      split at h
      · rename_i vs S2 h2
        cases h
        obtain ⟨l2, w2⟩ := ba (a.good h2 (wfS_le l1 w))
        refine a.ok h2 (wfS_le l1 w) R1 fun ρ2 H2 R2 F2 => ?_
        have z := p ρ2 H2 R2 (F1.trans R1 F2)
        have ev : dV K ρ2 v = dV K ρ1 v := F2.val R1.len w1
        rw [← ev]
        exact z
      · rename_i C d S2 h2
        cases h
        exact a.ok h2 (wfS_le l1 w) R1 (PostX.of p R1 F1)
      · cases h
    · rename_i C d S1 h1
      cases h
      exact e.ok h1 w R p
    · cases h
end
end RunX
set_option maxHeartbeats 4000000
namespace RunX
open PySem PySem.Spec PyProof.Rows L2 He
variable {K : PySem.W.Frag} {E : XK}
def alloc (S : List DO) (o : DO) : Option Res := some (.ret (.ref S.length) (S ++ [o]))
theorem alloc_good {S : List DO} {o : DO} {r : Res} (h : alloc S o = some r) : good S.length r = true := by
  cases h
  show (decide _ && decide _) = true
  simp
theorem alloc_post {ρ : List Addr} {S : List DO} {H : Hp} {o : DO} {r : Res} {Q : VK} {p : Addr} (h : alloc S o = some r) (ho : wfO S.length o = true) (R : Rep K ρ S H) (k : Post K E ρ H Q r) (hp : H p = none) (po : plainO o = true := by rfl) : Q (.ref p) (upd H p (dO K ρ o)) := by
  cases h
  obtain ⟨R1, F1⟩ := R.new hp ho po
  have z := k _ _ R1 F1
  have e : dV K (ρ ++ [p]) (.ref S.length) = .ref p := by
    simp only [dV, List.getD_eq_getElem?_getD]
    rw [List.getElem?_append_right (by rw [R.len]; exact Nat.le_refl _), R.len]
    simp
  rw [e] at z
  exact z
/-- (..): a new tuple -/
instance (ta : TA) [a : EvA K E ta] : EvE K E (tTup ta) where
  run := fun σ S => match a.run σ S with
    | some (.ret vs S1) => if vs.length ≤ 100000 then alloc S1 (.tup vs) else none
    | some (.exc C d S1) => some (.exc C d S1)
    | none => none
  good := fun {σ S r} h w => by
    split at h
    · rename_i vs S1 h1
      obtain ⟨l1, w1⟩ := ba (a.good h1 w)
      have l1 := of_decide_eq_true l1
      split at h
      · cases h
        show (decide _ && decide _) = true
        simp
        omega
      · cases h
    · rename_i C d S1 h1
      cases h
      exact a.good h1 w
    · cases h
  ok := fun {σ S r ρ H Q} h w R p => by
    split at h
    · rename_i vs S1 h1
      obtain ⟨l1, w1⟩ := ba (a.good h1 w)
      split at h
      · rename_i hl
        refine a.ok h1 w R fun ρ1 H1 R1 F1 => ⟨by rw [List.length_map]; exact Nat.le_trans hl (by decide), fun q hq => ?_⟩
        refine alloc_post (E := E) (o := .tup vs) h w1 R1 ?_ hq
        cases h
        exact fun ρ2 H2 R2 F2 => p ρ2 H2 R2 (F1.trans R1 F2)
      · cases h
    · rename_i C d S1 h1
      cases h
      exact a.ok h1 w R p
    · cases h
instance (ta : TA) [a : EvA K E ta] : EvE K E (tLst ta) where
  run := fun σ S => match a.run σ S with
    | some (.ret vs S1) => if vs.length ≤ 100000 then alloc S1 (.lst vs) else none
    | some (.exc C d S1) => some (.exc C d S1)
    | none => none
  good := fun {σ S r} h w => by
    split at h
    · rename_i vs S1 h1
      obtain ⟨l1, w1⟩ := ba (a.good h1 w)
      have l1 := of_decide_eq_true l1
      split at h
      · cases h
        show (decide _ && decide _) = true
        simp
        omega
      · cases h
    · rename_i C d S1 h1
      cases h
      exact a.good h1 w
    · cases h
  ok := fun {σ S r ρ H Q} h w R p => by
    split at h
    · rename_i vs S1 h1
      obtain ⟨l1, w1⟩ := ba (a.good h1 w)
      split at h
      · rename_i hl
        refine a.ok h1 w R fun ρ1 H1 R1 F1 => ⟨by rw [List.length_map]; exact Nat.le_trans hl (by decide), fun q hq => ?_⟩
        refine alloc_post (E := E) (o := .lst vs) h w1 R1 ?_ hq
        cases h
        exact fun ρ2 H2 R2 F2 => p ρ2 H2 R2 (F1.trans R1 F2)
      · cases h
    · rename_i C d S1 h1
      cases h
      exact a.ok h1 w R p
    · cases h
/-! ### first x, then what comes of it -/
def bindE (r : Option Res) (f : DV → List DO → Option Res) : Option Res := match r with
  | some (.ret v S) => f v S
  | some (.exc C d S) => some (.exc C d S)
  | none => none
theorem bind_good {σ : List (Option DV)} {S : List DO} {r : Res} {te : TE} [e : EvE K E te] {f : DV → List DO → Option Res} (h : bindE (e.run σ S) f = some r) (w : wfS S.length σ = true)
    (g : ∀ {v S1 r}, S.length ≤ S1.length → wf S1.length v = true → f v S1 = some r → good S1.length r = true) : good S.length r = true := by
  unfold bindE at h
  split at h
  · rename_i v S1 h1
    obtain ⟨l1, w1⟩ := ba (e.good h1 w)
    have l1 := of_decide_eq_true l1
    have z := g l1 w1 h
    cases r with
    | ret v2 S2 =>
      obtain ⟨l2, w2⟩ := ba z
      show (decide _ && _) = true
      rw [w2, decide_eq_true (Nat.le_trans l1 (of_decide_eq_true l2))]
      rfl
    | exc C d S2 => exact decide_eq_true (Nat.le_trans l1 (of_decide_eq_true z))
  · rename_i C d S1 h1
    cases h
    exact e.good h1 w
  · cases h
theorem Post.of {ρ ρ1 : List Addr} {S1 : List DO} {H H1 : Hp} {Q : VK} {r : Res} (p : Post K E ρ H Q r) (R : Rep K ρ1 S1 H1) (f : Fr ρ H ρ1 H1) : Post K E ρ1 H1 Q r := by
  cases r with
  | ret v S => exact fun ρ2 H2 R2 F2 => p ρ2 H2 R2 (f.trans R F2)
  | exc C d S => exact PostX.of p R f
theorem bind_ok {σ : List (Option DV)} {S : List DO} {r : Res} {te : TE} [e : EvE K E te] {f : DV → List DO → Option Res} {ρ : List Addr} {H : Hp} {Q : VK} {Q1 : VK} (h : bindE (e.run σ S) f = some r) (w : wfS S.length σ = true) (R : Rep K ρ S H) (p : Post K E ρ H Q r)
    (k : ∀ {v S1 ρ1 H1}, S.length ≤ S1.length → wf S1.length v = true → f v S1 = some r → Rep K ρ1 S1 H1 → Fr ρ H ρ1 H1 → dSt K ρ1 σ = dSt K ρ σ → Post K E ρ1 H1 Q r → Q1 (dV K ρ1 v) H1) : te (dSt K ρ σ) H Q1 := by
  unfold bindE at h
  split at h
  · rename_i v S1 h1
    obtain ⟨l1, w1⟩ := ba (e.good h1 w)
    have l1 := of_decide_eq_true l1
    exact e.ok h1 w R fun ρ1 H1 R1 F1 => k l1 w1 h R1 F1 (F1.le R.len w) (Post.of p R1 F1)
  · rename_i C d S1 h1
    cases h
    exact e.ok h1 w R p
  · cases h
/-- not x -/
instance (te : TE) [e : EvE K E te] : EvE K E (tNotV te) where
  run := fun σ S => bindE (e.run σ S) fun v S1 => match v with
    | .bl b => some (.ret (.bl !b) S1)
    | _ => none
  good := fun {σ S r} h w => bind_good (te := te) h w fun {v S1 r} l wv h => by
    split at h
    · cases h
      show (decide _ && true) = true
      simp
    · cases h
  ok := fun {σ S r ρ H Q} h w R p => bind_ok (te := te) h w R p fun {v S1 ρ1 H1} l wv h R1 F1 eσ p => by
    split at h
    · rename_i b
      cases h
      exact ⟨b, rfl, p ρ1 H1 R1 (Fr.refl _ _)⟩
    · cases h
/-- x and y -/
instance (ta tb : TE) [a : EvE K E ta] [b : EvE K E tb] : EvE K E (tAndV ta tb) where
  run := fun σ S => bindE (a.run σ S) fun v S1 => match v with
    | .bl true => b.run σ S1
    | .bl false => some (.ret (.bl false) S1)
    | _ => none
  good := fun {σ S r} h w => bind_good (te := ta) h w fun {v S1 r} l wv h => by
    split at h
    · exact b.good h (wfS_le l w)
    · cases h
      show (decide _ && true) = true
      simp
    · cases h
  ok := fun {σ S r ρ H Q} h w R p => bind_ok (te := ta) h w R p fun {v S1 ρ1 H1} l wv h R1 F1 eσ p => by
    split at h
    · refine ⟨true, rfl, ?_⟩
      rw [← eσ]
      exact b.ok h (wfS_le l w) R1 p
    · cases h
      exact ⟨false, rfl, p ρ1 H1 R1 (Fr.refl _ _)⟩
    · cases h
instance (ta tb : TE) [a : EvE K E ta] [b : EvE K E tb] : EvE K E (tOrV ta tb) where
  run := fun σ S => bindE (a.run σ S) fun v S1 => match v with
    | .bl false => b.run σ S1
    | .bl true => some (.ret (.bl true) S1)
    | _ => none
  good := fun {σ S r} h w => bind_good (te := ta) h w fun {v S1 r} l wv h => by
    split at h
    · exact b.good h (wfS_le l w)
    · cases h
      show (decide _ && true) = true
      simp
    · cases h
  ok := fun {σ S r ρ H Q} h w R p => bind_ok (te := ta) h w R p fun {v S1 ρ1 H1} l wv h R1 F1 eσ p => by
    split at h
    · refine ⟨false, rfl, ?_⟩
      rw [← eσ]
      exact b.ok h (wfS_le l w) R1 p
    · cases h
      exact ⟨true, rfl, p ρ1 H1 R1 (Fr.refl _ _)⟩
    · cases h
/-! ### two values -/
class EvR (K : PySem.W.Frag) (r : R2) where
  run : List DO → DV → DV → Option Res
  good : ∀ {S x y q}, run S x y = some q → wf S.length x = true → wf S.length y = true → good S.length q = true
  ok : ∀ {S x y q ρ H Q} {E : XK}, run S x y = some q → wf S.length x = true → wf S.length y = true → Rep K ρ S H → Post K E ρ H Q q → r (dV K ρ x) (dV K ρ y) H Q
instance (r : R2) (ta tb : TE) [a : EvE K E ta] [b : EvE K E tb] [o : EvR K r] : EvE K E (tOp r ta tb) where
  run := fun σ S => bindE (a.run σ S) fun x S1 => bindE (b.run σ S1) fun y S2 => o.run S2 x y
  good := fun {σ S r} h w => bind_good (te := ta) h w fun {x S1 r} l wx h => bind_good (te := tb) h (wfS_le l w) fun {y S2 r} l2 wy h => o.good h (wf_le l2 wx) wy
  ok := fun {σ S r ρ H Q} h w R p => bind_ok (te := ta) h w R p fun {x S1 ρ1 H1} l wx h R1 F1 eσ p => by
    rw [← eσ]
    refine bind_ok (te := tb) h (wfS_le l w) R1 p fun {y S2 ρ2 H2} l2 wy h R2 F2 _ p => ?_
    have ex : dV K ρ2 x = dV K ρ1 x := F2.val R1.len wx
    rw [← ex]
    exact o.ok h (wf_le l2 wx) wy R2 p
def retS (v : DV) (S : List DO) : Option Res := some (.ret v S)
theorem ret_good {S : List DO} {v : DV} {q : Res} (h : retS v S = some q) (w : wf S.length v = true) : good S.length q = true := by
  cases h
  show (decide _ && _) = true
  rw [w]
  simp
theorem ret_post {ρ : List Addr} {S : List DO} {H : Hp} {Q : VK} {v : DV} {q : Res} (h : retS v S = some q) (R : Rep K ρ S H) (p : Post K E ρ H Q q) : Q (dV K ρ v) H := by
  cases h
  exact p ρ H R (Fr.refl _ _)
/-- numbers, texts, truths, None -/
def scalD (x y : DV) : Bool := match x, y with
  | .non, .non | .bl _, .bl _ | .int _, .int _ | .str _, .str _ => true
  | _, _ => false
theorem scalD_eq {ρ : List Addr} {x y : DV} (h : scalD x y = true) : scal (dV K ρ x) (dV K ρ y) = true ∧ decide (dV K ρ x = dV K ρ y) = decide (x = y) := by
  unfold scalD at h
  split at h
  · exact ⟨rfl, rfl⟩
  · exact ⟨rfl, by simp [dV]⟩
  · exact ⟨rfl, by simp [dV]⟩
  · exact ⟨rfl, by simp [dV]⟩
  · cases h
instance : EvR K rEq where
  run := fun S x y => if scalD x y = true then retS (.bl (decide (x = y))) S else none
  good := fun {S x y q} h wx wy => by
    split at h
    · exact ret_good h rfl
    · cases h
  ok := fun {S x y q ρ H Q E} h wx wy R p => by
    split at h
    · rename_i hs
      obtain ⟨e1, e2⟩ := scalD_eq (K := K) (ρ := ρ) hs
      refine ⟨e1, ?_⟩
      rw [e2]
      exact ret_post (E := E) h R p
    · cases h
instance : EvR K rNe where
  run := fun S x y => if scalD x y = true then retS (.bl (!decide (x = y))) S else none
  good := fun {S x y q} h wx wy => by
    split at h
    · exact ret_good h rfl
    · cases h
  ok := fun {S x y q ρ H Q E} h wx wy R p => by
    split at h
    · rename_i hs
      obtain ⟨e1, e2⟩ := scalD_eq (K := K) (ρ := ρ) hs
      refine ⟨e1, ?_⟩
      rw [e2]
      exact ret_post (E := E) h R p
    · cases h
/-- numbers in, a scalar out -/
instance (f : Int → Int → V) [c : ∀ i j, CstV K (f i j)] : EvR K (rI0 f) where
  run := fun S x y => match x, y with
    | .int i, .int j => retS (c i j).d S
    | _, _ => none
  good := fun {S x y q} h wx wy => by
    split at h
    · exact ret_good h (wf_le (Nat.zero_le _) (c _ _).wf0)
    · cases h
  ok := fun {S x y q ρ H Q E} h wx wy R p => by
    split at h
    · rename_i i j
      refine ⟨i, j, rfl, rfl, ?_⟩
      have z := ret_post (E := E) h R p
      rw [(c i j).ok ρ] at z
      exact z
    · cases h
end RunX
set_option maxHeartbeats 4000000
namespace RunX
open PySem PySem.Spec PyProof.Rows L2 He
variable {K : PySem.W.Frag} {E : XK}
/-! ### tests -/
def PostT (K : PySem.W.Frag) (E : XK) (ρ : List Addr) (H : Hp) (Q : Bool → Hp → Prop) : Res → Prop
  | .ret (.bl b) S => ∀ ρ' H', Rep K ρ' S H' → Fr ρ H ρ' H' → Q b H'
  | .ret _ _ => False
  | .exc C d S => PostX K E ρ H C d S
class EvT (K : PySem.W.Frag) (E : XK) (tt : TT) where
  run : List (Option DV) → List DO → Option Res
  good : ∀ {σ S r}, run σ S = some r → wfS S.length σ = true → good S.length r = true
  ok : ∀ {σ S r ρ H Q}, run σ S = some r → wfS S.length σ = true → Rep K ρ S H → PostT K E ρ H Q r → tt (dSt K ρ σ) H Q
theorem postT_e {ρ : List Addr} {H : Hp} {Q : Bool → Hp → Prop} {r : Res} (p : PostT K E ρ H Q r) : Post K E ρ H (fun x H' => ∃ c, x = .bl c ∧ Q c H') r := by
  cases r with
  | ret v S =>
    cases v with
    | bl b => exact fun ρ' H' R F => ⟨b, rfl, p ρ' H' R F⟩
    | _ => exact (show False from p).elim
  | exc C d S => exact p
instance (te : TE) [e : EvE K E te] : EvT K E (tB te) where
  run := e.run
  good := e.good
  ok := fun {σ S r ρ H Q} h w R p => e.ok h w R (postT_e p)
instance (te : TE) [e : EvE K E te] : EvT K E (tTest te) where
  run := e.run
  good := e.good
  ok := fun {σ S r ρ H Q} h w R p => e.ok h w R (postT_e p)
def bindT (r : Option Res) (f : Bool → List DO → Option Res) : Option Res := match r with
  | some (.ret (.bl b) S) => f b S
  | some (.ret _ _) => none
  | some (.exc C d S) => some (.exc C d S)
  | none => none
theorem bindT_good {σ : List (Option DV)} {S : List DO} {r : Res} {tt : TT} [e : EvT K E tt] {f : Bool → List DO → Option Res} (h : bindT (e.run σ S) f = some r) (w : wfS S.length σ = true)
    (g : ∀ {b S1 r}, S.length ≤ S1.length → f b S1 = some r → good S1.length r = true) : good S.length r = true := by
  unfold bindT at h
  split at h
  · rename_i b S1 h1
    obtain ⟨l1, w1⟩ := ba (e.good h1 w)
    have l1 := of_decide_eq_true l1
    have z := g l1 h
    cases r with
    | ret v2 S2 =>
      obtain ⟨l2, w2⟩ := ba z
      show (decide _ && _) = true
      rw [w2, decide_eq_true (Nat.le_trans l1 (of_decide_eq_true l2))]
      rfl
    | exc C d S2 => exact decide_eq_true (Nat.le_trans l1 (of_decide_eq_true z))
  · cases h
  · rename_i C d S1 h1
    cases h
    exact e.good h1 w
  · cases h
theorem PostT.of {ρ ρ1 : List Addr} {S1 : List DO} {H H1 : Hp} {Q : Bool → Hp → Prop} {r : Res} (p : PostT K E ρ H Q r) (R : Rep K ρ1 S1 H1) (f : Fr ρ H ρ1 H1) : PostT K E ρ1 H1 Q r := by
  cases r with
  | ret v S =>
    cases v with
    | bl b => exact fun ρ2 H2 R2 F2 => p ρ2 H2 R2 (f.trans R F2)
    | _ => exact p
  | exc C d S => exact PostX.of p R f
theorem bindT_ok {σ : List (Option DV)} {S : List DO} {r : Res} {tt : TT} [e : EvT K E tt] {f : Bool → List DO → Option Res} {ρ : List Addr} {H : Hp} {Q Q1 : Bool → Hp → Prop} (h : bindT (e.run σ S) f = some r) (w : wfS S.length σ = true) (R : Rep K ρ S H) (p : PostT K E ρ H Q r)
    (k : ∀ {b S1 ρ1 H1}, S.length ≤ S1.length → f b S1 = some r → Rep K ρ1 S1 H1 → Fr ρ H ρ1 H1 → dSt K ρ1 σ = dSt K ρ σ → PostT K E ρ1 H1 Q r → Q1 b H1) : tt (dSt K ρ σ) H Q1 := by
  unfold bindT at h
  split at h
  · rename_i b S1 h1
    obtain ⟨l1, w1⟩ := ba (e.good h1 w)
    have l1 := of_decide_eq_true l1
    exact e.ok h1 w R fun ρ1 H1 R1 F1 => k l1 h R1 F1 (F1.le R.len w) (PostT.of p R1 F1)
  · cases h
  · rename_i C d S1 h1
    cases h
    exact e.ok h1 w R p
  · cases h
instance (ta : TT) [a : EvT K E ta] : EvT K E (tNot ta) where
  run := fun σ S => bindT (a.run σ S) fun b S1 => retS (.bl !b) S1
  good := fun {σ S r} h w => bindT_good (tt := ta) h w fun {b S1 r} l h => ret_good h rfl
  ok := fun {σ S r ρ H Q} h w R p => bindT_ok (tt := ta) h w R p fun {b S1 ρ1 H1} l h R1 F1 eσ p => by
    cases h
    exact p ρ1 H1 R1 (Fr.refl _ _)
instance (ta tb : TT) [a : EvT K E ta] [b : EvT K E tb] : EvT K E (tAnd ta tb) where
  run := fun σ S => bindT (a.run σ S) fun c S1 => if c = true then b.run σ S1 else retS (.bl false) S1
  good := fun {σ S r} h w => bindT_good (tt := ta) h w fun {c S1 r} l h => by
    split at h
    · exact b.good h (wfS_le l w)
    · exact ret_good h rfl
  ok := fun {σ S r ρ H Q} h w R p => bindT_ok (tt := ta) h w R p fun {c S1 ρ1 H1} l h R1 F1 eσ p => by
    cases c with
    | true =>
      show tb _ _ _
      rw [← eσ]
      exact b.ok h (wfS_le l w) R1 p
    | false =>
      cases h
      exact p ρ1 H1 R1 (Fr.refl _ _)
instance (ta tb : TT) [a : EvT K E ta] [b : EvT K E tb] : EvT K E (tOr ta tb) where
  run := fun σ S => bindT (a.run σ S) fun c S1 => if c = true then retS (.bl true) S1 else b.run σ S1
  good := fun {σ S r} h w => bindT_good (tt := ta) h w fun {c S1 r} l h => by
    split at h
    · exact ret_good h rfl
    · exact b.good h (wfS_le l w)
  ok := fun {σ S r ρ H Q} h w R p => bindT_ok (tt := ta) h w R p fun {c S1 ρ1 H1} l h R1 F1 eσ p => by
    cases c with
    | false =>
      show tb _ _ _
      rw [← eσ]
      exact b.ok h (wfS_le l w) R1 p
    | true =>
      cases h
      exact p ρ1 H1 R1 (Fr.refl _ _)
/-! ### statements -/
inductive Out where
  | nx (σ : List (Option DV)) (S : List DO)
  | rt (v : DV) (S : List DO)
  | bk (σ : List (Option DV)) (S : List DO)
  | ct (σ : List (Option DV)) (S : List DO)
  | exc (C : Str) (d : Option Nat) (S : List DO)
def PostS (K : PySem.W.Frag) (E : XK) (ρ : List Addr) (H : Hp) (D : Ends) : Out → Prop
  | .nx σ S => ∀ ρ' H', Rep K ρ' S H' → Fr ρ H ρ' H' → D.nx (dSt K ρ' σ) H'
  | .rt v S => ∀ ρ' H', Rep K ρ' S H' → Fr ρ H ρ' H' → D.rt (dV K ρ' v) H'
  | .bk σ S => ∀ ρ' H', Rep K ρ' S H' → Fr ρ H ρ' H' → D.bk (dSt K ρ' σ) H'
  | .ct σ S => ∀ ρ' H', Rep K ρ' S H' → Fr ρ H ρ' H' → D.ct (dSt K ρ' σ) H'
  | .exc C d S => PostX K E ρ H C d S
def goodS (n : Nat) : Out → Bool
  | .nx σ S => decide (n ≤ S.length) && wfS S.length σ
  | .rt v S => decide (n ≤ S.length) && wf S.length v
  | .bk σ S => decide (n ≤ S.length) && wfS S.length σ
  | .ct σ S => decide (n ≤ S.length) && wfS S.length σ
  | .exc _ _ S => decide (n ≤ S.length)
theorem goodS_le {m n : Nat} (h : m ≤ n) {o : Out} (g : goodS n o = true) : goodS m o = true := by
  cases o with
  | exc C d S => exact decide_eq_true (Nat.le_trans h (of_decide_eq_true g))
  | nx σ S | rt σ S | bk σ S | ct σ S =>
    obtain ⟨l, w⟩ := ba g
    show (decide _ && _) = true
    rw [w, decide_eq_true (Nat.le_trans h (of_decide_eq_true l))]
    rfl
class EvS (K : PySem.W.Frag) (E : XK) (ts : TS) where
  run : List (Option DV) → List DO → Option Out
  good : ∀ {σ S o}, run σ S = some o → wfS S.length σ = true → goodS S.length o = true
  ok : ∀ {σ S o ρ H D}, run σ S = some o → wfS S.length σ = true → Rep K ρ S H → PostS K E ρ H D o → ts D (dSt K ρ σ) H
theorem PostS.of {ρ ρ1 : List Addr} {S1 : List DO} {H H1 : Hp} {D : Ends} {o : Out} (p : PostS K E ρ H D o) (R : Rep K ρ1 S1 H1) (f : Fr ρ H ρ1 H1) : PostS K E ρ1 H1 D o := by
  cases o with
  | exc C d S => exact PostX.of p R f
  | nx σ S => exact fun ρ2 H2 R2 F2 => p ρ2 H2 R2 (f.trans R F2)
  | rt σ S => exact fun ρ2 H2 R2 F2 => p ρ2 H2 R2 (f.trans R F2)
  | bk σ S => exact fun ρ2 H2 R2 F2 => p ρ2 H2 R2 (f.trans R F2)
  | ct σ S => exact fun ρ2 H2 R2 F2 => p ρ2 H2 R2 (f.trans R F2)
instance : EvS K E tNext where
  run := fun σ S => some (.nx σ S)
  good := fun {σ S o} h w => by
    cases h
    show (decide _ && _) = true
    rw [w]
    simp
  ok := fun {σ S o ρ H D} h w R p => by
    cases h
    exact p ρ H R (Fr.refl _ _)
/-- first x, then a statement's end -/
def bindX (r : Option Res) (f : DV → List DO → Option Out) : Option Out := match r with
  | some (.ret v S) => f v S
  | some (.exc C d S) => some (.exc C d S)
  | none => none
theorem bindX_good {σ : List (Option DV)} {S : List DO} {o : Out} {te : TE} [e : EvE K E te] {f : DV → List DO → Option Out} (h : bindX (e.run σ S) f = some o) (w : wfS S.length σ = true)
    (g : ∀ {v S1 o}, S.length ≤ S1.length → wf S1.length v = true → f v S1 = some o → goodS S1.length o = true) : goodS S.length o = true := by
  unfold bindX at h
  split at h
  · rename_i v S1 h1
    obtain ⟨l1, w1⟩ := ba (e.good h1 w)
    have l1 := of_decide_eq_true l1
    exact goodS_le l1 (g l1 w1 h)
  · rename_i C d S1 h1
    cases h
    exact e.good h1 w
  · cases h
theorem bindX_ok {σ : List (Option DV)} {S : List DO} {o : Out} {te : TE} [e : EvE K E te] {f : DV → List DO → Option Out} {ρ : List Addr} {H : Hp} {D : Ends} {Q1 : VK} (h : bindX (e.run σ S) f = some o) (w : wfS S.length σ = true) (R : Rep K ρ S H) (p : PostS K E ρ H D o)
    (k : ∀ {v S1 ρ1 H1}, S.length ≤ S1.length → wf S1.length v = true → f v S1 = some o → Rep K ρ1 S1 H1 → Fr ρ H ρ1 H1 → dSt K ρ1 σ = dSt K ρ σ → PostS K E ρ1 H1 D o → Q1 (dV K ρ1 v) H1) : te (dSt K ρ σ) H Q1 := by
  unfold bindX at h
  split at h
  · rename_i v S1 h1
    obtain ⟨l1, w1⟩ := ba (e.good h1 w)
    have l1 := of_decide_eq_true l1
    exact e.ok h1 w R fun ρ1 H1 R1 F1 => k l1 w1 h R1 F1 (F1.le R.len w) (PostS.of p R1 F1)
  · rename_i C d S1 h1
    cases h
    exact e.ok h1 w R p
  · cases h
instance (te : TE) [e : EvE K E te] : EvS K E (tRet te) where
  run := fun σ S => bindX (e.run σ S) fun v S1 => some (.rt v S1)
  good := fun {σ S o} h w => bindX_good (te := te) h w fun {v S1 o} l wv h => by
    cases h
    show (decide _ && _) = true
    rw [wv]
    simp
  ok := fun {σ S o ρ H D} h w R p => bindX_ok (te := te) h w R p fun {v S1 ρ1 H1} l wv h R1 F1 eσ p => by
    cases h
    exact p ρ1 H1 R1 (Fr.refl _ _)
instance (te : TE) [e : EvE K E te] : EvS K E (tDrop te) where
  run := fun σ S => bindX (e.run σ S) fun v S1 => some (.nx σ S1)
  good := fun {σ S o} h w => bindX_good (te := te) h w fun {v S1 o} l wv h => by
    cases h
    show (decide _ && _) = true
    rw [wfS_le l w]
    simp
  ok := fun {σ S o ρ H D} h w R p => bindX_ok (te := te) h w R p fun {v S1 ρ1 H1} l wv h R1 F1 eσ p => by
    cases h
    have z := p ρ1 H1 R1 (Fr.refl _ _)
    rw [eσ] at z
    exact z
theorem wfS_set {n : Nat} {σ : List (Option DV)} {i : Nat} {v : DV} (w : wfS n σ = true) (wv : wf n v = true) : wfS n (σ.set i (some v)) = true :=
  List.all_eq_true.mpr fun x hx => by
    rcases List.mem_or_eq_of_mem_set hx with q | q
    · exact List.all_eq_true.mp w x q
    · rw [q]
      exact wv
theorem dSt_set {ρ : List Addr} {σ : List (Option DV)} {i : Nat} {v : DV} : dSt K ρ (σ.set i (some v)) = (dSt K ρ σ).set i (some (dV K ρ v)) := by
  unfold dSt
  rw [List.map_set]
  rfl
instance (te : TE) (i : Nat) [e : EvE K E te] : EvS K E (tAsg te (gName i)) where
  run := fun σ S => bindX (e.run σ S) fun v S1 => some (.nx (σ.set i (some v)) S1)
  good := fun {σ S o} h w => bindX_good (te := te) h w fun {v S1 o} l wv h => by
    cases h
    show (decide _ && _) = true
    rw [wfS_set (wfS_le l w) wv]
    simp
  ok := fun {σ S o ρ H D} h w R p => bindX_ok (te := te) h w R p fun {v S1 ρ1 H1} l wv h R1 F1 eσ p => by
    cases h
    have z := p ρ1 H1 R1 (Fr.refl _ _)
    rw [dSt_set, eσ] at z
    exact z
instance (t u : TS) [a : EvS K E t] [b : EvS K E u] : EvS K E (tSeq t u) where
  run := fun σ S => match a.run σ S with
    | some (.nx σ1 S1) => b.run σ1 S1
    | r => r
  good := fun {σ S o} h w => by
    split at h
    · rename_i σ1 S1 h1
      obtain ⟨l1, w1⟩ := ba (a.good h1 w)
      exact goodS_le (of_decide_eq_true l1) (b.good h w1)
    · exact a.good h w
  ok := fun {σ S o ρ H D} h w R p => by
    split at h
    · rename_i σ1 S1 h1
      obtain ⟨l1, w1⟩ := ba (a.good h1 w)
      exact a.ok h1 w R fun ρ1 H1 R1 F1 => b.ok h w1 R1 (PostS.of p R1 F1)
    · rename_i hn
      refine a.ok h w R ?_
      cases o with
      | nx σ1 S1 => exact (hn σ1 S1 h).elim
      | rt v S1 => exact p
      | bk σ1 S1 => exact p
      | ct σ1 S1 => exact p
      | exc C d S1 => exact p
instance (c : TT) (t u : TS) [x : EvT K E c] [a : EvS K E t] [b : EvS K E u] : EvS K E (tIfS c t u) where
  run := fun σ S => match x.run σ S with
    | some (.ret (.bl true) S1) => a.run σ S1
    | some (.ret (.bl false) S1) => b.run σ S1
    | some (.exc C d S1) => some (.exc C d S1)
    | _ => none
  good := fun {σ S o} h w => by
    split at h
    · rename_i S1 h1
      obtain ⟨l1, _⟩ := ba (x.good h1 w)
      have l1 := of_decide_eq_true l1
      exact goodS_le l1 (a.good h (wfS_le l1 w))
    · rename_i S1 h1
      obtain ⟨l1, _⟩ := ba (x.good h1 w)
      have l1 := of_decide_eq_true l1
      exact goodS_le l1 (b.good h (wfS_le l1 w))
    · rename_i C d S1 h1
      cases h
      exact x.good h1 w
    · cases h
  ok := fun {σ S o ρ H D} h w R p => by
    split at h
    · rename_i S1 h1
      obtain ⟨l1, _⟩ := ba (x.good h1 w)
      have l1 := of_decide_eq_true l1
      refine x.ok h1 w R fun ρ1 H1 R1 F1 => ?_
      show t D _ H1
      rw [← F1.le R.len w]
      exact a.ok h (wfS_le l1 w) R1 (PostS.of p R1 F1)
    · rename_i S1 h1
      obtain ⟨l1, _⟩ := ba (x.good h1 w)
      have l1 := of_decide_eq_true l1
      refine x.ok h1 w R fun ρ1 H1 R1 F1 => ?_
      show u D _ H1
      rw [← F1.le R.len w]
      exact b.ok h (wfS_le l1 w) R1 (PostS.of p R1 F1)
    · rename_i C d S1 h1
      cases h
      exact x.ok h1 w R p
    · cases h
end RunX
set_option maxHeartbeats 4000000
namespace RunX
open PySem PySem.Spec PyProof.Rows L2 He
variable {K : PySem.W.Frag} {E : XK}
/-! ### defs -/
/-- what a def answers -/
structure DefR where
  run : List DV → List DO → Option Res
  good : ∀ {ds S r}, run ds S = some r → ds.all (wf S.length) = true → good S.length r = true
/-- its promise -/
def spOf (K : PySem.W.Frag) (d : DefR) : Sp := fun vs H Q E => ∃ ρ S ds r, Rep K ρ S H ∧ vs = ds.map (dV K ρ) ∧ ds.all (wf S.length) = true ∧ d.run ds S = some r ∧ Post K E ρ H Q r
class EvSp (K : PySem.W.Frag) (sp : Sp) where
  d : DefR
  ok : ∀ {ds S r ρ H Q E}, d.run ds S = some r → ds.all (wf S.length) = true → Rep K ρ S H → Post K E ρ H Q r → sp (ds.map (dV K ρ)) H Q E
instance (d : DefR) : EvSp K (spOf K d) := ⟨d, fun {ds S r ρ H Q E} h w R p => ⟨ρ, S, ds, r, R, rfl, w, h, p⟩⟩
def bindA (r : Option ResA) (f : List DV → List DO → Option Res) : Option Res := match r with
  | some (.ret vs S) => f vs S
  | some (.exc C d S) => some (.exc C d S)
  | none => none
theorem bindA_good {σ : List (Option DV)} {S : List DO} {r : Res} {ta : TA} [e : EvA K E ta] {f : List DV → List DO → Option Res} (h : bindA (e.run σ S) f = some r) (w : wfS S.length σ = true)
    (g : ∀ {vs S1 r}, S.length ≤ S1.length → vs.all (wf S1.length) = true → f vs S1 = some r → good S1.length r = true) : good S.length r = true := by
  unfold bindA at h
  split at h
  · rename_i vs S1 h1
    obtain ⟨l1, w1⟩ := ba (e.good h1 w)
    have l1 := of_decide_eq_true l1
    have z := g l1 w1 h
    cases r with
    | ret v2 S2 =>
      obtain ⟨l2, w2⟩ := ba z
      show (decide _ && _) = true
      rw [w2, decide_eq_true (Nat.le_trans l1 (of_decide_eq_true l2))]
      rfl
    | exc C d S2 => exact decide_eq_true (Nat.le_trans l1 (of_decide_eq_true z))
  · rename_i C d S1 h1
    cases h
    exact e.good h1 w
  · cases h
theorem bindA_ok {σ : List (Option DV)} {S : List DO} {r : Res} {ta : TA} [e : EvA K E ta] {f : List DV → List DO → Option Res} {ρ : List Addr} {H : Hp} {Q : VK} {Q1 : List V → Hp → Prop} (h : bindA (e.run σ S) f = some r) (w : wfS S.length σ = true) (R : Rep K ρ S H) (p : Post K E ρ H Q r)
    (k : ∀ {vs S1 ρ1 H1}, S.length ≤ S1.length → vs.all (wf S1.length) = true → f vs S1 = some r → Rep K ρ1 S1 H1 → Fr ρ H ρ1 H1 → Post K E ρ1 H1 Q r → Q1 (vs.map (dV K ρ1)) H1) : ta (dSt K ρ σ) H Q1 := by
  unfold bindA at h
  split at h
  · rename_i v S1 h1
    obtain ⟨l1, w1⟩ := ba (e.good h1 w)
    have l1 := of_decide_eq_true l1
    exact e.ok h1 w R fun ρ1 H1 R1 F1 => k l1 w1 h R1 F1 (Post.of p R1 F1)
  · rename_i C d S1 h1
    cases h
    exact e.ok h1 w R p
  · cases h
/-- f(..), an exception goes on -/
instance (sp : Sp) (ta : TA) [a : EvA K E ta] [s : EvSp K sp] : EvE K E (tCall sp [] E ta) where
  run := fun σ S => bindA (a.run σ S) fun vs S1 => s.d.run vs S1
  good := fun {σ S r} h w => bindA_good (ta := ta) h w fun {vs S1 r} l wv h => s.d.good h wv
  ok := fun {σ S r ρ H Q} h w R p => bindA_ok (ta := ta) h w R p fun {vs S1 ρ1 H1} l wv h R1 F1 p => by
    rw [List.append_nil]
    exact s.ok h wv R1 p
/-- f(..), f raises nothing -/
def onlyRet (r : Option Res) : Option Res := match r with
  | some (.ret v S) => some (.ret v S)
  | _ => none
theorem onlyRet_eq {r : Option Res} {q : Res} (h : onlyRet r = some q) : ∃ v S, r = some (.ret v S) ∧ q = .ret v S := by
  unfold onlyRet at h
  split at h
  · rename_i v S
    cases h
    exact ⟨v, S, rfl, rfl⟩
  · cases h
instance (priority := 1100) (sp : Sp) (ta : TA) [a : EvA K E ta] [s : EvSp K sp] : EvE K E (tCall sp [] E0 ta) where
  run := fun σ S => bindA (a.run σ S) fun vs S1 => onlyRet (s.d.run vs S1)
  good := fun {σ S r} h w => bindA_good (ta := ta) h w fun {vs S1 r} l wv h => by
    obtain ⟨v, S2, h1, rfl⟩ := onlyRet_eq h
    exact s.d.good h1 wv
  ok := fun {σ S r ρ H Q} h w R p => bindA_ok (ta := ta) h w R p fun {vs S1 ρ1 H1} l wv h R1 F1 p => by
    rw [List.append_nil]
    obtain ⟨v, S2, h1, rfl⟩ := onlyRet_eq h
    exact s.ok h1 wv R1 p
/-- a wish of its own name: at it a body is run (E0, within a reading, says that a callee raises nothing) -/
def EN : XK := fun _ _ _ => False
/-! ### a def's own answer out of its body's -/
def endR (o : Option Out) : Option Res := match o with
  | some (.rt v S) => some (.ret v S)
  | some (.nx _ S) => some (.ret .non S)
  | some (.exc C d S) => some (.exc C d S)
  | _ => none
def startD (N : List Str) (ds : List DV) : List (Option DV) := ds.map some ++ List.replicate (N.length - ds.length) none
theorem start_eq {ρ : List Addr} {N : List Str} {ds : List DV} : dSt K ρ (startD N ds) = L2.start N (ds.map (dV K ρ)) := by
  unfold dSt startD L2.start
  simp [List.map_append, List.map_replicate]
theorem start_wf {n : Nat} {N : List Str} {ds : List DV} (w : ds.all (wf n) = true) : wfS n (startD N ds) = true :=
  List.all_eq_true.mpr fun x hx => by
    rcases List.mem_append.mp hx with q | q
    · obtain ⟨v, hv, rfl⟩ := List.mem_map.mp q
      exact List.all_eq_true.mp w v hv
    · rw [(List.mem_replicate.mp q).2]
/-- the body's reading ts E gives the def's answer (run at the wish that nothing is raised: the run itself does not look at the wish) -/
def bodyR (N : List Str) (ps : List Str) (ts : TS) [b : EvS K EN ts] : DefR where
  run := fun ds S => if ds.length = ps.length then endR (b.run (startD N ds) S) else none
  good := fun {ds S r} h w => by
    split at h
    · unfold endR at h
      split at h
      · rename_i v S1 h1
        cases h
        exact b.good h1 (start_wf w)
      · rename_i σ1 S1 h1
        cases h
        obtain ⟨l, _⟩ := ba (b.good h1 (start_wf w))
        show (decide _ && true) = true
        rw [l]
        rfl
      · rename_i C d S1 h1
        cases h
        exact b.good h1 (start_wf w)
      · cases h
    · cases h
theorem body_ok {N ps : List Str} {ts ts' : TS} [b : EvS K EN ts] [c : EvS K E ts'] (e : c.run = b.run) {vs : List V} {H : Hp} {Q : VK} (h : spOf K (bodyR (K := K) N ps ts) vs H Q E) : ts' { nx := fun _ H' => Q .non H', rt := Q } (L2.start N vs) H := by
  obtain ⟨ρ, S, ds, r, R, rfl, w, h, p⟩ := h
  simp only [bodyR] at h
  split at h
  · rw [← start_eq]
    unfold endR at h
    split at h
    · rename_i v S1 h1
      cases h
      rw [← e] at h1
      exact c.ok h1 (start_wf w) R p
    · rename_i σ1 S1 h1
      cases h
      rw [← e] at h1
      exact c.ok h1 (start_wf w) R p
    · rename_i C d S1 h1
      cases h
      rw [← e] at h1
      exact c.ok h1 (start_wf w) R p
    · cases h
  · cases h
theorem body_len {N ps : List Str} {ts : TS} [b : EvS K EN ts] {vs : List V} {H : Hp} {Q : VK} (h : spOf K (bodyR (K := K) N ps ts) vs H Q E) : vs.length = ps.length := by
  obtain ⟨ρ, S, ds, r, R, rfl, w, h, p⟩ := h
  simp only [bodyR] at h
  split at h
  · rename_i hl
    rw [List.length_map]
    exact hl
  · cases h
/-! ### built-in functions -/
class EvB (K : PySem.W.Frag) (r : List V → Hp → VK → Prop) where
  run : List DV → List DO → Option Res
  good : ∀ {ds S q}, run ds S = some q → ds.all (wf S.length) = true → good S.length q = true
  ok : ∀ {ds S q ρ H Q} {E : XK}, run ds S = some q → ds.all (wf S.length) = true → Rep K ρ S H → Post K E ρ H Q q → r (ds.map (dV K ρ)) H Q
instance (r : List V → Hp → VK → Prop) (ta : TA) [a : EvA K E ta] [b : EvB K r] : EvE K E (tCB r ta) where
  run := fun σ S => bindA (a.run σ S) fun vs S1 => b.run vs S1
  good := fun {σ S r} h w => bindA_good (ta := ta) h w fun {vs S1 r} l wv h => b.good h wv
  ok := fun {σ S r ρ H Q} h w R p => bindA_ok (ta := ta) h w R p fun {vs S1 ρ1 H1} l wv h R1 F1 p => b.ok h wv R1 p
/-- the object at n -/
theorem Rep.get {ρ : List Addr} {S : List DO} {H : Hp} {n : Nat} {o : DO} (R : Rep K ρ S H) (h : S[n]? = some o) (po : plainO o = true := by rfl) : H (ρ.getD n 0) = some (dO K ρ o) ∧ wfO S.length o = true := by
  have hn : n < ρ.length := by
    rw [R.len]
    exact (List.getElem?_eq_some_iff.mp h).1
  obtain ⟨u, eu, sh⟩ := R.obj n o (ρ.getD n 0) h (by rw [List.getD_eq_getElem?_getD, List.getElem?_eq_getElem hn]; rfl)
  rw [sh.eq po] at eu
  exact ⟨eu, R.wf o (List.mem_of_getElem? h)⟩
/-- the type's name of a value -/
def tyD (S : List DO) : DV → Option String
  | .non => some "NoneType"
  | .bl _ => some "bool"
  | .int _ => some "int"
  | .str _ => some "str"
  | .ref n => (match S[n]? with
    | some (.lst _) => some "list"
    | some (.tup _) => some "tuple"
    | some (.dK _) => some "dict"
    | some (.dT _) => some "dict"
    | _ => none)
  | _ => none
theorem tyD_ok {ρ : List Addr} {S : List DO} {H : Hp} {v : DV} {t : String} (R : Rep K ρ S H) (h : tyD S v = some t) : TyOf K H (dV K ρ v) (.type t) := by
  unfold tyD at h
  split at h
  · cases h; exact .non
  · cases h; exact .bl _
  · cases h; exact .int _
  · cases h; exact .str _
  · split at h
    · rename_i n _ _ e; cases h; exact .lst (R.get e).1
    · rename_i n _ _ e; cases h; exact .tup (R.get e).1
    · rename_i n _ _ e; cases h; exact .dK (R.get e).1
    · rename_i n _ _ e; cases h; exact .dT (R.get e).1
    · cases h
  · cases h
def lenD (S : List DO) : DV → Option Nat
  | .ref n => (match S[n]? with
    | some (.lst xs) => some xs.length
    | some (.tup xs) => some xs.length
    | _ => none)
  | _ => none
end RunX
set_option maxHeartbeats 4000000
namespace RunX
open PySem PySem.Spec PyProof.Rows L2 He
variable {K : PySem.W.Frag} {E : XK}
instance : EvB K (rIsi K) where
  run := fun ds S => match ds with
    | [x, .ty n] => (match tyD S x with
      | some t => (match PySem.W.kitOne K (.type t) (.type n) with
        | some b => retS (.bl b) S
        | none => none)
      | none => none)
    | _ => none
  good := fun {ds S q} h w => by
    split at h
    · split at h
      · split at h
        · exact ret_good h rfl
        · cases h
      · cases h
    · cases h
  ok := fun {ds S q ρ H Q E} h w R p => by
    split at h
    · rename_i x n
      split at h
      · rename_i t ht
        split at h
        · rename_i b hb
          exact ⟨_, _, _, _, b, rfl, .ty n, .base (tyD_ok R ht), hb, ret_post (E := E) h R p⟩
        · cases h
      · cases h
    · cases h
instance : EvB K (rLen K) where
  run := fun ds S => match ds with
    | [.str y] => if y.length ≤ 100000 then retS (.int y.length) S else none
    | [.ref n] => (match S[n]? with
      | some (.lst xs) => retS (.int xs.length) S
      | some (.tup xs) => retS (.int xs.length) S
      | _ => none)
    | _ => none
  good := fun {ds S q} h w => by
    split at h
    · split at h
      · exact ret_good h rfl
      · cases h
    · split at h
      · exact ret_good h rfl
      · exact ret_good h rfl
      · cases h
    · cases h
  ok := fun {ds S q ρ H Q E} h w R p => by
    split at h
    · rename_i y
      split at h
      · rename_i hl
        exact ⟨_, y.length, rfl, ⟨Nat.le_trans hl (by decide), rfl⟩, ret_post (E := E) h R p⟩
      · cases h
    · rename_i n
      split at h
      · rename_i xs e
        exact ⟨_, xs.length, rfl, .inl ⟨_, SqL.of (R.get e).1, by rw [List.length_map]⟩, ret_post (E := E) h R p⟩
      · rename_i xs e
        exact ⟨_, xs.length, rfl, .inr ⟨_, SqT.of (R.get e).1, by rw [List.length_map]⟩, ret_post (E := E) h R p⟩
      · cases h
    · cases h
theorem atI_map {ρ : List Addr} {xs : List DV} {i : Int} {v : DV} (h : atI xs i = some v) : atI (xs.map (dV K ρ)) i = some (dV K ρ v) := by
  unfold atI at h ⊢
  rw [List.length_map]
  obtain ⟨j, h1, h2⟩ := Option.bind_eq_some_iff.mp h
  refine Option.bind_eq_some_iff.mpr ⟨j, h1, ?_⟩
  rw [List.getElem?_map, h2]
  rfl
instance : EvR K (rIxL K) where
  run := fun S x y => match x, y with
    | .ref n, .int i => (match S[n]? with
      | some (.lst xs) => (match atI xs i with
        | some v => if wf S.length v = true then retS v S else none
        | none => none)
      | _ => none)
    | _, _ => none
  good := fun {S x y q} h wx wy => by
    split at h
    · split at h
      · split at h
        · split at h
          · rename_i hw
            exact ret_good h hw
          · cases h
        · cases h
      · cases h
    · cases h
  ok := fun {S x y q ρ H Q E} h wx wy R p => by
    split at h
    · split at h
      · rename_i xs e
        split at h
        · rename_i v hv
          split at h
          · exact ⟨_, _, _, _, rfl, rfl, SqL.of (R.get e).1, atI_map hv, ret_post (E := E) h R p⟩
          · cases h
        · cases h
      · cases h
    · cases h
instance : EvR K (rIxT K) where
  run := fun S x y => match x, y with
    | .ref n, .int i => (match S[n]? with
      | some (.tup xs) => (match atI xs i with
        | some v => if wf S.length v = true then retS v S else none
        | none => none)
      | _ => none)
    | _, _ => none
  good := fun {S x y q} h wx wy => by
    split at h
    · split at h
      · split at h
        · split at h
          · rename_i hw
            exact ret_good h hw
          · cases h
        · cases h
      · cases h
    · cases h
  ok := fun {S x y q ρ H Q E} h wx wy R p => by
    split at h
    · split at h
      · rename_i xs e
        split at h
        · rename_i v hv
          split at h
          · exact ⟨_, _, _, _, rfl, rfl, SqT.of (R.get e).1, atI_map hv, ret_post (E := E) h R p⟩
          · cases h
        · cases h
      · cases h
    · cases h
end RunX
set_option maxHeartbeats 4000000
namespace RunX
open PySem PySem.Spec PyProof.Rows L2 He
variable {K : PySem.W.Frag} {E : XK}
/-! ### targets -/
class EvG (K : PySem.W.Frag) (g : TG) where
  run : DV → List (Option DV) → List DO → Option (List (Option DV))
  wf_ : ∀ {v σ S σ'}, run v σ S = some σ' → wf S.length v = true → wfS S.length σ = true → wfS S.length σ' = true
  ok : ∀ {v σ S σ' ρ H Q}, run v σ S = some σ' → Rep K ρ S H → Q (dSt K ρ σ') H → g (dV K ρ v) (dSt K ρ σ) H Q
instance (i : Nat) : EvG K (gName i) where
  run := fun v σ _ => some (σ.set i (some v))
  wf_ := fun {v σ S σ'} h wv w => by
    cases h
    exact wfS_set w wv
  ok := fun {v σ S σ' ρ H Q} h R q => by
    cases h
    show Q _ H
    rw [← dSt_set]
    exact q
/-! ### what a for goes over -/
inductive SrcD where
  | lst (n : Nat)
  | tup (n : Nat)
  | txt (z : Str)
def SrcD.at : SrcD → Nat → List DO → Option (Option DV)
  | .lst n, i, S => (match S[n]? with
    | some (.lst xs) => some xs[i]?
    | _ => none)
  | .tup n, i, S => (match S[n]? with
    | some (.tup xs) => some xs[i]?
    | _ => none)
  | .txt z, i, _ => some ((z.cps[i]?).map fun c => .str ⟨#[c]⟩)
def SrcD.len : SrcD → List DO → Option Nat
  | .lst n, S => (match S[n]? with
    | some (.lst xs) => some xs.length
    | _ => none)
  | .tup n, S => (match S[n]? with
    | some (.tup xs) => some xs.length
    | _ => none)
  | .txt z, _ => if z.cps.all (· < 128) = true then some z.cps.size else none
def kD : Key → DV
  | .inl i => .int i
  | .inr x => .str x
inductive ItD where
  | lst (n : Nat)
  | tup (n : Nat)
  | rng (lo : Int) (n : Nat)
  | str (z : Str)
  | keys (n : Nat)
  | vals (n : Nat)
  | items (n : Nat)
  | enum (n : Nat)
  | zip (a b : SrcD)
/-- its i-th turn, and the objects behind it: none: not told; some none: the end -/
def ItD.at : ItD → Nat → List DO → Option (Option (DV × List DO))
  | .lst n, i, S => (match S[n]? with
    | some (.lst xs) => some (xs[i]?.map fun x => (x, S))
    | _ => none)
  | .tup n, i, S => (match S[n]? with
    | some (.tup xs) => some (xs[i]?.map fun x => (x, S))
    | _ => none)
  | .rng lo n, i, S => if i < n then some (some (.int (lo + i), S)) else some none
  | .str z, i, S => some ((z.cps[i]?).map fun c => (.str ⟨#[c]⟩, S))
  | .keys n, i, S => (match S[n]? with
    | some (.frz kvs) => some (kvs[i]?.map fun x => (kD x.1, S))
    | _ => none)
  | .vals n, i, S => (match S[n]? with
    | some (.frz kvs) => some (kvs[i]?.map fun x => (x.2, S))
    | _ => none)
  | .items n, i, S => (match S[n]? with
    | some (.frz kvs) => some (kvs[i]?.map fun x => (.ref S.length, S ++ [.tup [kD x.1, x.2]]))
    | _ => none)
  | .enum n, i, S => (match S[n]? with
    | some (.lst xs) => some (xs[i]?.map fun x => (.ref S.length, S ++ [.tup [.int (i : Nat), x]]))
    | _ => none)
  | .zip a b, i, S => (match a.len S, b.len S with
    | some n, some m => if i < n ∧ i < m then (match a.at i S, b.at i S with
      | some (some x), some (some y) => some (some (.ref S.length, S ++ [.tup [x, y]]))
      | _, _ => none) else if i ≤ n ∧ i ≤ m ∧ (i = n ∨ i = m) then some none else none
    | _, _ => none)
/-- J is it, seen from ρ -/
structure ItOk (K : PySem.W.Frag) (ρ : List Addr) (H0 : Hp) (it : ItD) (J : It) : Prop where
  stop : ∀ {ρ' S H i}, Fr ρ H0 ρ' H → Rep K ρ' S H → it.at i S = some none → J.stop i H
  go : ∀ {ρ' S H i x}, Fr ρ H0 ρ' H → Rep K ρ' S H → it.at i S = some (some x) → J.go i H
  yld : ∀ {ρ' S S' H H' i x v}, Fr ρ H0 ρ' H → Rep K ρ' S H → it.at i S = some (some (x, S')) → J.yld i H v H' → ∃ ρ'', Rep K ρ'' S' H' ∧ Fr ρ' H ρ'' H' ∧ v = dV K ρ'' x
class EvI (K : PySem.W.Frag) (E : XK) (wi : TI) where
  run : List (Option DV) → List DO → Option (Sum (ItD × List DO) Res)
  good : ∀ {σ S it S1}, run σ S = some (.inl (it, S1)) → wfS S.length σ = true → S.length ≤ S1.length
  ok : ∀ {σ S q ρ H} {Qj : It → Hp → Prop}, run σ S = some q → wfS S.length σ = true → Rep K ρ S H →
    (match q with
      | .inl (it, S1) => ∀ ρ' H' J, Rep K ρ' S1 H' → Fr ρ H ρ' H' → ItOk K ρ' H' it J → Qj J H'
      | .inr (.exc C d S1) => PostX K E ρ H C d S1
      | .inr _ => False) → wi (dSt K ρ σ) H Qj
theorem Fr.at {ρ ρ' : List Addr} {H H' : Hp} {n : Nat} (f : Fr ρ H ρ' H') (h : n < ρ.length) : ρ'.getD n 0 = ρ.getD n 0 := by
  obtain ⟨m, e, _⟩ := f.pre
  rw [e]
  exact app_getD h
/-- nothing is laid -/
theorem yld0 {ρ : List Addr} {S S' : List DO} {H H' : Hp} {q : Option DV} {x : DV} {v : V} (R : Rep K ρ S H) (h : q.map (fun x => (x, S)) = some (x, S')) (eH : H' = H) (f : ∀ y, q = some y → v = dV K ρ y) : ∃ ρ'', Rep K ρ'' S' H' ∧ Fr ρ H ρ'' H' ∧ v = dV K ρ'' x := by
  obtain ⟨y, hy, e⟩ := Option.map_eq_some_iff.mp h
  cases e
  subst eH
  exact ⟨ρ, R, Fr.refl _ _, f _ hy⟩
theorem at_lst {n i : Nat} {S : List DO} {q} (h : (ItD.lst n).at i S = some q) : ∃ xs, S[n]? = some (.lst xs) ∧ xs[i]?.map (fun x => (x, S)) = q := by
  have h' : (match S[n]? with
    | some (.lst xs) => some (xs[i]?.map fun x => (x, S))
    | _ => none) = some q := h
  split at h'
  · rename_i xs hs
    exact ⟨xs, hs, Option.some.inj h'⟩
  · cases h'
theorem at_tup {n i : Nat} {S : List DO} {q} (h : (ItD.tup n).at i S = some q) : ∃ xs, S[n]? = some (.tup xs) ∧ xs[i]?.map (fun x => (x, S)) = q := by
  have h' : (match S[n]? with
    | some (.tup xs) => some (xs[i]?.map fun x => (x, S))
    | _ => none) = some q := h
  split at h'
  · rename_i xs hs
    exact ⟨xs, hs, Option.some.inj h'⟩
  · cases h'
theorem itl_ok {ρ : List Addr} {H0 : Hp} {n : Nat} (hn : n < ρ.length) : ItOk K ρ H0 (.lst n) (Itl K (ρ.getD n 0)) where
  stop := fun {ρ' S H i} e R h => by
    obtain ⟨xs, hs, hx⟩ := at_lst h
    have g := (R.get hs).1
    rw [e.at hn] at g
    exact ⟨_, SqL.of g, by rw [List.length_map]; exact List.getElem?_eq_none_iff.mp (Option.map_eq_none_iff.mp hx)⟩
  go := fun {ρ' S H i x} e R h => by
    obtain ⟨xs, hs, hx⟩ := at_lst h
    obtain ⟨y, hy, _⟩ := Option.map_eq_some_iff.mp hx
    have g := (R.get hs).1
    rw [e.at hn] at g
    exact ⟨_, _, SqL.of g, by rw [List.getElem?_map, hy]; rfl⟩
  yld := fun {ρ' S S' H H' i x v} e R h y => by
    obtain ⟨xs, hs, hx⟩ := at_lst h
    have g := (R.get hs).1
    rw [e.at hn] at g
    obtain ⟨eH, f⟩ := y
    refine yld0 R hx eH fun y hy => ?_
    have z := f _ (SqL.of g)
    rw [List.getElem?_map, hy] at z
    exact (Option.some.inj z).symm
theorem itt_ok {ρ : List Addr} {H0 : Hp} {n : Nat} (hn : n < ρ.length) : ItOk K ρ H0 (.tup n) (Itt K (ρ.getD n 0)) where
  stop := fun {ρ' S H i} e R h => by
    obtain ⟨xs, hs, hx⟩ := at_tup h
    have g := (R.get hs).1
    rw [e.at hn] at g
    exact ⟨_, SqT.of g, by rw [List.length_map]; exact List.getElem?_eq_none_iff.mp (Option.map_eq_none_iff.mp hx)⟩
  go := fun {ρ' S H i x} e R h => by
    obtain ⟨xs, hs, hx⟩ := at_tup h
    obtain ⟨y, hy, _⟩ := Option.map_eq_some_iff.mp hx
    have g := (R.get hs).1
    rw [e.at hn] at g
    exact ⟨_, _, SqT.of g, by rw [List.getElem?_map, hy]; rfl⟩
  yld := fun {ρ' S S' H H' i x v} e R h y => by
    obtain ⟨xs, hs, hx⟩ := at_tup h
    have g := (R.get hs).1
    rw [e.at hn] at g
    obtain ⟨eH, f⟩ := y
    refine yld0 R hx eH fun y hy => ?_
    have z := f _ (SqT.of g)
    rw [List.getElem?_map, hy] at z
    exact (Option.some.inj z).symm
theorem str_ok {ρ : List Addr} {H0 : Hp} {z : Str} : ItOk K ρ H0 (.str z) (Its z) where
  stop := fun {ρ' S H i} e R h => by
    have h' : (z.cps[i]?).map (fun c => (DV.str ⟨#[c]⟩, S)) = none := Option.some.inj h
    exact Array.getElem?_eq_none_iff.mp (Option.map_eq_none_iff.mp h')
  go := fun {ρ' S H i x} e R h => by
    have h' : (z.cps[i]?).map (fun c => (DV.str ⟨#[c]⟩, S)) = some x := Option.some.inj h
    obtain ⟨c, hc, _⟩ := Option.map_eq_some_iff.mp h'
    exact (Array.getElem?_eq_some_iff.mp hc).1
  yld := fun {ρ' S S' H H' i x v} e R h y => by
    have h' : (z.cps[i]?).map (fun c => (DV.str ⟨#[c]⟩, S)) = some (x, S') := Option.some.inj h
    obtain ⟨c, hc, hx⟩ := Option.map_eq_some_iff.mp h'
    obtain ⟨eH, c2, hc2, hv⟩ := y
    rw [hc] at hc2
    cases hc2
    cases hx
    subst eH
    exact ⟨ρ', R, Fr.refl _ _, hv⟩
/-! ### the loop -/
/-- k turns at most, from the i-th on -/
def loopD (f : List (Option DV) → List DO → Option Out) (g : DV → List (Option DV) → List DO → Option (List (Option DV))) (it : ItD) : Nat → Nat → List (Option DV) → List DO → Option Out
  | 0, _, _, _ => none
  | k + 1, i, σ, S => match it.at i S with
    | none => none
    | some none => some (.nx σ S)
    | some (some (x, S0)) => if S.length ≤ S0.length ∧ wf S0.length x = true then (match g x σ S0 with
      | none => none
      | some σ1 => (match f σ1 S0 with
        | some (.nx σ2 S2) => loopD f g it k (i + 1) σ2 S2
        | some (.ct σ2 S2) => loopD f g it k (i + 1) σ2 S2
        | some (.bk σ2 S2) => some (.nx σ2 S2)
        | r => r)) else none
section
variable {g : TG} {tb : TS} [eg : EvG K g] [eb : EvS K E tb]
theorem loop_good {it : ItD} : ∀ {k i : Nat} {σ : List (Option DV)} {S : List DO} {o : Out}, loopD eb.run eg.run it k i σ S = some o → wfS S.length σ = true → goodS S.length o = true
  | 0, _, _, _, _, h, _ => by
    unfold loopD at h
    cases h
  | k + 1, i, σ, S, o, h, w => by
    unfold loopD at h
    split at h
    · cases h
    · cases h
      show (decide _ && _) = true
      rw [w]
      simp
    · rename_i x S0 hx
      split at h
      · rename_i wx
        split at h
        · cases h
        · rename_i σ1 h1
          have w1 := eg.wf_ h1 wx.2 (wfS_le wx.1 w)
          split at h
          · rename_i σ2 S2 h2
            obtain ⟨l2, w2⟩ := ba (eb.good h2 w1)
            exact goodS_le (Nat.le_trans wx.1 (of_decide_eq_true l2)) (loop_good h w2)
          · rename_i σ2 S2 h2
            obtain ⟨l2, w2⟩ := ba (eb.good h2 w1)
            exact goodS_le (Nat.le_trans wx.1 (of_decide_eq_true l2)) (loop_good h w2)
          · rename_i σ2 S2 h2
            cases h
            have z : goodS S0.length (Out.bk σ2 S2) = true := eb.good h2 w1
            exact goodS_le wx.1 (o := .nx σ2 S2) z
          · exact goodS_le wx.1 (eb.good h w1)
      · cases h
theorem loop_ok {it : ItD} {J : It} {D : Ends} {ρ0 : List Addr} {H : Hp} (ok : ItOk K ρ0 H it J) {o : Out} {k : Nat} {σ : List (Option DV)} {S : List DO} (h : loopD eb.run eg.run it k 0 σ S = some o) (w : wfS S.length σ = true) (R : Rep K ρ0 S H) (p : PostS K E ρ0 H D o) :
    ∃ W : Nat → Nat → L2.St → Hp → Prop, (∃ m, W 0 m (dSt K ρ0 σ) H) ∧ ∀ i m σ H, W i m σ H →
      (J.stop i H ∧ D.nx σ H) ∨ (J.go i H ∧ ∃ N : L2.St → Hp → Prop, (∀ σ' H', N σ' H' → ∃ m', m' < m ∧ W (i + 1) m' σ' H') ∧ ∀ x H', J.yld i H x H' → g x σ H' fun σ2 H2 => tb { D with nx := N, ct := N, bk := D.nx } σ2 H2) := by
  refine ⟨fun i m σ' H' => ∃ ρ σd Sd, Fr ρ0 H ρ H' ∧ σ' = dSt K ρ σd ∧ Rep K ρ Sd H' ∧ wfS Sd.length σd = true ∧ loopD eb.run eg.run it m i σd Sd = some o ∧ PostS K E ρ H' D o, ⟨k, ρ0, σ, S, Fr.refl _ _, rfl, R, w, h, p⟩, ?_⟩
  rintro i m σ' H' ⟨ρ, σd, Sd, e, rfl, R, w, h, p⟩
  cases m with
  | zero =>
    unfold loopD at h
    cases h
  | succ k =>
    unfold loopD at h
    split at h
    · cases h
    · rename_i hx
      cases h
      exact .inl ⟨ok.stop e R hx, p ρ H' R (Fr.refl _ _)⟩
    · rename_i x S0 hx
      split at h
      · rename_i wx
        split at h
        · cases h
        · rename_i σ1 h1
          have w1 := eg.wf_ h1 wx.2 (wfS_le wx.1 w)
          refine .inr ⟨ok.go e R hx, fun σ'' H'' => ∃ ρ σd Sd, Fr ρ0 H ρ H'' ∧ σ'' = dSt K ρ σd ∧ Rep K ρ Sd H'' ∧ wfS Sd.length σd = true ∧ loopD eb.run eg.run it k (i + 1) σd Sd = some o ∧ PostS K E ρ H'' D o, fun σ'' H'' z => ⟨k, Nat.lt_succ_self k, z⟩, fun x' H'' y => ?_⟩
          obtain ⟨ρa, Ra, Fa, rfl⟩ := ok.yld e R hx y
          rw [← Fa.le R.len w]
          have p := PostS.of p Ra Fa
          refine eg.ok h1 Ra ?_
          have Fb := e.trans R Fa
          split at h
          · rename_i σ2 S2 h2
            obtain ⟨_, w2⟩ := ba (eb.good h2 w1)
            refine eb.ok h2 w1 Ra fun ρ2 H2 R2 F2 => ?_
            exact ⟨ρ2, σ2, S2, Fb.trans Ra F2, rfl, R2, w2, h, PostS.of p R2 F2⟩
          · rename_i σ2 S2 h2
            obtain ⟨_, w2⟩ := ba (eb.good h2 w1)
            refine eb.ok h2 w1 Ra fun ρ2 H2 R2 F2 => ?_
            exact ⟨ρ2, σ2, S2, Fb.trans Ra F2, rfl, R2, w2, h, PostS.of p R2 F2⟩
          · rename_i σ2 S2 h2
            cases h
            exact eb.ok h2 w1 Ra p
          · rename_i n1 n2 n3
            refine eb.ok h w1 Ra ?_
            cases o with
            | nx σ2 S2 => exact (n1 σ2 S2 h).elim
            | ct σ2 S2 => exact (n2 σ2 S2 h).elim
            | bk σ2 S2 => exact (n3 σ2 S2 h).elim
            | rt v S2 => exact p
            | exc C d S2 => exact p
      · cases h
instance (wi : TI) [ei : EvI K E wi] : EvS K E (tFor wi g tb) where
  run := fun σ S => match ei.run σ S with
    | some (.inl (it, S1)) => loopD eb.run eg.run it 4096 0 σ S1
    | some (.inr (.exc C d S1)) => if S.length ≤ S1.length then some (.exc C d S1) else none
    | _ => none
  good := fun {σ S o} h w => by
    split at h
    · rename_i it S1 h1
      have l := ei.good h1 w
      exact goodS_le l (loop_good h (wfS_le l w))
    · split at h
      · rename_i l
        cases h
        exact decide_eq_true l
      · cases h
    · cases h
  ok := fun {σ S o ρ H D} h w R p => by
    split at h
    · rename_i it S1 h1
      have l := ei.good h1 w
      refine ei.ok h1 w R fun ρ1 H1 J R1 F1 okJ => ?_
      rw [← F1.le R.len w]
      exact loop_ok okJ h (wfS_le l w) R1 (PostS.of p R1 F1)
    · rename_i C d S1 h1
      split at h
      · cases h
        exact ei.ok h1 w R p
      · cases h
    · cases h
end
/-! ### lists, tuples, texts, ranges -/
theorem Fr.lt {ρ : List Addr} {S : List DO} {H : Hp} {n : Nat} {o : DO} (R : Rep K ρ S H) (h : S[n]? = some o) : n < ρ.length := by
  rw [R.len]
  exact (List.getElem?_eq_some_iff.mp h).1
instance (te : TE) [e : EvE K E te] : EvI K E (iList K te) where
  run := fun σ S => match e.run σ S with
    | some (.ret (.ref n) S1) => (match S1[n]? with
      | some (.lst _) => some (.inl (.lst n, S1))
      | _ => none)
    | some (.exc C d S1) => some (.inr (.exc C d S1))
    | _ => none
  good := fun {σ S it S1} h w => by
    split at h
    · rename_i n S2 h1
      split at h
      · cases h
        exact of_decide_eq_true (ba (e.good h1 w)).1
      · cases h
    · cases h
    · cases h
  ok := fun {σ S q ρ H Qj} h w R p => by
    split at h
    · rename_i n S1 h1
      split at h
      · rename_i xs hs
        cases h
        refine e.ok h1 w R fun ρ1 H1 R1 F1 => ⟨_, rfl, ⟨_, SqL.of (R1.get hs).1⟩, p ρ1 H1 _ R1 F1 (itl_ok (Fr.lt R1 hs))⟩
      · cases h
    · rename_i C d S1 h1
      cases h
      exact e.ok h1 w R p
    · cases h
instance (te : TE) [e : EvE K E te] : EvI K E (iTup K te) where
  run := fun σ S => match e.run σ S with
    | some (.ret (.ref n) S1) => (match S1[n]? with
      | some (.tup _) => some (.inl (.tup n, S1))
      | _ => none)
    | some (.exc C d S1) => some (.inr (.exc C d S1))
    | _ => none
  good := fun {σ S it S1} h w => by
    split at h
    · rename_i n S2 h1
      split at h
      · cases h
        exact of_decide_eq_true (ba (e.good h1 w)).1
      · cases h
    · cases h
    · cases h
  ok := fun {σ S q ρ H Qj} h w R p => by
    split at h
    · rename_i n S1 h1
      split at h
      · rename_i xs hs
        cases h
        refine e.ok h1 w R fun ρ1 H1 R1 F1 => ⟨_, rfl, ⟨_, SqT.of (R1.get hs).1⟩, p ρ1 H1 _ R1 F1 (itt_ok (Fr.lt R1 hs))⟩
      · cases h
    · rename_i C d S1 h1
      cases h
      exact e.ok h1 w R p
    · cases h
instance (te : TE) [e : EvE K E te] : EvI K E (iStr te) where
  run := fun σ S => match e.run σ S with
    | some (.ret (.str z) S1) => some (.inl (.str z, S1))
    | some (.exc C d S1) => some (.inr (.exc C d S1))
    | _ => none
  good := fun {σ S it S1} h w => by
    split at h
    · rename_i n S2 h1
      cases h
      exact of_decide_eq_true (ba (e.good h1 w)).1
    · cases h
    · cases h
  ok := fun {σ S q ρ H Qj} h w R p => by
    split at h
    · rename_i z S1 h1
      cases h
      exact e.ok h1 w R fun ρ1 H1 R1 F1 => ⟨_, rfl, p ρ1 H1 _ R1 F1 str_ok⟩
    · rename_i C d S1 h1
      cases h
      exact e.ok h1 w R p
    · cases h
end RunX
set_option maxHeartbeats 4000000
namespace RunX
open PySem PySem.Spec PyProof.Rows L2 He
variable {K : PySem.W.Frag} {E : XK}
theorem Rep.put0 {ρ : List Addr} {S : List DO} {H : Hp} {n : Nat} {o o' : DO} {u' : HO} (R : Rep K ρ S H) (h : S[n]? = some o) (w : wfO S.length o' = true) (sh : Sh K ρ o' u') (nt : notTup o = true := by rfl) : Rep K ρ (S.set n o') (upd H (ρ.getD n 0) u') := by
  have hn : n < ρ.length := Fr.lt R h
  have ga : ρ[n]? = some (ρ.getD n 0) := by
    rw [List.getD_eq_getElem?_getD, List.getElem?_eq_getElem hn]
    rfl
  have al : ∀ {i : Nat}, ρ[i]? = some (ρ.getD n 0) → n = i := fun {i} ha => by
    by_cases c : n = i
    · exact c
    · obtain ⟨xs, e⟩ := R.nd n i _ ga ha c
      rw [h] at e
      cases e
      cases nt
  refine ⟨by rw [List.length_set]; exact R.len, fun i j a hi hj ne => ?_, fun i u a hi ha => ?_, fun u hu => ?_⟩
  · obtain ⟨xs, e⟩ := R.nd i j a hi hj ne
    have c : n ≠ i := fun z => by
      rw [← z, h] at e
      cases e
      cases nt
    exact ⟨xs, by rw [List.getElem?_set_ne c]; exact e⟩
  · by_cases c : n = i
    · subst c
      have ea : a = ρ.getD n 0 := Option.some.inj (ha.symm.trans ga)
      rw [List.getElem?_set_self (by rw [← R.len]; exact hn)] at hi
      cases hi
      rw [ea]
      exact ⟨_, upd_same, sh⟩
    · rw [List.getElem?_set_ne c] at hi
      have na : a ≠ ρ.getD n 0 := fun z => c (al (by rw [← z]; exact ha))
      rw [upd_ne na]
      exact R.obj i u a hi ha
  · rw [List.length_set]
    rcases List.mem_or_eq_of_mem_set hu with q | q
    · exact R.wf u q
    · rw [q]
      exact w
theorem dO_mt {ρ : List Addr} {o : DO} {xs : List V} (p : mutO o = true) (z : dO K ρ o = .tup xs) : False := by
  cases o with
  | tup ys => cases p
  | frz ys => cases p
  | _ => cases z
/-- an object is written anew -/
theorem Rep.set {ρ : List Addr} {S : List DO} {H : Hp} {n : Nat} {o o' : DO} (R : Rep K ρ S H) (h : S[n]? = some o) (w : wfO S.length o' = true) (po : mutO o = true := by rfl) (po' : mutO o' = true := by rfl) : Rep K ρ (S.set n o') (upd H (ρ.getD n 0) (dO K ρ o')) ∧ Fr ρ H ρ (upd H (ρ.getD n 0) (dO K ρ o')) := by
  have hn : n < ρ.length := Fr.lt R h
  have md : ρ.getD n 0 ∈ ρ := by
    rw [List.getD_eq_getElem?_getD, List.getElem?_eq_getElem hn]
    exact List.getElem_mem hn
  have e0 := (R.get h (mutO_plain po)).1
  have far : ∀ {b : Addr} {u : HO}, H b = some u → (u = dO K ρ o → False) → b ≠ ρ.getD n 0 := fun {b u} hb k z => by
    rw [z, e0] at hb
    exact k (Option.some.inj hb).symm
  refine ⟨R.put0 h w (Sh.of (mutO_plain po')) (by cases o <;> first | rfl | cases po), ⟨⟨[], by simp, fun a z => by simp at z⟩, fun b u nb hb => ?_, fun b od u hb => ?_, fun b xs hb => ?_, fun b xs hb => ?_⟩⟩
  · rw [upd_ne fun z => nb (by rw [z]; exact md)]
    exact hb
  · rw [upd_ne (far hb fun z => dO_nf z.symm)]
    exact hb
  · rw [upd_ne (far hb fun z => dO_mt po z.symm)]
    exact hb
  · by_cases c : b = ρ.getD n 0
    · rw [c, upd_same] at hb
      exact (dO_mt po' (Option.some.inj hb)).elim
    · rw [upd_ne c] at hb
      exact .inr hb
/-! ### methods of lists -/
class EvM (K : PySem.W.Frag) (T : String) (r : V → List V → Hp → VK → Prop) where
  run : DV → List DV → List DO → Option Res
  good : ∀ {x ds S q}, run x ds S = some q → wf S.length x = true → ds.all (wf S.length) = true → good S.length q = true
  ok : ∀ {x ds S q ρ H Q} {E : XK}, run x ds S = some q → wf S.length x = true → ds.all (wf S.length) = true → Rep K ρ S H → Post K E ρ H Q q → r (dV K ρ x) (ds.map (dV K ρ)) H Q
def tyB (S : List DO) (T : String) (x : DV) : Bool := match x with
  | .str _ => decide (T = "str")
  | .ref n => (match S[n]? with
    | some (.lst _) => decide (T = "list")
    | some (.dK _) => decide (T = "dict")
    | some (.dT _) => decide (T = "dict")
    | _ => false)
  | _ => false
theorem tyB_ok {ρ : List Addr} {S : List DO} {H : Hp} {T : String} {x : DV} (R : Rep K ρ S H) (h : tyB S T x = true) : tyV K T (dV K ρ x) H := by
  unfold tyB at h
  split at h
  · show T = "str"
    exact of_decide_eq_true h
  · split at h
    · rename_i e
      exact .inl ⟨of_decide_eq_true h, _, SqL.of (R.get e).1⟩
    · rename_i e
      exact .inr (.inr (.inl ⟨of_decide_eq_true h, .inl ⟨_, (R.get e).1⟩⟩))
    · rename_i e
      exact .inr (.inr (.inl ⟨of_decide_eq_true h, .inr ⟨_, (R.get e).1⟩⟩))
    · cases h
  · cases h
instance (T : String) (r : V → List V → Hp → VK → Prop) (to : TE) (ta : TA) [o : EvE K E to] [a : EvA K E ta] [m : EvM K T r] : EvE K E (tBM K T r to ta) where
  run := fun σ S => bindE (o.run σ S) fun x S1 => if tyB S1 T x = true then bindA (a.run σ S1) fun ds S2 => m.run x ds S2 else none
  good := fun {σ S r} h w => bind_good (te := to) h w fun {x S1 r} l wx h => by
    split at h
    · exact bindA_good (ta := ta) h (wfS_le l w) fun {vs S2 r} l2 wv h => m.good h (wf_le l2 wx) wv
    · cases h
  ok := fun {σ S r ρ H Q} h w R p => bind_ok (te := to) h w R p fun {x S1 ρ1 H1} l wx h R1 F1 eσ p => by
    split at h
    · rename_i ht
      refine ⟨tyB_ok R1 ht, ?_⟩
      rw [← eσ]
      refine bindA_ok (ta := ta) h (wfS_le l w) R1 p fun {vs S2 ρ2 H2} l2 wv h R2 F2 p => ?_
      have ex : dV K ρ2 x = dV K ρ1 x := F2.val R1.len wx
      rw [← ex]
      exact m.ok h (wf_le l2 wx) wv R2 p
    · cases h
instance : EvM K "list" rAppend where
  run := fun x ds S => match x, ds with
    | .ref n, [y] => (match S[n]? with
      | some (.lst xs) => if xs.length ≤ 100000 ∧ wfO S.length (.lst (xs ++ [y])) = true then some (.ret .non (S.set n (.lst (xs ++ [y])))) else none
      | _ => none)
    | _, _ => none
  good := fun {x ds S q} h wx wd => by
    split at h
    · split at h
      · split at h
        · cases h
          show (decide _ && true) = true
          simp
        · cases h
      · cases h
    · cases h
  ok := fun {x ds S q ρ H Q E} h wx wd R p => by
    split at h
    · rename_i n y
      split at h
      · rename_i xs e
        split at h
        · rename_i c
          cases h
          obtain ⟨R1, F1⟩ := R.set e c.2
          refine ⟨_, _, _, rfl, rfl, (R.get e).1, Nat.lt_of_le_of_lt (by rw [List.length_map]; exact c.1) (by decide), ?_⟩
          have z := p ρ _ R1 F1
          have em : dO K ρ (.lst (xs ++ [y])) = .lst (xs.map (dV K ρ) ++ [dV K ρ y]) := by simp [dO]
          rw [em] at z
          exact z
        · cases h
      · cases h
    · cases h
end RunX
set_option maxHeartbeats 4000000
namespace RunX
open PySem PySem.Spec PyProof.Rows L2 He
variable {K : PySem.W.Frag} {E : XK}
instance : EvT K E tYes where
  run := fun _ S => retS (.bl true) S
  good := fun {σ S r} h w => ret_good h rfl
  ok := fun {σ S r ρ H Q} h w R p => by
    cases h
    exact p ρ H R (Fr.refl _ _)
def wipeD (σ : List (Option DV)) : List Nat → List (Option DV)
  | [] => σ
  | v :: vs => (wipeD σ vs).set v none
theorem wipe_eq {ρ : List Addr} {σ : List (Option DV)} : ∀ {vs : List Nat}, dSt K ρ (wipeD σ vs) = wipe (dSt K ρ σ) vs
  | [] => rfl
  | v :: vs => by
    show dSt K ρ ((wipeD σ vs).set v none) = (wipe (dSt K ρ σ) vs).set v none
    rw [← wipe_eq]
    unfold dSt
    rw [List.map_set]
    rfl
theorem wipe_wf {n : Nat} {σ : List (Option DV)} (w : wfS n σ = true) : ∀ {vs : List Nat}, wfS n (wipeD σ vs) = true
  | [] => w
  | v :: vs => List.all_eq_true.mpr fun x hx => by
    rcases List.mem_or_eq_of_mem_set (show x ∈ (wipeD σ vs).set v none from hx) with q | q
    · exact List.all_eq_true.mp (wipe_wf w) x q
    · rw [q]
def lcD (f c : List (Option DV) → List DO → Option Res) (g : DV → List (Option DV) → List DO → Option (List (Option DV))) (it : ItD) (n : Nat) (σ0 : List (Option DV)) (vs : List Nat) : Nat → Nat → List DO → Option Res
  | 0, _, _ => none
  | k + 1, i, S => match it.at i S with
    | none => none
    | some none => some (.ret (.ref n) S)
    | some (some (x, S0)) => if S.length ≤ S0.length ∧ wf S0.length x = true then (match g x σ0 S0 with
      | none => none
      | some σ2 => if wipeD σ2 vs = σ0 then (match c σ2 S0 with
        | some (.ret (.bl true) S3) => (match f σ2 S3 with
          | some (.ret y S4) => (match S4[n]? with
            | some (.lst acc) => if acc.length ≤ 100000 ∧ wfO S4.length (.lst (acc ++ [y])) = true then lcD f c g it n σ0 vs k (i + 1) (S4.set n (.lst (acc ++ [y]))) else none
            | _ => none)
          | some (.exc C d S4) => some (.exc C d S4)
          | none => none)
        | some (.ret (.bl false) S3) => lcD f c g it n σ0 vs k (i + 1) S3
        | some (.exc C d S3) => some (.exc C d S3)
        | _ => none) else none) else none
theorem good_le {m n : Nat} (h : m ≤ n) {r : Res} (g : good n r = true) : good m r = true := by
  cases r with
  | exc C d S => exact decide_eq_true (Nat.le_trans h (of_decide_eq_true g))
  | ret v S =>
    obtain ⟨l, w⟩ := ba g
    show (decide _ && _) = true
    rw [w, decide_eq_true (Nat.le_trans h (of_decide_eq_true l))]
    rfl
section
variable {g : TG} {tt : TT} {te : TE} [eg : EvG K g] [ec : EvT K E tt] [ee : EvE K E te]
theorem lc_good {it : ItD} {n : Nat} {σ0 : List (Option DV)} {vs : List Nat} : ∀ {k i : Nat} {S : List DO} {r : Res}, lcD ee.run ec.run eg.run it n σ0 vs k i S = some r → n < S.length → wfS S.length σ0 = true → good S.length r = true
  | 0, _, _, _, h, _, _ => by
    unfold lcD at h
    cases h
  | k + 1, i, S, r, h, hn, w => by
    unfold lcD at h
    split at h
    · cases h
    · cases h
      show (decide _ && decide _) = true
      simp [hn]
    · split at h
      · rename_i wx
        split at h
        · cases h
        · rename_i σ2 h1
          have w1 := eg.wf_ h1 wx.2 (wfS_le wx.1 w)
          refine good_le wx.1 ?_
          have hn := Nat.lt_of_lt_of_le hn wx.1
          have w := wfS_le wx.1 w
          split at h
          · split at h
            · rename_i S3 h3
              obtain ⟨l3, _⟩ := ba (ec.good h3 w1)
              have l3 := of_decide_eq_true l3
              split at h
              · rename_i y S4 h4
                obtain ⟨l4, _⟩ := ba (ee.good h4 (wfS_le l3 w1))
                have l4 := of_decide_eq_true l4
                split at h
                · split at h
                  · have l5 := Nat.le_trans l3 l4
                    have z := lc_good h (by rw [List.length_set]; omega) (by rw [List.length_set]; exact wfS_le l5 w)
                    rw [List.length_set] at z
                    exact good_le l5 z
                  · cases h
                · cases h
              · rename_i C d S4 h4
                cases h
                exact good_le l3 (ee.good h4 (wfS_le l3 w1))
              · cases h
            · rename_i S3 h3
              obtain ⟨l3, _⟩ := ba (ec.good h3 w1)
              have l3 := of_decide_eq_true l3
              exact good_le l3 (lc_good h (by omega) (wfS_le l3 w))
            · rename_i C d S3 h3
              cases h
              exact ec.good h3 w1
            · cases h
          · cases h
      · cases h
theorem lc_ok {it : ItD} {J : It} {ρ1 : List Addr} {S1 : List DO} {H1 : Hp} (ok : ItOk K ρ1 H1 it J) (R1 : Rep K ρ1 S1 H1) {n : Nat} {σ0 : List (Option DV)} {vs : List Nat} {r : Res} {k : Nat} {S : List DO} {H0 : Hp} {Dl : Addr} {σv : L2.St} {Q : VK} (hσ : ∀ m, dSt K (ρ1 ++ m) σ0 = wipe σv vs)
    (h : lcD ee.run ec.run eg.run it n σ0 vs k 0 S = some r) (hn : n < S.length) (w : wfS S.length σ0 = true) (R : Rep K (ρ1 ++ [Dl]) S H0) (F0 : Fr ρ1 H1 (ρ1 ++ [Dl]) H0) (hD : n = ρ1.length) (p : Post K E (ρ1 ++ [Dl]) H0 Q r) :
    ∃ W : Nat → Nat → Hp → Prop, (∃ m, W 0 m H0) ∧ ∀ i m H, W i m H → (J.stop i H ∧ Q (.ref Dl) H) ∨ (J.go i H ∧ ∃ Nx : Hp → Prop, (∀ H', Nx H' → ∃ m', m' < m ∧ W (i + 1) m' H') ∧ ∀ x H', J.yld i H x H' → g x (wipe σv vs) H' fun σ2 H2 => wipe σ2 vs = wipe σv vs ∧ tt σ2 H2 fun b H3 =>
      if b = true then te σ2 H3 fun y H4 => ∃ acc, H4 Dl = some (.lst acc) ∧ acc.length < sizeLine ∧ Nx (upd H4 Dl (.lst (acc ++ [y]))) else Nx H3) := by
  have lD : n < (ρ1 ++ [Dl]).length := by rw [hD]; simp
  have atD : ∀ {ρ H'}, Fr (ρ1 ++ [Dl]) H0 ρ H' → ρ.getD n 0 = Dl := fun F => by
    rw [F.at lD, hD]
    simp [List.getD_eq_getElem?_getD]
  have atS : ∀ {ρ H'}, Fr (ρ1 ++ [Dl]) H0 ρ H' → dSt K ρ σ0 = wipe σv vs := fun F => by
    obtain ⟨m, e, _⟩ := F.pre
    rw [e, List.append_assoc, hσ]
  refine ⟨fun i m H' => ∃ ρ Sd, Fr (ρ1 ++ [Dl]) H0 ρ H' ∧ Rep K ρ Sd H' ∧ n < Sd.length ∧ wfS Sd.length σ0 = true ∧ lcD ee.run ec.run eg.run it n σ0 vs m i Sd = some r ∧ Post K E ρ H' Q r, ⟨k, _, S, Fr.refl _ _, R, hn, w, h, p⟩, ?_⟩
  rintro i m H' ⟨ρ, Sd, F, R', hn, w, h, p⟩
  have F1 := F0.trans R F
  cases m with
  | zero =>
    unfold lcD at h
    cases h
  | succ k =>
    unfold lcD at h
    split at h
    · cases h
    · rename_i hx
      cases h
      have z := p _ H' R' (Fr.refl _ _)
      have ev : dV K ρ (.ref n) = .ref Dl := by
        show V.ref _ = _
        rw [atD F]
      rw [ev] at z
      exact .inl ⟨ok.stop F1 R' hx, z⟩
    · rename_i x S0 hx
      split at h
      · rename_i wx
        split at h
        · cases h
        · rename_i σ2 h1
          have w1 := eg.wf_ h1 wx.2 (wfS_le wx.1 w)
          split at h
          · rename_i hw
            refine .inr ⟨ok.go F1 R' hx, fun H'' => ∃ ρ Sd, Fr (ρ1 ++ [Dl]) H0 ρ H'' ∧ Rep K ρ Sd H'' ∧ n < Sd.length ∧ wfS Sd.length σ0 = true ∧ lcD ee.run ec.run eg.run it n σ0 vs k (i + 1) Sd = some r ∧ Post K E ρ H'' Q r, fun H'' z => ⟨k, Nat.lt_succ_self k, z⟩, fun x' H'' y => ?_⟩
            obtain ⟨ρa, Ra, Fa, rfl⟩ := ok.yld F1 R' hx y
            have Fb := F.trans R' Fa
            have hn := Nat.lt_of_lt_of_le hn wx.1
            have w := wfS_le wx.1 w
            have p := Post.of p Ra Fa
            rw [← atS Fb]
            refine eg.ok h1 Ra ⟨?_, ?_⟩
            · rw [← wipe_eq, hw]
            · split at h
              · rename_i S3 h3
                obtain ⟨l3, _⟩ := ba (ec.good h3 w1)
                have l3 := of_decide_eq_true l3
                refine ec.ok h3 w1 Ra fun ρ3 H3 R3 F3 => ?_
                show te _ H3 _
                rw [← F3.le Ra.len w1]
                split at h
                · rename_i y S4 h4
                  obtain ⟨l4, _⟩ := ba (ee.good h4 (wfS_le l3 w1))
                  have l4 := of_decide_eq_true l4
                  split at h
                  · rename_i acc hacc
                    split at h
                    · rename_i c
                      refine ee.ok h4 (wfS_le l3 w1) R3 fun ρ4 H4 R4 F4 => ?_
                      have F34 := F3.trans R3 F4
                      have l5 := Nat.le_trans l3 l4
                      obtain ⟨R5, F5⟩ := R4.set hacc c.2
                      have F45 := Fb.trans Ra F34
                      have ed : ρ4.getD n 0 = Dl := atD F45
                      have em : dO K ρ4 (.lst (acc ++ [y])) = .lst (acc.map (dV K ρ4) ++ [dV K ρ4 y]) := by simp [dO]
                      rw [ed, em] at R5 F5
                      have g4 := (R4.get hacc).1
                      rw [ed] at g4
                      exact ⟨_, g4, Nat.lt_of_le_of_lt (by rw [List.length_map]; exact c.1) (by decide), ρ4, _, F45.trans R4 F5, R5, by rw [List.length_set]; omega, by rw [List.length_set]; exact wfS_le l5 w, h, Post.of p R5 (F34.trans R4 F5)⟩
                    · cases h
                  · cases h
                · rename_i C d S4 h4
                  cases h
                  exact ee.ok h4 (wfS_le l3 w1) R3 (PostX.of p R3 F3)
                · cases h
              · rename_i S3 h3
                obtain ⟨l3, _⟩ := ba (ec.good h3 w1)
                have l3 := of_decide_eq_true l3
                refine ec.ok h3 w1 Ra fun ρ3 H3 R3 F3 => ?_
                exact ⟨ρ3, S3, Fb.trans Ra F3, R3, by omega, wfS_le l3 w, h, Post.of p R3 F3⟩
              · rename_i C d S3 h3
                cases h
                exact ec.ok h3 w1 Ra p
              · cases h
          · cases h
      · cases h
instance (wi : TI) (vs : List Nat) [ei : EvI K E wi] : EvE K E (tLc wi g tt te vs) where
  run := fun σ S => match ei.run σ S with
    | some (.inl (it, S1)) => lcD ee.run ec.run eg.run it S1.length (wipeD σ vs) vs 4096 0 (S1 ++ [.lst []])
    | some (.inr (.exc C d S1)) => if S.length ≤ S1.length then some (.exc C d S1) else none
    | _ => none
  good := fun {σ S r} h w => by
    split at h
    · rename_i it S1 h1
      have l := ei.good h1 w
      have z := lc_good h (by simp) (wfS_le (by simp; omega) (wipe_wf w))
      exact good_le (by simp; omega) z
    · split at h
      · rename_i l
        cases h
        exact decide_eq_true l
      · cases h
    · cases h
  ok := fun {σ S r ρ H Q} h w R p => by
    split at h
    · rename_i it S1 h1
      have l := ei.good h1 w
      refine ei.ok h1 w R fun ρ1 H1 J R1 F1 okJ => fun Dl hD => ?_
      obtain ⟨R2, F2⟩ := R1.new (o := .lst []) hD rfl
      have w1 := wfS_le l w
      have w0 : wfS (S1 ++ [DO.lst []]).length (wipeD σ vs) = true := wfS_le (by simp; omega) (wipe_wf w)
      have wρ : wfS ρ1.length (wipeD σ vs) = true := by rw [R1.len]; exact wipe_wf w1
      refine lc_ok okJ R1 (fun m => ?_) h (by simp) w0 R2 F2 R1.len.symm (Post.of p R2 (F1.trans R1 F2))
      rw [dSt_app wρ, wipe_eq, F1.le R.len w]
    · rename_i C d S1 h1
      split at h
      · cases h
        exact ei.ok h1 w R p
      · cases h
    · cases h
end
end RunX
set_option maxHeartbeats 4000000
namespace RunX
open PySem PySem.Spec PyProof.Rows L2 He
variable {K : PySem.W.Frag} {E : XK}
/-- numbers in, under a condition -/
instance (C : Int → Int → Prop) (f : Int → Int → V) [dc : ∀ i j, Decidable (C i j)] [c : ∀ i j, CstV K (f i j)] : EvR K (rI C f) where
  run := fun S x y => match x, y with
    | .int i, .int j => if C i j then retS (c i j).d S else none
    | _, _ => none
  good := fun {S x y q} h wx wy => by
    split at h
    · split at h
      · exact ret_good h (wf_le (Nat.zero_le _) (c _ _).wf0)
      · cases h
    · cases h
  ok := fun {S x y q ρ H Q E} h wx wy R p => by
    split at h
    · rename_i i j
      split at h
      · rename_i hc
        refine ⟨i, j, rfl, rfl, hc, ?_⟩
        have z := ret_post (E := E) h R p
        rw [(c i j).ok ρ] at z
        exact z
      · cases h
    · cases h
instance (i j : Int) : Decidable (CPow i j) := inferInstanceAs (Decidable (_ ∧ _ ∧ _))
/-! ### one value -/
class EvU (K : PySem.W.Frag) (r : V → Hp → VK → Prop) where
  run : List DO → DV → Option Res
  good : ∀ {S x q}, run S x = some q → wf S.length x = true → good S.length q = true
  ok : ∀ {S x q ρ H Q} {E : XK}, run S x = some q → wf S.length x = true → Rep K ρ S H → Post K E ρ H Q q → r (dV K ρ x) H Q
instance (r : V → Hp → VK → Prop) (ta : TE) [a : EvE K E ta] [o : EvU K r] : EvE K E (tUn r ta) where
  run := fun σ S => bindE (a.run σ S) fun x S1 => o.run S1 x
  good := fun {σ S r} h w => bind_good (te := ta) h w fun {x S1 r} l wx h => o.good h wx
  ok := fun {σ S r ρ H Q} h w R p => bind_ok (te := ta) h w R p fun {x S1 ρ1 H1} l wx h R1 F1 eσ p => o.ok h wx R1 p
instance (f : Int → V) [c : ∀ i, CstV K (f i)] : EvU K (rU f) where
  run := fun S x => match x with
    | .int i => retS (c i).d S
    | _ => none
  good := fun {S x q} h wx => by
    split at h
    · exact ret_good h (wf_le (Nat.zero_le _) (c _).wf0)
    · cases h
  ok := fun {S x q ρ H Q E} h wx R p => by
    split at h
    · rename_i i
      refine ⟨i, rfl, ?_⟩
      have z := ret_post (E := E) h R p
      rw [(c i).ok ρ] at z
      exact z
    · cases h
/-! ### raise C(..) -/
def tRaise (C : Addr) (E : XK) : TS := fun _ _ H => E (.ref C) none H
instance (x : Str) : EvS K E (tRaise (ga K x) E) where
  run := fun _ S => some (.exc x none S)
  good := fun {σ S o} h w => by
    cases h
    exact decide_eq_true (Nat.le_refl _)
  ok := fun {σ S o ρ H D} h w R p => by
    cases h
    exact p ρ H R (Fr.refl _ _)
instance : EvS K E tNever where
  run := fun _ _ => none
  good := fun {σ S o} h w => by cases h
  ok := fun {σ S o ρ H D} h w R p => by cases h
instance : EvS K E tRetN where
  run := fun _ S => some (.rt .non S)
  good := fun {σ S o} h w => by
    cases h
    show (decide _ && true) = true
    simp
  ok := fun {σ S o ρ H D} h w R p => by
    cases h
    exact p ρ H R (Fr.refl _ _)
/-! ### x in a list or a tuple -/
def flatD : DV → Bool
  | .non | .bl _ | .int _ | .str _ => true
  | _ => false
theorem flatD_ok {ρ : List Addr} {x : DV} (h : flatD x = true) : flatV (dV K ρ x) = true ∧ dV K ρ x = dV K [] x := by
  unfold flatD at h
  split at h
  · exact ⟨rfl, rfl⟩
  · exact ⟨rfl, rfl⟩
  · exact ⟨rfl, rfl⟩
  · exact ⟨rfl, rfl⟩
  · cases h
theorem flat_all {ρ : List Addr} {xs : List DV} (h : xs.all flatD = true) : (xs.map (dV K ρ)).all flatV = true ∧ xs.map (dV K ρ) = xs.map (dV K []) := by
  refine ⟨List.all_eq_true.mpr fun v hv => ?_, List.map_congr_left fun v hv => (flatD_ok (List.all_eq_true.mp h v hv)).2⟩
  obtain ⟨x, hx, rfl⟩ := List.mem_map.mp hv
  exact (flatD_ok (List.all_eq_true.mp h x hx)).1
def itemsD (S : List DO) : DV → Option (List DV)
  | .ref n => (match S[n]? with
    | some (.lst xs) => some xs
    | some (.tup xs) => some xs
    | _ => none)
  | _ => none
theorem itemsD_ok {ρ : List Addr} {S : List DO} {H : Hp} {y : DV} {xs : List DV} (R : Rep K ρ S H) (h : itemsD S y = some xs) : ∃ p, dV K ρ y = .ref p ∧ (SqL K H p (xs.map (dV K ρ)) ∨ SqT K H p (xs.map (dV K ρ))) := by
  unfold itemsD at h
  split at h
  · split at h
    · rename_i e
      cases h
      exact ⟨_, rfl, .inl (SqL.of (R.get e).1)⟩
    · rename_i e
      cases h
      exact ⟨_, rfl, .inr (SqT.of (R.get e).1)⟩
    · cases h
  · cases h
instance (neg : Bool) : EvR K (rIn K neg) where
  run := fun S x y => match itemsD S y with
    | some xs => if flatD x = true ∧ xs.all flatD = true then retS (.bl (if neg then !inV (dV K [] x) (xs.map (dV K [])) else inV (dV K [] x) (xs.map (dV K [])))) S else none
    | none => none
  good := fun {S x y q} h wx wy => by
    split at h
    · split at h
      · exact ret_good h rfl
      · cases h
    · cases h
  ok := fun {S x y q ρ H Q E} h wx wy R p => by
    split at h
    · rename_i xs hi
      split at h
      · rename_i c
        obtain ⟨a, e, hs⟩ := itemsD_ok R hi
        obtain ⟨f1, f2⟩ := flatD_ok (K := K) (ρ := ρ) c.1
        obtain ⟨g1, g2⟩ := flat_all (K := K) (ρ := ρ) c.2
        refine ⟨a, _, e, hs, f1, g1, ?_⟩
        rw [f2, g2]
        exact ret_post (E := E) h R p
      · cases h
    · cases h
/-! ### lists joined -/
instance : EvR K rCat where
  run := fun S x y => match x, y with
    | .ref n, .ref m => (match S[n]?, S[m]? with
      | some (.lst xs), some (.lst ys) => if xs.length + ys.length ≤ 100000 ∧ wfO S.length (.lst (xs ++ ys)) = true then alloc S (.lst (xs ++ ys)) else none
      | _, _ => none)
    | _, _ => none
  good := fun {S x y q} h wx wy => by
    split at h
    · split at h
      · split at h
        · exact alloc_good h
        · cases h
      · cases h
    · cases h
  ok := fun {S x y q ρ H Q E} h wx wy R p => by
    split at h
    · split at h
      · rename_i xs ys e1 e2
        split at h
        · rename_i c
          refine ⟨_, _, _, _, rfl, rfl, (R.get e1).1, (R.get e2).1, by rw [List.length_map, List.length_map]; exact Nat.le_trans c.1 (by decide), fun q hq => ?_⟩
          have z := alloc_post (E := E) h c.2 R p hq
          have em : dO K ρ (.lst (xs ++ ys)) = .lst (xs.map (dV K ρ) ++ ys.map (dV K ρ)) := by simp [dO]
          rw [em] at z
          exact z
        · cases h
      · cases h
    · cases h
end RunX
set_option maxHeartbeats 4000000
namespace RunX
open PySem PySem.Spec PyProof.Rows L2 He
variable {K : PySem.W.Frag} {E : XK}
/-! ### several targets -/
class EvGs (K : PySem.W.Frag) (g : TGs) where
  run : List DV → List (Option DV) → List DO → Option (List (Option DV))
  wf_ : ∀ {vs σ S σ'}, run vs σ S = some σ' → vs.all (wf S.length) = true → wfS S.length σ = true → wfS S.length σ' = true
  ok : ∀ {vs σ S σ' ρ H Q}, run vs σ S = some σ' → Rep K ρ S H → Q (dSt K ρ σ') H → g (vs.map (dV K ρ)) (dSt K ρ σ) H Q
instance : EvGs K gNil where
  run := fun vs σ _ => match vs with
    | [] => some σ
    | _ => none
  wf_ := fun {vs σ S σ'} h wv w => by
    split at h
    · cases h
      exact w
    · cases h
  ok := fun {vs σ S σ' ρ H Q} h R q => by
    split at h
    · cases h
      exact ⟨rfl, q⟩
    · cases h
instance (t : TG) (u : TGs) [a : EvG K t] [b : EvGs K u] : EvGs K (gCons t u) where
  run := fun vs σ S => match vs with
    | v :: r => (match a.run v σ S with
      | some σ1 => b.run r σ1 S
      | none => none)
    | _ => none
  wf_ := fun {vs σ S σ'} h wv w => by
    split at h
    · obtain ⟨w1, w2⟩ := ba (show (wf S.length _ && _) = true from wv)
      split at h
      · rename_i h1
        exact b.wf_ h w2 (a.wf_ h1 w1 w)
      · cases h
    · cases h
  ok := fun {vs σ S σ' ρ H Q} h R q => by
    split at h
    · split at h
      · rename_i h1
        exact ⟨_, _, rfl, a.ok h1 R (b.ok h R q)⟩
      · cases h
    · cases h
instance (n : Nat) (t : TGs) [b : EvGs K t] : EvG K (gTup K n t) where
  run := fun v σ S => match v with
    | .ref m => (match S[m]? with
      | some (.tup xs) => if xs.length = n ∧ xs.all (wf S.length) = true then b.run xs σ S else none
      | _ => none)
    | _ => none
  wf_ := fun {v σ S σ'} h wv w => by
    split at h
    · split at h
      · split at h
        · rename_i c
          exact b.wf_ h c.2 w
        · cases h
      · cases h
    · cases h
  ok := fun {v σ S σ' ρ H Q} h R q => by
    split at h
    · split at h
      · rename_i xs e
        split at h
        · rename_i c
          exact ⟨_, _, rfl, SqT.of (R.get e).1, by rw [List.length_map]; exact c.1, b.ok h R q⟩
        · cases h
      · cases h
    · cases h
/-! ### ranges -/
theorem rng_ok {ρ : List Addr} {H0 : Hp} {lo : Int} {n : Nat} : ItOk K ρ H0 (.rng lo n) (Itr lo n) where
  stop := fun {ρ' S H i} e R h => by
    have h' : (if i < n then some (some (DV.int (lo + i), S)) else some none) = some none := h
    split at h'
    · cases h'
    · rename_i c
      exact Nat.le_of_not_lt c
  go := fun {ρ' S H i x} e R h => by
    have h' : (if i < n then some (some (DV.int (lo + i), S)) else some none) = some (some x) := h
    split at h'
    · rename_i c
      exact c
    · cases h'
  yld := fun {ρ' S S' H H' i x v} e R h y => by
    have h' : (if i < n then some (some (DV.int (lo + i), S)) else some none) = some (some (x, S')) := h
    obtain ⟨eH, ev⟩ := y
    split at h'
    · cases h'
      subst eH
      exact ⟨ρ', R, Fr.refl _ _, ev⟩
    · cases h'
instance (ta : TA) [a : EvA K E ta] : EvI K E (iRng2 ta) where
  run := fun σ S => match a.run σ S with
    | some (.ret [.int i, .int j] S1) => if -(2 ^ 62) ≤ i ∧ i < 2 ^ 62 ∧ -(2 ^ 62) ≤ j ∧ j < 2 ^ 62 then some (.inl (.rng i (j - i).toNat, S1)) else none
    | some (.exc C d S1) => some (.inr (.exc C d S1))
    | _ => none
  good := fun {σ S it S1} h w => by
    split at h
    · rename_i i j S2 h1
      split at h
      · cases h
        exact of_decide_eq_true (ba (a.good h1 w)).1
      · cases h
    · cases h
    · cases h
  ok := fun {σ S q ρ H Qj} h w R p => by
    split at h
    · rename_i i j S1 h1
      split at h
      · rename_i c
        cases h
        exact a.ok h1 w R fun ρ1 H1 R1 F1 => ⟨i, j, rfl, c, p ρ1 H1 _ R1 F1 rng_ok⟩
      · cases h
    · rename_i C d S1 h1
      cases h
      exact a.ok h1 w R p
    · cases h
instance (ta : TA) [a : EvA K E ta] : EvI K E (iRng1 ta) where
  run := fun σ S => match a.run σ S with
    | some (.ret [.int j] S1) => if -(2 ^ 62) ≤ j ∧ j < 2 ^ 62 then some (.inl (.rng 0 j.toNat, S1)) else none
    | some (.exc C d S1) => some (.inr (.exc C d S1))
    | _ => none
  good := fun {σ S it S1} h w => by
    split at h
    · rename_i j S2 h1
      split at h
      · cases h
        exact of_decide_eq_true (ba (a.good h1 w)).1
      · cases h
    · cases h
    · cases h
  ok := fun {σ S q ρ H Qj} h w R p => by
    split at h
    · rename_i j S1 h1
      split at h
      · rename_i c
        cases h
        exact a.ok h1 w R fun ρ1 H1 R1 F1 => ⟨j, rfl, c.1, c.2, p ρ1 H1 _ R1 F1 rng_ok⟩
      · cases h
    · rename_i C d S1 h1
      cases h
      exact a.ok h1 w R p
    · cases h
/-! ### an empty dict -/
instance : EvE K E tDNewK where
  run := fun _ S => alloc S (.dK [])
  good := fun {σ S r} h w => alloc_good h
  ok := fun {σ S r ρ H Q} h w R p => fun q hq => alloc_post (E := E) (o := .dK []) h rfl R p hq
end RunX
set_option maxHeartbeats 4000000
namespace RunX
open PySem PySem.Spec PyProof.Rows L2 He
variable {K : PySem.W.Frag} {E : XK}
/-! ### slices -/
inductive ResO where
  | ret (p : Option Int) (S : List DO)
  | exc (C : Str) (d : Option Nat) (S : List DO)
class EvO (K : PySem.W.Frag) (E : XK) (to : TO) where
  run : List (Option DV) → List DO → Option ResO
  good : ∀ {σ S r}, run σ S = some r → wfS S.length σ = true → (match r with
    | .ret _ S1 => S.length ≤ S1.length
    | .exc _ _ S1 => S.length ≤ S1.length)
  ok : ∀ {σ S r ρ H Q}, run σ S = some r → wfS S.length σ = true → Rep K ρ S H → (match r with
    | .ret p S1 => ∀ ρ' H', Rep K ρ' S1 H' → Fr ρ H ρ' H' → Q p H'
    | .exc C d S1 => PostX K E ρ H C d S1) → to (dSt K ρ σ) H Q
instance : EvO K E tNoPart where
  run := fun _ S => some (.ret none S)
  good := fun {σ S r} h w => by
    cases h
    exact Nat.le_refl _
  ok := fun {σ S r ρ H Q} h w R p => by
    cases h
    exact p ρ H R (Fr.refl _ _)
instance (te : TE) [e : EvE K E te] : EvO K E (tPart te) where
  run := fun σ S => match e.run σ S with
    | some (.ret (.int i) S1) => some (.ret (some i) S1)
    | some (.exc C d S1) => some (.exc C d S1)
    | _ => none
  good := fun {σ S r} h w => by
    split at h
    · rename_i h1
      cases h
      exact of_decide_eq_true (ba (e.good h1 w)).1
    · rename_i h1
      cases h
      exact of_decide_eq_true (e.good h1 w)
    · cases h
  ok := fun {σ S r ρ H Q} h w R p => by
    split at h
    · rename_i i S1 h1
      cases h
      exact e.ok h1 w R fun ρ1 H1 R1 F1 => ⟨i, rfl, p ρ1 H1 R1 F1⟩
    · rename_i C d S1 h1
      cases h
      exact e.ok h1 w R p
    · cases h
class EvSl (K : PySem.W.Frag) (r : V → Option Int → Option Int → Hp → VK → Prop) where
  run : List DO → DV → Option Int → Option Int → Option Res
  good : ∀ {S x lo hi q}, run S x lo hi = some q → wf S.length x = true → good S.length q = true
  ok : ∀ {S x lo hi q ρ H Q} {E : XK}, run S x lo hi = some q → wf S.length x = true → Rep K ρ S H → Post K E ρ H Q q → r (dV K ρ x) lo hi H Q
instance : EvSl K rSlS where
  run := fun S x lo hi => match x with
    | .str z => if z.length ≤ 100000 then retS (.str (cutS z lo hi)) S else none
    | _ => none
  good := fun {S x lo hi q} h wx => by
    split at h
    · split at h
      · exact ret_good h rfl
      · cases h
    · cases h
  ok := fun {S x lo hi q ρ H Q E} h wx R p => by
    split at h
    · split at h
      · rename_i z c
        exact ⟨z, rfl, Nat.le_trans c (by decide), ret_post (E := E) h R p⟩
      · cases h
    · cases h
def bindO (r : Option ResO) (f : Option Int → List DO → Option Res) : Option Res := match r with
  | some (.ret p S) => f p S
  | some (.exc C d S) => some (.exc C d S)
  | none => none
theorem bindO_good {σ : List (Option DV)} {S : List DO} {r : Res} {to : TO} [e : EvO K E to] {f : Option Int → List DO → Option Res} (h : bindO (e.run σ S) f = some r) (w : wfS S.length σ = true)
    (g : ∀ {p S1 r}, S.length ≤ S1.length → f p S1 = some r → good S1.length r = true) : good S.length r = true := by
  unfold bindO at h
  split at h
  · rename_i p S1 h1
    have l1 : S.length ≤ S1.length := e.good h1 w
    exact good_le l1 (g l1 h)
  · rename_i C d S1 h1
    cases h
    have l1 : S.length ≤ S1.length := e.good h1 w
    exact decide_eq_true l1
  · cases h
theorem bindO_ok {σ : List (Option DV)} {S : List DO} {r : Res} {to : TO} [e : EvO K E to] {f : Option Int → List DO → Option Res} {ρ : List Addr} {H : Hp} {Q : VK} {Q1 : Option Int → Hp → Prop} (h : bindO (e.run σ S) f = some r) (w : wfS S.length σ = true) (R : Rep K ρ S H) (p : Post K E ρ H Q r)
    (k : ∀ {i S1 ρ1 H1}, S.length ≤ S1.length → f i S1 = some r → Rep K ρ1 S1 H1 → Fr ρ H ρ1 H1 → Post K E ρ1 H1 Q r → Q1 i H1) : to (dSt K ρ σ) H Q1 := by
  unfold bindO at h
  split at h
  · rename_i i S1 h1
    have l1 : S.length ≤ S1.length := e.good h1 w
    exact e.ok h1 w R fun ρ1 H1 R1 F1 => k l1 h R1 F1 (Post.of p R1 F1)
  · rename_i C d S1 h1
    cases h
    exact e.ok h1 w R p
  · cases h
instance (r : V → Option Int → Option Int → Hp → VK → Prop) (te : TE) (tl th : TO) [e : EvE K E te] [l : EvO K E tl] [u : EvO K E th] [s : EvSl K r] : EvE K E (tSl r te tl th) where
  run := fun σ S => bindE (e.run σ S) fun x S1 => bindO (l.run σ S1) fun lo S2 => bindO (u.run σ S2) fun hi S3 => s.run S3 x lo hi
  good := fun {σ S r} h w => bind_good (te := te) h w fun {x S1 r} l1 wx h => bindO_good (to := tl) h (wfS_le l1 w) fun {lo S2 r} l2 h => bindO_good (to := th) h (wfS_le (Nat.le_trans l1 l2) w) fun {hi S3 r} l3 h => s.good h (wf_le (Nat.le_trans l2 l3) wx)
  ok := fun {σ S r ρ H Q} h w R p => bind_ok (te := te) h w R p fun {x S1 ρ1 H1} l1 wx h R1 F1 eσ p => by
    rw [← eσ]
    refine bindO_ok (to := tl) h (wfS_le l1 w) R1 p fun {lo S2 ρ2 H2} l2 h R2 F2 p => ?_
    have w2 := wfS_le (Nat.le_trans l1 l2) w
    rw [← F2.le R1.len (wfS_le l1 w)]
    refine bindO_ok (to := th) h w2 R2 p fun {hi S3 ρ3 H3} l3 h R3 F3 p => ?_
    have ex : dV K ρ3 x = dV K ρ1 x := (F3.val R2.len (wf_le l2 wx)).trans (F2.val R1.len wx)
    rw [← ex]
    exact s.ok h (wf_le (Nat.le_trans l2 l3) wx) R3 p
end RunX
set_option maxHeartbeats 4000000
namespace RunX
open PySem PySem.Spec PyProof.Rows L2 He
variable {K : PySem.W.Frag} {E : XK}
/-! ### while -/
def whileD (c : List (Option DV) → List DO → Option Res) (f : List (Option DV) → List DO → Option Out) : Nat → List (Option DV) → List DO → Option Out
  | 0, _, _ => none
  | k + 1, σ, S => match c σ S with
    | some (.ret (.bl true) S1) => (match f σ S1 with
      | some (.nx σ2 S2) => whileD c f k σ2 S2
      | some (.ct σ2 S2) => whileD c f k σ2 S2
      | some (.bk σ2 S2) => some (.nx σ2 S2)
      | r => r)
    | some (.ret (.bl false) S1) => some (.nx σ S1)
    | some (.exc C d S1) => some (.exc C d S1)
    | _ => none
section
variable {tc : TT} {tb : TS} [ec : EvT K E tc] [eb : EvS K E tb]
theorem while_good : ∀ {k : Nat} {σ : List (Option DV)} {S : List DO} {o : Out}, whileD ec.run eb.run k σ S = some o → wfS S.length σ = true → goodS S.length o = true
  | 0, _, _, _, h, _ => by
    unfold whileD at h
    cases h
  | k + 1, σ, S, o, h, w => by
    unfold whileD at h
    split at h
    · rename_i S1 h1
      have l1 := of_decide_eq_true (ba (ec.good h1 w)).1
      refine goodS_le l1 ?_
      have w1 := wfS_le l1 w
      split at h
      · rename_i σ2 S2 h2
        obtain ⟨l2, w2⟩ := ba (eb.good h2 w1)
        exact goodS_le (of_decide_eq_true l2) (while_good h w2)
      · rename_i σ2 S2 h2
        obtain ⟨l2, w2⟩ := ba (eb.good h2 w1)
        exact goodS_le (of_decide_eq_true l2) (while_good h w2)
      · rename_i σ2 S2 h2
        cases h
        have z : goodS S1.length (Out.bk σ2 S2) = true := eb.good h2 w1
        exact z
      · exact eb.good h w1
    · rename_i S1 h1
      cases h
      have l1 := of_decide_eq_true (ba (ec.good h1 w)).1
      show (decide _ && _) = true
      rw [wfS_le l1 w, decide_eq_true l1]
      rfl
    · rename_i C d S1 h1
      cases h
      exact ec.good h1 w
    · cases h
instance : EvS K E (tWhile tc tb) where
  run := fun σ S => whileD ec.run eb.run 4096 σ S
  good := fun {σ S o} h w => while_good h w
  ok := fun {σ S o ρ H D} h w R p => by
    refine ⟨fun m σ' H' => ∃ ρ σd Sd, σ' = dSt K ρ σd ∧ Rep K ρ Sd H' ∧ wfS Sd.length σd = true ∧ whileD ec.run eb.run m σd Sd = some o ∧ PostS K E ρ H' D o, ⟨4096, ρ, σ, S, rfl, R, w, h, p⟩, ?_⟩
    clear h w R p
    rintro m σ' H' ⟨ρ, σd, Sd, rfl, R, w, h, p⟩
    cases m with
    | zero =>
      unfold whileD at h
      cases h
    | succ k =>
      unfold whileD at h
      split at h
      · rename_i S1 h1
        have l1 := of_decide_eq_true (ba (ec.good h1 w)).1
        have w1 := wfS_le l1 w
        refine ec.ok h1 w R fun ρ1 H1 R1 F1 => ?_
        have p1 := PostS.of p R1 F1
        refine ⟨fun σ'' H'' => ∃ ρ σd Sd, σ'' = dSt K ρ σd ∧ Rep K ρ Sd H'' ∧ wfS Sd.length σd = true ∧ whileD ec.run eb.run k σd Sd = some o ∧ PostS K E ρ H'' D o, fun σ'' H'' z => ⟨k, Nat.lt_succ_self k, z⟩, ?_⟩
        rw [← F1.le R.len w]
        split at h
        · rename_i σ2 S2 h2
          obtain ⟨_, w2⟩ := ba (eb.good h2 w1)
          exact eb.ok h2 w1 R1 fun ρ2 H2 R2 F2 => ⟨ρ2, σ2, S2, rfl, R2, w2, h, PostS.of p1 R2 F2⟩
        · rename_i σ2 S2 h2
          obtain ⟨_, w2⟩ := ba (eb.good h2 w1)
          exact eb.ok h2 w1 R1 fun ρ2 H2 R2 F2 => ⟨ρ2, σ2, S2, rfl, R2, w2, h, PostS.of p1 R2 F2⟩
        · rename_i σ2 S2 h2
          cases h
          exact eb.ok h2 w1 R1 p1
        · rename_i n1 n2 n3
          refine eb.ok h w1 R1 ?_
          cases o with
          | nx σ2 S2 => exact (n1 σ2 S2 h).elim
          | ct σ2 S2 => exact (n2 σ2 S2 h).elim
          | bk σ2 S2 => exact (n3 σ2 S2 h).elim
          | rt v S2 => exact p1
          | exc C d S2 => exact p1
      · rename_i S1 h1
        cases h
        refine ec.ok h1 w R fun ρ1 H1 R1 F1 => ?_
        have z := (PostS.of p R1 F1) ρ1 H1 R1 (Fr.refl _ _)
        rw [F1.le R.len w] at z
        exact z
      · rename_i C d S1 h1
        cases h
        exact ec.ok h1 w R p
      · cases h
end
end RunX
set_option maxHeartbeats 4000000
namespace RunX
open PySem PySem.Spec PyProof.Rows L2 He
variable {K : PySem.W.Frag} {E : XK}
instance (f : Int → Int → Int) : EvR K (ipI f) where
  run := fun S x y => match x, y with
    | .int i, .int j => retS (.int (f i j)) S
    | _, _ => none
  good := fun {S x y q} h wx wy => by
    split at h
    · exact ret_good h rfl
    · cases h
  ok := fun {S x y q ρ H Q E} h wx wy R p => by
    split at h
    · exact ⟨_, _, rfl, rfl, ret_post (E := E) h R p⟩
    · cases h
/-- x op= e -/
instance (i : Nat) (te : TE) (ti : TIp) [e : EvE K E te] [o : EvR K ti] : EvS K E (tAug i te ti) where
  run := fun σ S => match σ[i]? with
    | some (some x) => bindX (bindE (e.run σ S) fun y S1 => o.run S1 x y) fun z S2 => some (.nx (σ.set i (some z)) S2)
    | _ => none
  good := fun {σ S q} h w => by
    split at h
    · rename_i x hx
      have wx : wf S.length x = true := List.all_eq_true.mp w _ (List.mem_of_getElem? hx)
      unfold bindX at h
      split at h
      · rename_i z S2 h1
        cases h
        have g := bind_good (te := te) h1 w fun {y S1 r} l wy h => o.good h (wf_le l wx) wy
        obtain ⟨l, wz⟩ := ba g
        show (decide _ && _) = true
        rw [l, wfS_set (wfS_le (of_decide_eq_true l) w) wz]
        rfl
      · rename_i C d S2 h1
        cases h
        exact bind_good (te := te) h1 w fun {y S1 r} l wy h => o.good h (wf_le l wx) wy
      · cases h
    · cases h
  ok := fun {σ S q ρ H D} h w R p => by
    split at h
    · rename_i x hx
      have wx : wf S.length x = true := List.all_eq_true.mp w _ (List.mem_of_getElem? hx)
      refine ⟨dV K ρ x, by unfold dSt; rw [List.getElem?_map, hx]; rfl, ?_⟩
      unfold bindX at h
      split at h
      · rename_i z S2 h1
        cases h
        refine bind_ok (te := te) (Q := fun v H' => D.nx ((dSt K ρ σ).set i (some v)) H') h1 w R (fun ρ2 H2 R2 F2 => ?_) fun {y S1 ρ1 H1} l wy h1 R1 F1 eσ p1 => ?_
        · have z2 := p ρ2 H2 R2 F2
          rw [dSt_set, F2.le R.len w] at z2
          exact z2
        · have ex : dV K ρ1 x = dV K ρ x := F1.val R.len wx
          rw [← ex]
          exact o.ok h1 (wf_le l wx) wy R1 p1
      · rename_i C d S2 h1
        cases h
        refine bind_ok (te := te) (Q := fun v H' => D.nx ((dSt K ρ σ).set i (some v)) H') h1 w R p fun {y S1 ρ1 H1} l wy h1 R1 F1 eσ p1 => ?_
        have ex : dV K ρ1 x = dV K ρ x := F1.val R.len wx
        rw [← ex]
        exact o.ok h1 (wf_le l wx) wy R1 p1
      · cases h
    · cases h
end RunX
set_option maxHeartbeats 4000000
namespace RunX
open PySem PySem.Spec PyProof.Rows L2 He
variable {K : PySem.W.Frag} {E : XK}
/-! ### the data that a value shows (lists and tuples within) -/
def allD (f : DV → Option PyData) : List DV → Option (List PyData)
  | [] => some []
  | v :: r => match f v, allD f r with
    | some d, some ds => some (d :: ds)
    | _, _ => none
def datD (S : List DO) : Nat → DV → Option PyData
  | 0, _ => none
  | k + 1, v => match v with
    | .non => some .none
    | .bl b => some (.bool b)
    | .int i => some (.int i)
    | .str x => some (.str x)
    | .ref n => (match S[n]? with
      | some (.lst xs) => (allD (datD S k) xs).map .list
      | some (.tup xs) => (allD (datD S k) xs).map .tuple
      | _ => none)
    | _ => none
theorem allD_ok {ρ : List Addr} {H : Hp} {f : DV → Option PyData} (hf : ∀ v d, f v = some d → Dp K H (dV K ρ v) d) : ∀ {xs : List DV} {ds : List PyData}, allD f xs = some ds → DpAll K H (xs.map (dV K ρ)) ds
  | [], _, h => by cases h; exact .nil
  | v :: r, _, h => by
    unfold allD at h
    split at h
    · rename_i d ds h1 h2
      cases h
      exact .cons (hf v d h1) (allD_ok hf h2)
    · cases h
theorem datD_ok {ρ : List Addr} {S : List DO} {H : Hp} (R : Rep K ρ S H) : ∀ {k : Nat} {v : DV} {d : PyData}, datD S k v = some d → Dp K H (dV K ρ v) d
  | 0, _, _, h => by cases h
  | k + 1, v, d, h => by
    unfold datD at h
    split at h
    · cases h; exact .non
    · cases h; exact .bl _
    · cases h; exact .int _
    · cases h; exact .str _
    · split at h
      · rename_i xs e
        obtain ⟨ds, h1, rfl⟩ := Option.map_eq_some_iff.mp h
        exact .lst (SqL.of (R.get e).1) (allD_ok (fun v d q => datD_ok R q) h1)
      · rename_i xs e
        obtain ⟨ds, h1, rfl⟩ := Option.map_eq_some_iff.mp h
        exact .tup (SqT.of (R.get e).1) (allD_ok (fun v d q => datD_ok R q) h1)
      · cases h
    · cases h
def eqD (neg : Bool) (S : List DO) (x y : DV) : Option Res := match datD S 64 x, datD S 64 y with
  | some d, some e => if SeqAt.shaped d = true ∧ SeqAt.shaped e = true then retS (.bl (if neg then !PyData.eqv d e else PyData.eqv d e)) S else none
  | _, _ => none
theorem eqD_good {neg : Bool} {S : List DO} {x y : DV} {q : Res} (h : eqD neg S x y = some q) : good S.length q = true := by
  unfold eqD at h
  split at h
  · split at h
    · exact ret_good h rfl
    · cases h
  · cases h
instance : EvR K (rEqD K) where
  run := eqD false
  good := fun {S x y q} h wx wy => eqD_good h
  ok := fun {S x y q ρ H Q E} h wx wy R p => by
    unfold eqD at h
    split at h
    · rename_i d e h1 h2
      split at h
      · rename_i c
        exact ⟨d, e, datD_ok R h1, datD_ok R h2, c.1, c.2, ret_post (E := E) h R p⟩
      · cases h
    · cases h
instance : EvR K (rNeD K) where
  run := eqD true
  good := fun {S x y q} h wx wy => eqD_good h
  ok := fun {S x y q ρ H Q E} h wx wy R p => by
    unfold eqD at h
    split at h
    · rename_i d e h1 h2
      split at h
      · rename_i c
        exact ⟨d, e, datD_ok R h1, datD_ok R h2, c.1, c.2, ret_post (E := E) h R p⟩
      · cases h
    · cases h
end RunX
set_option maxHeartbeats 4000000
namespace RunX
open PySem PySem.Spec PyProof.Rows L2 He
variable {K : PySem.W.Frag} {E : XK}
/-! ### dicts -/
def keyD : DV → Option Key
  | .int i => some (.inl i)
  | .str x => some (.inr x)
  | _ => none
theorem keyD_ok {ρ : List Addr} {v : DV} {k : Key} (h : keyD v = some k) : dV K ρ v = kV k := by
  unfold keyD at h
  split at h
  · cases h; rfl
  · cases h; rfl
  · cases h
def keysD : List DV → Option (List Key)
  | [] => some []
  | v :: r => match keyD v, keysD r with
    | some k, some ks => some (k :: ks)
    | _, _ => none
theorem keysD_ok {ρ : List Addr} : ∀ {xs : List DV} {ks : List Key}, keysD xs = some ks → xs.map (dV K ρ) = ks.map kV
  | [], _, h => by cases h; rfl
  | v :: r, _, h => by
    unfold keysD at h
    split at h
    · rename_i k ks h1 h2
      cases h
      rw [List.map_cons, List.map_cons, keyD_ok h1, keysD_ok h2]
    · cases h
def valD {κ : Type} [DecidableEq κ] (kvs : List (κ × DV)) (k : κ) : Option DV := (kvs.find? fun kv => decide (kv.1 = k)).map (·.2)
theorem valD_eq {κ : Type} [DecidableEq κ] {ρ : List Addr} {kvs : List (κ × DV)} {k : κ} : valV (kvs.map fun p => (p.1, dV K ρ p.2)) k = (valD kvs k).map (dV K ρ) := by
  unfold valV valD
  rw [List.find?_map]
  have e : (fun kv : κ × V => decide (kv.1 = k)) ∘ (fun p : κ × DV => (p.1, dV K ρ p.2)) = fun kv => decide (kv.1 = k) := rfl
  rw [e]
  cases kvs.find? fun kv => decide (kv.1 = k) <;> rfl
/-- what the dict x holds at y -/
def lookD (S : List DO) (x y : DV) : Option (Option DV) := match x with
  | .ref n => (match S[n]? with
    | some (.dK kvs) => (keyD y).map (valD kvs)
    | some (.dT kvs) => (match y with
      | .ref m => (match S[m]? with
        | some (.tup xs) => (keysD xs).map (valD kvs)
        | _ => none)
      | _ => none)
    | _ => none)
  | _ => none
theorem lookD_ok {ρ : List Addr} {S : List DO} {H : Hp} {x y : DV} {o : Option DV} (R : Rep K ρ S H) (h : lookD S x y = some o) : ∃ a, dV K ρ x = .ref a ∧ DGet H a (dV K ρ y) (o.map (dV K ρ)) := by
  unfold lookD at h
  split at h
  · split at h
    · rename_i kvs e
      obtain ⟨k, h1, rfl⟩ := Option.map_eq_some_iff.mp h
      refine ⟨_, rfl, ?_⟩
      rw [keyD_ok h1, ← valD_eq]
      exact DGet.k (R.get e).1
    · rename_i kvs e
      split at h
      · split at h
        · rename_i xs e2
          obtain ⟨ks, h1, rfl⟩ := Option.map_eq_some_iff.mp h
          refine ⟨_, rfl, ?_⟩
          rw [← valD_eq]
          refine DGet.t (R.get e).1 ?_
          have g := (R.get e2).1
          rw [show dO K ρ (.tup xs) = .tup (ks.map kV) from congrArg HO.tup (keysD_ok h1)] at g
          exact g
        · cases h
      · cases h
    · cases h
  · cases h
instance (td ty : TE) [a : EvE K E td] [b : EvE K E ty] : EvE K E (tDGet td ty) where
  run := fun σ S => bindE (a.run σ S) fun x S1 => bindE (b.run σ S1) fun y S2 => match lookD S2 x y with
    | some (some v) => if wf S2.length v = true then retS v S2 else none
    | _ => none
  good := fun {σ S r} h w => bind_good (te := td) h w fun {x S1 r} l wx h => bind_good (te := ty) h (wfS_le l w) fun {y S2 r} l2 wy h => by
    split at h
    · split at h
      · rename_i wv
        exact ret_good h wv
      · cases h
    · cases h
  ok := fun {σ S r ρ H Q} h w R p => bind_ok (te := td) h w R p fun {x S1 ρ1 H1} l wx h R1 F1 eσ p => by
    rw [← eσ]
    refine bind_ok (te := ty) h (wfS_le l w) R1 p fun {y S2 ρ2 H2} l2 wy h R2 F2 _ p => ?_
    have ex : dV K ρ2 x = dV K ρ1 x := F2.val R1.len wx
    rw [← ex]
    split at h
    · rename_i v hv
      split at h
      · obtain ⟨a', e1, g⟩ := lookD_ok R2 hv
        exact ⟨a', _, e1, g, ret_post (E := E) h R2 p⟩
      · cases h
    · cases h
instance (ty td : TE) [b : EvE K E ty] [a : EvE K E td] : EvE K E (tDIn ty td) where
  run := fun σ S => bindE (b.run σ S) fun y S1 => bindE (a.run σ S1) fun x S2 => match lookD S2 x y with
    | some o => retS (.bl o.isSome) S2
    | _ => none
  good := fun {σ S r} h w => bind_good (te := ty) h w fun {x S1 r} l wx h => bind_good (te := td) h (wfS_le l w) fun {y S2 r} l2 wy h => by
    split at h
    · exact ret_good h rfl
    · cases h
  ok := fun {σ S r ρ H Q} h w R p => bind_ok (te := ty) h w R p fun {y S1 ρ1 H1} l wx h R1 F1 eσ p => by
    rw [← eσ]
    refine bind_ok (te := td) h (wfS_le l w) R1 p fun {x S2 ρ2 H2} l2 wy h R2 F2 _ p => ?_
    have ex : dV K ρ2 y = dV K ρ1 y := F2.val R1.len wx
    rw [← ex]
    split at h
    · rename_i o hv
      obtain ⟨a', e1, g⟩ := lookD_ok R2 hv
      refine ⟨a', _, e1, g, ?_⟩
      rw [Option.isSome_map]
      exact ret_post (E := E) h R2 p
    · cases h
instance (ty td : TE) [b : EvE K E ty] [a : EvE K E td] : EvE K E (tDNotIn ty td) where
  run := fun σ S => bindE (b.run σ S) fun y S1 => bindE (a.run σ S1) fun x S2 => match lookD S2 x y with
    | some o => retS (.bl (!o.isSome)) S2
    | _ => none
  good := fun {σ S r} h w => bind_good (te := ty) h w fun {x S1 r} l wx h => bind_good (te := td) h (wfS_le l w) fun {y S2 r} l2 wy h => by
    split at h
    · exact ret_good h rfl
    · cases h
  ok := fun {σ S r ρ H Q} h w R p => bind_ok (te := ty) h w R p fun {y S1 ρ1 H1} l wx h R1 F1 eσ p => by
    rw [← eσ]
    refine bind_ok (te := td) h (wfS_le l w) R1 p fun {x S2 ρ2 H2} l2 wy h R2 F2 _ p => ?_
    have ex : dV K ρ2 y = dV K ρ1 y := F2.val R1.len wx
    rw [← ex]
    split at h
    · rename_i o hv
      obtain ⟨a', e1, g⟩ := lookD_ok R2 hv
      refine ⟨a', _, e1, g, ?_⟩
      rw [Option.isSome_map]
      exact ret_post (E := E) h R2 p
    · cases h
end RunX
set_option maxHeartbeats 4000000
namespace RunX
open PySem PySem.Spec PyProof.Rows L2 He
variable {K : PySem.W.Frag} {E : XK}
/-! ### o[i] = v -/
class EvW (K : PySem.W.Frag) (t : TSet) where
  run : List DO → DV → DV → DV → Option (List DO)
  len : ∀ {S o i v S'}, run S o i v = some S' → S'.length = S.length
  ok : ∀ {S o i v S' ρ H Q}, run S o i v = some S' → wf S.length v = true → Rep K ρ S H → (∀ H', Rep K ρ S' H' → Fr ρ H ρ H' → Q H') → t (dV K ρ o) (dV K ρ i) (dV K ρ v) H Q
instance (te to ti : TE) (t : TSet) [e : EvE K E te] [a : EvE K E to] [b : EvE K E ti] [s : EvW K t] : EvS K E (tAsg te (gSub to ti t)) where
  run := fun σ S => bindX (e.run σ S) fun v S1 => bindX (a.run σ S1) fun o S2 => bindX (b.run σ S2) fun i S3 => (s.run S3 o i v).map fun S4 => .nx σ S4
  good := fun {σ S q} h w => bindX_good (te := te) h w fun {v S1 q} l1 wv h => bindX_good (te := to) h (wfS_le l1 w) fun {o S2 q} l2 wo h => bindX_good (te := ti) h (wfS_le (Nat.le_trans l1 l2) w) fun {i S3 q} l3 wi h => by
    obtain ⟨S4, h1, rfl⟩ := Option.map_eq_some_iff.mp h
    show (decide _ && _) = true
    rw [s.len h1, wfS_le (Nat.le_trans l1 (Nat.le_trans l2 l3)) w]
    simp
  ok := fun {σ S q ρ H D} h w R p => bindX_ok (te := te) h w R p fun {v S1 ρ1 H1} l1 wv h R1 F1 eσ p => by
    rw [← eσ]
    have w1 := wfS_le l1 w
    refine bindX_ok (te := to) h w1 R1 p fun {o S2 ρ2 H2} l2 wo h R2 F2 eσ2 p => ?_
    have w2 := wfS_le l2 w1
    rw [← eσ2]
    refine bindX_ok (te := ti) h w2 R2 p fun {i S3 ρ3 H3} l3 wi h R3 F3 eσ3 p => ?_
    obtain ⟨S4, h1, rfl⟩ := Option.map_eq_some_iff.mp h
    have ev : dV K ρ3 v = dV K ρ1 v := (F3.val R2.len (wf_le l2 wv)).trans (F2.val R1.len wv)
    have eo : dV K ρ3 o = dV K ρ2 o := F3.val R2.len wo
    rw [← ev, ← eo, ← eσ3]
    exact s.ok h1 (wf_le (Nat.le_trans l2 l3) wv) R3 fun H' R' F' => p ρ3 H' R' F'
def putD {κ : Type} [DecidableEq κ] (kvs : List (κ × DV)) (k : κ) (v : DV) : List (κ × DV) :=
  if (kvs.any fun kv => decide (kv.1 = k)) = true then kvs.map (fun kv => if kv.1 = k then (kv.1, v) else kv) else kvs ++ [(k, v)]
theorem putD_eq {κ : Type} [DecidableEq κ] {ρ : List Addr} {kvs : List (κ × DV)} {k : κ} {v : DV} : (putD kvs k v).map (fun p => (p.1, dV K ρ p.2)) = putK (kvs.map fun p => (p.1, dV K ρ p.2)) k (dV K ρ v) := by
  unfold putD putK
  have e : ((kvs.map fun p => (p.1, dV K ρ p.2)).any fun kv => decide (kv.1 = k)) = kvs.any fun kv => decide (kv.1 = k) := by
    rw [List.any_map]
    rfl
  rw [e]
  split
  · rw [List.map_map, List.map_map]
    refine List.map_congr_left fun p hp => ?_
    show (_, _) = _
    by_cases c : p.1 = k
    · simp [c]
    · simp [c]
  · simp
instance : EvW K rSetD where
  run := fun S o i v => match o with
    | .ref n => (match S[n]? with
      | some (.dK kvs) => (match keyD i with
        | some k => if kvs.length ≤ 100000 ∧ wfO S.length (.dK (putD kvs k v)) = true then some (S.set n (.dK (putD kvs k v))) else none
        | none => none)
      | some (.dT kvs) => (match i with
        | .ref m => (match S[m]? with
          | some (.tup xs) => (match keysD xs with
            | some k => if kvs.length ≤ 100000 ∧ wfO S.length (.dT (putD kvs k v)) = true then some (S.set n (.dT (putD kvs k v))) else none
            | none => none)
          | _ => none)
        | _ => none)
      | _ => none)
    | _ => none
  len := fun {S o i v S'} h => by
    split at h
    · split at h
      · split at h
        · split at h
          · cases h
            rw [List.length_set]
          · cases h
        · cases h
      · split at h
        · split at h
          · split at h
            · split at h
              · cases h
                rw [List.length_set]
              · cases h
            · cases h
          · cases h
        · cases h
      · cases h
    · cases h
  ok := fun {S o i v S' ρ H Q} h wv R q => by
    split at h
    · split at h
      · rename_i kvs e
        split at h
        · rename_i k hk
          split at h
          · rename_i c
            cases h
            obtain ⟨R1, F1⟩ := R.set e c.2
            have em : dO K ρ (.dK (putD kvs k v)) = .dK (putK (kvs.map fun p => (p.1, dV K ρ p.2)) k (dV K ρ v)) := congrArg HO.dK putD_eq
            refine ⟨_, _, rfl, ?_, q _ R1 F1⟩
            rw [keyD_ok hk, em]
            exact DPut.k (R.get e).1 (Nat.lt_of_le_of_lt (by rw [List.length_map]; exact c.1) (by decide))
          · cases h
        · cases h
      · rename_i kvs e
        split at h
        · split at h
          · rename_i xs e2
            split at h
            · rename_i k hk
              split at h
              · rename_i c
                cases h
                obtain ⟨R1, F1⟩ := R.set e c.2
                have em : dO K ρ (.dT (putD kvs k v)) = .dT (putK (kvs.map fun p => (p.1, dV K ρ p.2)) k (dV K ρ v)) := congrArg HO.dT putD_eq
                have g2 := (R.get e2).1
                rw [show dO K ρ (.tup xs) = .tup (k.map kV) from congrArg HO.tup (keysD_ok hk)] at g2
                refine ⟨_, _, rfl, .inr ⟨_, k, _, (R.get e).1, rfl, g2, Nat.lt_of_le_of_lt (by rw [List.length_map]; exact c.1) (by decide), rfl⟩, ?_⟩
                rw [← em]
                exact q _ R1 F1
              · cases h
            · cases h
          · cases h
        · cases h
      · cases h
    · cases h
end RunX
set_option maxHeartbeats 4000000
namespace RunX
open PySem PySem.Spec PyProof.Rows L2 He
variable {K : PySem.W.Frag} {E : XK}
/-! ### tuples joined -/
instance : EvR K (rCatT K) where
  run := fun S x y => match x, y with
    | .ref n, .ref m => (match S[n]?, S[m]? with
      | some (.tup xs), some (.tup ys) => if xs ≠ [] ∧ xs.length + ys.length ≤ 100000 ∧ wfO S.length (.tup (xs ++ ys)) = true then (if ys = [] then some (.ret (.ref n) S) else alloc S (.tup (xs ++ ys))) else none
      | _, _ => none)
    | _, _ => none
  good := fun {S x y q} h wx wy => by
    split at h
    · split at h
      · split at h
        · split at h
          · cases h
            show (decide _ && _) = true
            rw [wx]
            simp
          · exact alloc_good h
        · cases h
      · cases h
    · cases h
  ok := fun {S x y q ρ H Q E} h wx wy R p => by
    split at h
    · split at h
      · rename_i n m _ _ xs ys e1 e2
        split at h
        · rename_i c
          have nn : xs.map (dV K ρ) ≠ [] := fun z => c.1 (List.map_eq_nil_iff.mp z)
          refine ⟨_, _, xs.map (dV K ρ), ys.map (dV K ρ), rfl, rfl, SqT.of (R.get e1).1, SqT.of (R.get e2).1, nn, by rw [List.length_map, List.length_map]; exact Nat.le_trans c.2.1 (by decide), fun z => ?_, fun z a ha => ?_⟩
          · have hy : ys = [] := List.map_eq_nil_iff.mp z
            rw [if_pos hy] at h
            cases h
            exact p ρ H R (Fr.refl _ _)
          · have hy : ys ≠ [] := fun q => z (by rw [q]; rfl)
            rw [if_neg hy] at h
            have w := alloc_post (E := E) h c.2.2 R p ha
            have em : dO K ρ (.tup (xs ++ ys)) = .tup (xs.map (dV K ρ) ++ ys.map (dV K ρ)) := by simp [dO]
            rw [em] at w
            exact w
        · cases h
      · cases h
    · cases h
end RunX
set_option maxHeartbeats 4000000
namespace RunX
open PySem PySem.Spec PyProof.Rows L2 He
variable {K : PySem.W.Frag} {E : XK}
theorem rep_map {ρ : List Addr} {xs : List DV} {n : Nat} : (List.replicate n xs).flatten.map (dV K ρ) = (List.replicate n (xs.map (dV K ρ))).flatten := by
  simp [List.map_flatten, List.map_replicate]
/-! ### repeated -/
instance : EvR K rRep where
  run := fun S x y => match x, y with
    | .ref n, .int k => (match S[n]? with
      | some (.lst xs) => if (-(2 ^ 63) ≤ k ∧ k < 2 ^ 63) ∧ xs.length * k.toNat ≤ 100000 ∧ wfO S.length (.lst (List.replicate k.toNat xs).flatten) = true then alloc S (.lst (List.replicate k.toNat xs).flatten) else none
      | _ => none)
    | _, _ => none
  good := fun {S x y q} h wx wy => by
    split at h
    · split at h
      · split at h
        · exact alloc_good h
        · cases h
      · cases h
    · cases h
  ok := fun {S x y q ρ H Q E} h wx wy R p => by
    split at h
    · split at h
      · rename_i xs e
        split at h
        · rename_i c
          refine ⟨_, _, _, rfl, rfl, (R.get e).1, c.1.1, c.1.2, by rw [List.length_map]; exact Nat.le_trans c.2.1 (by decide), fun a ha => ?_⟩
          have z := alloc_post (E := E) h c.2.2 R p ha
          rw [← rep_map]
          exact z
        · cases h
      · cases h
    · cases h
instance : EvR K (rRepT K) where
  run := fun S x y => match x, y with
    | .ref n, .int k => (match S[n]? with
      | some (.tup xs) => if (xs ≠ [] ∧ 2 ≤ k ∧ k ≤ 1000) ∧ xs.length ≤ 1000 ∧ wfO S.length (.tup (List.replicate k.toNat xs).flatten) = true then alloc S (.tup (List.replicate k.toNat xs).flatten) else none
      | _ => none)
    | _, _ => none
  good := fun {S x y q} h wx wy => by
    split at h
    · split at h
      · split at h
        · exact alloc_good h
        · cases h
      · cases h
    · cases h
  ok := fun {S x y q ρ H Q E} h wx wy R p => by
    split at h
    · split at h
      · rename_i xs e
        split at h
        · rename_i c
          refine ⟨_, _, _, rfl, rfl, SqT.of (R.get e).1, fun z => c.1.1 (List.map_eq_nil_iff.mp z), c.1.2.1, c.1.2.2, by rw [List.length_map]; exact c.2.1, fun a ha => ?_⟩
          have z := alloc_post (E := E) h c.2.2 R p ha
          rw [← rep_map]
          exact z
        · cases h
      · cases h
    · cases h
end RunX
set_option maxHeartbeats 4000000
namespace RunX
open PySem PySem.Spec PyProof.Rows L2 He
variable {K : PySem.W.Frag} {E : XK}
def cutD (xs : List DV) (lo hi : Option Int) : List DV := (xs.drop (HT.sIx xs.length 0 lo)).take (HT.sIx xs.length xs.length hi - HT.sIx xs.length 0 lo)
theorem cutD_eq {ρ : List Addr} {xs : List DV} {lo hi : Option Int} : cutV (xs.map (dV K ρ)) lo hi = (cutD xs lo hi).map (dV K ρ) := by
  unfold cutV cutD
  rw [List.length_map, List.map_take, List.map_drop]
theorem cutD_wf {n : Nat} {xs : List DV} {lo hi : Option Int} (w : xs.all (wf n) = true) : (cutD xs lo hi).all (wf n) = true :=
  List.all_eq_true.mpr fun v hv => List.all_eq_true.mp w v (List.mem_of_mem_drop (List.mem_of_mem_take hv))
/-! ### slices of lists and tuples -/
instance : EvSl K (rSlL K) where
  run := fun S x lo hi => match x with
    | .ref n => (match S[n]? with
      | some (.lst xs) => alloc S (.lst (cutD xs lo hi))
      | _ => none)
    | _ => none
  good := fun {S x lo hi q} h wx => by
    split at h
    · split at h
      · exact alloc_good h
      · cases h
    · cases h
  ok := fun {S x lo hi q ρ H Q E} h wx R p => by
    split at h
    · split at h
      · rename_i xs e
        obtain ⟨g, w⟩ := R.get e
        refine ⟨_, _, rfl, SqL.of g, fun a ha => ?_⟩
        rw [cutD_eq]
        exact alloc_post (E := E) (o := .lst (cutD xs lo hi)) h (cutD_wf w) R p ha
      · cases h
    · cases h
instance : EvSl K (rSlT K) where
  run := fun S x lo hi => match x with
    | .ref n => (match S[n]? with
      | some (.tup xs) => if HT.sIx xs.length 0 lo = 0 ∧ HT.sIx xs.length xs.length hi = xs.length then none else alloc S (.tup (cutD xs lo hi))
      | _ => none)
    | _ => none
  good := fun {S x lo hi q} h wx => by
    split at h
    · split at h
      · split at h
        · cases h
        · exact alloc_good h
      · cases h
    · cases h
  ok := fun {S x lo hi q ρ H Q E} h wx R p => by
    split at h
    · split at h
      · rename_i xs e
        split at h
        · cases h
        · rename_i c
          obtain ⟨g, w⟩ := R.get e
          refine ⟨_, _, rfl, SqT.of g, by rw [List.length_map]; exact c, fun a ha => ?_⟩
          rw [cutD_eq]
          exact alloc_post (E := E) (o := .tup (cutD xs lo hi)) h (cutD_wf w) R p ha
      · cases h
    · cases h
end RunX
set_option maxHeartbeats 4000000
/-! Attributes and isinstance with the class's facts kept in the rule, none in the reading. -/
namespace PO
open PySem PySem.Spec PyProof.Rows L2
theorem imp {X : Cx} {e : Expr} {t t' : TE} (h : PE X e t) (f : ∀ σ H Q, t' σ H Q → t σ H Q) : PE X e t' := ⟨fun pins s σ H Q I q => h.run pins s σ H Q I (f σ H Q q)⟩
/-- e.f of an instance of the class at C -/
def tFldO (C : Addr) (f : Str) (ta : TE) : TE := fun σ H Q => ta σ H fun x H1 => ∃ a dx fs v, x = .ref a ∧ H1 a = some (.ins C dx fs) ∧ fs.lookup f = some v ∧ Q v H1
/-- o.f = e -/
def sFldO (C : Addr) (f : Str) (ta tv : TE) : TS := fun D σ H => tv σ H fun y H1 => ta σ H1 fun x H2 => ∃ a dx fs, x = .ref a ∧ H2 a = some (.ins C dx fs) ∧ fs.length < 1000 ∧ D.nx σ (upd H2 a (.ins C dx (putF f y fs)))
/-- o.f as a target -/
def gFldO (C : Addr) (f : Str) (ta : TE) : TG := fun y σ H Q => ta σ H fun x H2 => ∃ a dx fs, x = .ref a ∧ H2 a = some (.ins C dx fs) ∧ fs.length < 1000 ∧ Q σ (upd H2 a (.ins C dx (putF f y fs)))
inductive IsO (C : Addr) (H : Hp) : V → Bool → Prop where
  | non : IsO C H .non false
  | bl (x : Bool) : IsO C H (.bl x) false
  | int (i : Int) : IsO C H (.int i) false
  | str (x : Str) : IsO C H (.str x) false
  | lst {a : Addr} {xs : List V} (e : H a = some (.lst xs)) : IsO C H (.ref a) false
  | tup {a : Addr} {xs : List V} (e : H a = some (.tup xs)) : IsO C H (.ref a) false
  | dK {a : Addr} {kvs : List (Key × V)} (e : H a = some (.dK kvs)) : IsO C H (.ref a) false
  | dT {a : Addr} {kvs : List (List Key × V)} (e : H a = some (.dT kvs)) : IsO C H (.ref a) false
  | ins {a dx : Addr} {fs : List (Str × V)} (e : H a = some (.ins C dx fs)) : IsO C H (.ref a) true
/-- isinstance(x, C) -/
def rIsO (C : Addr) : List V → Hp → VK → Prop := fun xs H Q => ∃ x b, xs = [x, .ref C] ∧ IsO C H x b ∧ Q (.bl b) H
/-- what must be known of the class for it -/
structure IsF (K : PySem.W.Frag) (C : Addr) : Prop where
  non : PySem.W.kitOne K (.type "NoneType") (.ref C) = some false
  bl : PySem.W.kitOne K (.type "bool") (.ref C) = some false
  int : PySem.W.kitOne K (.type "int") (.ref C) = some false
  str : PySem.W.kitOne K (.type "str") (.ref C) = some false
  lst : PySem.W.kitOne K (.type "list") (.ref C) = some false
  tup : PySem.W.kitOne K (.type "tuple") (.ref C) = some false
  dct : PySem.W.kitOne K (.type "dict") (.ref C) = some false
  own : PySem.W.kitOne K (.ref C) (.ref C) = some true
  ins : ∀ {H : Hp} {a dx : Addr} {fs : List (Str × V)}, H a = some (.ins C dx fs) → TyOf K H (.ref a) (.ref C)
section
variable {X : Cx} {C : Addr} {f : Str} {e o v : Expr} {ta tv : TE} {pos pos' : Pos}
theorem pe_fldO (c : Cls X.K C) (n : NoAttr X.K C f) (he : PE X e ta) (hb : attributeBase e f X.env (eval e X.env) = eval e X.env := by rfl) : PE X (.Attribute e f pos) (tFldO C f ta) := by
  refine ⟨fun pins s σ H Q I h => attr_of hb (thn (he.run pins s σ H _ I h) fun u s1 ⟨x, H1, I1, rx, a, dx, fs, z, ex, ea, l, q⟩ => ?_)⟩
  subst ex
  obtain rfl : u = Value.ref a := rx
  exact getattr_ok I1 ea c n l fun u' s2 I2 ru => ⟨z, H1, I2, ru, q⟩
theorem ps_fldO (c : Cls X.K C) (n : NoAttr X.K C f) (ho : PE X o ta) (hv : PE X v tv) (hs : swapsWith v (some (.Attribute o f pos')) pos.line X.env = pure false := by rfl) : PS X (.Assign [.Attribute o f pos'] v pos) (sFldO C f ta tv) := by
  refine ⟨fun pins s σ H D I h => plainObj_wpAny_Assign_Attribute (thn (hv.run pins s σ H _ I h) fun u s1 ⟨y, H1, I1, ry, q⟩ => thn (ho.run pins s1 σ H1 _ I1 q) fun ov s2 ⟨x, H2, I2, rx, a, dx, fs, ex, ea, l, q2⟩ => ?_) hs⟩
  subst ex
  obtain rfl : ov = Value.ref a := rx
  exact setattr_ok I2 ea c n l ry fun s3 I3 => ⟨σ, _, I3, q2⟩
theorem pg_fldO (c : Cls X.K C) (n : NoAttr X.K C f) (ho : PE X o ta) : PG X (.Attribute o f pos) (gFldO C f ta) := by
  refine ⟨fun pins s σ H y u Q I ry h => ?_⟩
  rw [arm_assign_Attribute]
  refine wpAny_bind (wpAny_holding (thn (ho.run pins s σ H _ I h) fun ov s2 ⟨x, H2, I2, rx, a, dx, fs, ex, ea, l, q2⟩ => ?_))
  subst ex
  obtain rfl : ov = Value.ref a := rx
  exact wpAny_bind (wpAny_standAt (wpAny_bind (wpAny_holding (setattr_ok I2 ea c n l ry fun s3 I3 => wpAny_release ⟨σ, _, I3, q2⟩))))
theorem call_isO (F : IsF X.K C) : CallR X (.builtin "isinstance") (rIsO C) := by
  intro pins s σ H xs us Q I r h
  obtain ⟨x, b, rfl, i, q⟩ := h
  have fin : ∀ t, TyOf X.K H x t → PySem.W.kitOne X.K t (.ref C) = some b → wpAny (model X.prog X.w) X.A (call (.builtin "isinstance") us) (EP X pins σ Q) X.xe s := fun t ty k =>
    call_isi pins s σ H [x, .ref C] us Q I r ⟨x, .ref C, t, .ref C, b, rfl, .own C, .base ty, k, q⟩
  cases i with
  | non => exact fin _ .non F.non
  | bl z => exact fin _ (.bl z) F.bl
  | int z => exact fin _ (.int z) F.int
  | str z => exact fin _ (.str z) F.str
  | lst e => exact fin _ (.lst e) F.lst
  | tup e => exact fin _ (.tup e) F.tup
  | dK e => exact fin _ (.dK e) F.dct
  | dT e => exact fin _ (.dT e) F.dct
  | ins e => exact fin _ (F.ins e) F.own
end
end PO
set_option maxHeartbeats 4000000
/-! Objects of own classes: attributes, methods, new ones, isinstance. -/
namespace RunX
open PySem PySem.Spec PyProof.Rows L2 He PO
variable {K : PySem.W.Frag} {E : XK}
theorem look_map {ρ : List Addr} {f : Str} : ∀ {fs : List (Str × DV)}, (fs.map fun p => (p.1, dV K ρ p.2)).lookup f = (fs.lookup f).map (dV K ρ)
  | [] => rfl
  | (g, x) :: r => by
    rw [List.map_cons, List.lookup_cons, List.lookup_cons]
    cases f == g
    · exact look_map
    · rfl
def putA (f : Str) (v : DV) : List (Str × DV) → List (Str × DV)
  | [] => [(f, v)]
  | (g, x) :: r => if g = f then (g, v) :: r else (g, x) :: putA f v r
theorem put_map {ρ : List Addr} {f : Str} {v : DV} : ∀ {fs : List (Str × DV)}, putF f (dV K ρ v) (fs.map fun p => (p.1, dV K ρ p.2)) = (putA f v fs).map fun p => (p.1, dV K ρ p.2)
  | [] => rfl
  | (g, x) :: r => by
    simp only [List.map_cons, putF, putA]
    split
    · rfl
    · rw [put_map]
      rfl
theorem put_wf {n : Nat} {f : Str} {v : DV} (wv : wf n v = true) : ∀ {fs : List (Str × DV)}, (fs.all fun p => wf n p.2) = true → ((putA f v fs).all fun p => wf n p.2) = true
  | [], _ => by
    show (wf n v && true) = true
    rw [wv]
    rfl
  | (g, x) :: r, h => by
    obtain ⟨h1, h2⟩ := ba (show (wf n x && r.all fun p => wf n p.2) = true from h)
    unfold putA
    split
    · show (wf n v && _) = true
      rw [wv, h2]
      rfl
    · show (wf n x && _) = true
      rw [h1, put_wf wv h2]
      rfl
theorem look_wf {n : Nat} {f : Str} {v : DV} : ∀ {fs : List (Str × DV)}, (fs.all fun p => wf n p.2) = true → fs.lookup f = some v → wf n v = true
  | (g, x) :: r, h, e => by
    obtain ⟨h1, h2⟩ := ba (show (wf n x && r.all fun p => wf n p.2) = true from h)
    rw [List.lookup_cons] at e
    cases c : f == g
    · rw [c] at e
      exact look_wf h2 e
    · rw [c] at e
      cases e
      exact h1
/-- the instance at x -/
def insD (C : Str) (S : List DO) : DV → Option (Nat × Nat × List (Str × DV))
  | .ref n => (match S[n]? with
    | some (.ins D dx fs) => if D = C then some (n, dx, fs) else none
    | _ => none)
  | _ => none
theorem insD_ok {ρ : List Addr} {S : List DO} {H : Hp} {C : Str} {x : DV} {n dx : Nat} {fs : List (Str × DV)} (R : Rep K ρ S H) (h : insD C S x = some (n, dx, fs)) :
    x = .ref n ∧ S[n]? = some (.ins C dx fs) ∧ H (ρ.getD n 0) = some (.ins (ga K C) (ρ.getD dx 0) (fs.map fun p => (p.1, dV K ρ p.2))) ∧ (decide (dx < S.length) && fs.all fun p => wf S.length p.2) = true := by
  unfold insD at h
  split at h
  · split at h
    · rename_i e
      split at h
      · rename_i c
        cases h
        subst c
        obtain ⟨g, w⟩ := R.get e
        exact ⟨rfl, e, g, w⟩
      · cases h
    · cases h
  · cases h
theorem insD_wf {S : List DO} {C : Str} {x : DV} {n dx : Nat} {fs : List (Str × DV)} (h : insD C S x = some (n, dx, fs)) : x = .ref n ∧ S[n]? = some (.ins C dx fs) := by
  unfold insD at h
  split at h
  · split at h
    · rename_i e
      split at h
      · rename_i c
        cases h
        subst c
        exact ⟨rfl, e⟩
      · cases h
    · cases h
  · cases h
/-- e.f -/
instance (C f : Str) (te : TE) [e : EvE K E te] : EvE K E (tFldO (ga K C) f te) where
  run := fun σ S => bindE (e.run σ S) fun x S1 => match insD C S1 x with
    | some (_, _, fs) => (match fs.lookup f with
      | some v => if wf S1.length v = true then retS v S1 else none
      | none => none)
    | none => none
  good := fun {σ S r} h w => bind_good (te := te) h w fun {x S1 r} l wx h => by
    split at h
    · split at h
      · split at h
        · rename_i c
          exact ret_good h c
        · cases h
      · cases h
    · cases h
  ok := fun {σ S r ρ H Q} h w R p => bind_ok (te := te) h w R p fun {x S1 ρ1 H1} l wx h R1 F1 eσ p => by
    split at h
    · rename_i n dx fs hi
      split at h
      · rename_i v hv
        split at h
        · obtain ⟨rfl, e1, g, wi⟩ := insD_ok R1 hi
          exact ⟨_, _, _, dV K ρ1 v, rfl, g, by rw [look_map, hv]; rfl, ret_post (E := E) h R1 p⟩
        · cases h
      · cases h
    · cases h
/-- o.f = e -/
instance (C f : Str) (te tv : TE) [e : EvE K E te] [v : EvE K E tv] : EvS K E (sFldO (ga K C) f te tv) where
  run := fun σ S => bindX (v.run σ S) fun y S1 => bindX (e.run σ S1) fun x S2 => match insD C S2 x with
    | some (n, dx, fs) => if fs.length < 1000 ∧ wfO S2.length (.ins C dx (putA f y fs)) = true then some (.nx σ (S2.set n (.ins C dx (putA f y fs)))) else none
    | none => none
  good := fun {σ S o} h w => bindX_good (te := tv) h w fun {y S1 o} l wy h => bindX_good (te := te) h (wfS_le l w) fun {x S2 o} l2 wx h => by
    split at h
    · split at h
      · cases h
        show (decide _ && _) = true
        rw [List.length_set, wfS_le l2 (wfS_le l w)]
        simp
      · cases h
    · cases h
  ok := fun {σ S o ρ H D} h w R p => bindX_ok (te := tv) h w R p fun {y S1 ρ1 H1} l wy h R1 F1 eσ p => by
    show te _ _ _
    rw [← eσ]
    refine bindX_ok (te := te) h (wfS_le l w) R1 p fun {x S2 ρ2 H2} l2 wx h R2 F2 eσ2 p => ?_
    split at h
    · rename_i n dx fs hi
      split at h
      · rename_i c
        cases h
        obtain ⟨rfl, e1, g, wi⟩ := insD_ok R2 hi
        obtain ⟨R3, F3⟩ := R2.set e1 c.2
        refine ⟨_, _, _, rfl, g, by rw [List.length_map]; exact c.1, ?_⟩
        have z := p _ _ R3 F3
        rw [eσ2] at z
        have ey : dV K ρ2 y = dV K ρ1 y := F2.val R1.len wy
        rw [← ey, put_map]
        exact z
      · cases h
    · cases h
/-! ### targets that change objects -/
class EvH (K : PySem.W.Frag) (E : XK) (g : TG) where
  run : DV → List (Option DV) → List DO → Option (List (Option DV) × List DO)
  good : ∀ {v σ S σ' S'}, run v σ S = some (σ', S') → wf S.length v = true → wfS S.length σ = true → S.length ≤ S'.length ∧ wfS S'.length σ' = true
  ok : ∀ {v σ S σ' S' ρ H Q}, run v σ S = some (σ', S') → wf S.length v = true → wfS S.length σ = true → Rep K ρ S H → (∀ ρ' H', Rep K ρ' S' H' → Fr ρ H ρ' H' → Q (dSt K ρ' σ') H') → g (dV K ρ v) (dSt K ρ σ) H Q
instance (i : Nat) : EvH K E (gName i) where
  run := fun v σ S => some (σ.set i (some v), S)
  good := fun {v σ S σ' S'} h wv w => by
    cases h
    exact ⟨Nat.le_refl _, wfS_set w wv⟩
  ok := fun {v σ S σ' S' ρ H Q} h wv w R q => by
    cases h
    have z := q ρ H R (Fr.refl _ _)
    rw [dSt_set] at z
    exact z
instance (C f : Str) (te : TE) [e : EvE K E te] : EvH K E (gFldO (ga K C) f te) where
  run := fun y σ S => match e.run σ S with
    | some (.ret x S2) => (match insD C S2 x with
      | some (n, dx, fs) => if fs.length < 1000 ∧ wfO S2.length (.ins C dx (putA f y fs)) = true then some (σ, S2.set n (.ins C dx (putA f y fs))) else none
      | none => none)
    | _ => none
  good := fun {v σ S σ' S'} h wv w => by
    split at h
    · rename_i x S2 h2
      split at h
      · split at h
        · cases h
          have l := of_decide_eq_true (ba (e.good h2 w)).1
          rw [List.length_set]
          exact ⟨l, wfS_le l w⟩
        · cases h
      · cases h
    · cases h
  ok := fun {y σ S σ' S' ρ H Q} h wv w R q => by
    split at h
    · rename_i x S2 h2
      split at h
      · rename_i n dx fs hi
        split at h
        · rename_i c
          cases h
          refine e.ok h2 w R fun ρ2 H2 R2 F2 => ?_
          obtain ⟨rfl, e1, g, wi⟩ := insD_ok R2 hi
          obtain ⟨R3, F3⟩ := R2.set e1 c.2
          refine ⟨_, _, _, rfl, g, by rw [List.length_map]; exact c.1, ?_⟩
          have z := q _ _ R3 (F2.trans R2 F3)
          rw [F2.le R.len w] at z
          have ey : dV K ρ2 y = dV K ρ y := F2.val R.len wv
          rw [← ey, put_map]
          exact z
        · cases h
      · cases h
    · cases h
class EvHs (K : PySem.W.Frag) (E : XK) (g : TGs) where
  run : List DV → List (Option DV) → List DO → Option (List (Option DV) × List DO)
  good : ∀ {vs σ S σ' S'}, run vs σ S = some (σ', S') → vs.all (wf S.length) = true → wfS S.length σ = true → S.length ≤ S'.length ∧ wfS S'.length σ' = true
  ok : ∀ {vs σ S σ' S' ρ H Q}, run vs σ S = some (σ', S') → vs.all (wf S.length) = true → wfS S.length σ = true → Rep K ρ S H → (∀ ρ' H', Rep K ρ' S' H' → Fr ρ H ρ' H' → Q (dSt K ρ' σ') H') → g (vs.map (dV K ρ)) (dSt K ρ σ) H Q
instance : EvHs K E gNil where
  run := fun vs σ S => match vs with
    | [] => some (σ, S)
    | _ => none
  good := fun {vs σ S σ' S'} h wv w => by
    split at h
    · cases h
      exact ⟨Nat.le_refl _, w⟩
    · cases h
  ok := fun {vs σ S σ' S' ρ H Q} h wv w R q => by
    split at h
    · cases h
      exact ⟨rfl, q ρ H R (Fr.refl _ _)⟩
    · cases h
theorem all_le {m n : Nat} (h : m ≤ n) {vs : List DV} (w : vs.all (wf m) = true) : vs.all (wf n) = true := List.all_eq_true.mpr fun v hv => wf_le h (List.all_eq_true.mp w v hv)
theorem Fr.vals {ρ ρ' : List Addr} {H H' : Hp} {vs : List DV} {n : Nat} (f : Fr ρ H ρ' H') (hn : ρ.length = n) (w : vs.all (wf n) = true) : vs.map (dV K ρ') = vs.map (dV K ρ) := List.map_congr_left fun v hv => f.val hn (List.all_eq_true.mp w v hv)
instance (t : TG) (u : TGs) [a : EvH K E t] [b : EvHs K E u] : EvHs K E (gCons t u) where
  run := fun vs σ S => match vs with
    | v :: r => (match a.run v σ S with
      | some (σ1, S1) => b.run r σ1 S1
      | none => none)
    | _ => none
  good := fun {vs σ S σ' S'} h wv w => by
    split at h
    · obtain ⟨w1, w2⟩ := ba (show (wf S.length _ && _) = true from wv)
      split at h
      · rename_i h1
        obtain ⟨l1, z1⟩ := a.good h1 w1 w
        obtain ⟨l2, z2⟩ := b.good h (all_le l1 w2) z1
        exact ⟨Nat.le_trans l1 l2, z2⟩
      · cases h
    · cases h
  ok := fun {vs σ S σ' S' ρ H Q} h wv w R q => by
    split at h
    · obtain ⟨w1, w2⟩ := ba (show (wf S.length _ && _) = true from wv)
      split at h
      · rename_i h1
        obtain ⟨l1, z1⟩ := a.good h1 w1 w
        refine ⟨_, _, rfl, a.ok h1 w1 w R fun ρ1 H1 R1 F1 => ?_⟩
        rw [← F1.vals R.len w2]
        exact b.ok h (all_le l1 w2) z1 R1 fun ρ2 H2 R2 F2 => q ρ2 H2 R2 (F1.trans R1 F2)
      · cases h
    · cases h
instance (n : Nat) (t : TGs) [b : EvHs K E t] : EvH K E (gTup K n t) where
  run := fun v σ S => match v with
    | .ref m => (match S[m]? with
      | some (.tup xs) => if xs.length = n ∧ xs.all (wf S.length) = true then b.run xs σ S else none
      | _ => none)
    | _ => none
  good := fun {v σ S σ' S'} h wv w => by
    split at h
    · split at h
      · split at h
        · rename_i c
          exact b.good h c.2 w
        · cases h
      · cases h
    · cases h
  ok := fun {v σ S σ' S' ρ H Q} h wv w R q => by
    split at h
    · split at h
      · rename_i xs e
        split at h
        · rename_i c
          exact ⟨_, _, rfl, SqT.of (R.get e).1, by rw [List.length_map]; exact c.1, b.ok h c.2 w R q⟩
        · cases h
      · cases h
    · cases h
instance (priority := 900) (te : TE) (n : Nat) (t : TGs) [e : EvE K E te] [g : EvH K E (gTup K n t)] : EvS K E (tAsg te (gTup K n t)) where
  run := fun σ S => bindX (e.run σ S) fun v S1 => match g.run v σ S1 with
    | some (σ', S') => some (.nx σ' S')
    | none => none
  good := fun {σ S o} h w => bindX_good (te := te) h w fun {v S1 o} l wv h => by
    split at h
    · rename_i h1
      cases h
      obtain ⟨l1, z1⟩ := g.good h1 wv (wfS_le l w)
      show (decide _ && _) = true
      rw [z1, decide_eq_true l1]
      rfl
    · cases h
  ok := fun {σ S o ρ H D} h w R p => bindX_ok (te := te) h w R p fun {v S1 ρ1 H1} l wv h R1 F1 eσ p => by
    split at h
    · rename_i h1
      cases h
      rw [← eσ]
      exact g.ok h1 wv (wfS_le l w) R1 p
    · cases h
/-! ### methods, new objects, properties -/
theorem post_call {sp : Sp} [s : EvSp K sp] {b : Bool} {ρ : List Addr} {S : List DO} {H : Hp} {Q : VK} {ds : List DV} {r : Res} {E' : XK} (hE : b = true → E' = E) (h : (if b = true then s.d.run ds S else onlyRet (s.d.run ds S)) = some r) (w : ds.all (wf S.length) = true) (R : Rep K ρ S H) (p : Post K E ρ H Q r) : sp (ds.map (dV K ρ)) H Q E' := by
  cases b with
  | true =>
    rw [hE rfl]
    exact s.ok h w R p
  | false =>
    obtain ⟨v, S2, h1, rfl⟩ := onlyRet_eq h
    exact s.ok h1 w R p
theorem good_call {sp : Sp} [s : EvSp K sp] {b : Bool} {S : List DO} {ds : List DV} {r : Res} (h : (if b = true then s.d.run ds S else onlyRet (s.d.run ds S)) = some r) (w : ds.all (wf S.length) = true) : good S.length r = true := by
  cases b with
  | true => exact s.d.good h w
  | false =>
    obtain ⟨v, S2, h1, rfl⟩ := onlyRet_eq h
    exact s.d.good h1 w
section
variable (b : Bool) (C m : Str) (sp : Sp) (E' : XK) (te : TE) (ta : TA) [e : EvE K E te] [a : EvA K E ta] [s : EvSp K sp]
def methRun (σ : List (Option DV)) (S : List DO) : Option Res := bindE (e.run σ S) fun x S1 => match insD C S1 x with
    | some (_, _, fs) => if fs.lookup m = none then bindA (a.run σ S1) fun vs S2 => if (wf S2.length x) = true then (if b = true then s.d.run (x :: vs) S2 else onlyRet (s.d.run (x :: vs) S2)) else none else none
    | none => none
theorem meth_good {σ S r} (h : methRun (K := K) (E := E) b C m sp te ta σ S = some r) (w : wfS S.length σ = true) : good S.length r = true := bind_good (te := te) h w fun {x S1 r} l wx h => by
    split at h
    · split at h
      · exact bindA_good (ta := ta) h (wfS_le l w) fun {vs S2 r} l2 wv h => by
          split at h
          · rename_i c
            exact good_call (K := K) h (by show (wf _ x && _) = true; rw [c, wv]; rfl)
          · cases h
      · cases h
    · cases h
theorem meth_ok (hE : b = true → E' = E) {σ S r ρ H Q} (h : methRun (K := K) (E := E) b C m sp te ta σ S = some r) (w : wfS S.length σ = true) (R : Rep K ρ S H) (p : Post K E ρ H Q r) : tMeth (ga K C) m sp [] E' te ta (dSt K ρ σ) H Q := bind_ok (te := te) h w R p fun {x S1 ρ1 H1} l wx h R1 F1 eσ p => by
    split at h
    · rename_i n dx fs hi
      split at h
      · rename_i hl
        obtain ⟨rfl, e1, g, wi⟩ := insD_ok R1 hi
        refine ⟨_, _, _, rfl, g, by rw [look_map, hl]; rfl, ?_⟩
        rw [← eσ]
        refine bindA_ok (ta := ta) h (wfS_le l w) R1 p fun {vs S2 ρ2 H2} l2 wv h R2 F2 p => ?_
        split at h
        · rename_i c
          have ex : dV K ρ2 (.ref n) = dV K ρ1 (.ref n) := F2.val R1.len wx
          rw [List.append_nil, ← ex]
          exact post_call (K := K) (ds := .ref n :: vs) hE h (by show (wf _ _ && _) = true; rw [c, wv]; rfl) R2 p
        · cases h
      · cases h
    · cases h
end
instance (C m : Str) (sp : Sp) (te : TE) (ta : TA) [e : EvE K E te] [a : EvA K E ta] [s : EvSp K sp] : EvE K E (tMeth (ga K C) m sp [] E te ta) := ⟨methRun (K := K) (E := E) true C m sp te ta, meth_good (K := K) true C m sp te ta, RunX.meth_ok (K := K) true C m sp E te ta fun _ => rfl⟩
instance (priority := 1100) (C m : Str) (sp : Sp) (te : TE) (ta : TA) [e : EvE K E te] [a : EvA K E ta] [s : EvSp K sp] : EvE K E (tMeth (ga K C) m sp [] E0 te ta) := ⟨methRun (K := K) (E := E) false C m sp te ta, meth_good (K := K) false C m sp te ta, RunX.meth_ok (K := K) false C m sp E0 te ta fun z => nomatch z⟩
section
variable (b : Bool) (C : Str) (sp : Sp) (E' : XK) (te : TE) [e : EvE K E te] [s : EvSp K sp]
def propRun (σ : List (Option DV)) (S : List DO) : Option Res := bindE (e.run σ S) fun x S1 => match insD C S1 x with
    | some (_, _, fs) => if b = true then s.d.run [x] S1 else onlyRet (s.d.run [x] S1)
    | none => none
theorem prop_good {σ S r} (h : propRun (K := K) (E := E) b C sp te σ S = some r) (w : wfS S.length σ = true) : good S.length r = true := bind_good (te := te) h w fun {x S1 r} l wx h => by
    split at h
    · exact good_call (K := K) h (by show (wf _ x && _) = true; rw [wx]; rfl)
    · cases h
theorem prop_ok (hE : b = true → E' = E) {σ S r ρ H Q} (h : propRun (K := K) (E := E) b C sp te σ S = some r) (w : wfS S.length σ = true) (R : Rep K ρ S H) (p : Post K E ρ H Q r) : tProp (ga K C) sp [] E' te (dSt K ρ σ) H Q := bind_ok (te := te) h w R p fun {x S1 ρ1 H1} l wx h R1 F1 eσ p => by
    split at h
    · rename_i n dx fs hi
      obtain ⟨rfl, e1, g, wi⟩ := insD_ok R1 hi
      exact ⟨_, _, _, rfl, g, post_call (K := K) (ds := [.ref n]) hE h (by show (wf _ _ && _) = true; rw [wx]; rfl) R1 p⟩
    · cases h
end
instance (C : Str) (sp : Sp) (te : TE) [e : EvE K E te] [s : EvSp K sp] : EvE K E (tProp (ga K C) sp [] E te) := ⟨propRun (K := K) (E := E) true C sp te, prop_good (K := K) true C sp te, RunX.prop_ok (K := K) true C sp E te fun _ => rfl⟩
instance (priority := 1100) (C : Str) (sp : Sp) (te : TE) [e : EvE K E te] [s : EvSp K sp] : EvE K E (tProp (ga K C) sp [] E0 te) := ⟨propRun (K := K) (E := E) false C sp te, prop_good (K := K) false C sp te, RunX.prop_ok (K := K) false C sp E0 te fun z => nomatch z⟩
/-- __init__ tells None -/
def madeR (n : Nat) (r : Option Res) : Option Res := match r with
  | some (.ret .non S) => if n < S.length then some (.ret (.ref n) S) else none
  | some (.exc C d S) => some (.exc C d S)
  | _ => none
theorem madeR_eq {n : Nat} {r : Option Res} {q : Res} (h : madeR n r = some q) : (∃ S, r = some (.ret .non S) ∧ q = .ret (.ref n) S ∧ n < S.length) ∨ ∃ C d S, r = some (.exc C d S) ∧ q = .exc C d S := by
  unfold madeR at h
  split at h
  · split at h
    · rename_i c
      cases h
      exact .inl ⟨_, rfl, rfl, c⟩
    · cases h
  · cases h
    exact .inr ⟨_, _, _, rfl, rfl⟩
  · cases h
section
variable (b : Bool) (C : Str) (sp : Sp) (E' : XK) (ta : TA) [a : EvA K E ta] [s : EvSp K sp]
def makeRun (σ : List (Option DV)) (S : List DO) : Option Res := bindA (a.run σ S) fun vs S1 =>
  madeR (S1.length + 1) (if b = true then s.d.run (.ref (S1.length + 1) :: vs) (S1 ++ [.own (S1.length + 1), .ins C S1.length []]) else onlyRet (s.d.run (.ref (S1.length + 1) :: vs) (S1 ++ [.own (S1.length + 1), .ins C S1.length []])))
theorem make_wf {S1 : List DO} {C : Str} {vs : List DV} (wv : vs.all (wf S1.length) = true) : (DV.ref (S1.length + 1) :: vs).all (wf (S1 ++ [DO.own (S1.length + 1), .ins C S1.length []]).length) = true := by
  show (decide _ && _) = true
  rw [all_le (by simp) wv]
  simp
theorem make_good {σ S r} (h : makeRun (K := K) (E := E) b C sp ta σ S = some r) (w : wfS S.length σ = true) : good S.length r = true := bindA_good (ta := ta) h w fun {vs S1 r} l wv h => by
    have le : S1.length ≤ (S1 ++ [DO.own (S1.length + 1), .ins C S1.length []]).length := by simp
    rcases madeR_eq h with ⟨S2, h1, rfl, c⟩ | ⟨D, d, S2, h1, rfl⟩
    · have z := good_call (K := K) h1 (make_wf wv)
      obtain ⟨l2, _⟩ := ba z
      show (decide _ && decide _) = true
      rw [decide_eq_true (Nat.le_trans le (of_decide_eq_true l2)), decide_eq_true c]
      rfl
    · exact good_le le (good_call (K := K) h1 (make_wf wv))
theorem make_ok (hE : b = true → E' = E) {σ S r ρ H Q} (h : makeRun (K := K) (E := E) b C sp ta σ S = some r) (w : wfS S.length σ = true) (R : Rep K ρ S H) (p : Post K E ρ H Q r) : tMake (ga K C) sp [] E' ta (dSt K ρ σ) H Q := bindA_ok (ta := ta) h w R p fun {vs S1 ρ1 H1} l wv h R1 F1 p x dx hx hdx ne => by
    have len : ρ1.length = S1.length := R1.len
    obtain ⟨R2, F2⟩ := R1.grow (ps := [dx, x]) (os := [.own (S1.length + 1), .ins C S1.length []]) (H' := upd (upd H1 dx (.own x)) x (.ins (ga K C) dx [])) rfl (by simp [ne]) (fun a ha => by
        rcases List.mem_cons.mp ha with q | q
        · rw [q]; exact hdx
        · rw [List.mem_singleton.mp q]; exact hx)
      (fun c hc => by
        have c1 : c ≠ dx := fun z => hc (by simp [z])
        have c2 : c ≠ x := fun z => hc (by simp [z])
        rw [upd_ne c2, upd_ne c1])
      (fun i o a hi ha => by
        match i, hi, ha with
        | 0, hi, ha =>
          cases hi; cases ha
          rw [upd_ne ne, upd_same]
          simp [dO, ← len, List.getD_eq_getElem?_getD]
        | 1, hi, ha =>
          cases hi; cases ha
          rw [upd_same]
          simp [dO, ← len, List.getD_eq_getElem?_getD]
        | k + 2, hi, ha => simp at hi)
      (fun o ho => by
        rcases List.mem_cons.mp ho with q | q
        · rw [q]; exact ⟨decide_eq_true (by simp), rfl⟩
        · rw [List.mem_singleton.mp q]; exact ⟨by show (decide _ && true) = true; simp, rfl⟩)
    have ex : ∀ {ρ' H'}, Fr (ρ1 ++ [dx, x]) (upd (upd H1 dx (.own x)) x (.ins (ga K C) dx [])) ρ' H' → dV K ρ' (.ref (S1.length + 1)) = .ref x := fun F => by
      show V.ref _ = _
      rw [F.at (by simp [len])]
      simp [← len, List.getD_eq_getElem?_getD]
    have ev : (DV.ref (S1.length + 1) :: vs).map (dV K (ρ1 ++ [dx, x])) = .ref x :: (vs.map (dV K ρ1) ++ []) := by
      rw [List.map_cons, ex (Fr.refl _ _), F2.vals R1.len wv, List.append_nil]
    rw [← ev]
    rcases madeR_eq h with ⟨S2, h1, rfl, c⟩ | ⟨D, d, S2, h1, rfl⟩
    · refine post_call (K := K) hE h1 (make_wf wv) R2 fun ρ3 H3 R3 F3 => ⟨rfl, ?_⟩
      have z := p ρ3 H3 R3 (F2.trans R2 F3)
      rw [ex F3] at z
      exact z
    · exact post_call (K := K) hE h1 (make_wf wv) R2 (PostX.of p R2 F2)
end
instance (C : Str) (sp : Sp) (ta : TA) [a : EvA K E ta] [s : EvSp K sp] : EvE K E (tMake (ga K C) sp [] E ta) := ⟨makeRun (K := K) (E := E) true C sp ta, make_good (K := K) true C sp ta, RunX.make_ok (K := K) true C sp E ta fun _ => rfl⟩
instance (priority := 1100) (C : Str) (sp : Sp) (ta : TA) [a : EvA K E ta] [s : EvSp K sp] : EvE K E (tMake (ga K C) sp [] E0 ta) := ⟨makeRun (K := K) (E := E) false C sp ta, make_good (K := K) false C sp ta, RunX.make_ok (K := K) false C sp E0 ta fun z => nomatch z⟩
/-! ### isinstance of an own class -/
def isOD (C : Str) (S : List DO) : DV → Option Bool
  | .non => some false
  | .bl _ => some false
  | .int _ => some false
  | .str _ => some false
  | .ref n => (match S[n]? with
    | some (.lst _) => some false
    | some (.tup _) => some false
    | some (.dK _) => some false
    | some (.dT _) => some false
    | some (.ins D _ _) => if D = C then some true else none
    | _ => none)
  | _ => none
theorem isOD_ok {ρ : List Addr} {S : List DO} {H : Hp} {C : Str} {x : DV} {b : Bool} (R : Rep K ρ S H) (h : isOD C S x = some b) : IsO (ga K C) H (dV K ρ x) b := by
  unfold isOD at h
  split at h
  · cases h; exact .non
  · cases h; exact .bl _
  · cases h; exact .int _
  · cases h; exact .str _
  · split at h
    · rename_i n _ _ e; cases h; exact .lst (R.get e).1
    · rename_i n _ _ e; cases h; exact .tup (R.get e).1
    · rename_i n _ _ e; cases h; exact .dK (R.get e).1
    · rename_i n _ _ e; cases h; exact .dT (R.get e).1
    · rename_i n _ _ _ _ e
      split at h
      · rename_i c
        cases h
        subst c
        exact .ins (R.get e).1
      · cases h
    · cases h
  · cases h
instance (C : Str) : EvB K (rIsO (ga K C)) where
  run := fun ds S => match ds with
    | [x, .glo D] => if D = C then (match isOD C S x with
      | some b => retS (.bl b) S
      | none => none) else none
    | _ => none
  good := fun {ds S q} h w => by
    split at h
    · split at h
      · split at h
        · exact ret_good h rfl
        · cases h
      · cases h
    · cases h
  ok := fun {ds S q ρ H Q E} h w R p => by
    split at h
    · rename_i x D
      split at h
      · rename_i c
        subst c
        split at h
        · rename_i b hb
          exact ⟨_, b, rfl, isOD_ok R hb, ret_post (E := E) h R p⟩
        · cases h
      · cases h
    · cases h
end RunX
set_option maxHeartbeats 4000000
/-! Dict comprehensions whose keys are tuples; dict comprehensions stored to a local name. -/
namespace DCT
open PySem PySem.Spec PyProof.Rows L2
/-- the dict at D takes one more key, a tuple -/
theorem put_t {X : Cx} {pins : List (Addr × Obj)} {σ : L2.St} {H : Hp} {s : Shared} {E : Value → Shared → Prop} {D b : Addr} {kvs : List (List Key × V)} {k : List Key} {v : V} {r : Value} {Q : Unit → Shared → Prop} (hu : X.A.units < cLine) (I : L2.Inv X pins σ H s) (eD : H D = some (.dT kvs))
    (eb : H b = some (.tup (k.map kV))) (few : kvs.length < sizeLine) (rv : RelV v r) (go : ∀ s', L2.Inv X pins σ (upd H D (.dT (putK kvs k v))) s' → Q () s') : wpAny (model X.prog X.w) X.A (dictSet D (.ref b) r) Q E s := by
  obtain ⟨z, hd, xs, rel, dd⟩ := dt_of I.hok eD
  have zx : xs.length ≤ sizeLine := by
    rw [← Paired.length rel]
    exact z
  have zk : (putK kvs k v).length ≤ sizeLine := by
    have := length_putK kvs k v
    omega
  refine wpAny_dictSet_heap (hsz := zx) hu (key_of I.hok eb) dd fun h' dd' sb => go _ ?_
  obtain ⟨q, es, ep, hq, g2, g3, g4, _, g5⟩ := dd'
  refine d_write I (by rw [eD]; exact True.intro) sb ⟨q, hq⟩ ⟨zk, hd, _, (rel.put k eb rv).keeps fun c ys ec => ?_, q, es, ep, hq, g2, g3, g4, g5⟩
  have nc : c ≠ D := ne_of ec eD (fun w => nomatch w)
  rw [upd_ne nc]
  exact ec
/-- a new dict at D: of ints and texts, or of tuples -/
def newD (tk : Bool) : HO := if tk = true then .dT [] else .dK []
theorem newD_ok (b : Bool) {P : Program} {w : World} {H : Hp} (h : Heap) (hb : sysModules < h.objs.size) : ObjOk P w H (h.push { cls := .type "dict", data := .dict #[] }) h.objs.size (newD b) := by
  cases b
  · exact dk_empty h hb
  · exact dt_empty h hb
/-- {k: v for ..}: b says that the keys are tuples -/
def tDcB (b : Bool) (wi : TI) (g : TG) (tt : TT) (tk tv : TE) (vs : List Nat) : TE := fun σ H Q => wi σ H fun J H1 => ∀ D, H1 D = none → ∃ W : Nat → Nat → Hp → Prop, (∃ m, W 0 m (upd H1 D (newD b))) ∧ ∀ i m H, W i m H →
  (J.stop i H ∧ Q (.ref D) H) ∨ (J.go i H ∧ ∃ Nx : Hp → Prop, (∀ H', Nx H' → ∃ m', m' < m ∧ W (i + 1) m' H') ∧ ∀ x H', J.yld i H x H' → g x (wipe σ vs) H' fun σ2 H2 => wipe σ2 vs = wipe σ vs ∧ tt σ2 H2 fun c H3 =>
    if c = true then tk σ2 H3 fun y H4 => tv σ2 H4 fun z H5 => ∃ H6, DPut H5 D y z H6 ∧ Nx H6 else Nx H3)
section
variable {X : Cx}
theorem core {pins : List (Addr × Obj)} {s : Shared} {σ : L2.St} {H : Hp} {Q : VK} {kx vx tg iter : Expr} {ifs : List Expr} {scope : Scope} {own : List (Str × Nat)} {pos pos' : Pos} {wi : TI} {g : TG} {tt : TT} {tk tv : TE} {use : Option (Value → Sem Unit)} {Qf : Value → Shared → Prop} (b : Bool)
    (hu : X.A.units < cLine) (hc : X.calm = true) (hN : X.N.Nodup) (I : L2.Inv X pins σ H s) (hi : PI X tg iter wi) (ok : BlkOk X.N X.env.scope scope own)
    (hg : ∀ (s : Shared) (H : Hp) (C : Addr) (cl : List (Str × Addr)) (fp : List Addr), PG (X.blk s H scope (compEnvC scope cl C X.env) fp) tg g)
    (ht : ∀ (s : Shared) (H : Hp) (C : Addr) (cl : List (Str × Addr)) (fp : List Addr), PTs (X.blk s H scope (compEnvC scope cl C X.env) fp) ifs tt)
    (hk : ∀ (s : Shared) (H : Hp) (C : Addr) (cl : List (Str × Addr)) (fp : List Addr), PE (X.blk s H scope (compEnvC scope cl C X.env) fp) kx tk)
    (he : ∀ (s : Shared) (H : Hp) (C : Addr) (cl : List (Str × Addr)) (fp : List Addr), PE (X.blk s H scope (compEnvC scope cl C X.env) fp) vx tv) (hs : ∀ x, foldedSetIterable iter X.env x = pure x)
    (h : tDcB b wi g tt tk tv (own.map (·.2)) σ H Q)
    (hR : ∀ D C s' m H', L2.Inv X pins σ H' s' → Q (.ref D) H' → s'.heap.Ns C m → FpOk X pins H' C → compPost (model X.prog X.w) X.A X.xe use Qf (.ref D) C (.ok .next) s') :
    wpAny (model X.prog X.w) X.A (comprehension (.DictComp kx vx [⟨tg, iter, ifs, 0⟩] scope pos) scope X.env pos' newDict false (eval iter X.env) use) Qf X.xe s := by
  have free : ∀ y ∈ scope.names, y.2 = .free → ∃ c, X.env.cells.lookup y.1 = some c := fun y hy e => (ok.free y hy e).elim (fun k => I.ok.has _ (.inl k)) fun k => I.ok.has _ (.inr k)
  refine wpAny_comprehension_free (use := use) rfl hs (closure_ok free) ok.kind (fun y hy e => by rw [ok.uniq y hy, e]) (thn (hi.run pins s σ H _ I h) fun xv s1 hx => thn hx fun itv s2 h2 => ?_)
  obtain ⟨it, fp, tn, J, H2, rfl, I2, T, st2, f2, q⟩ := h2
  refine wpAny_newObj_type (newEnv_comp ?_)
  generalize eD : s2.heap.objs.size = D
  have nD : H2 D = none := I2.hok.fresh (Nat.le_of_eq eD)
  obtain ⟨W, ⟨m0, w0⟩, turn⟩ := q D nD
  generalize e3 : ({ s2 with heap := s2.heap.push { cls := .type "dict", data := .dict #[] } } : Shared) = s3
  have I3 : L2.Inv X pins σ (upd H2 D (newD b)) s3 := by
    rw [← e3]
    refine I2.laid (t' := s2.toks) (fun c o e => Heap.get?_push_of_some _ e) (Nat.le_of_eq eD) ?_
    rw [← eD]
    exact newD_ok b s2.heap I2.big
  have h3 : s3.heap = s2.heap.push { cls := .type "dict", data := .dict #[] } := by rw [← e3]
  have low : ∀ c ∈ fp, c < s2.heap.objs.size := fun c hc' => (let ⟨o, e, _⟩ := T.obj _ _ st2 c hc'; Heap.lt_size e)
  have f3 : ∀ c ∈ fp, FpOk X pins (upd H2 D (newD b)) c ∧ c < s3.heap.objs.size := fun c hc' => by
    have hlt := low c hc'
    have nd : c ≠ D := by rw [← eD]; exact Nat.ne_of_lt hlt
    refine ⟨⟨by rw [upd_ne nd]; exact (f2 c hc').1, (f2 c hc').2⟩, ?_⟩
    rw [h3, Heap.size_push]
    exact Nat.lt_succ_of_lt hlt
  have st3 : tn 0 s3.heap := T.keep _ _ _ st2 fun c _ o e => by rw [h3]; exact Heap.get?_push_of_some _ e
  have I4 := block_start I3 ok hN f3
  have pg := hg s3 (upd H2 D (newD b)) s3.heap.objs.size (cellsFrom (s3.heap.objs.size + 1) scope.names (cloFrom X.env.cells scope.names [])) fp
  have pt := ht s3 (upd H2 D (newD b)) s3.heap.objs.size (cellsFrom (s3.heap.objs.size + 1) scope.names (cloFrom X.env.cells scope.names [])) fp
  have pk := hk s3 (upd H2 D (newD b)) s3.heap.objs.size (cellsFrom (s3.heap.objs.size + 1) scope.names (cloFrom X.env.cells scope.names [])) fp
  have pe := he s3 (upd H2 D (newD b)) s3.heap.objs.size (cellsFrom (s3.heap.objs.size + 1) scope.names (cloFrom X.env.cells scope.names [])) fp
  show codeAny _ _ (.compStart (.DictComp kx vx [⟨tg, iter, ifs, 0⟩] scope pos) 0 (.ref it) (.ref D) (compEnvC scope (cellsFrom (s3.heap.objs.size + 1) scope.names (cloFrom X.env.cells scope.names [])) s3.heap.objs.size X.env))
    (compPost (model X.prog X.w) X.A X.xe use Qf (.ref D) s3.heap.objs.size) { s3 with heap := pushCells (s3.heap.push { cls := .type "dict", data := .dict #[] }) scope.names }
  have nfp : ∀ c ∈ fp, (upd H2 D (newD b)) c = none := fun c hc' => (f3 c hc').1.1
  generalize ece : compEnvC scope (cellsFrom (s3.heap.objs.size + 1) scope.names (cloFrom X.env.cells scope.names [])) s3.heap.objs.size X.env = ce at I4 pg pt pk pe ⊢
  have cL : ce.locals = s3.heap.objs.size := by
    subst ece
    rfl
  generalize eH3 : upd H2 D (newD b) = H3 at I3 I4 pg pt pk pe w0 nfp f3
  generalize e4 : ({ s3 with heap := pushCells (s3.heap.push { cls := .type "dict", data := .dict #[] }) scope.names } : Shared) = s4 at I4 ⊢
  have st4 : tn 0 s4.heap := T.keep _ _ _ st3 fun c _ o e => by
    rw [← e4]
    exact pushCells_keeps _ _ _ _ (Heap.get?_push_of_some _ e)
  have stat : ∀ {σ' : L2.St} {H' : Hp} {s' : Shared}, L2.Inv (X.blk s3 H3 scope ce fp) [] σ' H' s' → (∀ c ∈ fp, H' c = none) → ∀ c ∈ fp, FpOk (X.blk s3 H3 scope ce fp) [] H' c := fun {σ' H' s'} I' hn c hc' =>
    ⟨hn c hc', (I'.ok.exf c hc').1, I'.ok.exfs c hc', .inl hc', fun x d e => (I'.ok.exf c hc').2 x d e, fun p hp => absurd (show p ∈ ([] : List (Addr × Obj)) ++ [] from hp) (by simp)⟩
  have loop : codeAny (model X.prog X.w) X.A (.compLoop (.DictComp kx vx [⟨tg, iter, ifs, 0⟩] scope pos) 0 (.ref it) (.ref D) ce) (compPost (model X.prog X.w) X.A X.xe use Qf (.ref D) s3.heap.objs.size) s4 := by
   refine compLoop_anyD (fun n s' => ∃ i H', L2.Inv (X.blk s3 H3 scope ce fp) [] (wipe σ (own.map (·.2))) H' s' ∧ tn i s'.heap ∧ (∀ c ∈ fp, H' c = none) ∧ W i n H') ?_ m0 ⟨0, H3, I4, st4, nfp, w0⟩
   rintro n s5 ⟨i, H5, I5, st5, n5, w5⟩
   rcases turn i n H5 w5 with ⟨stop, qq⟩ | ⟨go, Nx, hNx, step⟩
   · refine thnF (T.done (X.blk s3 H3 scope ce fp) rfl rfl rfl hc i [] s5 _ H5 (fun _ _ => False) I5 (stat I5 n5) st5 stop) fun r s6 ⟨hr, I6⟩ => ?_
     subst hr
     have I7 : L2.Inv X pins σ H5 s6 := I3.call' (ch := fp) I6.os I6.base I6.hok I6.bare fun c hc' => ⟨(f3 c hc').1.2.2.2.1, (f3 c hc').1.2.1, (f3 c hc').1.2.2.2.2.1, (f3 c hc').1.2.2.2.2.2⟩
     have nC : H5 s3.heap.objs.size = none := by
       have z : H5 ce.locals = none := I6.free
       rwa [cL] at z
     obtain ⟨m, hn, _⟩ := I6.loc
     have hn : s6.heap.Ns ce.locals m := hn
     rw [cL] at hn
     exact hR D s3.heap.objs.size s6 m H5 I7 qq hn (I3.fpOk (Nat.le_refl _) nC)
   · refine thnF (T.item (X.blk s3 H3 scope ce fp) rfl rfl rfl hc i [] s5 _ H5 (fun _ _ => False) I5 (stat I5 n5) st5 go) fun r s6 ⟨u, hr, h6⟩ => ?_
     subst hr
     refine thnF h6 fun _ s7 ⟨x, H7, I7, r7, y7, st7, n7⟩ => ?_
     have Ip := I7.pinned (stat I7 n7) (T.obj _ _ st7)
     refine thnF (pg.run _ s7 _ H7 x u _ Ip r7 (step x H7 y7)) fun _ s8 ⟨σ8, H8, I8, hw8, q8⟩ => thnF (pt.run _ s8 σ8 H8 _ I8 q8) fun c s9 ⟨H9, I9, q9⟩ => ?_
     have fin : ∀ {s' : Shared} {H' : Hp}, L2.Inv (X.blk s3 H3 scope ce fp) ([] ++ pinsAt fp s7.heap) σ8 H' s' → Nx H' → ∃ m, m < n ∧ ∃ i H', L2.Inv (X.blk s3 H3 scope ce fp) [] (wipe σ (own.map (·.2))) H' s' ∧ tn i s'.heap ∧ (∀ c ∈ fp, H' c = none) ∧ W i m H' := fun {s' H'} I' nx => by
       obtain ⟨m', hm, w'⟩ := hNx H' nx
       have pin' : ∀ d ∈ fp, ∀ o, s7.heap.get? d = some o → s'.heap.get? d = some o ∧ H' d = none := fun d hd o e =>
         (let z := I'.pin (d, o) (List.mem_append_right _ (List.mem_append_right _ (mem_pinsAt hd e))); ⟨z.1, z.2.1⟩)
       have hl : (wipe σ (own.map (·.2))).length = σ8.length := by rw [← hw8, wipe_length]
       refine ⟨m', hm, i + 1, H', (I'.unpinned (pins := [])).weak hl (fun j v e => (wipe_some (vs := own.map (·.2)) (by rw [hw8]; exact e)).1), T.keep _ _ _ st7 fun d hd o e => (pin' d hd o e).1, fun d hd => ?_, w'⟩
       obtain ⟨o, e, _⟩ := T.obj _ _ st7 d hd
       exact (pin' d hd o e).2
     cases c with
     | false =>
       simp only [Bool.false_eq_true, if_false] at q9 ⊢
       exact fin I9 q9
     | true =>
       simp only [if_true] at q9 ⊢
       refine thnF (pk.run _ s9 σ8 H9 _ I9 q9) fun z s10 ⟨yk, H10, I10, r10, q10⟩ => thnF (pe.run _ s10 σ8 H10 _ I10 q10) fun z2 s11 ⟨yv, H11, I11, r11, H12, dp, nx⟩ => ?_
       rcases dp with ⟨kvs, k, ed, ek, lk, eH⟩ | ⟨kvs, k, a, ed, ek, ea, lk, eH⟩
       · subst ek eH
         exact d_dictSet (X := X.blk s3 H3 scope ce fp) I11 ed lk r10 r11 fun s12 I12 => fin I12 nx
       · subst ek eH
         cases (show z = Value.ref a from r10)
         exact put_t (X := X.blk s3 H3 scope ce fp) hu I11 ed ea lk r11 fun s12 I12 => fin I12 nx
  exact codeAny_compStart_dict loop (T.self X.A 0 _ _ _ st4 loop)
/-- as a value -/
theorem pe_dcB {kx vx tg iter : Expr} {ifs : List Expr} {scope : Scope} {own : List (Str × Nat)} {pos : Pos} {wi : TI} {g : TG} {tt : TT} {tk tv : TE} (b : Bool) (hu : X.A.units < cLine) (hc : X.calm = true) (hN : X.N.Nodup) (hi : PI X tg iter wi) (ok : BlkOk X.N X.env.scope scope own)
    (hg : ∀ (s : Shared) (H : Hp) (C : Addr) (cl : List (Str × Addr)) (fp : List Addr), PG (X.blk s H scope (compEnvC scope cl C X.env) fp) tg g)
    (ht : ∀ (s : Shared) (H : Hp) (C : Addr) (cl : List (Str × Addr)) (fp : List Addr), PTs (X.blk s H scope (compEnvC scope cl C X.env) fp) ifs tt)
    (hk : ∀ (s : Shared) (H : Hp) (C : Addr) (cl : List (Str × Addr)) (fp : List Addr), PE (X.blk s H scope (compEnvC scope cl C X.env) fp) kx tk)
    (he : ∀ (s : Shared) (H : Hp) (C : Addr) (cl : List (Str × Addr)) (fp : List Addr), PE (X.blk s H scope (compEnvC scope cl C X.env) fp) vx tv) (hs : ∀ x, foldedSetIterable iter X.env x = pure x := by intro _; rfl) :
    PE X (.DictComp kx vx [⟨tg, iter, ifs, 0⟩] scope pos) (tDcB b wi g tt tk tv (own.map (·.2))) := by
  refine ⟨fun pins s σ H Q I h => ?_⟩
  rw [arm_eval_DictComp]
  refine core b hu hc hN I hi ok hg ht hk he hs h fun D C s' m H' I' q hn f => ⟨m, hn, fun h'' sb => ?_⟩
  obtain ⟨z0, z1, z2, z3, z4, z5⟩ := f
  exact ⟨.ref D, H', I'.turned (t' := s'.toks) (fun c o hc' e => (sb.2 c hc').trans e) z0 z1 z3 z4 z5, rfl, q⟩
/-- name = {..} on one line, the name a local -/
theorem ps_setDcB {i : Nat} {y : Str} {py : Pos} {kx vx tg iter : Expr} {ifs : List Expr} {scope : Scope} {own : List (Str × Nat)} {pos spos : Pos} {wi : TI} {g : TG} {tt : TT} {tk tv : TE} (b : Bool) (hu : X.A.units < cLine) (hc : X.calm = true) (hN : X.N.Nodup) (hy : X.N[i]? = some y)
    (hyl : X.env.scope.names.lookup y = some .local) (hsw : swapsWith (.DictComp kx vx [⟨tg, iter, ifs, 0⟩] scope pos) (some (.Name y py)) spos.line X.env = pure true) (hi : PI X tg iter wi) (ok : BlkOk X.N X.env.scope scope own)
    (hg : ∀ (s : Shared) (H : Hp) (C : Addr) (cl : List (Str × Addr)) (fp : List Addr), PG (X.blk s H scope (compEnvC scope cl C X.env) fp) tg g)
    (ht : ∀ (s : Shared) (H : Hp) (C : Addr) (cl : List (Str × Addr)) (fp : List Addr), PTs (X.blk s H scope (compEnvC scope cl C X.env) fp) ifs tt)
    (hk : ∀ (s : Shared) (H : Hp) (C : Addr) (cl : List (Str × Addr)) (fp : List Addr), PE (X.blk s H scope (compEnvC scope cl C X.env) fp) kx tk)
    (he : ∀ (s : Shared) (H : Hp) (C : Addr) (cl : List (Str × Addr)) (fp : List Addr), PE (X.blk s H scope (compEnvC scope cl C X.env) fp) vx tv) (hs : ∀ x, foldedSetIterable iter X.env x = pure x := by intro _; rfl) :
    PS X (.Assign [.Name y py] (.DictComp kx vx [⟨tg, iter, ifs, 0⟩] scope pos) spos) (tAsg (tDcB b wi g tt tk tv (own.map (·.2))) (gName i)) := by
  refine ⟨fun pins s σ H D I h => ?_⟩
  rw [exec_Assign_Name_used _ _ _ _ hsw]
  refine wpAny_bind (wpAny_standAt (wpAny_bind ?_))
  show wpAny _ X.A (do
    let _ ← comprehension (.DictComp kx vx [⟨tg, iter, ifs, 0⟩] scope pos) scope X.env (firstIterPos [⟨tg, iter, ifs, 0⟩] pos) newDict false (eval iter X.env) (some (assign (.Name y py) X.env))) _ _ s
  have h' : tDcB b wi g tt tk tv (own.map (·.2)) σ H (fun x H1 => gName i x σ H1 D.nx) := h
  refine wpAny_bind (thn (core (Qf := fun _ s' => SP X pins D .next s') b hu hc hN I hi ok hg ht hk he hs h' fun L C s' m H' I' q hn f => ?_) fun _ s' hq => wpAny_pure (wpAny_pure hq))
  show wpAny _ _ (assign (.Name y py) X.env (.ref L)) _ _ _
  obtain ⟨z0, z1, z2, z3, z4, z5⟩ := f
  refine wpAny_assign_Name (store_ok2 (v := V.ref L) I' hN hy (.inl hyl) rfl (fun s2 I2 ⟨a, sb, ha⟩ => ?_) (.inr hyl))
  have nCa : C ≠ a := ha.elim (fun z => by rw [z]; exact z1) fun z e => z4 y a z e.symm
  exact ⟨m, hn.sameBut sb nCa, fun h3 sb3 => ⟨_, H', I2.turned (t' := s2.toks) (fun c o hc' e => (sb3.2 c hc').trans e) z0 z1 z3 z4 z5, q⟩⟩
theorem sw_dc {kx vx : Expr} {gs : List Comprehension} {scope : Scope} {pos py : Pos} {y : Str} {l : Nat} {env : Env} (hk : env.scope.kind = .function) (hy : env.scope.names.lookup y = some .local) (hl : (py.line == pos.line) = true)
    (ha : (scope.names.any fun (n, k) => n == y && (k == .local || k == .cell)) = false) : swapsWith (.DictComp kx vx gs scope pos) (some (.Name y py)) l env = pure true := by
  have k1 : env.kindOf y = some .local := hy
  have k2 : env.blockKind = .function := by
    unfold Env.blockKind
    rw [hk]
    rfl
  unfold swapsWith
  simp only [k2, k1, ha, Expr.pos, hl]
  rfl
end
end DCT
set_option maxHeartbeats 4000000
/-! Dicts that are walked, under a lock; enumerate. -/
namespace RunX
open PySem PySem.Spec PyProof.Rows L2 He PO
variable {K : PySem.W.Frag} {E : XK}
theorem Rep.getF {ρ : List Addr} {S : List DO} {H : Hp} {n : Nat} {kvs : List (Key × DV)} (R : Rep K ρ S H) (h : S[n]? = some (.frz kvs)) : ∃ od, H (ρ.getD n 0) = some (.frz od (.dK (kvs.map fun p => (p.1, dV K ρ p.2)))) := by
  have hn : n < ρ.length := Fr.lt R h
  obtain ⟨u, eu, od, e⟩ := R.obj n _ (ρ.getD n 0) h (by rw [List.getD_eq_getElem?_getD, List.getElem?_eq_getElem hn]; rfl)
  rw [e] at eu
  exact ⟨od, eu⟩
theorem frz_at {ρ ρ' : List Addr} {S : List DO} {H0 H : Hp} {n : Nat} {o : Obj} {kv : List (Key × V)} {kvs : List (Key × DV)} (F : Fr ρ H0 ρ' H) (hn : n < ρ.length) (e0 : H0 (ρ.getD n 0) = some (.frz o (.dK kv))) (R : Rep K ρ' S H) (hs : S[n]? = some (.frz kvs)) :
    H (ρ.getD n 0) = some (.frz o (.dK kv)) ∧ kv = kvs.map fun p => (p.1, dV K ρ' p.2) := by
  have h1 := F.frz _ _ _ e0
  obtain ⟨od, h2⟩ := R.getF hs
  rw [F.at hn, h1] at h2
  cases h2
  exact ⟨h1, rfl⟩
theorem kD_ok {ρ : List Addr} (k : Key) : dV K ρ (kD k) = kV k := by
  cases k <;> rfl
theorem kD_wf {n : Nat} (k : Key) : wf n (kD k) = true := by
  cases k <;> rfl
theorem at_frz {f : Nat → ItD} {g : Key × DV → List DO → DV × List DO} {n i : Nat} {S : List DO} {q} (hf : (f n).at i S = (match S[n]? with
    | some (.frz kvs) => some (kvs[i]?.map fun x => g x S)
    | _ => none)) (h : (f n).at i S = some q) : ∃ kvs, S[n]? = some (.frz kvs) ∧ kvs[i]?.map (fun x => g x S) = q := by
  rw [hf] at h
  split at h
  · rename_i kvs hs
    exact ⟨kvs, hs, Option.some.inj h⟩
  · cases h
theorem get_map {ρ : List Addr} {kvs : List (Key × DV)} {i : Nat} {p : Key × DV} (h : kvs[i]? = some p) : (kvs.map fun p => (p.1, dV K ρ p.2))[i]? = some (p.1, dV K ρ p.2) := by
  rw [List.getElem?_map, h]
  rfl
section
variable {ρ : List Addr} {H0 : Hp} {n : Nat} {o : Obj} {kv : List (Key × V)}
theorem keys_ok (hn : n < ρ.length) (e0 : H0 (ρ.getD n 0) = some (.frz o (.dK kv))) : ItOk K ρ H0 (.keys n) (Itk (ρ.getD n 0) o kv) where
  stop := fun {ρ' S H i} F R h => by
    obtain ⟨kvs, hs, hx⟩ := at_frz (f := .keys) (g := fun x S => (kD x.1, S)) rfl h
    obtain ⟨g, ek⟩ := frz_at F hn e0 R hs
    exact ⟨g, by rw [ek, List.length_map]; exact List.getElem?_eq_none_iff.mp (Option.map_eq_none_iff.mp hx)⟩
  go := fun {ρ' S H i x} F R h => by
    obtain ⟨kvs, hs, hx⟩ := at_frz (f := .keys) (g := fun x S => (kD x.1, S)) rfl h
    obtain ⟨g, ek⟩ := frz_at F hn e0 R hs
    obtain ⟨p, hp, _⟩ := Option.map_eq_some_iff.mp hx
    exact ⟨g, by rw [ek, List.length_map]; exact (List.getElem?_eq_some_iff.mp hp).1⟩
  yld := fun {ρ' S S' H H' i x v} F R h y => by
    obtain ⟨kvs, hs, hx⟩ := at_frz (f := .keys) (g := fun x S => (kD x.1, S)) rfl h
    obtain ⟨g, ek⟩ := frz_at F hn e0 R hs
    obtain ⟨p, hp, ex⟩ := Option.map_eq_some_iff.mp hx
    cases ex
    obtain ⟨eH, k, u, hk, ev⟩ := y
    rw [ek, get_map hp] at hk
    cases hk
    subst eH
    exact ⟨ρ', R, Fr.refl _ _, by rw [ev, kD_ok]⟩
theorem vals_ok (hn : n < ρ.length) (e0 : H0 (ρ.getD n 0) = some (.frz o (.dK kv))) : ItOk K ρ H0 (.vals n) (Itd (ρ.getD n 0) o kv) where
  stop := fun {ρ' S H i} F R h => by
    obtain ⟨kvs, hs, hx⟩ := at_frz (f := .vals) (g := fun x S => (x.2, S)) rfl h
    obtain ⟨g, ek⟩ := frz_at F hn e0 R hs
    exact ⟨g, by rw [ek, List.length_map]; exact List.getElem?_eq_none_iff.mp (Option.map_eq_none_iff.mp hx)⟩
  go := fun {ρ' S H i x} F R h => by
    obtain ⟨kvs, hs, hx⟩ := at_frz (f := .vals) (g := fun x S => (x.2, S)) rfl h
    obtain ⟨g, ek⟩ := frz_at F hn e0 R hs
    obtain ⟨p, hp, _⟩ := Option.map_eq_some_iff.mp hx
    exact ⟨g, by rw [ek, List.length_map]; exact (List.getElem?_eq_some_iff.mp hp).1⟩
  yld := fun {ρ' S S' H H' i x v} F R h y => by
    obtain ⟨kvs, hs, hx⟩ := at_frz (f := .vals) (g := fun x S => (x.2, S)) rfl h
    obtain ⟨g, ek⟩ := frz_at F hn e0 R hs
    obtain ⟨p, hp, ex⟩ := Option.map_eq_some_iff.mp hx
    cases ex
    obtain ⟨eH, k, hk⟩ := y
    rw [ek, get_map hp] at hk
    cases hk
    subst eH
    exact ⟨ρ', R, Fr.refl _ _, rfl⟩
theorem items_ok (hn : n < ρ.length) (e0 : H0 (ρ.getD n 0) = some (.frz o (.dK kv))) : ItOk K ρ H0 (.items n) (Iti (ρ.getD n 0) o kv) where
  stop := fun {ρ' S H i} F R h => by
    obtain ⟨kvs, hs, hx⟩ := at_frz (f := .items) (g := fun x S => (.ref S.length, S ++ [.tup [kD x.1, x.2]])) rfl h
    obtain ⟨g, ek⟩ := frz_at F hn e0 R hs
    exact ⟨g, by rw [ek, List.length_map]; exact List.getElem?_eq_none_iff.mp (Option.map_eq_none_iff.mp hx)⟩
  go := fun {ρ' S H i x} F R h => by
    obtain ⟨kvs, hs, hx⟩ := at_frz (f := .items) (g := fun x S => (.ref S.length, S ++ [.tup [kD x.1, x.2]])) rfl h
    obtain ⟨g, ek⟩ := frz_at F hn e0 R hs
    obtain ⟨p, hp, _⟩ := Option.map_eq_some_iff.mp hx
    exact ⟨g, by rw [ek, List.length_map]; exact (List.getElem?_eq_some_iff.mp hp).1⟩
  yld := fun {ρ' S S' H H' i x v} F R h y => by
    obtain ⟨kvs, hs, hx⟩ := at_frz (f := .items) (g := fun x S => (.ref S.length, S ++ [.tup [kD x.1, x.2]])) rfl h
    obtain ⟨g, ek⟩ := frz_at F hn e0 R hs
    obtain ⟨p, hp, ex⟩ := Option.map_eq_some_iff.mp hx
    cases ex
    obtain ⟨T, k, u, hk, ev, hT, eH⟩ := y
    rw [ek, get_map hp] at hk
    cases hk
    have wk : wfO S.length (.frz kvs) = true := R.wf _ (List.mem_of_getElem? hs)
    have wp : wf S.length p.2 = true := List.all_eq_true.mp wk p (List.mem_of_getElem? hp)
    obtain ⟨R1, F1⟩ := R.new (o := .tup [kD p.1, p.2]) hT (by show (wf _ _ && (wf _ _ && true)) = true; rw [kD_wf, wp]; rfl)
    have e1 : dO K ρ' (.tup [kD p.1, p.2]) = .tup [kV p.1, dV K ρ' p.2] := by simp only [dO, List.map_cons, List.map_nil, kD_ok]
    rw [e1, ← eH] at R1 F1
    refine ⟨_, R1, F1, ?_⟩
    rw [ev]
    show V.ref T = V.ref _
    rw [← R.len]
    simp [List.getD_eq_getElem?_getD]
end
/-- a pair is laid by enumerate -/
theorem enum_ok {ρ : List Addr} {H0 : Hp} {n : Nat} (hn : n < ρ.length) : ItOk K ρ H0 (.enum n) (Ite K (ρ.getD n 0)) where
  stop := fun {ρ' S H i} e R h => by
    have h' : (match S[n]? with
      | some (.lst xs) => some (xs[i]?.map fun x => (DV.ref S.length, S ++ [.tup [.int (i : Nat), x]]))
      | _ => none) = some none := h
    split at h'
    · rename_i xs hs
      have g := (R.get hs).1
      rw [e.at hn] at g
      exact ⟨_, SqL.of g, by rw [List.length_map]; exact List.getElem?_eq_none_iff.mp (Option.map_eq_none_iff.mp (Option.some.inj h'))⟩
    · cases h'
  go := fun {ρ' S H i x} e R h => by
    have h' : (match S[n]? with
      | some (.lst xs) => some (xs[i]?.map fun x => (DV.ref S.length, S ++ [.tup [.int (i : Nat), x]]))
      | _ => none) = some (some x) := h
    split at h'
    · rename_i xs hs
      obtain ⟨y, hy, _⟩ := Option.map_eq_some_iff.mp (Option.some.inj h')
      have g := (R.get hs).1
      rw [e.at hn] at g
      exact ⟨_, _, SqL.of g, by rw [List.getElem?_map, hy]; rfl⟩
    · cases h'
  yld := fun {ρ' S S' H H' i x v} e R h y => by
    have h' : (match S[n]? with
      | some (.lst xs) => some (xs[i]?.map fun x => (DV.ref S.length, S ++ [.tup [.int (i : Nat), x]]))
      | _ => none) = some (some (x, S')) := h
    split at h'
    · rename_i xs hs
      obtain ⟨z, hz, ez⟩ := Option.map_eq_some_iff.mp (Option.some.inj h')
      cases ez
      obtain ⟨g, wg⟩ := R.get hs
      rw [e.at hn] at g
      obtain ⟨T, u, ev, hT, eH, f⟩ := y
      have hu := f _ (SqL.of g)
      rw [List.getElem?_map, hz] at hu
      cases hu
      have wz : wf S.length z = true := List.all_eq_true.mp wg z (List.mem_of_getElem? hz)
      obtain ⟨R1, F1⟩ := R.new (o := .tup [.int (i : Nat), z]) hT (by show (true && (wf _ _ && true)) = true; rw [wz]; rfl)
      have e1 : dO K ρ' (.tup [.int (i : Nat), z]) = .tup [.int (i : Nat), dV K ρ' z] := rfl
      rw [e1, ← eH] at R1 F1
      refine ⟨_, R1, F1, ?_⟩
      rw [ev]
      show V.ref T = V.ref _
      rw [← R.len]
      simp [List.getD_eq_getElem?_getD]
    · cases h'
/-! ### what is walked -/
def frzAt (S : List DO) : DV → Option Nat
  | .ref n => (match S[n]? with
    | some (.frz _) => some n
    | _ => none)
  | _ => none
theorem frzAt_eq {S : List DO} {x : DV} {n : Nat} (h : frzAt S x = some n) : x = .ref n ∧ ∃ kvs, S[n]? = some (.frz kvs) := by
  unfold frzAt at h
  split at h
  · split at h
    · rename_i kvs e
      cases h
      exact ⟨rfl, kvs, e⟩
    · cases h
  · cases h
def walkRun (f : Nat → ItD) (r : Option Res) : Option (Sum (ItD × List DO) Res) := match r with
  | some (.ret x S1) => (match frzAt S1 x with
    | some n => some (.inl (f n, S1))
    | none => none)
  | some (.exc C d S1) => some (.inr (.exc C d S1))
  | none => none
theorem walk_good {f : Nat → ItD} {te : TE} [e : EvE K E te] {σ S it S1} (h : walkRun f (e.run σ S) = some (.inl (it, S1))) (w : wfS S.length σ = true) : S.length ≤ S1.length := by
  unfold walkRun at h
  split at h
  · rename_i x S2 h1
    split at h
    · cases h
      exact of_decide_eq_true (ba (e.good h1 w)).1
    · cases h
  · cases h
  · cases h
theorem walk_ok {f : Nat → ItD} {te : TE} [e : EvE K E te] {σ S q ρ H} {Qj : It → Hp → Prop} {Q1 : VK}
    (p : match q with
      | .inl (it, S1) => ∀ ρ' H' J, Rep K ρ' S1 H' → Fr ρ H ρ' H' → ItOk K ρ' H' it J → Qj J H'
      | .inr (.exc C d S1) => PostX K E ρ H C d S1
      | .inr _ => False)
    (h : walkRun f (e.run σ S) = some q) (w : wfS S.length σ = true) (R : Rep K ρ S H)
    (k : ∀ n ρ1 H1 o kv, n < ρ1.length → H1 (ρ1.getD n 0) = some (.frz o (.dK kv)) → (∀ J, ItOk K ρ1 H1 (f n) J → Qj J H1) → Q1 (.ref (ρ1.getD n 0)) H1) : te (dSt K ρ σ) H Q1 := by
  unfold walkRun at h
  split at h
  · rename_i x S1 h1
    split at h
    · rename_i n hn
      cases h
      obtain ⟨rfl, kvs, hs⟩ := frzAt_eq hn
      refine e.ok h1 w R fun ρ1 H1 R1 F1 => ?_
      obtain ⟨o, eo⟩ := R1.getF hs
      exact k n ρ1 H1 o _ (Fr.lt R1 hs) eo fun J okJ => p ρ1 H1 J R1 F1 okJ
    · cases h
  · rename_i C d S1 h1
    cases h
    exact e.ok h1 w R p
  · cases h
instance (te : TE) [e : EvE K E te] : EvI K E (iKeys te) where
  run := fun σ S => walkRun .keys (e.run σ S)
  good := fun {σ S it S1} h w => walk_good (te := te) h w
  ok := fun {σ S q ρ H Qj} h w R p => walk_ok (te := te) p h w R fun n ρ1 H1 o kv hn eo go => ⟨_, o, rfl, .inl ⟨kv, eo, go _ (keys_ok hn eo)⟩⟩
instance (te : TE) [e : EvE K E te] : EvI K E (iKeysM te) where
  run := fun σ S => walkRun .keys (e.run σ S)
  good := fun {σ S it S1} h w => walk_good (te := te) h w
  ok := fun {σ S q ρ H Qj} h w R p => walk_ok (te := te) p h w R fun n ρ1 H1 o kv hn eo go => ⟨_, o, kv, rfl, eo, go _ (keys_ok hn eo)⟩
instance (te : TE) [e : EvE K E te] : EvI K E (iVals te) where
  run := fun σ S => walkRun .vals (e.run σ S)
  good := fun {σ S it S1} h w => walk_good (te := te) h w
  ok := fun {σ S q ρ H Qj} h w R p => walk_ok (te := te) p h w R fun n ρ1 H1 o kv hn eo go => ⟨_, o, kv, rfl, eo, go _ (vals_ok hn eo)⟩
instance (te : TE) [e : EvE K E te] : EvI K E (iItems te) where
  run := fun σ S => walkRun .items (e.run σ S)
  good := fun {σ S it S1} h w => walk_good (te := te) h w
  ok := fun {σ S q ρ H Qj} h w R p => walk_ok (te := te) p h w R fun n ρ1 H1 o kv hn eo go => ⟨_, o, kv, rfl, eo, go _ (items_ok hn eo)⟩
instance (ta : TA) [a : EvA K E ta] : EvI K E (iEnum K ta) where
  run := fun σ S => match a.run σ S with
    | some (.ret [.ref n] S1) => (match S1[n]? with
      | some (.lst _) => some (.inl (.enum n, S1))
      | _ => none)
    | some (.exc C d S1) => some (.inr (.exc C d S1))
    | _ => none
  good := fun {σ S it S1} h w => by
    split at h
    · rename_i n S2 h1
      split at h
      · cases h
        exact of_decide_eq_true (ba (a.good h1 w)).1
      · cases h
    · cases h
    · cases h
  ok := fun {σ S q ρ H Qj} h w R p => by
    split at h
    · rename_i n S1 h1
      split at h
      · rename_i xs hs
        cases h
        exact a.ok h1 w R fun ρ1 H1 R1 F1 => ⟨_, _, rfl, SqL.of (R1.get hs).1, p ρ1 H1 _ R1 F1 (enum_ok (Fr.lt R1 hs))⟩
      · cases h
    · rename_i C d S1 h1
      cases h
      exact a.ok h1 w R p
    · cases h
/-! ### the lock -/
class PeekI (K : PySem.W.Frag) (E : XK) (wi : TI) where
  run : List (Option DV) → List DO → Option Res
instance (te : TE) [e : EvE K E te] : PeekI K E (iKeys te) := ⟨e.run⟩
instance (te : TE) [e : EvE K E te] : PeekI K E (iKeysM te) := ⟨e.run⟩
instance (te : TE) [e : EvE K E te] : PeekI K E (iVals te) := ⟨e.run⟩
instance (te : TE) [e : EvE K E te] : PeekI K E (iItems te) := ⟨e.run⟩
class PeekE (K : PySem.W.Frag) (E : XK) (te : TE) where
  run : List (Option DV) → List DO → Option Res
instance (wi : TI) (g : TG) (tt : TT) (te : TE) (vs : List Nat) [p : PeekI K E wi] : PeekE K E (tLc wi g tt te vs) := ⟨p.run⟩
instance (b : Bool) (wi : TI) (g : TG) (tt : TT) (tk tv : TE) (vs : List Nat) [p : PeekI K E wi] : PeekE K E (DCT.tDcB b wi g tt tk tv vs) := ⟨p.run⟩
def dictAt (S : List DO) (r : Option Res) : Option (Nat × List (Key × DV)) := match r with
  | some (.ret (.ref n) _) => (match S[n]? with
    | some (.dK kvs) => some (n, kvs)
    | _ => none)
  | _ => none
theorem dictAt_eq {S : List DO} {r : Option Res} {n : Nat} {kvs : List (Key × DV)} (h : dictAt S r = some (n, kvs)) : S[n]? = some (.dK kvs) := by
  unfold dictAt at h
  split at h
  · split at h
    · rename_i e
      cases h
      exact e
    · cases h
  · cases h
section
variable {ρ ρ' : List Addr} {S S' : List DO} {H H' : Hp} {n : Nat} {kvs : List (Key × DV)} {od : Obj}
theorem lock_in (R : Rep K ρ S H) (hs : S[n]? = some (.dK kvs)) (od : Obj) : Rep K ρ (S.set n (.frz kvs)) (upd H (ρ.getD n 0) (.frz od (.dK (kvs.map fun p => (p.1, dV K ρ p.2))))) :=
  R.put0 hs (show wfO S.length (.dK kvs) = true from R.wf _ (List.mem_of_getElem? hs)) ⟨od, rfl⟩
theorem lock_out (R : Rep K ρ S H) (hs : S[n]? = some (.dK kvs)) (R' : Rep K ρ' S' H') (F : Fr ρ (upd H (ρ.getD n 0) (.frz od (.dK (kvs.map fun p => (p.1, dV K ρ p.2))))) ρ' H') (hl : S.length ≤ S'.length) :
    H' (ρ.getD n 0) = some (.frz od (.dK (kvs.map fun p => (p.1, dV K ρ p.2)))) ∧ Rep K ρ' (S'.set n (.dK kvs)) (upd H' (ρ.getD n 0) (.dK (kvs.map fun p => (p.1, dV K ρ p.2)))) ∧ Fr ρ H ρ' (upd H' (ρ.getD n 0) (.dK (kvs.map fun p => (p.1, dV K ρ p.2)))) := by
  have hn : n < ρ.length := Fr.lt R hs
  have wk : wfO S.length (.dK kvs) = true := R.wf _ (List.mem_of_getElem? hs)
  have hn' : n < S'.length := Nat.lt_of_lt_of_le (by rw [← R.len]; exact hn) hl
  have md : ρ.getD n 0 ∈ ρ := by
    rw [List.getD_eq_getElem?_getD, List.getElem?_eq_getElem hn]
    exact List.getElem_mem hn
  have eD : H (ρ.getD n 0) = some (.dK (kvs.map fun p => (p.1, dV K ρ p.2))) := (R.get hs).1
  have ek : (kvs.map fun p => (p.1, dV K ρ' p.2)) = kvs.map fun p => (p.1, dV K ρ p.2) := List.map_congr_left fun p hp => by rw [F.val R.len (List.all_eq_true.mp wk p hp)]
  have hfz : notTup (S'[n]'hn') = true := by
    obtain ⟨h, eh, sh⟩ := R'.obj n _ (ρ'.getD n 0) (List.getElem?_eq_getElem hn') (by rw [List.getD_eq_getElem?_getD, List.getElem?_eq_getElem (by rw [R'.len]; exact hn')]; rfl)
    rw [F.at hn, F.frz _ _ _ upd_same] at eh
    cases eh
    revert sh
    cases S'[n]'hn' with
    | tup ys => intro sh; cases (show HO.frz _ _ = HO.tup _ from sh)
    | _ => intro _; rfl
  have R2 := R'.put0 (List.getElem?_eq_getElem hn') (nt := hfz) (o' := .dK kvs) (u' := .dK (kvs.map fun p => (p.1, dV K ρ' p.2))) (wfO_le hl wk) (show Sh K ρ' (.dK kvs) (.dK (kvs.map fun p => (p.1, dV K ρ' p.2))) from rfl)
  rw [F.at hn, ek] at R2
  refine ⟨F.frz _ _ _ upd_same, R2, ⟨?_, fun b o nb hb => ?_, fun b o u hb => ?_, fun b xs hb => ?_, fun b xs hb => ?_⟩⟩
  · obtain ⟨m, e, hm⟩ := F.pre
    refine ⟨m, e, fun a ha => ?_⟩
    have z := hm a ha
    by_cases c : a = ρ.getD n 0
    · rw [c, upd_same] at z
      rcases z with z | ⟨xs, z⟩ <;> cases z
    · rwa [upd_ne c] at z
  · have c : b ≠ ρ.getD n 0 := fun z => nb (by rw [z]; exact md)
    rw [upd_ne c]
    exact F.out b o nb (by rw [upd_ne c]; exact hb)
  · have c : b ≠ ρ.getD n 0 := fun z => by
      rw [z, eD] at hb
      cases hb
    rw [upd_ne c]
    exact F.frz b o u (by rw [upd_ne c]; exact hb)
  · have c : b ≠ ρ.getD n 0 := fun z => by
      rw [z, eD] at hb
      cases hb
    rw [upd_ne c]
    exact F.tup b xs (by rw [upd_ne c]; exact hb)
  · by_cases c : b = ρ.getD n 0
    · rw [c, upd_same] at hb
      cases hb
    · rw [upd_ne c] at hb
      have z := F.was b xs hb
      rwa [upd_ne c] at z
end
def unlockE (n : Nat) (kvs : List (Key × DV)) (r : Option Res) : Option Res := match r with
  | some (.ret v S) => some (.ret v (S.set n (.dK kvs)))
  | _ => none
instance (te : TE) [p : PeekE K E te] [e : EvE K E te] : EvE K E (tLockE te) where
  run := fun σ S => match dictAt S (p.run σ S) with
    | some (n, kvs) => unlockE n kvs (e.run σ (S.set n (.frz kvs)))
    | none => none
  good := fun {σ S r} h w => by
    split at h
    · unfold unlockE at h
      split at h
      · rename_i h1
        cases h
        obtain ⟨l, wv⟩ := ba (e.good h1 (by rw [List.length_set]; exact w))
        rw [List.length_set] at l
        show (decide _ && _) = true
        rw [List.length_set, wv, l]
        rfl
      · cases h
    · cases h
  ok := fun {σ S r ρ H Q} h w R q => by
    split at h
    · rename_i n kvs hd
      have hs := dictAt_eq hd
      unfold unlockE at h
      split at h
      · rename_i v S' h1
        cases h
        have l := of_decide_eq_true (ba (e.good h1 (by rw [List.length_set]; exact w))).1
        rw [List.length_set] at l
        refine ⟨_, _, (R.get hs).1, trivial, fun od => ?_⟩
        refine e.ok h1 (by rw [List.length_set]; exact w) (lock_in R hs od) fun ρ' H' R' F => ?_
        obtain ⟨a, b, c⟩ := lock_out R hs R' F l
        exact ⟨a, q ρ' _ b c⟩
      · cases h
    · cases h
def unlockS (n : Nat) (kvs : List (Key × DV)) (r : Option Out) : Option Out := match r with
  | some (.nx σ S) => some (.nx σ (S.set n (.dK kvs)))
  | some (.rt v S) => some (.rt v (S.set n (.dK kvs)))
  | _ => none
instance (wi : TI) (g : TG) (tb : TS) [p : PeekI K E wi] [e : EvS K E (tFor wi g tb)] : EvS K E (tLock (tFor wi g tb)) where
  run := fun σ S => match dictAt S (p.run σ S) with
    | some (n, kvs) => unlockS n kvs (e.run σ (S.set n (.frz kvs)))
    | none => none
  good := fun {σ S o} h w => by
    split at h
    · unfold unlockS at h
      split at h
      · rename_i h1
        cases h
        obtain ⟨l, wv⟩ := ba (e.good h1 (by rw [List.length_set]; exact w))
        rw [List.length_set] at l
        show (decide _ && _) = true
        rw [List.length_set, wv, l]
        rfl
      · rename_i h1
        cases h
        obtain ⟨l, wv⟩ := ba (e.good h1 (by rw [List.length_set]; exact w))
        rw [List.length_set] at l
        show (decide _ && _) = true
        rw [List.length_set, wv, l]
        rfl
      · cases h
    · cases h
  ok := fun {σ S o ρ H D} h w R q => by
    split at h
    · rename_i n kvs hd
      have hs := dictAt_eq hd
      unfold unlockS at h
      split at h
      · rename_i v S' h1
        cases h
        have l := of_decide_eq_true (ba (e.good h1 (by rw [List.length_set]; exact w))).1
        rw [List.length_set] at l
        refine ⟨_, _, (R.get hs).1, trivial, fun od => ?_⟩
        refine e.ok h1 (by rw [List.length_set]; exact w) (lock_in R hs od) fun ρ' H' R' F => ?_
        obtain ⟨a, b, c⟩ := lock_out R hs R' F l
        exact ⟨a, q ρ' _ b c⟩
      · rename_i v S' h1
        cases h
        have l := of_decide_eq_true (ba (e.good h1 (by rw [List.length_set]; exact w))).1
        rw [List.length_set] at l
        refine ⟨_, _, (R.get hs).1, trivial, fun od => ?_⟩
        refine e.ok h1 (by rw [List.length_set]; exact w) (lock_in R hs od) fun ρ' H' R' F => ?_
        obtain ⟨a, b, c⟩ := lock_out R hs R' F l
        exact ⟨a, q ρ' _ b c⟩
      · cases h
    · cases h
end RunX
set_option maxHeartbeats 4000000
namespace RunX
open PySem PySem.Spec PyProof.Rows L2 He PO
variable {K : PySem.W.Frag} {E : XK}
/-! ### truths, ints, texts in a list -/
def boolsD : List DV → Option (List Bool)
  | [] => some []
  | .bl b :: r => (boolsD r).map (b :: ·)
  | _ => none
theorem boolsD_eq {ρ : List Addr} : ∀ {xs : List DV} {bs : List Bool}, boolsD xs = some bs → xs.map (dV K ρ) = bs.map V.bl
  | [], _, h => by cases h; rfl
  | .bl b :: r, _, h => by
    obtain ⟨bs, h1, rfl⟩ := Option.map_eq_some_iff.mp (show (boolsD r).map (b :: ·) = some _ from h)
    show V.bl b :: _ = V.bl b :: _
    rw [boolsD_eq h1]
def intsD : List DV → Option (List Int)
  | [] => some []
  | .int b :: r => (intsD r).map (b :: ·)
  | _ => none
theorem intsD_eq {ρ : List Addr} : ∀ {xs : List DV} {bs : List Int}, intsD xs = some bs → xs.map (dV K ρ) = bs.map V.int
  | [], _, h => by cases h; rfl
  | .int b :: r, _, h => by
    obtain ⟨bs, h1, rfl⟩ := Option.map_eq_some_iff.mp (show (intsD r).map (b :: ·) = some _ from h)
    show V.int b :: _ = V.int b :: _
    rw [intsD_eq h1]
def strsD : List DV → Option (List Str)
  | [] => some []
  | .str b :: r => (strsD r).map (b :: ·)
  | _ => none
theorem strsD_eq {ρ : List Addr} : ∀ {xs : List DV} {bs : List Str}, strsD xs = some bs → xs.map (dV K ρ) = bs.map V.str
  | [], _, h => by cases h; rfl
  | .str b :: r, _, h => by
    obtain ⟨bs, h1, rfl⟩ := Option.map_eq_some_iff.mp (show (strsD r).map (b :: ·) = some _ from h)
    show V.str b :: _ = V.str b :: _
    rw [strsD_eq h1]
/-- a list -/
def lstD (S : List DO) : DV → Option (List DV)
  | .ref n => (match S[n]? with
    | some (.lst xs) => some xs
    | _ => none)
  | _ => none
theorem lstD_ok {ρ : List Addr} {S : List DO} {H : Hp} {x : DV} {xs : List DV} (R : Rep K ρ S H) (h : lstD S x = some xs) : ∃ n, x = .ref n ∧ S[n]? = some (.lst xs) ∧ H (ρ.getD n 0) = some (.lst (xs.map (dV K ρ))) ∧ xs.all (wf S.length) = true := by
  unfold lstD at h
  split at h
  · rename_i n
    split at h
    · rename_i e
      cases h
      exact ⟨n, rfl, e, (R.get e).1, (R.get e).2⟩
    · cases h
  · cases h
theorem lstD_at {S : List DO} {x : DV} {xs : List DV} (h : lstD S x = some xs) : ∃ n, x = .ref n ∧ S[n]? = some (.lst xs) := by
  unfold lstD at h
  split at h
  · rename_i n
    split at h
    · rename_i e
      cases h
      exact ⟨n, rfl, e⟩
    · cases h
  · cases h
instance : EvB K (rAll K) where
  run := fun ds S => match ds with
    | [x] => (match (lstD S x).bind boolsD with
      | some bs => retS (.bl (bs.all id)) S
      | none => none)
    | _ => none
  good := fun {ds S q} h w => by
    split at h
    · split at h
      · exact ret_good h rfl
      · cases h
    · cases h
  ok := fun {ds S q ρ H Q E} h w R p => by
    split at h
    · split at h
      · rename_i bs hb
        obtain ⟨xs, h1, h2⟩ := Option.bind_eq_some_iff.mp hb
        obtain ⟨n, rfl, e, g, _⟩ := lstD_ok R h1
        rw [boolsD_eq h2] at g
        exact ⟨_, bs, rfl, SqL.of g, ret_post (E := E) h R p⟩
      · cases h
    · cases h
instance : EvB K (rSum K) where
  run := fun ds S => match ds with
    | [x] => (match (lstD S x).bind intsD with
      | some bs => retS (.int bs.sum) S
      | none => none)
    | _ => none
  good := fun {ds S q} h w => by
    split at h
    · split at h
      · exact ret_good h rfl
      · cases h
    · cases h
  ok := fun {ds S q ρ H Q E} h w R p => by
    split at h
    · split at h
      · rename_i bs hb
        obtain ⟨xs, h1, h2⟩ := Option.bind_eq_some_iff.mp hb
        obtain ⟨n, rfl, e, g, _⟩ := lstD_ok R h1
        rw [intsD_eq h2] at g
        exact ⟨_, bs, rfl, SqL.of g, ret_post (E := E) h R p⟩
      · cases h
    · cases h
instance : EvR K rInS where
  run := fun S x y => match x, y with
    | .str a, .str b => (match a with
      | ⟨⟨[c]⟩⟩ => retS (.bl (decide (c ∈ b.cps.toList))) S
      | _ => none)
    | _, _ => none
  good := fun {S x y q} h wx wy => by
    split at h
    · split at h
      · exact ret_good h rfl
      · cases h
    · cases h
  ok := fun {S x y q ρ H Q E} h wx wy R p => by
    split at h
    · split at h
      · rename_i c
        exact ⟨c, _, rfl, rfl, ret_post (E := E) h R p⟩
      · cases h
    · cases h
theorem non_eq {ρ : List Addr} {x : DV} : decide (dV K ρ x = .non) = decide (x = .non) := by
  cases x <;> simp [dV]
instance : EvR K rIsN where
  run := fun S x y => match y with
    | .non => retS (.bl (decide (x = .non))) S
    | _ => none
  good := fun {S x y q} h wx wy => by
    split at h
    · exact ret_good h rfl
    · cases h
  ok := fun {S x y q ρ H Q E} h wx wy R p => by
    split at h
    · refine ⟨rfl, ?_⟩
      rw [non_eq]
      exact ret_post (E := E) h R p
    · cases h
instance : EvR K rNotN where
  run := fun S x y => match y with
    | .non => retS (.bl (!decide (x = .non))) S
    | _ => none
  good := fun {S x y q} h wx wy => by
    split at h
    · exact ret_good h rfl
    · cases h
  ok := fun {S x y q ρ H Q E} h wx wy R p => by
    split at h
    · refine ⟨rfl, ?_⟩
      rw [non_eq]
      exact ret_post (E := E) h R p
    · cases h
/-! ### list(..), tuple(..), dict(..) -/
def rListO (K : PySem.W.Frag) : List V → Hp → VK → Prop := fun xs H Q => ∃ p ys, xs = [.ref p] ∧ (SqL K H p ys ∨ SqT K H p ys) ∧ ∀ l, H l = none → Q (.ref l) (upd H l (.lst ys))
def rTupleO (K : PySem.W.Frag) : List V → Hp → VK → Prop := fun xs H Q => ∃ p ys, xs = [.ref p] ∧ ((SqL K H p ys ∧ ∀ l, H l = none → Q (.ref l) (upd H l (.tup ys))) ∨ (SqT K H p ys ∧ Q (.ref p) H))
def rListKT : List V → Hp → VK → Prop := fun xs H Q => ∃ d kvs, xs = [V.ref d] ∧ Rd H d (.dT kvs) ∧ ∀ p bs, H p = none → IsKeys H kvs bs → Q (.ref p) (upd H p (.lst (bs.map V.ref)))
def rDictO : List V → Hp → VK → Prop := fun xs H Q => ∃ (a : Addr) (kvs : List (Key × V)), xs = [.ref a] ∧ Rd H a (.dK kvs) ∧ ∀ p, H p = none → Q (.ref p) (upd H p (.dK kvs))
theorem call_listO {X : Cx} : CallR X (.type "list") (rListO X.K) := call_list_of
theorem call_tupleO {X : Cx} : CallR X (.type "tuple") (rTupleO X.K) := call_tuple_of
theorem call_listKT {X : Cx} (hc : X.calm = true) : CallR X (.type "list") rListKT := call_list_dT hc
theorem call_dictO {X : Cx} : CallR X (.type "dict") rDictO := call_dictD
instance : EvB K (rListO K) where
  run := fun ds S => match ds with
    | [y] => (match itemsD S y with
      | some xs => if wfO S.length (.lst xs) = true then alloc S (.lst xs) else none
      | none => none)
    | _ => none
  good := fun {ds S q} h w => by
    split at h
    · split at h
      · split at h
        · exact alloc_good h
        · cases h
      · cases h
    · cases h
  ok := fun {ds S q ρ H Q E} h w R p => by
    split at h
    · split at h
      · rename_i xs hi
        split at h
        · rename_i c
          obtain ⟨a, e, hs⟩ := itemsD_ok R hi
          exact ⟨a, _, by rw [List.map_cons, e]; rfl, hs, fun l hl => alloc_post (E := E) h c R p hl⟩
        · cases h
      · cases h
    · cases h
instance : EvB K (rTupleO K) where
  run := fun ds S => match ds with
    | [.ref n] => (match S[n]? with
      | some (.lst xs) => alloc S (.tup xs)
      | some (.tup xs) => if n < S.length then retS (.ref n) S else none
      | _ => none)
    | _ => none
  good := fun {ds S q} h w => by
    split at h
    · split at h
      · exact alloc_good h
      · split at h
        · rename_i c
          exact ret_good h (decide_eq_true c)
        · cases h
      · cases h
    · cases h
  ok := fun {ds S q ρ H Q E} h w R p => by
    split at h
    · split at h
      · rename_i xs e
        obtain ⟨g, wx⟩ := R.get e
        exact ⟨_, _, rfl, .inl ⟨SqL.of g, fun l hl => alloc_post (E := E) (o := .tup xs) h wx R p hl⟩⟩
      · rename_i xs e
        split at h
        · exact ⟨_, _, rfl, .inr ⟨SqT.of (R.get e).1, ret_post (E := E) h R p⟩⟩
        · cases h
      · cases h
    · cases h
theorem rd_frz {ρ : List Addr} {S : List DO} {H : Hp} {n : Nat} {kvs : List (Key × DV)} (R : Rep K ρ S H) (h : S[n]? = some (.dK kvs) ∨ S[n]? = some (.frz kvs)) : Rd H (ρ.getD n 0) (.dK (kvs.map fun p => (p.1, dV K ρ p.2))) := by
  rcases h with e | e
  · exact .inl (R.get e).1
  · obtain ⟨od, eo⟩ := R.getF e
    exact .inr ⟨od, eo⟩
def dictKD (S : List DO) : DV → Option (List (Key × DV))
  | .ref n => (match S[n]? with
    | some (.dK kvs) => some kvs
    | some (.frz kvs) => some kvs
    | _ => none)
  | _ => none
theorem dictKD_ok {ρ : List Addr} {S : List DO} {H : Hp} {x : DV} {kvs : List (Key × DV)} (R : Rep K ρ S H) (h : dictKD S x = some kvs) : ∃ n, x = .ref n ∧ Rd H (ρ.getD n 0) (.dK (kvs.map fun p => (p.1, dV K ρ p.2))) ∧ (kvs.all fun p => wf S.length p.2) = true := by
  unfold dictKD at h
  split at h
  · rename_i n
    split at h
    · rename_i e
      cases h
      exact ⟨n, rfl, rd_frz R (.inl e), R.wf _ (List.mem_of_getElem? e)⟩
    · rename_i e
      cases h
      exact ⟨n, rfl, rd_frz R (.inr e), R.wf _ (List.mem_of_getElem? e)⟩
    · cases h
  · cases h
instance : EvB K rListD where
  run := fun ds S => match ds with
    | [.ref n] => (match S[n]? with
      | some (.dK kvs) => alloc S (.lst (kvs.map fun p => kD p.1))
      | _ => none)
    | _ => none
  good := fun {ds S q} h w => by
    split at h
    · split at h
      · exact alloc_good h
      · cases h
    · cases h
  ok := fun {ds S q ρ H Q E} h w R p => by
    split at h
    · split at h
      · rename_i kvs e
        refine ⟨_, _, rfl, (R.get e).1, fun l hl => ?_⟩
        have z := alloc_post (E := E) h (List.all_eq_true.mpr fun v hv => by obtain ⟨q, _, rfl⟩ := List.mem_map.mp hv; exact kD_wf _) R p hl
        have em : dO K ρ (.lst (kvs.map fun p => kD p.1)) = .lst ((kvs.map fun p => (p.1, dV K ρ p.2)).map fun kv => kV kv.1) := by
          simp only [dO, List.map_map]
          exact congrArg HO.lst (List.map_congr_left fun q _ => kD_ok q.1)
        rw [em] at z
        exact z
      · cases h
    · cases h
instance : EvB K rDictO where
  run := fun ds S => match ds with
    | [x] => (match dictKD S x with
      | some kvs => if (kvs.all fun p => wf S.length p.2) = true then alloc S (.dK kvs) else none
      | none => none)
    | _ => none
  good := fun {ds S q} h w => by
    split at h
    · split at h
      · split at h
        · exact alloc_good h
        · cases h
      · cases h
    · cases h
  ok := fun {ds S q ρ H Q E} h w R p => by
    split at h
    · split at h
      · rename_i kvs hk
        split at h
        · rename_i c
          obtain ⟨n, rfl, r, _⟩ := dictKD_ok R hk
          exact ⟨_, _, rfl, r, fun l hl => alloc_post (E := E) (o := .dK kvs) h c R p hl⟩
        · cases h
      · cases h
    · cases h
/-- the tuples of keys become known -/
theorem know_all {ρ : List Addr} {S : List DO} {H : Hp} (R : Rep K ρ S H) : ∀ {ks : List (List Key)} {bs : List Addr}, Paired (fun k b => H b = some (.tup (k.map kV))) ks bs →
    Rep K (ρ ++ bs) (S ++ ks.map fun k => .tup (k.map kD)) H ∧ Fr ρ H (ρ ++ bs) H
  | _, _, .nil => by
    simp only [List.map_nil, List.append_nil]
    exact ⟨R, Fr.refl _ _⟩
  | k :: ks, b :: bs, .cons hb hr => by
    have eb : H b = some (.tup ((k.map kD).map (dV K ρ))) := by
      rw [hb, List.map_map]
      exact congrArg (fun z => some (HO.tup z)) (List.map_congr_left fun q _ => (kD_ok q).symm)
    obtain ⟨R1, F1⟩ := R.know eb (List.all_eq_true.mpr fun v hv => by obtain ⟨q, _, rfl⟩ := List.mem_map.mp hv; exact kD_wf _)
    obtain ⟨R2, F2⟩ := know_all R1 hr
    rw [List.append_assoc, List.append_assoc] at R2
    rw [List.append_assoc] at F2
    exact ⟨R2, F1.trans R1 F2⟩
theorem paired_map {α β γ : Type} {f : α → γ} {P : γ → β → Prop} : ∀ {xs : List α} {ys : List β}, Paired (fun x y => P (f x) y) xs ys → Paired P (xs.map f) ys
  | _, _, .nil => .nil
  | _, _, .cons h r => .cons h (paired_map r)
theorem paired_len {α β : Type} {P : α → β → Prop} : ∀ {xs : List α} {ys : List β}, Paired P xs ys → xs.length = ys.length
  | _, _, .nil => rfl
  | _, _, .cons _ r => by rw [List.length_cons, List.length_cons, paired_len r]
def refsD (n : Nat) : Nat → List DV
  | 0 => []
  | k + 1 => .ref n :: refsD (n + 1) k
theorem refsD_eq {ρ : List Addr} : ∀ {bs ρ0 : List Addr}, (refsD ρ0.length bs.length).map (dV K (ρ0 ++ bs ++ ρ)) = bs.map V.ref
  | [], _ => rfl
  | b :: bs, ρ0 => by
    have e : ρ0 ++ b :: bs ++ ρ = (ρ0 ++ [b]) ++ bs ++ ρ := by simp
    have l : ρ0.length + 1 = (ρ0 ++ [b]).length := by simp
    show dV K _ (.ref ρ0.length) :: (refsD (ρ0.length + 1) bs.length).map _ = V.ref b :: bs.map V.ref
    rw [e, l, refsD_eq]
    simp [dV, List.getD_eq_getElem?_getD]
theorem refsD_wf {m : Nat} : ∀ {k n : Nat}, n + k ≤ m → (refsD n k).all (wf m) = true
  | 0, _, _ => rfl
  | k + 1, n, h => by
    show (decide (n < m) && _) = true
    rw [decide_eq_true (by omega), refsD_wf (by omega)]
    rfl
instance : EvB K rListKT where
  run := fun ds S => match ds with
    | [.ref n] => (match S[n]? with
      | some (.dT kvs) => some (.ret (.ref (S.length + kvs.length)) ((S ++ kvs.map fun p => .tup (p.1.map kD)) ++ [.lst (refsD S.length kvs.length)]))
      | _ => none)
    | _ => none
  good := fun {ds S q} h w => by
    split at h
    · split at h
      · cases h
        show (decide _ && decide _) = true
        simp
      · cases h
    · cases h
  ok := fun {ds S q ρ H Q E} h w R p => by
    split at h
    · split at h
      · rename_i kvs e
        cases h
        refine ⟨_, _, rfl, .inl (R.get e).1, fun l bs hl hk => ?_⟩
        have hk2 : Paired (fun k b => H b = some (.tup (k.map kV))) (kvs.map (·.1)) bs := by
          have z := paired_map (f := fun q : List Key × V => q.1) (P := fun k b => H b = some (.tup (k.map kV))) hk
          rwa [List.map_map] at z
        obtain ⟨R1, F1⟩ := know_all R hk2
        have hlen : bs.length = kvs.length := by rw [← paired_len hk2, List.length_map]
        have eS : (kvs.map (·.1)).map (fun k => DO.tup (k.map kD)) = kvs.map fun p => .tup (p.1.map kD) := by rw [List.map_map]; rfl
        rw [eS] at R1
        obtain ⟨R2, F2⟩ := R1.new (o := .lst (refsD S.length kvs.length)) hl (refsD_wf (by simp))
        have em : dO K (ρ ++ bs) (.lst (refsD S.length kvs.length)) = .lst (bs.map V.ref) := by
          have z := refsD_eq (K := K) (ρ := []) (bs := bs) (ρ0 := ρ)
          rw [List.append_nil, R.len, hlen] at z
          simp only [dO, z]
        rw [em] at R2 F2
        have z := p _ _ R2 (F1.trans R1 F2)
        have er : dV K (ρ ++ bs ++ [l]) (.ref (S.length + kvs.length)) = .ref l := by
          show V.ref _ = _
          rw [← hlen, ← R.len]
          simp [List.getD_eq_getElem?_getD]
        rw [er] at z
        exact z
      · cases h
    · cases h
/-! ### sorted ints -/
def insI (x : Int) : List Int → List Int
  | [] => [x]
  | y :: r => if x ≤ y then x :: y :: r else y :: insI x r
def sortI : List Int → List Int
  | [] => []
  | x :: r => insI x (sortI r)
theorem insI_perm {x : Int} : ∀ {l : List Int}, (insI x l).Perm (x :: l)
  | [] => .refl _
  | y :: r => by
    unfold insI
    split
    · exact .refl _
    · exact ((insI_perm (l := r)).cons y).trans (.swap x y r)
theorem sortI_perm : ∀ {l : List Int}, (sortI l).Perm l
  | [] => .refl _
  | x :: r => insI_perm.trans ((sortI_perm (l := r)).cons x)
theorem insI_sorted {x : Int} : ∀ {l : List Int}, l.Pairwise (· ≤ ·) → (insI x l).Pairwise (· ≤ ·)
  | [], _ => List.pairwise_singleton _ _
  | y :: r, h => by
    obtain ⟨h1, h2⟩ := List.pairwise_cons.mp h
    unfold insI
    split
    · rename_i c
      exact List.pairwise_cons.mpr ⟨fun z hz => by
        rcases List.mem_cons.mp hz with q | q
        · rw [q]; exact c
        · exact Int.le_trans c (h1 z q), h⟩
    · rename_i c
      exact List.pairwise_cons.mpr ⟨fun z hz => by
        rcases List.mem_cons.mp (insI_perm.mem_iff.mp hz) with q | q
        · rw [q]; omega
        · exact h1 z q, insI_sorted h2⟩
theorem sortI_sorted : ∀ {l : List Int}, (sortI l).Pairwise (· ≤ ·)
  | [] => .nil
  | x :: r => insI_sorted sortI_sorted
theorem sorted_one : ∀ {l m : List Int}, l.Perm m → l.Pairwise (· ≤ ·) → m.Pairwise (· ≤ ·) → l = m
  | [], m, p, _, _ => (List.nil_perm.mp p).symm
  | a :: l, [], p, _, _ => by have := p.length_eq; simp at this
  | a :: l, b :: m, p, h, g => by
    obtain ⟨h1, h2⟩ := List.pairwise_cons.mp h
    obtain ⟨g1, g2⟩ := List.pairwise_cons.mp g
    have e : a = b := by
      rcases List.mem_cons.mp (p.mem_iff.mp List.mem_cons_self) with q | q
      · exact q
      · rcases List.mem_cons.mp (p.mem_iff.mpr List.mem_cons_self) with z | z
        · exact z.symm
        · exact Int.le_antisymm (h1 b z) (g1 a q)
    subst e
    rw [sorted_one (List.perm_cons a |>.mp p) h2 g2]
instance : EvB K (rSortedI K) where
  run := fun ds S => match ds with
    | [x] => (match (lstD S x).bind intsD with
      | some ns => alloc S (.lst ((sortI ns).map DV.int))
      | none => none)
    | _ => none
  good := fun {ds S q} h w => by
    split at h
    · split at h
      · exact alloc_good h
      · cases h
    · cases h
  ok := fun {ds S q ρ H Q E} h w R p => by
    split at h
    · split at h
      · rename_i ns hb
        obtain ⟨xs, h1, h2⟩ := Option.bind_eq_some_iff.mp hb
        obtain ⟨n, rfl, e, g, _⟩ := lstD_ok R h1
        rw [intsD_eq h2] at g
        refine ⟨_, ns, rfl, SqL.of g, fun ns' l pm so hl => ?_⟩
        rw [sorted_one (pm.trans sortI_perm.symm) so sortI_sorted]
        have z := alloc_post (E := E) h (List.all_eq_true.mpr fun v hv => by obtain ⟨q, _, rfl⟩ := List.mem_map.mp hv; rfl) R p hl
        have em : dO K ρ (.lst ((sortI ns).map DV.int)) = .lst ((sortI ns).map V.int) := by
          simp only [dO, List.map_map]
          rfl
        rw [em] at z
        exact z
      · cases h
    · cases h
/-! ### chains, a if t else b, stars -/
instance (r r' : R2) (ta tb tc : TE) [a : EvE K E ta] [b : EvE K E tb] [c : EvE K E tc] [o : EvR K r] [o' : EvR K r'] : EvE K E (tChain r r' ta tb tc) where
  run := fun σ S => bindE (a.run σ S) fun x S1 => bindE (b.run σ S1) fun y S2 => match o.run S2 x y with
    | some (.ret (.bl true) S3) => if S2.length ≤ S3.length then bindE (c.run σ S3) fun z S4 => o'.run S4 y z else none
    | some (.ret (.bl false) S3) => some (.ret (.bl false) S3)
    | some (.exc C d S3) => some (.exc C d S3)
    | _ => none
  good := fun {σ S r} h w => bind_good (te := ta) h w fun {x S1 r} l wx h => bind_good (te := tb) h (wfS_le l w) fun {y S2 r} l2 wy h => by
    split at h
    · rename_i S3 h3
      split at h
      · rename_i l3
        exact good_le l3 (bind_good (te := tc) h (wfS_le l3 (wfS_le l2 (wfS_le l w))) fun {z S4 r} l4 wz h => o'.good h (wf_le l4 (wf_le l3 wy)) wz)
      · cases h
    · rename_i S3 h3
      cases h
      exact o.good h3 (wf_le l2 wx) wy
    · rename_i C d S3 h3
      cases h
      exact o.good h3 (wf_le l2 wx) wy
    · cases h
  ok := fun {σ S r ρ H Q} h w R p => bind_ok (te := ta) h w R p fun {x S1 ρ1 H1} l wx h R1 F1 eσ p => by
    rw [← eσ]
    refine bind_ok (te := tb) h (wfS_le l w) R1 p fun {y S2 ρ2 H2} l2 wy h R2 F2 eσ2 p => ?_
    have ex : dV K ρ2 x = dV K ρ1 x := F2.val R1.len wx
    rw [← ex]
    split at h
    · rename_i S3 h3
      split at h
      · rename_i l3
        refine o.ok (E := E) h3 (wf_le l2 wx) wy R2 fun ρ3 H3 R3 F3 => ⟨true, rfl, ?_⟩
        have w2 := wfS_le l2 (wfS_le l w)
        show tc _ H3 _
        rw [← eσ2, ← F3.le R2.len w2]
        refine bind_ok (te := tc) h (wfS_le l3 w2) R3 (Post.of p R3 F3) fun {z S4 ρ4 H4} l4 wz h R4 F4 _ p => ?_
        have ey : dV K ρ4 y = dV K ρ2 y := (F4.val R3.len (wf_le l3 wy)).trans (F3.val R2.len wy)
        rw [← ey]
        exact o'.ok h (wf_le l4 (wf_le l3 wy)) wz R4 p
      · cases h
    · rename_i S3 h3
      cases h
      exact o.ok (E := E) h3 (wf_le l2 wx) wy R2 fun ρ3 H3 R3 F3 => ⟨false, rfl, p ρ3 H3 R3 F3⟩
    · rename_i C d S3 h3
      cases h
      exact o.ok (E := E) h3 (wf_le l2 wx) wy R2 p
    · cases h
instance (tt : TT) (ta tb : TE) [t : EvT K E tt] [a : EvE K E ta] [b : EvE K E tb] : EvE K E (tIf tt ta tb) where
  run := fun σ S => bindT (t.run σ S) fun c S1 => if c = true then a.run σ S1 else b.run σ S1
  good := fun {σ S r} h w => bindT_good (tt := tt) h w fun {c S1 r} l h => by
    split at h
    · exact a.good h (wfS_le l w)
    · exact b.good h (wfS_le l w)
  ok := fun {σ S r ρ H Q} h w R p => by
    unfold bindT at h
    split at h
    · rename_i c S1 h1
      have l := of_decide_eq_true (ba (t.good h1 w)).1
      refine t.ok h1 w R fun ρ1 H1 R1 F1 => ?_
      rw [← F1.le R.len w]
      have h : (if c = true then a.run σ S1 else b.run σ S1) = some r := h
      split
      · rename_i hc
        rw [if_pos hc] at h
        exact a.ok h (wfS_le l w) R1 (Post.of p R1 F1)
      · rename_i hc
        rw [if_neg hc] at h
        exact b.ok h (wfS_le l w) R1 (Post.of p R1 F1)
    · cases h
    · rename_i C d S1 h1
      cases h
      exact t.ok h1 w R p
    · cases h
instance (te : TE) (ta : TA) [e : EvE K E te] [a : EvA K E ta] : EvA K E (StX.tStar K te ta) where
  run := fun σ S => match e.run σ S with
    | some (.ret v S1) => (match itemsD S1 v with
      | some xs => if xs.all (wf S1.length) = true then (match a.run σ S1 with
        | some (.ret vs S2) => some (.ret (xs ++ vs) S2)
        | some (.exc C d S2) => some (.exc C d S2)
        | none => none) else none
      | none => none)
    | some (.exc C d S1) => some (.exc C d S1)
    | none => none
  good := fun {σ S r} h w => by
    split at h
    · rename_i v S1 h1
      have l1 := of_decide_eq_true (ba (e.good h1 w)).1
      split at h
      · rename_i xs hx
        split at h
        · rename_i c
          split at h
          · rename_i vs S2 h2
            cases h
            obtain ⟨l2, w2⟩ := ba (a.good h2 (wfS_le l1 w))
            have l2 := of_decide_eq_true l2
            show (decide _ && _) = true
            rw [List.all_append, all_le l2 c, w2, decide_eq_true (Nat.le_trans l1 l2)]
            rfl
          · rename_i C d S2 h2
            cases h
            exact decide_eq_true (Nat.le_trans l1 (of_decide_eq_true (a.good h2 (wfS_le l1 w))))
          · cases h
        · cases h
      · cases h
    · rename_i C d S1 h1
      cases h
      exact e.good h1 w
    · cases h
  ok := fun {σ S r ρ H Q} h w R p => by
    split at h
    · rename_i v S1 h1
      have l1 := of_decide_eq_true (ba (e.good h1 w)).1
      split at h
      · rename_i xs hx
        split at h
        · rename_i c
          refine e.ok h1 w R fun ρ1 H1 R1 F1 => ?_
          obtain ⟨q, eq, hs⟩ := itemsD_ok R1 hx
          refine ⟨q, _, eq, hs.symm, ?_⟩
          rw [← F1.le R.len w]
          split at h
          · rename_i vs S2 h2
            cases h
            refine a.ok h2 (wfS_le l1 w) R1 fun ρ2 H2 R2 F2 => ?_
            have z := p ρ2 H2 R2 (F1.trans R1 F2)
            rw [List.map_append, F2.vals R1.len c] at z
            exact z
          · rename_i C d S2 h2
            cases h
            exact a.ok h2 (wfS_le l1 w) R1 (PostX.of p R1 F1)
          · cases h
        · cases h
      · cases h
    · rename_i C d S1 h1
      cases h
      exact e.ok h1 w R p
    · cases h
/-! ### several names at once -/
def bindXA (r : Option ResA) (f : List DV → List DO → Option Out) : Option Out := match r with
  | some (.ret vs S) => f vs S
  | some (.exc C d S) => some (.exc C d S)
  | none => none
instance (i j : Nat) (ta : TA) [a : EvA K E ta] : EvS K E (tPar i j ta) where
  run := fun σ S => match a.run σ S with
    | some (.ret [v, u] S1) => some (.nx ((σ.set i (some v)).set j (some u)) S1)
    | some (.exc C d S1) => some (.exc C d S1)
    | _ => none
  good := fun {σ S o} h w => by
    split at h
    · rename_i v u S1 h1
      cases h
      obtain ⟨l, wv⟩ := ba (a.good h1 w)
      obtain ⟨w1, w2⟩ := ba (show (wf _ v && (wf _ u && true)) = true from wv)
      obtain ⟨w2, _⟩ := ba w2
      show (decide _ && _) = true
      rw [l, wfS_set (wfS_set (wfS_le (of_decide_eq_true l) w) w1) w2]
      rfl
    · rename_i C d S1 h1
      cases h
      exact a.good h1 w
    · cases h
  ok := fun {σ S o ρ H D} h w R p => by
    split at h
    · rename_i v u S1 h1
      cases h
      refine a.ok h1 w R fun ρ1 H1 R1 F1 => ⟨_, _, rfl, ?_⟩
      have z := p ρ1 H1 R1 F1
      rw [dSt_set, dSt_set, F1.le R.len w] at z
      exact z
    · rename_i C d S1 h1
      cases h
      exact a.ok h1 w R p
    · cases h
/-! ### d.get(k), d.get(k, x) -/
def isDD (S : List DO) : DV → Bool
  | .ref n => (match S[n]? with
    | some (.dK _) => true
    | some (.dT _) => true
    | _ => false)
  | _ => false
theorem isDD_ok {ρ : List Addr} {S : List DO} {H : Hp} {x : DV} (R : Rep K ρ S H) (h : isDD S x = true) : ∃ n, x = .ref n ∧ IsD H (ρ.getD n 0) := by
  unfold isDD at h
  split at h
  · rename_i n
    split at h
    · rename_i e
      exact ⟨n, rfl, .inl ⟨_, .inl (R.get e).1⟩⟩
    · rename_i e
      exact ⟨n, rfl, .inr ⟨_, .inl (R.get e).1⟩⟩
    · cases h
  · cases h
instance (td ty tx : TE) [a : EvE K E td] [b : EvE K E ty] [c : EvE K E tx] : EvE K E (tDGet2 td ty tx) where
  run := fun σ S => bindE (a.run σ S) fun x S1 => if isDD S1 x = true then bindE (b.run σ S1) fun y S2 => bindE (c.run σ S2) fun z S3 => match lookD S3 x y with
    | some o => if wf S3.length (o.getD z) = true then retS (o.getD z) S3 else none
    | none => none else none
  good := fun {σ S r} h w => bind_good (te := td) h w fun {x S1 r} l wx h => by
    split at h
    · exact bind_good (te := ty) h (wfS_le l w) fun {y S2 r} l2 wy h => bind_good (te := tx) h (wfS_le l2 (wfS_le l w)) fun {z S3 r} l3 wz h => by
        split at h
        · split at h
          · rename_i k
            exact ret_good h k
          · cases h
        · cases h
    · cases h
  ok := fun {σ S r ρ H Q} h w R p => bind_ok (te := td) h w R p fun {x S1 ρ1 H1} l wx h R1 F1 eσ p => by
    split at h
    · rename_i k
      obtain ⟨n, rfl, isd⟩ := isDD_ok R1 k
      refine ⟨_, rfl, isd, ?_⟩
      rw [← eσ]
      refine bind_ok (te := ty) h (wfS_le l w) R1 p fun {y S2 ρ2 H2} l2 wy h R2 F2 eσ2 p => ?_
      rw [← eσ2]
      refine bind_ok (te := tx) h (wfS_le l2 (wfS_le l w)) R2 p fun {z S3 ρ3 H3} l3 wz h R3 F3 eσ3 p => ?_
      split at h
      · rename_i o ho
        split at h
        · obtain ⟨a', ea, g⟩ := lookD_ok R3 ho
          have n1 : n < ρ1.length := by rw [R1.len]; exact of_decide_eq_true wx
          have n2 : n < ρ2.length := by rw [R2.len]; exact Nat.lt_of_lt_of_le (of_decide_eq_true wx) l2
          have en : ρ3.getD n 0 = ρ1.getD n 0 := (F3.at n2).trans (F2.at n1)
          have ea' : a' = ρ1.getD n 0 := by
            have q : V.ref (ρ3.getD n 0) = .ref a' := ea
            cases q
            exact en
          rw [ea'] at g
          have ey : dV K ρ3 y = dV K ρ2 y := F3.val R2.len wy
          rw [← ey]
          refine ⟨_, g, ?_⟩
          have q := ret_post (E := E) h R3 p
          have eo : (o.map (dV K ρ3)).getD (dV K ρ3 z) = dV K ρ3 (o.getD z) := by cases o <;> rfl
          rw [eo]
          exact q
        · cases h
      · cases h
    · cases h
instance (td ty : TE) [a : EvE K E td] [b : EvE K E ty] : EvE K E (tDGet1 td ty) where
  run := fun σ S => bindE (a.run σ S) fun x S1 => if isDD S1 x = true then bindE (b.run σ S1) fun y S2 => match lookD S2 x y with
    | some o => if wf S2.length (o.getD .non) = true then retS (o.getD .non) S2 else none
    | none => none else none
  good := fun {σ S r} h w => bind_good (te := td) h w fun {x S1 r} l wx h => by
    split at h
    · exact bind_good (te := ty) h (wfS_le l w) fun {y S2 r} l2 wy h => by
        split at h
        · split at h
          · rename_i k
            exact ret_good h k
          · cases h
        · cases h
    · cases h
  ok := fun {σ S r ρ H Q} h w R p => bind_ok (te := td) h w R p fun {x S1 ρ1 H1} l wx h R1 F1 eσ p => by
    split at h
    · rename_i k
      obtain ⟨n, rfl, isd⟩ := isDD_ok R1 k
      refine ⟨_, rfl, isd, ?_⟩
      rw [← eσ]
      refine bind_ok (te := ty) h (wfS_le l w) R1 p fun {y S2 ρ2 H2} l2 wy h R2 F2 eσ2 p => ?_
      split at h
      · rename_i o ho
        split at h
        · obtain ⟨a', ea, g⟩ := lookD_ok R2 ho
          have ea' : a' = ρ1.getD n 0 := by
            have q : V.ref (ρ2.getD n 0) = .ref a' := ea
            cases q
            exact F2.at (show n < ρ1.length by rw [R1.len]; exact of_decide_eq_true wx)
          rw [ea'] at g
          refine ⟨_, g, ?_⟩
          have q := ret_post (E := E) h R2 p
          have eo : (o.map (dV K ρ2)).getD V.non = dV K ρ2 (o.getD .non) := by cases o <;> rfl
          rw [eo]
          exact q
        · cases h
      · cases h
    · cases h
/-! ### xs.pop() -/
instance (T : String) (r : V → List V → Hp → VK → Prop) (to : TE) [o : EvE K E to] [m : EvM K T r] : EvE K E (tBM0 K T r to) where
  run := fun σ S => bindE (o.run σ S) fun x S1 => if tyB S1 T x = true then m.run x [] S1 else none
  good := fun {σ S r} h w => bind_good (te := to) h w fun {x S1 r} l wx h => by
    split at h
    · exact m.good h wx rfl
    · cases h
  ok := fun {σ S r ρ H Q} h w R p => bind_ok (te := to) h w R p fun {x S1 ρ1 H1} l wx h R1 F1 eσ p => by
    split at h
    · rename_i k
      exact ⟨tyB_ok R1 k, m.ok (E := E) h wx rfl R1 p⟩
    · cases h
instance : EvM K "list" rPop where
  run := fun x ds S => match x, ds with
    | .ref n, [] => (match S[n]? with
      | some (.lst xs) => (match xs[xs.length - 1]? with
        | some y => if wf S.length y = true ∧ wfO S.length (.lst xs.dropLast) = true then some (.ret y (S.set n (.lst xs.dropLast))) else none
        | none => none)
      | _ => none)
    | _, _ => none
  good := fun {x ds S q} h wx w => by
    split at h
    · split at h
      · split at h
        · split at h
          · rename_i c
            cases h
            show (decide _ && _) = true
            rw [List.length_set, c.1]
            simp
          · cases h
        · cases h
      · cases h
    · cases h
  ok := fun {x ds S q ρ H Q E} h wx w R p => by
    split at h
    · split at h
      · rename_i xs e
        split at h
        · rename_i y hy
          split at h
          · rename_i c
            cases h
            obtain ⟨g, _⟩ := R.get e
            obtain ⟨R1, F1⟩ := R.set (o' := .lst xs.dropLast) e c.2
            refine ⟨_, _, dV K ρ y, rfl, rfl, g, by rw [List.length_map, List.getElem?_map, hy]; rfl, ?_⟩
            have z := p _ _ R1 F1
            have em : dO K ρ (.lst xs.dropLast) = .lst (xs.map (dV K ρ)).dropLast := by simp only [dO, List.map_dropLast]
            rw [em] at z
            exact z
          · cases h
        · cases h
      · cases h
    · cases h
end RunX
set_option maxHeartbeats 4000000
/-! Dict comprehensions; written dicts; sep.join; members of tuples; data compared with (). -/
namespace RunX
open PySem PySem.Spec PyProof.Rows L2 He PO DCT
variable {K : PySem.W.Frag} {E : XK}
def putR (K : PySem.W.Frag) (S : List DO) (n : Nat) (y z : DV) : Option (List DO) := EvW.run K rSetD S (.ref n) y z
def dcD (K : PySem.W.Frag) (fk fv c : List (Option DV) → List DO → Option Res) (g : DV → List (Option DV) → List DO → Option (List (Option DV))) (it : ItD) (n : Nat) (σ0 : List (Option DV)) (vs : List Nat) : Nat → Nat → List DO → Option Res
  | 0, _, _ => none
  | k + 1, i, S => match it.at i S with
    | none => none
    | some none => some (.ret (.ref n) S)
    | some (some (x, S0)) => if S.length ≤ S0.length ∧ wf S0.length x = true then (match g x σ0 S0 with
      | none => none
      | some σ2 => if wipeD σ2 vs = σ0 then (match c σ2 S0 with
        | some (.ret (.bl true) S3) => (match fk σ2 S3 with
          | some (.ret y S4) => (match fv σ2 S4 with
            | some (.ret z S5) => (match putR K S5 n y z with
              | some S6 => dcD K fk fv c g it n σ0 vs k (i + 1) S6
              | none => none)
            | some (.exc C d S5) => some (.exc C d S5)
            | none => none)
          | some (.exc C d S4) => some (.exc C d S4)
          | none => none)
        | some (.ret (.bl false) S3) => dcD K fk fv c g it n σ0 vs k (i + 1) S3
        | some (.exc C d S3) => some (.exc C d S3)
        | _ => none) else none) else none
section
variable {g : TG} {tt : TT} {tk tv : TE} [eg : EvG K g] [ec : EvT K E tt] [ek : EvE K E tk] [ev : EvE K E tv]
theorem dc_good {it : ItD} {n : Nat} {σ0 : List (Option DV)} {vs : List Nat} : ∀ {k i : Nat} {S : List DO} {r : Res}, dcD K ek.run ev.run ec.run eg.run it n σ0 vs k i S = some r → n < S.length → wfS S.length σ0 = true → good S.length r = true
  | 0, _, _, _, h, _, _ => by
    unfold dcD at h
    cases h
  | k + 1, i, S, r, h, hn, w => by
    unfold dcD at h
    split at h
    · cases h
    · cases h
      show (decide _ && decide _) = true
      simp [hn]
    · split at h
      · rename_i wx
        split at h
        · cases h
        · rename_i σ2 h1
          have w1 := eg.wf_ h1 wx.2 (wfS_le wx.1 w)
          refine good_le wx.1 ?_
          have hn := Nat.lt_of_lt_of_le hn wx.1
          have w := wfS_le wx.1 w
          split at h
          · split at h
            · rename_i S3 h3
              have l3 := of_decide_eq_true (ba (ec.good h3 w1)).1
              split at h
              · rename_i y S4 h4
                have l4 := of_decide_eq_true (ba (ek.good h4 (wfS_le l3 w1))).1
                split at h
                · rename_i z S5 h5
                  have l5 := of_decide_eq_true (ba (ev.good h5 (wfS_le l4 (wfS_le l3 w1)))).1
                  split at h
                  · rename_i S6 h6
                    have e6 := EvW.len h6
                    have l6 := Nat.le_trans l3 (Nat.le_trans l4 l5)
                    rw [← e6] at l6
                    exact good_le l6 (dc_good h (by omega) (wfS_le l6 w))
                  · cases h
                · rename_i C d S5 h5
                  cases h
                  exact good_le (Nat.le_trans l3 l4) (ev.good h5 (wfS_le l4 (wfS_le l3 w1)))
                · cases h
              · rename_i C d S4 h4
                cases h
                exact good_le l3 (ek.good h4 (wfS_le l3 w1))
              · cases h
            · rename_i S3 h3
              have l3 := of_decide_eq_true (ba (ec.good h3 w1)).1
              exact good_le l3 (dc_good h (by omega) (wfS_le l3 w))
            · rename_i C d S3 h3
              cases h
              exact ec.good h3 w1
            · cases h
          · cases h
      · cases h
theorem dc_ok {it : ItD} {J : It} {ρ1 : List Addr} {S1 : List DO} {H1 : Hp} (ok : ItOk K ρ1 H1 it J) (R1 : Rep K ρ1 S1 H1) {n : Nat} {σ0 : List (Option DV)} {vs : List Nat} {r : Res} {k : Nat} {S : List DO} {H0 : Hp} {Dl : Addr} {σv : L2.St} {Q : VK} (hσ : ∀ m, dSt K (ρ1 ++ m) σ0 = wipe σv vs)
    (h : dcD K ek.run ev.run ec.run eg.run it n σ0 vs k 0 S = some r) (hn : n < S.length) (w : wfS S.length σ0 = true) (R : Rep K (ρ1 ++ [Dl]) S H0) (F0 : Fr ρ1 H1 (ρ1 ++ [Dl]) H0) (hD : n = ρ1.length) (p : Post K E (ρ1 ++ [Dl]) H0 Q r) :
    ∃ W : Nat → Nat → Hp → Prop, (∃ m, W 0 m H0) ∧ ∀ i m H, W i m H → (J.stop i H ∧ Q (.ref Dl) H) ∨ (J.go i H ∧ ∃ Nx : Hp → Prop, (∀ H', Nx H' → ∃ m', m' < m ∧ W (i + 1) m' H') ∧ ∀ x H', J.yld i H x H' → g x (wipe σv vs) H' fun σ2 H2 => wipe σ2 vs = wipe σv vs ∧ tt σ2 H2 fun b H3 =>
      if b = true then tk σ2 H3 fun y H4 => tv σ2 H4 fun z H5 => ∃ H6, DPut H5 Dl y z H6 ∧ Nx H6 else Nx H3) := by
  have lD : n < (ρ1 ++ [Dl]).length := by rw [hD]; simp
  have atD : ∀ {ρ H'}, Fr (ρ1 ++ [Dl]) H0 ρ H' → ρ.getD n 0 = Dl := fun F => by
    rw [F.at lD, hD]
    simp [List.getD_eq_getElem?_getD]
  have atS : ∀ {ρ H'}, Fr (ρ1 ++ [Dl]) H0 ρ H' → dSt K ρ σ0 = wipe σv vs := fun F => by
    obtain ⟨m, e, _⟩ := F.pre
    rw [e, List.append_assoc, hσ]
  refine ⟨fun i m H' => ∃ ρ Sd, Fr (ρ1 ++ [Dl]) H0 ρ H' ∧ Rep K ρ Sd H' ∧ n < Sd.length ∧ wfS Sd.length σ0 = true ∧ dcD K ek.run ev.run ec.run eg.run it n σ0 vs m i Sd = some r ∧ Post K E ρ H' Q r, ⟨k, _, S, Fr.refl _ _, R, hn, w, h, p⟩, ?_⟩
  rintro i m H' ⟨ρ, Sd, F, R', hn, w, h, p⟩
  have F1 := F0.trans R F
  cases m with
  | zero =>
    unfold dcD at h
    cases h
  | succ k =>
    unfold dcD at h
    split at h
    · cases h
    · rename_i hx
      cases h
      have z := p _ H' R' (Fr.refl _ _)
      have ev : dV K ρ (.ref n) = .ref Dl := by
        show V.ref _ = _
        rw [atD F]
      rw [ev] at z
      exact .inl ⟨ok.stop F1 R' hx, z⟩
    · rename_i x S0 hx
      split at h
      · rename_i wx
        split at h
        · cases h
        · rename_i σ2 h1
          have w1 := eg.wf_ h1 wx.2 (wfS_le wx.1 w)
          split at h
          · rename_i hw
            refine .inr ⟨ok.go F1 R' hx, fun H'' => ∃ ρ Sd, Fr (ρ1 ++ [Dl]) H0 ρ H'' ∧ Rep K ρ Sd H'' ∧ n < Sd.length ∧ wfS Sd.length σ0 = true ∧ dcD K ek.run ev.run ec.run eg.run it n σ0 vs k (i + 1) Sd = some r ∧ Post K E ρ H'' Q r, fun H'' z => ⟨k, Nat.lt_succ_self k, z⟩, fun x' H'' y => ?_⟩
            obtain ⟨ρa, Ra, Fa, rfl⟩ := ok.yld F1 R' hx y
            have Fb := F.trans R' Fa
            have hn := Nat.lt_of_lt_of_le hn wx.1
            have w := wfS_le wx.1 w
            have p := Post.of p Ra Fa
            rw [← atS Fb]
            refine eg.ok h1 Ra ⟨?_, ?_⟩
            · rw [← wipe_eq, hw]
            · split at h
              · rename_i S3 h3
                have l3 := of_decide_eq_true (ba (ec.good h3 w1)).1
                refine ec.ok h3 w1 Ra fun ρ3 H3 R3 F3 => ?_
                show tk _ H3 _
                rw [← F3.le Ra.len w1]
                split at h
                · rename_i y S4 h4
                  obtain ⟨l4, wy⟩ := ba (ek.good h4 (wfS_le l3 w1))
                  have l4 := of_decide_eq_true l4
                  split at h
                  · rename_i z S5 h5
                    obtain ⟨l5, wz⟩ := ba (ev.good h5 (wfS_le l4 (wfS_le l3 w1)))
                    have l5 := of_decide_eq_true l5
                    split at h
                    · rename_i S6 h6
                      refine ek.ok h4 (wfS_le l3 w1) R3 fun ρ4 H4 R4 F4 => ?_
                      rw [← F4.le R3.len (wfS_le l3 w1)]
                      refine ev.ok h5 (wfS_le l4 (wfS_le l3 w1)) R4 fun ρ5 H5 R5 F5 => ?_
                      have F35 := (F3.trans R3 F4).trans R4 F5
                      have F45 := Fb.trans Ra F35
                      have e6 := EvW.len h6
                      have l6 := Nat.le_trans l3 (Nat.le_trans l4 l5)
                      rw [← e6] at l6
                      have ey : dV K ρ5 y = dV K ρ4 y := F5.val R4.len wy
                      rw [← ey]
                      obtain ⟨a, H6, ea, dp, nx⟩ := EvW.ok (K := K) (t := rSetD) (o := .ref n) (i := y) (v := z) (Q := fun H6 => ∃ ρ Sd, Fr (ρ1 ++ [Dl]) H0 ρ H6 ∧ Rep K ρ Sd H6 ∧ n < Sd.length ∧ wfS Sd.length σ0 = true ∧ dcD K ek.run ev.run ec.run eg.run it n σ0 vs k (i + 1) Sd = some r ∧ Post K E ρ H6 Q r) h6 wz R5 fun H6 R6 F6 =>
                        ⟨ρ5, S6, F45.trans R5 F6, R6, by omega, wfS_le l6 w, h, Post.of p R6 (F35.trans R5 F6)⟩
                      have ed : a = Dl := by
                        have q : V.ref (ρ5.getD n 0) = .ref a := ea
                        cases q
                        exact atD F45
                      rw [ed] at dp
                      exact ⟨H6, dp, nx⟩
                    · cases h
                  · rename_i C d S5 h5
                    cases h
                    refine ek.ok h4 (wfS_le l3 w1) R3 fun ρ4 H4 R4 F4 => ?_
                    rw [← F4.le R3.len (wfS_le l3 w1)]
                    exact ev.ok h5 (wfS_le l4 (wfS_le l3 w1)) R4 (PostX.of p R4 (F3.trans R3 F4))
                  · cases h
                · rename_i C d S4 h4
                  cases h
                  exact ek.ok h4 (wfS_le l3 w1) R3 (PostX.of p R3 F3)
                · cases h
              · rename_i S3 h3
                have l3 := of_decide_eq_true (ba (ec.good h3 w1)).1
                refine ec.ok h3 w1 Ra fun ρ3 H3 R3 F3 => ?_
                exact ⟨ρ3, S3, Fb.trans Ra F3, R3, by omega, wfS_le l3 w, h, Post.of p R3 F3⟩
              · rename_i C d S3 h3
                cases h
                exact ec.ok h3 w1 Ra p
              · cases h
          · cases h
      · cases h
def newDD (b : Bool) : DO := if b = true then .dT [] else .dK []
theorem newDD_ok {b : Bool} {ρ : List Addr} {n : Nat} : dO K ρ (newDD b) = newD b ∧ wfO n (newDD b) = true ∧ plainO (newDD b) = true := by
  cases b <;> exact ⟨rfl, rfl, rfl⟩
instance (b : Bool) (wi : TI) (vs : List Nat) [ei : EvI K E wi] : EvE K E (tDcB b wi g tt tk tv vs) where
  run := fun σ S => match ei.run σ S with
    | some (.inl (it, S1)) => dcD K ek.run ev.run ec.run eg.run it S1.length (wipeD σ vs) vs 4096 0 (S1 ++ [newDD b])
    | some (.inr (.exc C d S1)) => if S.length ≤ S1.length then some (.exc C d S1) else none
    | _ => none
  good := fun {σ S r} h w => by
    split at h
    · rename_i it S1 h1
      have l := ei.good h1 w
      have z := dc_good h (by simp) (wfS_le (by simp; omega) (wipe_wf w))
      exact good_le (by simp; omega) z
    · split at h
      · rename_i l
        cases h
        exact decide_eq_true l
      · cases h
    · cases h
  ok := fun {σ S r ρ H Q} h w R p => by
    split at h
    · rename_i it S1 h1
      have l := ei.good h1 w
      refine ei.ok h1 w R fun ρ1 H1 J R1 F1 okJ => fun Dl hD => ?_
      obtain ⟨q1, q2, q3⟩ := newDD_ok (K := K) (b := b) (ρ := ρ1) (n := S1.length)
      obtain ⟨R2, F2⟩ := R1.new (o := newDD b) hD q2 q3
      rw [q1] at R2 F2
      have w1 := wfS_le l w
      have w0 : wfS (S1 ++ [newDD b]).length (wipeD σ vs) = true := wfS_le (by simp; omega) (wipe_wf w)
      have wρ : wfS ρ1.length (wipeD σ vs) = true := by rw [R1.len]; exact wipe_wf w1
      refine dc_ok okJ R1 (fun m => ?_) h (by simp) w0 R2 F2 R1.len.symm (Post.of p R2 (F1.trans R1 F2))
      rw [dSt_app wρ, wipe_eq, F1.le R.len w]
    · rename_i C d S1 h1
      split at h
      · cases h
        exact ei.ok h1 w R p
      · cases h
    · cases h
end
/-! ### written dicts -/
class EvP (K : PySem.W.Frag) (E : XK) (trs : List (TE × TE)) where
  run : List (Option DV) → List DO → Option (List (DV × DV) × List DO)
  good : ∀ {σ S ps S1}, run σ S = some (ps, S1) → wfS S.length σ = true → S.length ≤ S1.length ∧ (ps.all fun p => wf S1.length p.1 && wf S1.length p.2) = true
  ok : ∀ {σ S ps S1 ρ H Q}, run σ S = some (ps, S1) → wfS S.length σ = true → Rep K ρ S H → (∀ ρ' H', Rep K ρ' S1 H' → Fr ρ H ρ' H' → Q (ps.map fun p => (dV K ρ' p.1, dV K ρ' p.2)) H') → tPairs trs (dSt K ρ σ) H Q
instance : EvP K E [] where
  run := fun σ S => some ([], S)
  good := fun {σ S ps S1} h w => by
    cases h
    exact ⟨Nat.le_refl _, rfl⟩
  ok := fun {σ S ps S1 ρ H Q} h w R q => by
    cases h
    exact q ρ H R (Fr.refl _ _)
instance (tk tv : TE) (r : List (TE × TE)) [a : EvE K E tk] [b : EvE K E tv] [c : EvP K E r] : EvP K E ((tk, tv) :: r) where
  run := fun σ S => match a.run σ S with
    | some (.ret x S1) => (match b.run σ S1 with
      | some (.ret y S2) => (match c.run σ S2 with
        | some (ps, S3) => if (wf S3.length x && wf S3.length y) = true then some ((x, y) :: ps, S3) else none
        | none => none)
      | _ => none)
    | _ => none
  good := fun {σ S ps S1} h w => by
    split at h
    · rename_i x S1 h1
      have l1 := of_decide_eq_true (ba (a.good h1 w)).1
      split at h
      · rename_i y S2 h2
        have l2 := of_decide_eq_true (ba (b.good h2 (wfS_le l1 w))).1
        split at h
        · rename_i ps S3 h3
          obtain ⟨l3, w3⟩ := c.good h3 (wfS_le l2 (wfS_le l1 w))
          split at h
          · rename_i k
            cases h
            refine ⟨Nat.le_trans l1 (Nat.le_trans l2 l3), ?_⟩
            show ((_ && _) && _) = true
            rw [w3, k]
            rfl
          · cases h
        · cases h
      · cases h
    · cases h
  ok := fun {σ S ps S1 ρ H Q} h w R q => by
    split at h
    · rename_i x S1 h1
      obtain ⟨l1, wx⟩ := ba (a.good h1 w)
      have l1 := of_decide_eq_true l1
      split at h
      · rename_i y S2 h2
        obtain ⟨l2, wy⟩ := ba (b.good h2 (wfS_le l1 w))
        have l2 := of_decide_eq_true l2
        split at h
        · rename_i ps S3 h3
          split at h
          · cases h
            refine a.ok h1 w R fun ρ1 H1 R1 F1 => ?_
            rw [← F1.le R.len w]
            refine b.ok h2 (wfS_le l1 w) R1 fun ρ2 H2 R2 F2 => ?_
            rw [← F2.le R1.len (wfS_le l1 w)]
            refine c.ok h3 (wfS_le l2 (wfS_le l1 w)) R2 fun ρ3 H3 R3 F3 => ?_
            have z := q ρ3 H3 R3 ((F1.trans R1 F2).trans R2 F3)
            have ex : dV K ρ3 x = dV K ρ1 x := (F3.val R2.len (wf_le l2 wx)).trans (F2.val R1.len wx)
            have ey : dV K ρ3 y = dV K ρ2 y := F3.val R2.len wy
            rw [List.map_cons, ex, ey] at z
            exact z
          · cases h
        · cases h
      · cases h
    · cases h
def keyPs : List (DV × DV) → Option (List (Key × DV))
  | [] => some []
  | (k, v) :: r => match keyD k, keyPs r with
    | some k, some r => some ((k, v) :: r)
    | _, _ => none
theorem keyPs_ok {ρ : List Addr} : ∀ {ps : List (DV × DV)} {kvs : List (Key × DV)}, keyPs ps = some kvs → (ps.map fun p => (dV K ρ p.1, dV K ρ p.2)) = (kvs.map fun p => (p.1, dV K ρ p.2)).map fun kv => (kV kv.1, kv.2)
  | [], _, h => by cases h; rfl
  | (k, v) :: r, _, h => by
    unfold keyPs at h
    split at h
    · rename_i k' r' h1 h2
      cases h
      rw [List.map_cons, List.map_cons, List.map_cons, keyPs_ok h2, keyD_ok h1]
    · cases h
def mergeD (kvs more : List (Key × DV)) : List (Key × DV) := more.foldl (fun acc kv => putD acc kv.1 kv.2) kvs
theorem mergeD_eq {ρ : List Addr} : ∀ {more kvs : List (Key × DV)}, (mergeD kvs more).map (fun p => (p.1, dV K ρ p.2)) = mergeK (kvs.map fun p => (p.1, dV K ρ p.2)) (more.map fun p => (p.1, dV K ρ p.2))
  | [], _ => rfl
  | (k, v) :: r, kvs => by
    show (mergeD (putD kvs k v) r).map _ = mergeK (putK _ k (dV K ρ v)) _
    rw [mergeD_eq, putD_eq]
instance (trs : List (TE × TE)) [e : EvP K E trs] : EvE K E (tDisp trs) where
  run := fun σ S => match e.run σ (S ++ [.dK []]) with
    | some (ps, S1) => (match S1[S.length]?, keyPs ps with
      | some (.dK []), some kvs => if kvs.length ≤ 15 ∧ wfO S1.length (.dK (mergeD [] kvs)) = true then some (.ret (.ref S.length) (S1.set S.length (.dK (mergeD [] kvs)))) else none
      | _, _ => none)
    | none => none
  good := fun {σ S r} h w => by
    split at h
    · rename_i ps S1 h1
      have l := (e.good h1 (wfS_le (by simp) w)).1
      rw [List.length_append, List.length_singleton] at l
      split at h
      · split at h
        · cases h
          show (decide _ && decide _) = true
          rw [List.length_set]
          simp
          omega
        · cases h
      · cases h
    · cases h
  ok := fun {σ S r ρ H Q} h w R q => by
    split at h
    · rename_i ps S1 h1
      split at h
      · rename_i kvs e1 e2
        split at h
        · rename_i c
          cases h
          intro p hp
          obtain ⟨R0, F0⟩ := R.new (o := .dK []) hp rfl
          have eσ : dSt K (ρ ++ [p]) σ = dSt K ρ σ := F0.le R.len w
          rw [← eσ]
          refine e.ok h1 (wfS_le (by simp) w) R0 fun ρ1 H1 R1 F1 => ?_
          have ep : ρ1.getD S.length 0 = p := by
            rw [F1.at (by rw [List.length_append, R.len]; simp), ← R.len]
            simp [List.getD_eq_getElem?_getD]
          have g := (R1.get e1).1
          rw [ep] at g
          obtain ⟨R2, F2⟩ := R1.set e1 c.2
          rw [ep] at R2 F2
          refine ⟨g, _, keyPs_ok e2, by rw [List.length_map]; exact c.1, ?_⟩
          have z := q _ _ R2 ((F0.trans R0 F1).trans R1 F2)
          have ev : dV K ρ1 (.ref S.length) = .ref p := by show V.ref _ = _; rw [ep]
          have em : dO K ρ1 (.dK (mergeD [] kvs)) = .dK (mergeK [] (kvs.map fun p => (p.1, dV K ρ1 p.2))) := congrArg HO.dK mergeD_eq
          rw [ev, em] at z
          exact z
        · cases h
      · cases h
    · cases h
/-! ### sep.join -/
def rJoinO (K : PySem.W.Frag) : V → List V → Hp → VK → Prop := fun x xs H Q => ∃ a p, ∃ ys : List Str, x = .str a ∧ xs = [.ref p] ∧ (SqL K H p (ys.map V.str) ∨ SqT K H p (ys.map V.str)) ∧ (ys.map (·.length)).sum + ys.length * a.length ≤ 16777216 ∧ Q (.str (Txt.join a ys)) H
theorem pe_joinO {X : Cx} {o e : Expr} {to te : TE} {apos pos : Pos} (ho : PE X o to) (he : PE X e te) (hs : starEach [e] X.env = [(false, eval e X.env)] := by rfl) (hbase : attributeBase o "join" X.env (eval o X.env) = eval o X.env := by rfl) (hline : (apos.endLine == pos.line) = true := by rfl) :
    PE X (.Call (.Attribute o "join" apos) [e] [] pos) (tM1 (rJoinO X.K) to te) := pe_join ho he hs hbase hline
instance (to te : TE) [a : EvE K E to] [b : EvE K E te] : EvE K E (tM1 (rJoinO K) to te) where
  run := fun σ S => bindE (a.run σ S) fun x S1 => match x with
    | .str sep => bindE (b.run σ S1) fun y S2 => (match (itemsD S2 y).bind strsD with
      | some ys => if (ys.map (·.length)).sum + ys.length * sep.length ≤ 100000 then retS (.str (Txt.join sep ys)) S2 else none
      | none => none)
    | _ => none
  good := fun {σ S r} h w => bind_good (te := to) h w fun {x S1 r} l wx h => by
    split at h
    · exact bind_good (te := te) h (wfS_le l w) fun {y S2 r} l2 wy h => by
        split at h
        · split at h
          · exact ret_good h rfl
          · cases h
        · cases h
    · cases h
  ok := fun {σ S r ρ H Q} h w R p => bind_ok (te := to) h w R p fun {x S1 ρ1 H1} l wx h R1 F1 eσ p => by
    split at h
    · rename_i sep
      refine ⟨⟨sep, rfl⟩, ?_⟩
      rw [← eσ]
      refine bind_ok (te := te) h (wfS_le l w) R1 p fun {y S2 ρ2 H2} l2 wy h R2 F2 eσ2 p => ?_
      split at h
      · rename_i ys hy
        split at h
        · rename_i c
          obtain ⟨xs, h1, h2⟩ := Option.bind_eq_some_iff.mp hy
          obtain ⟨a, e, hs⟩ := itemsD_ok R2 h1
          rw [strsD_eq h2] at hs
          exact ⟨sep, a, ys, rfl, by rw [e], hs, Nat.le_trans c (by decide), ret_post (E := E) h R2 p⟩
        · cases h
      · cases h
    · cases h
/-! ### x in a tuple or a list of data -/
def rInDT (K : PySem.W.Frag) : R2 := fun x y H Q => ∃ d ds, Dp K H x d ∧ Dp K H y (.tuple ds) ∧ SeqAt.shaped d = true ∧ SeqAt.shaped (.tuple ds) = true ∧ Q (.bl (ds.any fun z => PyData.eqv z d)) H
theorem op_inDT {X : Cx} (hu : X.A.units + 65 < cLine) : OpR X (compareOp .In) (rInDT X.K) := by
  intro pins s σ H x y v u Q I rx ry h
  obtain ⟨d, ds, hd, he, sd, se, q⟩ := h
  obtain ⟨as, r1⟩ := Dp.reads I d x v hd rx
  obtain ⟨bs, r2⟩ := Dp.reads I (.tuple ds) y u he ry
  exact SeqAt.in_tuple_reads r2 r1 (SeqAt.canLay_of_shaped se) (SeqAt.canLay_of_shaped sd) (room_in_shaped sd hu) ⟨.bl _, H, I, rfl, q⟩
instance : EvR K (rInDT K) where
  run := fun S x y => match datD S 64 x, datD S 64 y with
    | some d, some (.tuple ds) => if SeqAt.shaped d = true ∧ SeqAt.shaped (.tuple ds) = true then retS (.bl (ds.any fun z => PyData.eqv z d)) S else none
    | _, _ => none
  good := fun {S x y q} h wx wy => by
    split at h
    · split at h
      · exact ret_good h rfl
      · cases h
    · cases h
  ok := fun {S x y q ρ H Q E} h wx wy R p => by
    split at h
    · rename_i d ds h1 h2
      split at h
      · rename_i c
        exact ⟨d, ds, datD_ok R h1, datD_ok R h2, c.1, c.2, ret_post (E := E) h R p⟩
      · cases h
    · cases h
end RunX
set_option maxHeartbeats 4000000
/-! x == () and d == {} whatever x and d hold. -/
namespace RunX
open PySem PySem.Spec PyProof.Rows L2 He PO
/-- t == () -/
def rEqE (K : PySem.W.Frag) : R2 := fun x y H Q => ∃ p q xs, x = .ref p ∧ y = .ref q ∧ SqT K H p xs ∧ SqT K H q [] ∧ Q (.bl (decide (xs.length = 0))) H
theorem op_eqE {X : Cx} (hu : X.A.units < cLine) : OpR X (compareOp .Eq) (rEqE X.K) := by
  intro pins s σ H x y v u Q I rx ry h
  obtain ⟨p, q, xs, rfl, rfl, hp, hq, go⟩ := h
  obtain rfl : v = Value.ref p := rx
  obtain rfl : u = Value.ref q := ry
  obtain ⟨its, rv, t1, _⟩ := I.tuple hp
  obtain ⟨its2, rv2, t2, _⟩ := I.tuple hq
  cases rv2
  refine SeqAt.RcAt.tuples (e := fun _ => true) t1 t2 hu (fun j h1 h2 => absurd h2 (by simp)) X.prog X.w _ _ ?_
  refine fin_bl I go ?_
  have l := rv.length
  cases its with
  | nil => simp at l; simp [l]
  | cons a r => simp at l; simp [l]
/-- d == {} -/
def rEqDE : R2 := fun x y H Q => ∃ a b ks, x = .ref a ∧ y = .ref b ∧ H a = some (.dK ks) ∧ H b = some (.dK []) ∧ Q (.bl (decide (ks.length = 0))) H
theorem op_eqDE {X : Cx} (hu : X.A.units < cLine) : OpR X (compareOp .Eq) rEqDE := by
  intro pins s σ H x y v u Q I rx ry h
  obtain ⟨a, b, ks, rfl, rfl, ea, eb, go⟩ := h
  obtain rfl : v = Value.ref a := rx
  obtain rfl : u = Value.ref b := ry
  obtain ⟨_, ya, va, ra, da⟩ := (show ObjOk X.prog X.w H s.heap a (.dK ks) from I.hok a _ ea)
  obtain ⟨_, yb, vb, rb, db⟩ := (show ObjOk X.prog X.w H s.heap b (.dK []) from I.hok b _ eb)
  cases rb
  have l := ra.length
  refine PySem.W.keq_eq (knd := mixKind X.prog X.w) (r := true) ya yb da db hu (fun e => ?_) (fin_bl I go (by cases ks <;> simp [← l]))
  cases va with
  | nil => exact .nil
  | cons p r => simp at e
variable {K : PySem.W.Frag} {E : XK}
def tupLenD (S : List DO) : DV → Option Nat
  | .ref n => (match S[n]? with
    | some (.tup xs) => some xs.length
    | _ => none)
  | _ => none
theorem tupLenD_ok {ρ : List Addr} {S : List DO} {H : Hp} {x : DV} {n : Nat} (R : Rep K ρ S H) (h : tupLenD S x = some n) : ∃ p xs, dV K ρ x = .ref p ∧ SqT K H p xs ∧ xs.length = n := by
  unfold tupLenD at h
  split at h
  · split at h
    · rename_i e
      cases h
      exact ⟨_, _, rfl, SqT.of (R.get e).1, List.length_map _⟩
    · cases h
  · cases h
instance : EvR K (rEqE K) where
  run := fun S x y => match tupLenD S x, tupLenD S y with
    | some n, some 0 => retS (.bl (decide (n = 0))) S
    | _, _ => none
  good := fun {S x y q} h wx wy => by
    split at h
    · exact ret_good h rfl
    · cases h
  ok := fun {S x y q ρ H Q E} h wx wy R p => by
    split at h
    · rename_i n h1 h2
      obtain ⟨a, xs, e1, t1, l1⟩ := tupLenD_ok R h1
      obtain ⟨b, ys, e2, t2, l2⟩ := tupLenD_ok R h2
      have ey : ys = [] := List.length_eq_zero_iff.mp l2
      subst ey
      exact ⟨a, b, xs, e1, e2, t1, t2, by rw [l1]; exact ret_post (E := E) h R p⟩
    · cases h
instance : EvR K rEqDE where
  run := fun S x y => match x, y with
    | .ref n, .ref m => (match S[n]?, S[m]? with
      | some (.dK ks), some (.dK []) => retS (.bl (decide (ks.length = 0))) S
      | _, _ => none)
    | _, _ => none
  good := fun {S x y q} h wx wy => by
    split at h
    · split at h
      · exact ret_good h rfl
      · cases h
    · cases h
  ok := fun {S x y q ρ H Q E} h wx wy R p => by
    split at h
    · split at h
      · rename_i ks e1 e2
        refine ⟨_, _, _, rfl, rfl, (R.get e1).1, (R.get e2).1, ?_⟩
        rw [List.length_map]
        exact ret_post (E := E) h R p
      · cases h
    · cases h
end RunX
set_option maxHeartbeats 4000000
/-! zip of two sources, each a list, a tuple or a text of signs below 128. -/
namespace ZG
open PySem PySem.Spec PyProof.Rows L2 RZ
inductive Src where
  | lst (a : Addr)
  | tup (a : Addr)
  | txt (x : Str)
def Src.val : Src → V
  | .lst a => .ref a
  | .tup a => .ref a
  | .txt x => .str x
/-- how many items -/
def Src.len (K : PySem.W.Frag) (H : Hp) : Src → Nat → Prop
  | .lst a, n => ∃ xs, SqL K H a xs ∧ xs.length = n
  | .tup a, n => ∃ xs, SqT K H a xs ∧ xs.length = n
  | .txt x, n => x.cps.all (· < 128) = true ∧ x.cps.size = n
/-- the i-th item -/
def Src.nth (K : PySem.W.Frag) (H : Hp) : Src → Nat → V → Prop
  | .lst a, i, v => ∀ xs, SqL K H a xs → xs[i]? = some v
  | .tup a, i, v => ∀ xs, SqT K H a xs → xs[i]? = some v
  | .txt x, i, v => ∃ c, x.cps[i]? = some c ∧ v = .str ⟨#[c]⟩
def Src.on (it : Addr) (i : Nat) (h : Heap) : Src → Prop
  | .lst a => h.IsListIter it a i
  | .tup a => h.IsTupleIter it a i
  | .txt x => ∃ t, h.IsStrIter it "str_ascii_iterator" x t i
def Src.fp (it : Addr) : Src → List Addr
  | .lst a => [it, a]
  | .tup a => [it, a]
  | .txt _ => [it]
theorem draws_tup {prog : Program} {w : World} {A : Around} (hh : A.handled = none) (it l : Addr) (hne : l ≠ it) (items : Array Value) :
    Draws prog w A it [it, l] items.size (fun i v => items[i]? = some v) (fun i h => h.IsTupleIter it l i ∧ h.IsTuple l items) where
  live := fun _ _ st => let ⟨o, ho, _⟩ := st.1; ⟨o, ho⟩
  frame := fun _ _ _ st hk => ⟨st.1.at fun o e => hk it (by simp) o e, let ⟨o, ho, r⟩ := st.2; ⟨o, hk l (by simp) o ho, r⟩⟩
  item := fun i s Q E hi st hQ => nextOf_tuple_item st.1 st.2 (x := items[i]) (by simp [hi]) fun h' hit' hs' => hQ _ h' s.toks (by simp [hi]) ⟨hit', let ⟨o, ho, r⟩ := st.2; ⟨o, hs'.extBut _ _ hne ho, r⟩⟩ hs'
  done := fun s Q E st hE => nextOf_tuple_end hh st.1 st.2 (by simp) hE
/-- what it takes to draw from a source -/
theorem draw {X : Cx} {pins : List (Addr × Obj)} {σ : L2.St} {H : Hp} {s : Shared} (I : L2.Inv X pins σ H s) (hh : X.A.in1.handled = none) {S : Src} {it : Addr} {i n : Nat} (on : S.on it i s.heap) (hl : S.len X.K H n) (na : ∀ a, S.fp it = [it, a] → a ≠ it) :
    ∃ (P : Nat → Value → Prop) (St : Nat → Heap → Prop), Draws X.prog X.w X.A.in1 it (S.fp it) n P St ∧ St i s.heap ∧ (∀ u, P i u → ∃ x, S.nth X.K H i x ∧ RelV x u) ∧ ∀ h', St (i + 1) h' → S.on it (i + 1) h' := by
  cases S with
  | lst a =>
    obtain ⟨xs, hs, rfl⟩ := hl
    obtain ⟨its, rv, p, _⟩ := I.list hs
    have D := Draws.list (prog := X.prog) (w := X.w) hh it a (na a rfl) its.toArray
    rw [show its.toArray.size = xs.length by simp [rv.length]] at D
    refine ⟨_, _, D, ⟨on, p.isList⟩, fun u hu => ?_, fun h' st => st.1⟩
    have hi : i < xs.length := by
      have := (Array.getElem?_eq_some_iff.mp hu).1
      simp at this
      rw [rv.length]
      exact this
    obtain ⟨v, hv, r⟩ := rv.get (List.getElem?_eq_getElem hi)
    have e : v = u := by
      rw [List.getElem?_toArray, hv] at hu
      exact Option.some.inj hu
    subst e
    exact ⟨_, fun ys hy => by rw [I.list_inj hy hs]; exact List.getElem?_eq_getElem hi, r⟩
  | tup a =>
    obtain ⟨xs, hs, rfl⟩ := hl
    obtain ⟨its, rv, p, _⟩ := I.tuple hs
    have D := draws_tup (prog := X.prog) (w := X.w) hh it a (na a rfl) its.toArray
    rw [show its.toArray.size = xs.length by simp [rv.length]] at D
    refine ⟨_, _, D, ⟨on, p⟩, fun u hu => ?_, fun h' st => st.1⟩
    have hi : i < xs.length := by
      have := (Array.getElem?_eq_some_iff.mp hu).1
      simp at this
      rw [rv.length]
      exact this
    obtain ⟨v, hv, r⟩ := rv.get (List.getElem?_eq_getElem hi)
    have e : v = u := by
      rw [List.getElem?_toArray, hv] at hu
      exact Option.some.inj hu
    subst e
    exact ⟨_, fun ys hy => by rw [I.tuple_inj hy hs]; exact List.getElem?_eq_getElem hi, r⟩
  | txt x =>
    obtain ⟨ha, rfl⟩ := hl
    obtain ⟨t, on⟩ := on
    exact ⟨_, _, Draws.strAscii (prog := X.prog) (w := X.w) hh it x t, on, fun u ⟨c, k, hc, e⟩ => ⟨.str ⟨#[c]⟩, ⟨c, hc, rfl⟩, k, e⟩, fun h' st => ⟨t, st⟩⟩
/-- the items of both, in new pairs -/
def ItzG (K : PySem.W.Frag) (a b : Src) : It :=
  ⟨fun i H => ∃ n m, a.len K H n ∧ b.len K H m ∧ i < n ∧ i < m,
    fun i H v H' => ∃ T x y, v = .ref T ∧ H T = none ∧ H' = upd H T (.tup [x, y]) ∧ a.nth K H i x ∧ b.nth K H i y,
    fun i H => ∃ n m, a.len K H n ∧ b.len K H m ∧ i ≤ n ∧ i ≤ m ∧ (i = n ∨ i = m)⟩
theorem fp_obj {S : Src} {it : Addr} {i : Nat} {h : Heap} (on : S.on it i h) : ∃ o, h.get? it = some o ∧ ∀ v, o.data ≠ .cell v := by
  cases S with
  | lst a => obtain ⟨o, e, _, d⟩ := on; exact ⟨o, e, fun v q => by rw [d] at q; cases q⟩
  | tup a => obtain ⟨o, e, _, d⟩ := on; exact ⟨o, e, fun v q => by rw [d] at q; cases q⟩
  | txt x => obtain ⟨t, o, e, _, d⟩ := on; exact ⟨o, e, fun v q => by rw [d] at q; cases q⟩
theorem on_keep {S : Src} {it : Addr} {i : Nat} {h h' : Heap} (on : S.on it i h) (k : ∀ o, h.get? it = some o → h'.get? it = some o) : S.on it i h' := by
  cases S with
  | lst a => obtain ⟨o, e, r⟩ := on; exact ⟨o, k o e, r⟩
  | tup a => obtain ⟨o, e, r⟩ := on; exact ⟨o, k o e, r⟩
  | txt x => obtain ⟨t, o, e, r⟩ := on; exact ⟨t, o, k o e, r⟩
theorem turn_zipG {P : Program} {w : World} {K : PySem.W.Frag} {elts : List Expr} {kk : Nat} {tpos : Pos} {a b : Src} {z TI TO i1 i2 : Addr} (S : ZipSep2 z TI TO i1 i2 (a.fp i1) (b.fp i2)) (na : ∀ c, a.fp i1 = [i1, c] → c ≠ i1) (nb : ∀ c, b.fp i2 = [i2, c] → c ≠ i2) :
    Turn P w K (.Tuple elts kk tpos) (ItzG K a b) [z, TI, TO, i1, i2] z (fun i h => IsZip h z TI TO .none ∧ IsTupOf2 h TI (.ref i1) (.ref i2) ∧ (∃ x y, IsTupOf2 h TO x y) ∧ a.on i1 i h ∧ b.on i2 i h) where
  mem := by simp
  obj := fun i h st c hc => by
    obtain ⟨hz, hTI, ⟨x, y, hTO⟩, h1, h2⟩ := st
    have e' : c = z ∨ c = TI ∨ c = TO ∨ c = i1 ∨ c = i2 := by simpa using hc
    rcases e' with rfl | rfl | rfl | rfl | rfl
    · exact ⟨_, hz, fun v q => nomatch q⟩
    · exact ⟨_, hTI, fun v q => nomatch q⟩
    · exact ⟨_, hTO, fun v q => nomatch q⟩
    · exact fp_obj h1
    · exact fp_obj h2
  keep := fun i h h' st k => by
    obtain ⟨hz, hTI, ⟨x, y, hTO⟩, h1, h2⟩ := st
    exact ⟨k z (by simp) _ hz, k TI (by simp) _ hTI, ⟨x, y, k TO (by simp) _ hTO⟩, on_keep h1 (k i1 (by simp)), on_keep h2 (k i2 (by simp))⟩
  item := by
    intro X hP hw hK hc i pins s σ H E I hf st hg
    subst hP hw hK
    obtain ⟨hz, hTI, ⟨x0, y0, hTO⟩, h1, h2⟩ := st
    obtain ⟨n, m, ln, lm, hn, hm⟩ := hg
    obtain ⟨P1, St1, D1, s1, v1, k1⟩ := draw I (show X.A.in1.handled = none from I.ok.hd hc) h1 ln na
    obtain ⟨P2, St2, D2, s2, v2, k2⟩ := draw I (show X.A.in1.handled = none from I.ok.hd hc) h2 lm nb
    have lo : ∀ c ∈ [z, TI, TO, i1, i2], c < s.heap.objs.size := fun c hcm => by
      have e' : c = z ∨ c = TI ∨ c = TO ∨ c = i1 ∨ c = i2 := by simpa using hcm
      rcases e' with rfl | rfl | rfl | rfl | rfl
      · exact Heap.lt_size hz
      · exact Heap.lt_size hTI
      · exact Heap.lt_size hTO
      · obtain ⟨_, e1, _⟩ := fp_obj h1; exact Heap.lt_size e1
      · obtain ⟨_, e2, _⟩ := fp_obj h2; exact Heap.lt_size e2
    refine wpAny_pyNext_zipD2_item S D1 D2 hz hTI hTO s1 s2 hn hm fun u u2 h' tk p1 p2 z' TO' t1 t2 hT hsz hk => ?_
    refine ⟨_, rfl, wpAny_letOwnedTupleGo_zip (s := { s with heap := h', toks := tk }) z' fun h'' z'' sb => ?_⟩
    obtain ⟨x, nx, ru⟩ := v1 u p1
    obtain ⟨y, ny, ru2⟩ := v2 u2 p2
    have hzl := lo z (by simp)
    have hT2 : h''.get? s.heap.objs.size = some { cls := .type "tuple", data := .seq #[u, u2] } := (sb.2 _ (Nat.ne_of_gt hzl)).trans hT
    have new : ObjOk X.prog X.w (upd H s.heap.objs.size (.tup [x, y])) h'' s.heap.objs.size (.tup [x, y]) :=
      ⟨by show 2 ≤ sizeLine; decide, [u, u2], .cons ru (.cons ru2 .nil), ⟨_, hT2, rfl, _, rfl⟩⟩
    have I1 : L2.Inv X pins σ (upd H s.heap.objs.size (.tup [x, y])) { s with heap := h'', toks := tk } :=
      I.turnedNew (t' := tk) (ch := [z, TI, TO, i1, i2]) (fun c o hb q => by
        have nb' : c ≠ z ∧ c ≠ TO ∧ c ≠ i1 ∧ c ≠ i2 := ⟨fun e => hb (by simp [e]), fun e => hb (by simp [e]), fun e => hb (by simp [e]), fun e => hb (by simp [e])⟩
        exact (sb.2 c nb'.1).trans (hk c o nb'.1 nb'.2.1 nb'.2.2.1 nb'.2.2.2 q)) hf (Nat.le_refl _) new
    refine ⟨.ref s.heap.objs.size, _, I1, rfl, ⟨_, x, y, rfl, I.hok.fresh (Nat.le_refl _), rfl, nx, ny⟩, ⟨z'', (sb.2 _ S.TIz).trans (hk _ _ S.TIz S.TITO S.TIi1 S.TIi2 hTI), ⟨u, u2, (sb.2 _ S.TOz).trans TO'⟩, ?_, ?_⟩, fun c hcm => ?_⟩
    · exact on_keep (k1 h' t1) fun o q => (sb.2 _ S.zi1.symm).trans q
    · exact on_keep (k2 h' t2) fun o q => (sb.2 _ S.zi2.symm).trans q
    · rw [upd_ne (Nat.ne_of_lt (lo c hcm))]
      exact (hf c hcm).1
  done := by
    intro X hP hw hK hc i pins s σ H E I hf st hg
    subst hP hw hK
    obtain ⟨hz, hTI, ⟨x0, y0, hTO⟩, h1, h2⟩ := st
    obtain ⟨n, m, ln, lm, hn, hm, he⟩ := hg
    obtain ⟨P1, St1, D1, s1, _, _⟩ := draw I (show X.A.in1.handled = none from I.ok.hd hc) h1 ln na
    obtain ⟨P2, St2, D2, s2, _, _⟩ := draw I (show X.A.in1.handled = none from I.ok.hd hc) h2 lm nb
    exact wpAny_pyNext_zipD2_end S D1 D2 hz hTI hTO s1 s2 hn hm he fun h' tk hk => ⟨rfl, I.turnedL (t' := tk) (ch := [z, TI, TO, i1, i2]) (fun c o hb q =>
      hk c o (fun e => hb (by simp [e])) (fun e => hb (by simp [e])) (fun e => hb (by simp [e])) (fun e => hb (by simp [e])) q) hf⟩
  self := fun A i s Q E st h => wpAny_pyIter_zip st.1 h
/-- iter(source) -/
def Src.mk (S : Src) (t : Tok) : Obj := match S with
  | .lst a => { cls := .type "list_iterator", data := .fields #[.ref a, .int 0 0] }
  | .tup a => { cls := .type "tuple_iterator", data := .fields #[.ref a, .int 0 0] }
  | .txt x => { cls := .type "str_ascii_iterator", data := .fields #[.str x t, .int 0 0] }
def Src.raw (S : Src) (t : Tok) : Value := match S with
  | .lst a => .ref a
  | .tup a => .ref a
  | .txt x => .str x t
def Src.here (S : Src) (h : Heap) : Prop := match S with
  | .lst a => ∃ xs, h.IsList a xs
  | .tup a => ∃ xs, h.IsTuple a xs
  | .txt x => x.cps.all (· < 128) = true
theorem iter_src {prog : Program} {w : World} {A : Around} {E : Value → Shared → Prop} {s : Shared} {S : Src} {t : Tok} {Q : Value → Shared → Prop} (h : S.here s.heap) (hQ : Q (.ref s.heap.objs.size) { s with heap := s.heap.push (S.mk t) }) : wpAny (model prog w) A (pyIter (S.raw t)) Q E s := by
  cases S with
  | lst a => obtain ⟨xs, h⟩ := h; exact wpAny_pyIter_list h hQ
  | tup a => obtain ⟨xs, h⟩ := h; exact wpAny_pyIter_tuple h hQ
  | txt x => exact wpAny_pyIter_ascii h hQ
theorem here_push {S : Src} {h : Heap} (k : S.here h) (o : Obj) : S.here (h.push o) := by
  cases S with
  | lst a => obtain ⟨xs, k⟩ := k; exact ⟨xs, k.push _⟩
  | tup a => obtain ⟨xs, k⟩ := k; exact ⟨xs, Heap.IsTuple.push k _⟩
  | txt x => exact k
abbrev z1 (h : Heap) (a : Src) (t : Tok) : Heap := h.push (a.mk t)
abbrev z2 (h : Heap) (a b : Src) (t u : Tok) : Heap := (z1 h a t).push (b.mk u)
abbrev z3 (h : Heap) (a b : Src) (t u : Tok) : Heap := (z2 h a b t u).push { cls := .type "tuple", data := .seq #[.ref h.objs.size, .ref (z1 h a t).objs.size] }
abbrev z4 (h : Heap) (a b : Src) (t u : Tok) : Heap := (z3 h a b t u).push { cls := .type "tuple", data := .seq #[.none, .none] }
abbrev z5 (h : Heap) (a b : Src) (t u : Tok) : Heap := (z4 h a b t u).push { cls := .type "zip", data := .fields #[.none, .bool false, .bool false, .ref (z2 h a b t u).objs.size, .ref (z3 h a b t u).objs.size] }
theorem meets_zipG (a b : Src) (t u : Tok) : Meets (Builtin.«zip.__new__» ⟨[.type "zip", a.raw t, b.raw u], []⟩) (fun _ R s => a.here s.heap ∧ b.here s.heap ∧ R (.ok (.ret (.ref (z4 s.heap a b t u).objs.size))) { s with heap := z5 s.heap a b t u }) :=
  .of_wp fun prog w A R s h => by
    obtain ⟨hp, g, d, tk, os⟩ := s
    obtain ⟨ha, hb, h⟩ := h
    have hsub := sub_zip
    have hA : a.here (Shared.heap ⟨hp, g, d, tk, os⟩) := ha
    have hB : b.here (Shared.heap ⟨hp.push (a.mk t), g, d, tk, os⟩) := here_push hb _
    wp_walk using iter_src (t := t) hA, iter_src (t := u) hB
    exact ⟨_, rfl, h⟩
theorem mk_free {S : Src} {t : Tok} : (S.mk t).isFreed = false := by
  cases S <;> rfl
theorem mk_on {S : Src} {t : Tok} {it : Addr} {h : Heap} (e : h.get? it = some (S.mk t)) : S.on it 0 h := by
  cases S with
  | lst a => exact ⟨_, e, rfl, rfl⟩
  | tup a => exact ⟨_, e, rfl, rfl⟩
  | txt x => exact ⟨t, _, e, rfl, rfl⟩
section
variable {prog : Program} {w : World} {A : Around} {E : Value → Shared → Prop} {s : Shared}
theorem call_zipG {a b : Src} {t u : Tok} {Q : Value → Shared → Prop} (ha : a.here s.heap) (hb : b.here s.heap)
    (h : ∀ h', IsZip h' (s.heap.objs.size + 4) (s.heap.objs.size + 2) (s.heap.objs.size + 3) .none → IsTupOf2 h' (s.heap.objs.size + 2) (.ref s.heap.objs.size) (.ref (s.heap.objs.size + 1)) →
      IsTupOf2 h' (s.heap.objs.size + 3) .none .none → a.on s.heap.objs.size 0 h' → b.on (s.heap.objs.size + 1) 0 h' → (∀ c o, s.heap.get? c = some o → h'.get? c = some o) → Q (.ref (s.heap.objs.size + 4)) { s with heap := h' }) :
    wpAny (model prog w) A (call (.type "zip") [a.raw t, b.raw u]) Q E s := by
  refine callType_new F.called_zip (by decide) (F.typeCall_zip_2 _ _) (F.newCall_zip_2 _ _) (fun obj => F.args_object_init_3 obj _ _) F.entry_zip_new (meets_zipG a b t u) ⟨ha, hb, ?_⟩
  have s1 : (z1 s.heap a t).objs.size = s.heap.objs.size + 1 := Heap.size_push ..
  have s2 : (z2 s.heap a b t u).objs.size = s.heap.objs.size + 2 := by rw [Heap.size_push, s1]
  have s3 : (z3 s.heap a b t u).objs.size = s.heap.objs.size + 3 := by rw [Heap.size_push, s2]
  have s4 : (z4 s.heap a b t u).objs.size = s.heap.objs.size + 4 := by rw [Heap.size_push, s3]
  have up : ∀ c o, s.heap.get? c = some o → (z5 s.heap a b t u).get? c = some o := fun c o e => Heap.get?_push_of_some _ (Heap.get?_push_of_some _ (Heap.get?_push_of_some _ (Heap.get?_push_of_some _ (Heap.get?_push_of_some _ e))))
  have g5 : (z5 s.heap a b t u).get? (z4 s.heap a b t u).objs.size = some _ := Heap.get?_push_size _ rfl
  have g4 : (z5 s.heap a b t u).get? (z3 s.heap a b t u).objs.size = some _ := Heap.get?_push_of_some _ (Heap.get?_push_size _ rfl)
  have g3 : (z5 s.heap a b t u).get? (z2 s.heap a b t u).objs.size = some _ := Heap.get?_push_of_some _ (Heap.get?_push_of_some _ (Heap.get?_push_size _ rfl))
  have g2 : (z5 s.heap a b t u).get? (z1 s.heap a t).objs.size = some _ := Heap.get?_push_of_some _ (Heap.get?_push_of_some _ (Heap.get?_push_of_some _ (Heap.get?_push_size _ mk_free)))
  have g1 : (z5 s.heap a b t u).get? s.heap.objs.size = some _ := Heap.get?_push_of_some _ (Heap.get?_push_of_some _ (Heap.get?_push_of_some _ (Heap.get?_push_of_some _ (Heap.get?_push_size _ mk_free))))
  show _ ∧ _
  rw [s2, s3, s4] at g5
  rw [s3] at g4
  rw [s1, s2] at g3
  rw [s1] at g2
  rw [s4]
  exact ⟨⟨_, g5, rfl⟩, h _ g5 g3 g4 (mk_on g1) (mk_on g2) up⟩
end
/-- for x, y in zip(a, b) -/
def iZipG (K : PySem.W.Frag) (ta : TA) : TI := fun σ H R => ta σ H fun vs H1 => ∃ a b : Src, vs = [a.val, b.val] ∧ (∃ n, a.len K H1 n) ∧ (∃ n, b.len K H1 n) ∧ R (ItzG K a b) H1
theorem src_raw {X : Cx} {pins : List (Addr × Obj)} {σ : L2.St} {H : Hp} {s : Shared} (I : L2.Inv X pins σ H s) {S : Src} {u : Value} (r : RelV S.val u) (l : ∃ n, S.len X.K H n) : ∃ t, u = S.raw t ∧ S.here s.heap ∧ ∀ it c, S.fp it = [it, c] → c < s.heap.objs.size := by
  obtain ⟨n, l⟩ := l
  cases S with
  | lst a =>
    obtain ⟨xs, hs, _⟩ := l
    obtain ⟨its, _, p, _⟩ := I.list hs
    exact ⟨0, r, ⟨_, p.isList⟩, fun it c e => by cases e; exact p.lt⟩
  | tup a =>
    obtain ⟨xs, hs, _⟩ := l
    obtain ⟨its, _, p, _⟩ := I.tuple hs
    obtain ⟨o, ho, _⟩ := id p
    exact ⟨0, r, ⟨its.toArray, p⟩, fun it c e => by cases e; exact Heap.lt_size ho⟩
  | txt x =>
    obtain ⟨t, e⟩ := r
    exact ⟨t, e, l.1, fun it c e => nomatch e⟩
theorem pi_zipG {X : Cx} {e e2 : Expr} {ta : TA} {p pos tpos : Pos} {elts : List Expr} {kk : Nat} (hg : Gl X "zip") (hm : X.mg "zip" = none) (ha : PA X [e, e2] ta)
    (hs : starEach [e, e2] X.env = (false, eval e X.env) :: starEach [e2] X.env := by rfl) (hpl : (backTo pos (starEach [e2] X.env)).any (·.1) = false := by rfl) :
    PI X (.Tuple elts kk tpos) (.Call (.Name "zip" p) [e, e2] [] pos) (iZipG X.K ta) := by
  refine ⟨fun pins s σ H R I h => ?_⟩
  refine Call_ (ld_blt I hg hm PyProof.Rows.boot_zip (PyProof.Rows.callWith_type1 (thn (ha.run pos pins s σ H _ I h) fun us s1 ⟨vs, H1, I1, r1, q1⟩ => ?_) hs hpl))
  obtain ⟨a, b, ex, la, lb, q⟩ := q1
  subst ex
  cases r1 with
  | cons r rr =>
    cases rr with
    | cons r' rr =>
      cases rr
      obtain ⟨t, rfl, ka, lta⟩ := src_raw I1 r la
      obtain ⟨t', rfl, kb, ltb⟩ := src_raw I1 r' lb
      refine call_zipG ka kb fun h' hz hTI hTO h1 h2 hk => wpAny_pyIter_zip hz ?_
      have I2 : L2.Inv X pins σ H1 { s1 with heap := h' } := I1.kept (t' := s1.toks) hk
      have fa : ∀ {S : Src} {it c : Addr}, c ∈ S.fp it → c = it ∨ S.fp it = [it, c] := fun {S it c} hc => by
        cases S with
        | lst a => rcases List.mem_cons.mp hc with q | q; exact .inl q; rw [List.mem_singleton.mp q]; exact .inr rfl
        | tup a => rcases List.mem_cons.mp hc with q | q; exact .inl q; rw [List.mem_singleton.mp q]; exact .inr rfl
        | txt x => exact .inl (List.mem_singleton.mp hc)
      have me : ∀ {S : Src} {it : Addr}, it ∈ S.fp it := fun {S it} => by cases S <;> exact List.mem_cons_self
      have outA : ∀ c, c ∈ a.fp s1.heap.objs.size → c ≤ s1.heap.objs.size := fun c hc => (fa hc).elim (fun q => by rw [q]; exact Nat.le_refl _) fun q => Nat.le_of_lt (lta _ _ q)
      have outB : ∀ c, c ∈ b.fp (s1.heap.objs.size + 1) → c ≤ s1.heap.objs.size + 1 ∧ c ≠ s1.heap.objs.size := fun c hc => (fa hc).elim (fun q => by rw [q]; exact ⟨Nat.le_refl _, Nat.succ_ne_self _⟩) fun q => ⟨Nat.le_succ_of_le (Nat.le_of_lt (ltb _ _ q)), Nat.ne_of_lt (ltb _ _ q)⟩
      have S : ZipSep2 (s1.heap.objs.size + 4) (s1.heap.objs.size + 2) (s1.heap.objs.size + 3) s1.heap.objs.size (s1.heap.objs.size + 1) (a.fp s1.heap.objs.size) (b.fp (s1.heap.objs.size + 1)) := by
        generalize s1.heap.objs.size = n at outA outB
        exact {
          TIz := show (n + 2 : Nat) ≠ n + 4 by omega
          TOz := show (n + 3 : Nat) ≠ n + 4 by omega
          TITO := show (n + 2 : Nat) ≠ n + 3 by omega
          TIi1 := show (n + 2 : Nat) ≠ n by omega
          mem1 := me
          zf1 := fun q => absurd (show (n + 4 : Nat) ≤ n from outA _ q) (by omega)
          Tf1 := fun q => absurd (show (n + 3 : Nat) ≤ n from outA _ q) (by omega)
          TIi2 := show (n + 2 : Nat) ≠ n + 1 by omega
          mem2 := me
          zf2 := fun q => absurd (show (n + 4 : Nat) ≤ n + 1 from (outB _ q).1) (by omega)
          Tf2 := fun q => absurd (show (n + 3 : Nat) ≤ n + 1 from (outB _ q).1) (by omega)
          sep1_2 := fun q => (outB _ q).2 rfl
          sep2_1 := fun q => absurd (show (n + 1 : Nat) ≤ n from outA _ q) (by omega) }
      refine ⟨s1.heap.objs.size + 4, [s1.heap.objs.size + 4, s1.heap.objs.size + 2, s1.heap.objs.size + 3, s1.heap.objs.size, s1.heap.objs.size + 1], _, _, H1, rfl, I2, turn_zipG S (fun c e => Nat.ne_of_lt (lta _ _ e)) (fun c e => Nat.ne_of_lt (Nat.lt_succ_of_lt (ltb _ _ e))), ⟨hz, hTI, ⟨_, _, hTO⟩, h1, h2⟩, fun c hcm => ?_, q⟩
      have e' : c = s1.heap.objs.size + 4 ∨ c = s1.heap.objs.size + 2 ∨ c = s1.heap.objs.size + 3 ∨ c = s1.heap.objs.size ∨ c = s1.heap.objs.size + 1 := by simpa using hcm
      have hle : s1.heap.objs.size ≤ c := by
        rcases e' with z | z | z | z | z
        · rw [z]; exact Nat.le_add_right _ 4
        · rw [z]; exact Nat.le_add_right _ 2
        · rw [z]; exact Nat.le_add_right _ 3
        · rw [z]; exact Nat.le_refl _
        · rw [z]; exact Nat.le_add_right _ 1
      exact I1.fpOk hle (I1.hok.fresh hle)
end ZG
set_option maxHeartbeats 4000000
/-! for x, y in zip(a, b) -/
namespace RunX
open PySem PySem.Spec PyProof.Rows L2 He PO ZG
variable {K : PySem.W.Frag} {E : XK}
def srcV (ρ : List Addr) : SrcD → Src
  | .lst n => .lst (ρ.getD n 0)
  | .tup n => .tup (ρ.getD n 0)
  | .txt z => .txt z
def srcWf (n : Nat) : SrcD → Bool
  | .lst m => decide (m < n)
  | .tup m => decide (m < n)
  | .txt _ => true
theorem srcV_at {ρ ρ' : List Addr} {H H' : Hp} {s : SrcD} (F : Fr ρ H ρ' H') (w : srcWf ρ.length s = true) : srcV ρ' s = srcV ρ s := by
  cases s with
  | lst n => simp only [srcV, F.at (of_decide_eq_true w)]
  | tup n => simp only [srcV, F.at (of_decide_eq_true w)]
  | txt z => rfl
theorem src_len {ρ : List Addr} {S : List DO} {H : Hp} {s : SrcD} {n : Nat} (R : Rep K ρ S H) (h : s.len S = some n) : (srcV ρ s).len K H n := by
  cases s with
  | lst m =>
    have h' : (match S[m]? with
      | some (.lst xs) => some xs.length
      | _ => none) = some n := h
    split at h'
    · rename_i xs e
      cases h'
      exact ⟨_, SqL.of (R.get e).1, List.length_map _⟩
    · cases h'
  | tup m =>
    have h' : (match S[m]? with
      | some (.tup xs) => some xs.length
      | _ => none) = some n := h
    split at h'
    · rename_i xs e
      cases h'
      exact ⟨_, SqT.of (R.get e).1, List.length_map _⟩
    · cases h'
  | txt z =>
    have h' : (if z.cps.all (· < 128) = true then some z.cps.size else none) = some n := h
    split at h'
    · rename_i c
      cases h'
      exact ⟨c, rfl⟩
    · cases h'
theorem src_nth {ρ : List Addr} {S : List DO} {H : Hp} {s : SrcD} {i : Nat} {x : DV} {v : V} (R : Rep K ρ S H) (h : s.at i S = some (some x)) (y : (srcV ρ s).nth K H i v) : v = dV K ρ x ∧ wf S.length x = true := by
  cases s with
  | lst m =>
    have h' : (match S[m]? with
      | some (.lst xs) => some xs[i]?
      | _ => none) = some (some x) := h
    split at h'
    · rename_i xs e
      have hx := Option.some.inj h'
      obtain ⟨g, w⟩ := R.get e
      have z := y _ (SqL.of g)
      rw [List.getElem?_map, hx] at z
      exact ⟨(Option.some.inj z).symm, List.all_eq_true.mp w x (List.mem_of_getElem? hx)⟩
    · cases h'
  | tup m =>
    have h' : (match S[m]? with
      | some (.tup xs) => some xs[i]?
      | _ => none) = some (some x) := h
    split at h'
    · rename_i xs e
      have hx := Option.some.inj h'
      obtain ⟨g, w⟩ := R.get e
      have z := y _ (SqT.of g)
      rw [List.getElem?_map, hx] at z
      exact ⟨(Option.some.inj z).symm, List.all_eq_true.mp w x (List.mem_of_getElem? hx)⟩
    · cases h'
  | txt z =>
    obtain ⟨c, hc, e⟩ := Option.map_eq_some_iff.mp (Option.some.inj (show some ((z.cps[i]?).map fun c => DV.str ⟨#[c]⟩) = some (some x) from h))
    obtain ⟨c', hc', ev⟩ := y
    rw [hc] at hc'
    cases hc'
    subst e
    exact ⟨ev, rfl⟩
theorem at_zip {a b : SrcD} {i : Nat} {S : List DO} {q} (h : (ItD.zip a b).at i S = some q) : ∃ n m, a.len S = some n ∧ b.len S = some m ∧ ((i < n ∧ i < m ∧ ∃ x y, a.at i S = some (some x) ∧ b.at i S = some (some y) ∧ q = some (.ref S.length, S ++ [.tup [x, y]])) ∨ (i ≤ n ∧ i ≤ m ∧ (i = n ∨ i = m) ∧ q = none)) := by
  have h' : (match a.len S, b.len S with
    | some n, some m => if i < n ∧ i < m then (match a.at i S, b.at i S with
      | some (some x), some (some y) => some (some (DV.ref S.length, S ++ [DO.tup [x, y]]))
      | _, _ => none) else if i ≤ n ∧ i ≤ m ∧ (i = n ∨ i = m) then some none else none
    | _, _ => none) = some q := h
  split at h'
  · rename_i n m e1 e2
    split at h'
    · rename_i c
      split at h'
      · rename_i x y ex ey
        exact ⟨n, m, e1, e2, .inl ⟨c.1, c.2, x, y, ex, ey, (Option.some.inj h').symm⟩⟩
      · cases h'
    · split at h'
      · rename_i c
        exact ⟨n, m, e1, e2, .inr ⟨c.1, c.2.1, c.2.2, (Option.some.inj h').symm⟩⟩
      · cases h'
  · cases h'
theorem zip_ok {ρ : List Addr} {H0 : Hp} {a b : SrcD} (wa : srcWf ρ.length a = true) (wb : srcWf ρ.length b = true) : ItOk K ρ H0 (.zip a b) (ItzG K (srcV ρ a) (srcV ρ b)) where
  stop := fun {ρ' S H i} F R h => by
    obtain ⟨n, m, e1, e2, z⟩ := at_zip h
    have l1 := src_len R e1
    have l2 := src_len R e2
    rw [srcV_at F wa] at l1
    rw [srcV_at F wb] at l2
    rcases z with ⟨_, _, x, y, _, _, q⟩ | ⟨k1, k2, k3, _⟩
    · cases q
    · exact ⟨n, m, l1, l2, k1, k2, k3⟩
  go := fun {ρ' S H i x} F R h => by
    obtain ⟨n, m, e1, e2, z⟩ := at_zip h
    have l1 := src_len R e1
    have l2 := src_len R e2
    rw [srcV_at F wa] at l1
    rw [srcV_at F wb] at l2
    rcases z with ⟨k1, k2, _⟩ | ⟨_, _, _, q⟩
    · exact ⟨n, m, l1, l2, k1, k2⟩
    · cases q
  yld := fun {ρ' S S' H H' i x v} F R h y => by
    obtain ⟨n, m, e1, e2, z⟩ := at_zip h
    rcases z with ⟨k1, k2, p, q, ep, eq, es⟩ | ⟨_, _, _, q⟩
    · cases es
      obtain ⟨T, u, u2, ev, hT, eH, n1, n2⟩ := y
      rw [← srcV_at F wa] at n1
      rw [← srcV_at F wb] at n2
      obtain ⟨r1, w1⟩ := src_nth R ep n1
      obtain ⟨r2, w2⟩ := src_nth R eq n2
      obtain ⟨R1, F1⟩ := R.new (o := .tup [p, q]) hT (by show (wf _ _ && (wf _ _ && true)) = true; rw [w1, w2]; rfl)
      have em : dO K ρ' (.tup [p, q]) = .tup [u, u2] := by rw [r1, r2]; rfl
      rw [em, ← eH] at R1 F1
      refine ⟨_, R1, F1, ?_⟩
      rw [ev]
      show V.ref T = V.ref _
      rw [← R.len]
      simp [List.getD_eq_getElem?_getD]
    · cases q
def srcD (S : List DO) : DV → Option SrcD
  | .ref n => (match S[n]? with
    | some (.lst _) => some (.lst n)
    | some (.tup _) => some (.tup n)
    | _ => none)
  | .str z => if z.cps.all (· < 128) = true then some (.txt z) else none
  | _ => none
theorem srcD_ok {ρ : List Addr} {S : List DO} {H : Hp} {v : DV} {s : SrcD} (R : Rep K ρ S H) (h : srcD S v = some s) : dV K ρ v = (srcV ρ s).val ∧ (∃ n, (srcV ρ s).len K H n) ∧ srcWf ρ.length s = true := by
  unfold srcD at h
  split at h
  · split at h
    · rename_i xs e
      cases h
      exact ⟨rfl, ⟨_, _, SqL.of (R.get e).1, rfl⟩, decide_eq_true (Fr.lt R e)⟩
    · rename_i xs e
      cases h
      exact ⟨rfl, ⟨_, _, SqT.of (R.get e).1, rfl⟩, decide_eq_true (Fr.lt R e)⟩
    · cases h
  · split at h
    · rename_i c
      cases h
      exact ⟨rfl, ⟨_, c, rfl⟩, rfl⟩
    · cases h
  · cases h
instance (ta : TA) [a : EvA K E ta] : EvI K E (iZipG K ta) where
  run := fun σ S => match a.run σ S with
    | some (.ret [x, y] S1) => (match srcD S1 x, srcD S1 y with
      | some p, some q => some (.inl (.zip p q, S1))
      | _, _ => none)
    | some (.exc C d S1) => some (.inr (.exc C d S1))
    | _ => none
  good := fun {σ S it S1} h w => by
    split at h
    · rename_i x y S2 h1
      split at h
      · cases h
        exact of_decide_eq_true (ba (a.good h1 w)).1
      · cases h
    · cases h
    · cases h
  ok := fun {σ S q ρ H Qj} h w R p => by
    split at h
    · rename_i x y S1 h1
      split at h
      · rename_i s1 s2 hx hy
        cases h
        refine a.ok h1 w R fun ρ1 H1 R1 F1 => ?_
        obtain ⟨e1, l1, w1⟩ := srcD_ok R1 hx
        obtain ⟨e2, l2, w2⟩ := srcD_ok R1 hy
        exact ⟨_, _, by rw [List.map_cons, List.map_cons, e1, e2]; rfl, l1, l2, p ρ1 H1 _ R1 F1 (zip_ok w1 w2)⟩
      · cases h
    · rename_i C d S1 h1
      cases h
      exact a.ok h1 w R p
    · cases h
end RunX
set_option maxHeartbeats 4000000
/-! sorted(xs), xs a list of tuples of ints and texts, all of one length, an int ahead, ranked by ints. -/
namespace SM
open PySem PySem.Spec PyProof.Rows L2
/-- k < m for tuples of one length; none where an int meets a text -/
def lexK : List Key → List Key → Option Bool
  | [], [] => some false
  | x :: xs, y :: ys => if x = y then lexK xs ys else match x, y with
    | .inl i, .inl j => some (decide (i < j))
    | .inr a, .inr b => some (decide (a.cps.toList < b.cps.toList))
    | _, _ => none
  | _, _ => none
section
variable {prog : Program} {w : World} {A : Around} {E : Value → Shared → Prop} {s : Shared} {Q : Bool → Shared → Prop}
theorem lex_keys {b : Bool} : ∀ (ks ms : List Key) (xs ys : List Value) (i : Nat) {r : Bool}, Vals (ks.map kV) xs → Vals (ms.map kV) ys → lexK ks ms = some r → (i = 0 → (∃ n q, ks = .inl n :: q) ∧ ∃ n q, ms = .inl n :: q) → Q r s → PySem.W.KatLex prog w A b false Q (xs.zip ys) i s
  | [], [], _, _, i, r, .nil, .nil, hr, _, h => by
    cases hr
    exact PySem.W.kat_nil h
  | [], _ :: _, _, _, _, _, _, _, hr, _, _ => by cases hr
  | _ :: _, [], _, _, _, _, _, _, hr, _, _ => by cases hr
  | x :: ks, y :: ms, _, _, i, r, .cons (b := u) (l₂ := us) rx hx, .cons (b := v) (l₂ := vs) ry hy, hr, h0, h => by
    show PySem.W.KatLex prog w A b false Q ((u, v) :: us.zip vs) i s
    unfold lexK at hr
    split at hr
    · rename_i e
      subst e
      refine PySem.W.kat_cons ?_
      cases x with
      | inl n =>
        obtain ⟨t, rfl⟩ := rx
        obtain ⟨t', rfl⟩ := ry
        refine wpAny_eqBool_int ?_
        rw [beq_self_eq_true]
        exact PySem.W.kat_yes (lex_keys ks ms us vs (i + 1) hx hy hr (fun z => nomatch z) h)
      | inr z =>
        obtain ⟨t, rfl⟩ := rx
        obtain ⟨t', rfl⟩ := ry
        refine wpAny_eqBool_str ?_
        rw [decide_eq_true rfl]
        exact PySem.W.kat_yes (lex_keys ks ms us vs (i + 1) hx hy hr (fun z => nomatch z) h)
    · rename_i ne
      refine PySem.W.kat_cons ?_
      split at hr
      · rename_i n m
        cases hr
        obtain ⟨t, rfl⟩ := rx
        obtain ⟨t', rfl⟩ := ry
        refine wpAny_eqBool_int ?_
        have ne' : n ≠ m := fun e => ne (by rw [e])
        rw [show (n == m) = false from beq_eq_false_iff_ne.mpr ne']
        exact PySem.W.kat_no (TS.oneLt_ints _ h)
      · rename_i z z'
        cases hr
        obtain ⟨t, rfl⟩ := rx
        obtain ⟨t', rfl⟩ := ry
        refine wpAny_eqBool_str ?_
        have ne' : z ≠ z' := fun e => ne (by rw [e])
        rw [decide_eq_false ne']
        have hi : (i == 0) = false := beq_eq_false_iff_ne.mpr fun e => by
          obtain ⟨⟨n, q, e1⟩, _⟩ := h0 e
          cases e1
        refine PySem.W.kat_no ?_
        rw [hi, Bool.and_false]
        exact PySem.W.kat_one _ _ (PyProof.Rows.lt_str (Q := PySem.W.BoolBack Q) h)
      · cases hr
/-- the value shows the tuple of the keys -/
def TupK (h : Heap) (v : Value) (ks : List Key) : Prop := ∃ a o xs n, v = .ref a ∧ h.get? a = some o ∧ o.cls = .type "tuple" ∧ o.data = .seq xs n ∧ Vals (ks.map kV) xs.toList
theorem TupK.keep {h h' : Heap} {v : Value} {ks : List Key} (t : TupK h v ks) (k : ∀ b o, h.get? b = some o → o.cls = .type "tuple" → h'.get? b = some o) : TupK h' v ks :=
  let ⟨a, o, xs, n, e, ho, hc, hd, r⟩ := t
  ⟨a, o, xs, n, e, k a o ho hc, hc, hd, r⟩
structure Rk (h : Heap) (vs : List Value) (f : Value → List Key) (r : Value → Int) : Prop where
  tup : ∀ v ∈ vs, TupK h v (f v) ∧ ∃ n q, f v = .inl n :: q
  lt : ∀ u ∈ vs, ∀ v ∈ vs, (f u).length = (f v).length ∧ lexK (f u) (f v) = some (decide (r u < r v))
theorem Rk.keep {h h' : Heap} {vs : List Value} {f : Value → List Key} {r : Value → Int} (x : Rk h vs f r) (k : ∀ b o, h.get? b = some o → o.cls = .type "tuple" → h'.get? b = some o) : Rk h' vs f r :=
  ⟨fun v hv => ⟨(x.tup v hv).1.keep k, (x.tup v hv).2⟩, x.lt⟩
theorem firsts {h : Heap} {f : Value → List Key} : ∀ vs : List Value, (∀ v ∈ vs, TupK h v (f v) ∧ ∃ n q, f v = .inl n :: q) → ∃ fs, PySem.W.KatTups h vs fs ∧ fs.length = vs.length ∧ ∀ z, z ∈ fs → ∃ n t, z = Value.int n t
  | [], _ => ⟨[], PySem.W.KatTups.nil, rfl, fun z hz => by simp at hz⟩
  | v :: vs, x => by
    obtain ⟨fs, k, hl, hi⟩ := firsts vs fun u hu => x u (List.mem_cons_of_mem _ hu)
    obtain ⟨⟨a, o, xs, n, rfl, ho, hc, hd, rv⟩, m, q, e⟩ := x v List.mem_cons_self
    rw [e] at rv
    cases hx : xs.toList with
    | nil => rw [hx] at rv; cases rv
    | cons y ys =>
      rw [hx] at rv
      cases rv with
      | cons ry _ =>
        obtain ⟨t, rfl⟩ := ry
        have e0 : xs[0]? = some (.int m t) := by
          have z := congrArg (fun l : List Value => l[0]?) hx
          simpa using z
        refine ⟨.int m t :: fs, PySem.W.KatTups.cons ho hc hd e0 k, by simp [hl], fun z hz => ?_⟩
        rcases List.mem_cons.mp hz with rfl | hz
        · exact ⟨m, t, rfl⟩
        · exact hi z hz
theorem kind_mix {vs : List Value} {f : Value → List Key} {r : Value → Int} (h2 : 2 ≤ vs.length) (x : Rk s.heap vs f r) (Q : SortKind → Shared → Prop) (h : ∀ κ, TS.Cmp prog w A s κ (pairsOf vs) r → Q κ s) : wpAny (model prog w) A (keyKind' vs.toArray) Q E s := by
  obtain ⟨fs, k, hl, hi⟩ := firsts vs x.tup
  refine PySem.W.kat_kind (T := Value.type "int") k (by omega) (fun z hz => ?_) rfl (h _ ?_)
  · obtain ⟨n, t, rfl⟩ := hi z hz
    exact PySem.W.Looks.of_pure rfl
  · intro p q hp hq Q' E' hQ
    rw [pairsOf_toList] at hp hq
    have mp := (mem_zip_self hp).2
    have mq := (mem_zip_self hq).2
    obtain ⟨hlen, hlex⟩ := x.lt _ mp _ mq
    obtain ⟨⟨a, o, xs, n, e1, ho, _, hd, rv⟩, i1⟩ := x.tup _ mp
    obtain ⟨⟨a', o', ys, n', e2, ho', _, hd', rv'⟩, i2⟩ := x.tup _ mq
    have key := lex_keys (prog := prog) (w := w) (A := A) (s := s) (Q := Q') (b := true) _ _ _ _ 0 rv rv' hlex (fun _ => ⟨i1, i2⟩) hQ
    have sz : decide (xs.size < ys.size) = false := by
      have l1 := rv.length
      have l2 := rv'.length
      rw [List.length_map] at l1 l2
      have e1 : xs.toList.length = xs.size := Array.length_toList
      have e2 : ys.toList.length = ys.size := Array.length_toList
      rw [e1] at l1
      rw [e2] at l2
      have z : (f p.1).length = (f q.1).length := hlen
      rw [l1, l2] at z
      exact decide_eq_false (by rw [z]; exact Nat.lt_irrefl _)
    rw [e1, e2]
    refine PySem.W.kat_lt ho hd ho' hd' ?_
    rw [sz]
    exact key
/-- list.sort of them -/
theorem sort_mix {a : Addr} {vs : List Value} {n : Nat} {f : Value → List Key} {r : Value → Int} {P : PySem.Fin → Shared → Prop} (ho : s.heap.get? a = some (seqObj "list" vs.toArray n)) (h64 : vs.length < 64) (x : Rk s.heap vs f r)
    (h : ∀ out : Array Value, out.toList.Perm vs → out.toList.Pairwise (fun u v => r u ≤ r v) → P (.done (.ret .none)) { s with heap := sortedHeap s.heap a vs out }) : wpAny (model prog w) A (Builtin.«list.sort» ⟨[.ref a], []⟩) P E s := by
  have keep : ∀ b o, s.heap.get? b = some o → o.cls = .type "tuple" → (TS.midHeap s.heap a vs).get? b = some o := fun b o e hc => TS.midHeap_old (fun z => by
    rw [z, ho] at e
    have c' : Value.type "list" = Value.type "tuple" := by rw [← Option.some.inj e] at hc; exact hc
    injection c' with c''
    exact absurd c'' (by decide)) e
  refine SK.plain_sort (r := r) ho h64 (fun h2 Q hQ => kind_mix (s := { s with heap := TS.midHeap s.heap a vs }) h2 (x.keep keep) Q hQ) fun ps out h1 h2 h3 => ?_
  obtain ⟨p, o⟩ := TS.out_rank h1 h2 h3
  exact h out p o
/-- sorted(xs) -/
theorem sorted_mix {l : Addr} {vs : List Value} {f : Value → List Key} {r : Value → Int} {Q : Value → Shared → Prop} (hl : s.heap.IsList l vs.toArray) (h64 : vs.length < 64) (x : Rk s.heap vs f r)
    (h : ∀ out : Array Value, out.toList.Perm vs → out.toList.Pairwise (fun u v => r u ≤ r v) → Q (.ref (s.heap.objs.size + 1)) { s with heap := sortedAll s.heap vs out }) : wpAny (model prog w) A (call (.builtin "sorted") [.ref l]) Q E s := by
  have sl := sizeLine_eq
  refine Calls.call_function_entry kind_sorted plain_sorted entry_sorted (args_sorted1 _) ?_
  unfold Builtin.«sorted»
  refine wpAny_bind (m := checkCount "sorted" 1 1 _) (wpAny_pure (wpAny_bind (collect_list hl ?_ (by rw [sl]; omega))))
  refine wpAny_bind (wpAny_newList ?_ (by rw [sl]; omega))
  generalize eH : (s.heap.push (seqObj "list" #[] 0)).update s.heap.objs.size (Obj.mapSeq (· ++ vs.toArray)) = H1
  have z1 : H1.objs.size = s.heap.objs.size + 1 := by rw [← eH, Heap.size_update, size_push']
  have g1 : (H1.push (seqObj "list" vs.toArray 0)).get? (s.heap.objs.size + 1) = some (seqObj "list" vs.toArray 0) := by rw [← z1]; exact Heap.get?_push_size _ rfl
  have keep : ∀ b o, s.heap.get? b = some o → o.cls = .type "tuple" → (H1.push (seqObj "list" vs.toArray 0)).get? b = some o := fun b o e _ => by
    have lt : b < s.heap.objs.size := Heap.lt_size e
    rw [Heap.get?_push_ne _ _ _ (by rw [z1]; exact Nat.ne_of_lt (Nat.lt_succ_of_lt lt)), ← eH, Heap.get?_update_ne _ _ _ _ (Nat.ne_of_lt lt), Heap.get?_push_ne _ _ _ (Nat.ne_of_lt lt)]
    exact e
  show wpAny _ _ _ _ _ { s with heap := H1.push (seqObj "list" vs.toArray 0) }
  rw [z1]
  refine wpAny_bind (wpAny_holding (wpAny_call_entry slot_list_sort ⟨_, g1, rfl⟩ entry_list_sort (sort_mix g1 h64 (x.keep keep) fun out a1 a2 => ⟨_, rfl, wpAny_pure ⟨_, rfl, ?_⟩⟩) (args_list_sort _)))
  have z := h out a1 a2
  unfold sortedAll at z
  rw [eH] at z
  exact z
end
/-- sorted(xs): rk ranks the keys' tuples -/
def rSortM (K : PySem.W.Frag) : List V → Hp → VK → Prop := fun vs H Q => ∃ (a : Addr) (L : List (Addr × List Key)) (rk : List Key → Int), vs = [V.ref a] ∧ SqL K H a (L.map fun p => .ref p.1) ∧ L.length < 64 ∧ (∀ p ∈ L, SqT K H p.1 (p.2.map kV) ∧ ∃ n q, p.2 = .inl n :: q) ∧
  (∀ p ∈ L, ∀ q ∈ L, p.2.length = q.2.length ∧ lexK p.2 q.2 = some (decide (rk p.2 < rk q.2))) ∧ ∀ (M : List (Addr × List Key)) (p : Addr), M.Perm L → M.Pairwise (fun p q => rk p.2 ≤ rk q.2) → H p = none → Q (.ref p) (upd H p (.lst (M.map fun p => .ref p.1)))
theorem kV_inj : ∀ {ks ms : List Key}, ks.map kV = ms.map kV → ks = ms
  | [], [], _ => rfl
  | [], _ :: _, h => by cases h
  | _ :: _, [], h => by cases h
  | x :: ks, y :: ms, h => by
    rw [List.map_cons, List.map_cons] at h
    obtain ⟨h1, h2⟩ := List.cons.inj h
    rw [kV_inj h2]
    have e : x = y := by
      cases x <;> cases y <;> first | (cases h1; rfl) | cases h1
    rw [e]
def keysAt (L : List (Addr × List Key)) (v : Value) : List Key := match v with
  | .ref a => ((L.find? fun p => decide (p.1 = a)).map (·.2)).getD []
  | _ => []
theorem keysAt_eq {L : List (Addr × List Key)} (one : ∀ p ∈ L, ∀ q ∈ L, p.1 = q.1 → p.2 = q.2) {p : Addr × List Key} (h : p ∈ L) : keysAt L (.ref p.1) = p.2 := by
  show ((L.find? fun q => decide (q.1 = p.1)).map (·.2)).getD [] = p.2
  cases e : L.find? fun q => decide (q.1 = p.1) with
  | none => exact absurd (List.find?_eq_none.mp e p h) (by simp)
  | some q =>
    have h1 : q.1 = p.1 := by simpa using List.find?_some e
    exact one q (List.mem_of_find?_eq_some e) p h h1
theorem refs_vals : ∀ {L : List (Addr × List Key)} {us : List Value}, Vals (L.map fun p => V.ref p.1) us → us = L.map fun p => Value.ref p.1
  | [], _, .nil => rfl
  | p :: L, _, .cons r rr => by
    cases r
    rw [refs_vals rr]
    rfl
theorem vals_refs : ∀ (L : List (Addr × List Key)), Vals (L.map fun p => V.ref p.1) (L.map fun p => Value.ref p.1)
  | [] => .nil
  | p :: L => .cons rfl (vals_refs L)
theorem cr_sortM {X : Cx} : CallR X (.builtin "sorted") (rSortM X.K) := by
  intro pins s σ H vs us Q I r h
  obtain ⟨a, L, rk, rfl, hs, h64, ht, hr, q⟩ := h
  obtain ⟨its, rv, hl, hz⟩ := I.list hs
  rw [Vals.ref1 r]
  have ei := refs_vals rv
  subst ei
  have one : ∀ p ∈ L, ∀ q ∈ L, p.1 = q.1 → p.2 = q.2 := fun p hp q hq e => by
    have t1 := (ht p hp).1
    have t2 := (ht q hq).1
    rw [e] at t1
    exact kV_inj (I.tuple_inj t1 t2)
  have x : Rk s.heap (L.map fun p => Value.ref p.1) (keysAt L) fun v => rk (keysAt L v) := by
    refine ⟨fun v hv => ?_, fun u hu v hv => ?_⟩
    · obtain ⟨p, hp, rfl⟩ := List.mem_map.mp hv
      rw [keysAt_eq one hp]
      obtain ⟨its, rv, ⟨o, ho, hc, n, hd⟩, _⟩ := I.tuple (ht p hp).1
      exact ⟨⟨p.1, o, its.toArray, n, rfl, ho, hc, hd, by simpa using rv⟩, (ht p hp).2⟩
    · obtain ⟨p, hp, rfl⟩ := List.mem_map.mp hu
      obtain ⟨p', hp', rfl⟩ := List.mem_map.mp hv
      rw [keysAt_eq one hp, keysAt_eq one hp']
      exact hr p hp p' hp'
  refine sorted_mix hl.isList (by rw [List.length_map]; exact h64) x fun out h1 h2 => ?_
  obtain ⟨M, pm, em⟩ := perm_lift (fun p : Addr × List Key => Value.ref p.1) h1 L rfl
  obtain ⟨ep, he'⟩ := PyProof.Rows.sortedAll_at s.heap (L.map fun p => Value.ref p.1) out
  have hM : M.Pairwise fun p q => rk p.2 ≤ rk q.2 := by
    rw [← em, List.pairwise_map] at h2
    refine List.Pairwise.imp_of_mem (fun {p p'} hp hp' z => ?_) h2
    have z' : rk (keysAt L (.ref p.1)) ≤ rk (keysAt L (.ref p'.1)) := z
    rwa [keysAt_eq one (pm.mem_iff.mp hp), keysAt_eq one (pm.mem_iff.mp hp')] at z'
  have hlen : (M.map fun p => V.ref p.1).length ≤ sizeLine := by
    rw [List.length_map, pm.length_eq]
    have z := hz
    rwa [List.length_map] at z
  have hv : Vals (M.map fun p => V.ref p.1) out.toList := by
    rw [← em]
    exact vals_refs M
  exact ⟨.ref _, upd H (s.heap.objs.size + 1) (.lst (M.map fun p => V.ref p.1)), I.laid (t' := s.toks) (fun _ _ => PyProof.Rows.sortedAll_old) (Nat.le_succ _) ⟨hlen, out.toList, ep, hv, he'⟩, rfl, q M _ pm hM (I.hok.fresh (Nat.le_succ _))⟩
end SM
set_option maxHeartbeats 4000000
/-! sorted(xs) of tuples -/
namespace RunX
open PySem PySem.Spec PyProof.Rows L2 He PO SM
variable {K : PySem.W.Frag} {E : XK}
section
variable {α : Type} (f : α → Int)
def insF (x : α) : List α → List α
  | [] => [x]
  | y :: r => if f x ≤ f y then x :: y :: r else y :: insF x r
def sortF : List α → List α
  | [] => []
  | x :: r => insF f x (sortF r)
variable {f}
theorem insF_perm {x : α} : ∀ {l : List α}, (insF f x l).Perm (x :: l)
  | [] => .refl _
  | y :: r => by
    unfold insF
    split
    · exact .refl _
    · exact ((insF_perm (l := r)).cons y).trans (.swap x y r)
theorem sortF_perm : ∀ {l : List α}, (sortF f l).Perm l
  | [] => .refl _
  | x :: r => insF_perm.trans ((sortF_perm (l := r)).cons x)
theorem insF_sorted {x : α} : ∀ {l : List α}, l.Pairwise (fun a b => f a ≤ f b) → (insF f x l).Pairwise (fun a b => f a ≤ f b)
  | [], _ => List.pairwise_singleton _ _
  | y :: r, h => by
    obtain ⟨h1, h2⟩ := List.pairwise_cons.mp h
    unfold insF
    split
    · rename_i c
      exact List.pairwise_cons.mpr ⟨fun z hz => by
        rcases List.mem_cons.mp hz with q | q
        · rw [q]; exact c
        · exact Int.le_trans c (h1 z q), h⟩
    · rename_i c
      exact List.pairwise_cons.mpr ⟨fun z hz => by
        rcases List.mem_cons.mp (insF_perm.mem_iff.mp hz) with q | q
        · rw [q]; omega
        · exact h1 z q, insF_sorted h2⟩
theorem sortF_sorted : ∀ {l : List α}, (sortF f l).Pairwise (fun a b => f a ≤ f b)
  | [] => .nil
  | x :: r => insF_sorted sortF_sorted
theorem nodup_inj {l : List α} (h : (l.map f).Nodup) {a b : α} (ha : a ∈ l) (hb : b ∈ l) (e : f a = f b) : a = b := by
  induction l with
  | nil => cases ha
  | cons x r ih =>
    obtain ⟨h1, h2⟩ := List.nodup_cons.mp (show (f x :: r.map f).Nodup from h)
    rcases List.mem_cons.mp ha with p | p
    · rcases List.mem_cons.mp hb with q | q
      · rw [p, q]
      · subst p
        exact absurd (List.mem_map.mpr ⟨b, q, e.symm⟩) h1
    · rcases List.mem_cons.mp hb with q | q
      · subst q
        exact absurd (List.mem_map.mpr ⟨a, p, e⟩) h1
      · exact ih h2 p q
theorem sorted_oneF : ∀ {l m : List α}, l.Perm m → l.Pairwise (fun a b => f a ≤ f b) → m.Pairwise (fun a b => f a ≤ f b) → (l.map f).Nodup → l = m
  | [], m, p, _, _, _ => (List.nil_perm.mp p).symm
  | a :: l, [], p, _, _, _ => by have := p.length_eq; simp at this
  | a :: l, b :: m, p, h, g, n => by
    obtain ⟨h1, h2⟩ := List.pairwise_cons.mp h
    obtain ⟨g1, g2⟩ := List.pairwise_cons.mp g
    have mb : b ∈ a :: l := p.mem_iff.mpr List.mem_cons_self
    have e : a = b := by
      rcases List.mem_cons.mp (p.mem_iff.mp List.mem_cons_self) with q | q
      · exact q
      · rcases List.mem_cons.mp mb with z | z
        · exact z.symm
        · exact nodup_inj n List.mem_cons_self mb (Int.le_antisymm (h1 b z) (g1 a q))
    subst e
    rw [sorted_oneF (List.perm_cons a |>.mp p) h2 g2 (List.nodup_cons.mp (show (f a :: l.map f).Nodup from n)).2]
end
def keyedD (S : List DO) : List DV → Option (List (Nat × List Key))
  | [] => some []
  | .ref n :: r => match S[n]?, keyedD S r with
    | some (.tup xs), some L => (keysD xs).map fun k => (n, k) :: L
    | _, _ => none
  | _ => none
theorem keyedD_ok {ρ : List Addr} {S : List DO} {H : Hp} (R : Rep K ρ S H) : ∀ {xs : List DV} {L : List (Nat × List Key)}, keyedD S xs = some L → xs = L.map (fun p => .ref p.1) ∧ ∀ p ∈ L, SqT K H (ρ.getD p.1 0) (p.2.map kV)
  | [], _, h => by
    cases h
    exact ⟨rfl, fun p hp => by cases hp⟩
  | .ref n :: r, L, h => by
    have h' : (match S[n]?, keyedD S r with
      | some (.tup xs), some L => (keysD xs).map fun k => (n, k) :: L
      | _, _ => none) = some L := h
    split at h'
    · rename_i xs L' e1 e2
      obtain ⟨k, hk, rfl⟩ := Option.map_eq_some_iff.mp h'
      obtain ⟨i1, i2⟩ := keyedD_ok R e2
      refine ⟨by rw [i1]; rfl, fun p hp => ?_⟩
      rcases List.mem_cons.mp hp with q | q
      · rw [q]
        have g := SqT.of (K := K) (R.get e1).1
        rw [keysD_ok hk] at g
        exact g
      · exact i2 p q
    · cases h'
def rankD (L : List (Nat × List Key)) (k : List Key) : Int := ((L.filter fun p => decide (lexK p.2 k = some true)).length : Nat)
def intHead : List Key → Bool
  | .inl _ :: _ => true
  | _ => false
theorem intHead_ok {k : List Key} (h : intHead k = true) : ∃ n q, k = .inl n :: q := by
  match k, h with
  | .inl n :: q, _ => exact ⟨n, q, rfl⟩
def rankOk (L : List (Nat × List Key)) : Bool :=
  decide (L.length < 64) && L.all (fun p => intHead p.2) && L.all (fun p => L.all fun q => decide (p.2.length = q.2.length) && decide (lexK p.2 q.2 = some (decide (rankD L p.2 < rankD L q.2)))) && decide ((L.map fun p => rankD L p.2).Nodup)
instance : EvB K (rSortM K) where
  run := fun ds S => match ds with
    | [x] => (match (lstD S x).bind (keyedD S) with
      | some L => if rankOk L = true ∧ wfO S.length (.lst ((sortF (fun p : Nat × List Key => rankD L p.2) L).map fun p => DV.ref p.1)) = true then alloc S (.lst ((sortF (fun p : Nat × List Key => rankD L p.2) L).map fun p => .ref p.1)) else none
      | none => none)
    | _ => none
  good := fun {ds S q} h w => by
    split at h
    · split at h
      · split at h
        · exact alloc_good h
        · cases h
      · cases h
    · cases h
  ok := fun {ds S q ρ H Q E} h w R p => by
    split at h
    · split at h
      · rename_i L hb
        split at h
        · rename_i c
          obtain ⟨xs, h1, h2⟩ := Option.bind_eq_some_iff.mp hb
          obtain ⟨n, rfl, e, g, _⟩ := lstD_ok R h1
          obtain ⟨ex, ht⟩ := keyedD_ok R h2
          obtain ⟨c1, cw⟩ := c
          obtain ⟨c1, c4⟩ := ba c1
          obtain ⟨c1, c3⟩ := ba c1
          obtain ⟨c1, c2⟩ := ba c1
          have em : xs.map (dV K ρ) = (L.map fun p => (ρ.getD p.1 0, p.2)).map fun p => V.ref p.1 := by
            rw [ex, List.map_map, List.map_map]
            rfl
          rw [em] at g
          refine ⟨_, L.map fun p => (ρ.getD p.1 0, p.2), rankD L, rfl, SqL.of g, by rw [List.length_map]; exact of_decide_eq_true c1, fun q hq => ?_, fun q hq q' hq' => ?_, fun M a pm so ha => ?_⟩
          · obtain ⟨z, hz, rfl⟩ := List.mem_map.mp hq
            refine ⟨ht z hz, ?_⟩
            have i := List.all_eq_true.mp c2 z hz
            exact intHead_ok i
          · obtain ⟨z, hz, rfl⟩ := List.mem_map.mp hq
            obtain ⟨z', hz', rfl⟩ := List.mem_map.mp hq'
            obtain ⟨d1, d2⟩ := ba (List.all_eq_true.mp (List.all_eq_true.mp c3 z hz) z' hz')
            exact ⟨of_decide_eq_true d1, of_decide_eq_true d2⟩
          · have es : M = (sortF (fun p : Nat × List Key => rankD L p.2) L).map fun p => (ρ.getD p.1 0, p.2) := by
              have pm2 : M.Perm ((sortF (fun p : Nat × List Key => rankD L p.2) L).map fun p => (ρ.getD p.1 0, p.2)) := pm.trans (sortF_perm.map _).symm
              refine sorted_oneF (f := fun p : Addr × List Key => rankD L p.2) pm2 so ?_ ?_
              · rw [List.pairwise_map]
                exact sortF_sorted
              · have z := (pm.map (fun p : Addr × List Key => rankD L p.2)).nodup_iff.mpr
                apply z
                rw [List.map_map]
                exact of_decide_eq_true c4
            rw [es]
            have z := alloc_post (E := E) h cw R p ha
            have eo : dO K ρ (.lst ((sortF (fun p : Nat × List Key => rankD L p.2) L).map fun p => DV.ref p.1)) = .lst (((sortF (fun p : Nat × List Key => rankD L p.2) L).map fun p => (ρ.getD p.1 0, p.2)).map fun p => V.ref p.1) := by
              simp only [dO, List.map_map]
              rfl
            rw [eo] at z
            exact z
        · cases h
      · cases h
    · cases h
end RunX
set_option maxHeartbeats 4000000
/-! len(set(t)), t a tuple of at most four different tuples of ints and texts. -/
namespace SX
open PySem PySem.Spec PyProof.Rows L2
abbrev mh (P : Program) (w : World) (k : List Key) : Int := tupleKeyHash (mixKind P w) k
abbrev IsM (P : Program) (w : World) (h : Heap) (k : List Key) (a : Addr) : Prop := IsTupleKey (mixKind P w) h k a
section
variable {P : Program} {w : World} {A : Around} {E : Value → Shared → Prop} {s : Shared}
theorem item_key {k : Key} {v : Value} (h : (mixKind P w).is k v = true) : (∃ i t, v = .int i t) ∨ ∃ x t, v = .str x t := by
  cases k with
  | inl i => obtain ⟨t, e⟩ := Value.isInt_shape h; exact .inl ⟨i, t, e⟩
  | inr x =>
    cases v <;> first | exact .inr ⟨_, _, rfl⟩ | cases h
theorem items_key {k : List Key} {vs : List Value} (h : ItemsAre (mixKind P w) k vs) : ∀ v ∈ vs, (∃ i t, v = Value.int i t) ∨ ∃ x t, v = Value.str x t := by
  induction h with
  | nil =>
    intro v hv
    cases hv
  | cons h1 _ ih =>
    intro v hv
    rcases List.mem_cons.mp hv with e | q
    · rw [e]; exact item_key h1
    · exact ih v q
theorem noClass {v : Value} (n : Nat) (h : (∃ i t, v = Value.int i t) ∨ ∃ x t, v = Value.str x t) : ofAClassStatement n v = pure false := by
  rcases h with ⟨i, t, rfl⟩ | ⟨x, t, rfl⟩ <;> cases n <;> rfl
theorem byVal {v : Value} (n : Nat) (h : (∃ i t, v = Value.int i t) ∨ ∃ x t, v = Value.str x t) : ∃ b, hashByValue n v = pure b := by
  rcases h with ⟨i, t, rfl⟩ | ⟨x, t, rfl⟩
  · exact ⟨true, by cases n <;> rfl⟩
  · exact ⟨false, by cases n <;> rfl⟩
theorem noClassT {k : List Key} {b : Addr} {Q : Bool → Shared → Prop} (hk : IsM P w s.heap k b) (q : Q false s) : wpAny (model P w) A (ofAClassStatement 8 (.ref b)) Q E s := by
  have hT := hk.typeIs
  obtain ⟨o, items, n, ho, _, hd, hi⟩ := hk
  unfold ofAClassStatement
  refine wpAny_bind (wpAny_typeOf hT ?_)
  dsimp only
  simp only [show (("tuple" : String) == "tuple") = true by decide, if_true, Bool.not_true, Bool.false_eq_true, if_false]
  show wpAny _ _ (seqItems? (.ref b) >>= _) _ _ s
  refine wpAny_bind (wpAny_seqItems ho hd (wpAny_bind ?_))
  show wpAny _ _ (forIn items _ _) _ _ s
  rw [← Array.forIn_toList]
  refine wpAny_forIn_list _ (fun rest r s' => r.1 = none ∧ s' = s ∧ ∀ v ∈ rest, (∃ i t, v = Value.int i t) ∨ ∃ x t, v = Value.str x t) _ ?_ ?_ _ _ ⟨rfl, rfl, items_key hi⟩
  · rintro v rest r s' ⟨hr, rfl, all⟩
    rw [noClass _ (all v List.mem_cons_self)]
    refine wpAny_bind (wpAny_pure ?_)
    simp only [Bool.false_eq_true, if_false]
    exact wpAny_pure ⟨rfl, rfl, fun u hu => all u (List.mem_cons_of_mem _ hu)⟩
  · rintro ⟨r1, r2⟩ s' ⟨hr, rfl, _⟩
    simp only at hr
    subst hr
    exact wpAny_pure q
theorem byValT {k : List Key} {b : Addr} {Q : Bool → Shared → Prop} (hk : IsM P w s.heap k b) (q : ∀ c, Q c s) : wpAny (model P w) A (hashByValue 8 (.ref b)) Q E s := by
  have hT := hk.typeIs
  obtain ⟨o, items, n, ho, _, hd, hi⟩ := hk
  unfold hashByValue
  refine wpAny_bind (wpAny_specialOf hT F.slot_tuple_hash.lookup ?_)
  show wpAny _ _ (seqItems? (.ref b) >>= _) _ _ s
  refine wpAny_bind (wpAny_seqItems ho hd (wpAny_bind ?_))
  show wpAny _ _ (forIn items _ _) _ _ s
  rw [← Array.forIn_toList]
  refine wpAny_forIn_list _ (fun rest r s' => r.1 = none ∧ s' = s ∧ ∀ v ∈ rest, (∃ i t, v = Value.int i t) ∨ ∃ x t, v = Value.str x t) _ ?_ ?_ _ _ ⟨rfl, rfl, items_key hi⟩
  · rintro v rest r s' ⟨hr, rfl, all⟩
    obtain ⟨c, ec⟩ := byVal 7 (all v List.mem_cons_self)
    rw [ec]
    refine wpAny_bind (wpAny_pure ?_)
    cases c with
    | true =>
      simp only [Bool.not_true, Bool.false_eq_true, if_false]
      exact wpAny_pure ⟨rfl, rfl, fun u hu => all u (List.mem_cons_of_mem _ hu)⟩
    | false =>
      simp only [Bool.not_false, if_true]
      first
        | exact wpAny_pure (q false)
        | exact wpAny_pure (wpAny_pure (q false))
        | exact wpAny_bind (wpAny_pure (wpAny_pure (q false)))
  · rintro ⟨r1, r2⟩ s' ⟨hr, rfl, _⟩
    simp only at hr
    subst hr
    exact wpAny_pure (q true)
theorem seenT {k : List Key} {b : Addr} {Q : Bool → Shared → Prop} (hk : IsM P w s.heap k b) {ys : List Value} (hy : ∀ y ∈ ys, ∃ k' c, y = Value.ref c ∧ IsM P w s.heap k' c) (q : Q false s) : wpAny (model P w) A (searchCouldBeSeen (.ref b) ys) Q E s := by
  unfold searchCouldBeSeen
  refine wpAny_bind (wpAny_forIn_list _ (fun rest r s' => r.1 = none ∧ s' = s ∧ ∀ y ∈ rest, ∃ k' c, y = Value.ref c ∧ IsM P w s.heap k' c) _ ?_ ?_ _ _ ⟨rfl, rfl, hy⟩)
  · rintro v rest r s' ⟨hr, rfl, all⟩
    obtain ⟨k', c, rfl, hc⟩ := all v List.mem_cons_self
    have tail : ∀ y ∈ rest, ∃ k' c, y = Value.ref c ∧ IsM P w s'.heap k' c := fun u hu => all u (List.mem_cons_of_mem _ hu)
    dsimp only
    by_cases hv : (b == c || (carriedByValue (.ref b) && carriedByValue (.ref c))) = true
    · exact wp_if_pos hv (wpAny_pure ⟨rfl, rfl, tail⟩)
    · refine wp_if_neg hv (wpAny_bind (wpAny_eqIsQuiet_tuple hk ?_))
      simp only [Bool.not_true, Bool.false_eq_true, if_false]
      refine wpAny_bind (wpAny_eqIsQuiet_tuple hc ?_)
      simp only [Bool.not_true, Bool.false_eq_true, if_false]
      refine wpAny_bind (noClassT hk ?_)
      simp only [Bool.false_eq_true, if_false]
      refine wpAny_bind (noClassT hc ?_)
      simp only [Bool.false_eq_true, if_false]
      exact wpAny_pure ⟨rfl, rfl, tail⟩
  · rintro ⟨r1, r2⟩ s' ⟨hr, rfl, _⟩
    simp only at hr
    subst hr
    exact wpAny_pure q
/-! ### the set that grows -/
def rows (P : Program) (w : World) (L : List (Addr × List Key)) : List (Int × Value) := L.map fun p => (mh P w p.2, Value.ref p.1)
structure Got (P : Program) (w : World) (h : Heap) (a : Addr) (L : List (Addr × List Key)) (es : Array (Int × Value)) (ep : Nat) (t : SetTable) : Prop where
  ob : ∃ o, h.get? a = some o ∧ o.ExactSet ∧ o.data = .set es ep t
  rw_ : es.toList = rows P w L
  tab : TabOk t (L.map fun p => mh P w p.2)
  tup : ∀ p ∈ L, IsM P w h p.2 p.1
  m7 : t.mask = 7
  few : L.length ≤ 4
variable {a : Addr} {L : List (Addr × List Key)} {es : Array (Int × Value)} {ep : Nat} {t : SetTable}
theorem Got.size (G : Got P w s.heap a L es ep t) : es.size = L.length := by
  have h := congrArg List.length G.rw_
  unfold rows at h
  rwa [Array.length_toList, List.length_map] at h
theorem Got.fits (G : Got P w s.heap a L es ep t) : t.fits es.size = true := by
  have h1 := G.tab.sz
  rw [List.length_map] at h1
  have h2 := G.size
  have h3 := G.few
  have h4 := G.m7
  unfold SetTable.fits SetTable.fill
  rw [G.tab.dm, Bool.and_eq_true, beq_iff_eq, decide_eq_true_eq]
  show t.place.size = es.size ∧ t.place.size + 0 ≤ t.mask
  omega
theorem Got.entry (G : Got P w s.heap a L es ep t) {i : Nat} {p : Addr × List Key} (h : L[i]? = some p) : es[i]? = some (mh P w p.2, Value.ref p.1) := by
  rw [← Array.getElem?_toList, G.rw_]
  unfold rows
  rw [List.getElem?_map, h]
  rfl
theorem Got.gw (G : Got P w s.heap a L es ep t) : ¬ t.gaveWay = true := by
  unfold SetTable.gaveWay
  rw [mask_odd G.tab.mok]
  decide
/-- the probe's k-th stand -/
abbrev std (t : SetTable) (hh : Int) (c : Nat) : SetTable.Probe := nth t.mask (runAt t.mask (SetTable.bits hh % (t.mask + 1)) (SetTable.bits hh)) c
/-- nothing like it is there: the search ends at the first empty slot -/
theorem seek (G : Got P w s.heap a L es ep t) {x : Addr} {k : List Key} (hx : IsM P w s.heap k x) (new : ∀ p ∈ L, p.2 ≠ k) (hu : A.units < cLine) {n : Nat} (hn : n < 10 * SetTable.turns t.mask)
    (fr : way t.mask (mh P w k) n ∉ t.place.toList) (bs : ∀ c, c < n → way t.mask (mh P w k) c ∈ t.place.toList) {Q : SetFound → Shared → Prop} (go : Q (.free (way t.mask (mh P w k) n) false) s) :
    ∀ (f c : Nat) (st : Option SetTable.Probe), st.getD (t.probeStart (mh P w k)) = std t (mh P w k) c → c ≤ n → n - c < f → wpAny (model P w) A (setSearchFrom a (.ref x) (mh P w k) true f st) Q E s
  | 0, c, st, _, _, hf => absurd hf (Nat.not_lt_zero _)
  | f + 1, c, st, hst, hc, hf => by
    obtain ⟨o, ho, hex, hd⟩ := G.ob
    rw [setSearchFrom_succ]
    refine wpAny_bind (wpAny_setState_of ho hd G.fits ?_)
    dsimp only
    refine wp_if_neg G.gw ?_
    have dn : ∀ (m : Nat) (p : SetTable.Probe), p.dummy = none → (nth t.mask p m).dummy = none := by
      intro m
      induction m with
      | zero => exact fun p h => h
      | succ m ih =>
        intro p h
        refine ih (adv t.mask p) ?_
        unfold adv
        split <;> exact h
    have sh : ∀ q, nth t.mask (std t (mh P w k) c) q = std t (mh P w k) (c + q) := fun q => (nth_add t.mask c _ q).symm
    have ej : ∀ q, (nth t.mask (std t (mh P w k) c) q).j = way t.mask (mh P w k) (c + q) := fun q => congrArg SetTable.Probe.j (sh q)
    have ec : c + (n - c) = n := by omega
    have spec := go_spec t G.tab.ris G.tab.dm (fun i => (es[i]?.map (·.1)).getD 0) (mh P w k) (10 * SetTable.turns t.mask) (n - c) _ (dn c _ rfl) (by omega) (fun q hq => by rw [ej]; exact bs (c + q) (by omega)) (by rw [ej, ec]; exact fr)
    rcases spec with ⟨q, i, hq, hi, hh, _, hpr⟩ | ⟨_, hpr⟩
    · have hp' : t.probe (fun i => (es[i]?.map (·.1)).getD 0) (mh P w k) (st.getD (t.probeStart (mh P w k))) = some (.candidate (way t.mask (mh P w k) (c + q)) i (std t (mh P w k) (c + (q + 1)))) := by
        rw [hst, ← ej, ← sh]
        exact hpr
      rw [hp']
      dsimp only
      rw [ej] at hi
      have hil : i < L.length := by
        have h1 : i < t.place.toList.length := (List.getElem?_eq_some_iff.mp hi).1
        have h2 := G.tab.sz
        rw [List.length_map] at h2
        rw [Array.length_toList] at h1
        omega
      have mem : L[i] ∈ L := List.getElem_mem hil
      have hp := List.getElem?_eq_getElem hil
      generalize L[i] = p at mem hp
      have ne := new p mem
      have rest : wpAny (model P w) A (searchRest a (.ref x) (mh P w k) true f es t (way t.mask (mh P w k) (c + q)) i (std t (mh P w k) (c + (q + 1)))) Q E s := by
        unfold searchRest
        rw [G.entry hp]
        dsimp only
        refine wpAny_bind (wpAny_holding (wpAny_eqBool_tuple hu (G.tup p mem) hx (wpAny_bind (wpAny_setState_of ho hd G.fits ?_))))
        dsimp only
        refine wp_if_neg (by simp [ne]) ?_
        rw [sameMem]
        dsimp only
        simp only [if_true, slot_live G.tab.ris hi, G.entry hp]
        refine wpAny_bind (wpAny_isSame_ref_self (wpAny_bind (wpAny_pure ?_)))
        simp only [if_true]
        exact wp_if_neg (by simp [ne]) (seek G hx new hu hn fr bs go f (c + (q + 1)) _ rfl (by omega) (by omega))
      by_cases led : t.led = true
      · exact wp_if_neg (by simp [led]) rest
      · refine wp_if_pos (by simp [led]) (wpAny_bind (seenT hx (fun y hy => ?_) (wp_if_neg (by decide) rest)))
        obtain ⟨e, he, ee⟩ := List.mem_map.mp hy
        have he1 : e ∈ es ∧ e.1 = mh P w k := by simpa using he
        have he2 : e ∈ es.toList := by simpa using he1.1
        rw [G.rw_] at he2
        obtain ⟨p2, hp2, e2⟩ := List.mem_map.mp he2
        exact ⟨p2.2, p2.1, by rw [← ee, ← e2], G.tup p2 hp2⟩
    · have hp' : t.probe (fun i => (es[i]?.map (·.1)).getD 0) (mh P w k) (st.getD (t.probeStart (mh P w k))) = some (.empty (way t.mask (mh P w k) n) none) := by
        have e2 : way t.mask (mh P w k) n = (nth t.mask (std t (mh P w k) c) (n - c)).j := by rw [ej, ec]
        rw [hst, e2]
        exact hpr
      rw [hp']
      exact wpAny_pure go
theorem isM_same {h h' : Heap} {k : List Key} {b : Addr} (x : IsM P w h k b) {o : Obj} {es : Array (Int × Value)} {ep : Nat} {t : SetTable} (ho : h.get? a = some o) (hd : o.data = .set es ep t) (sb : Heap.SameBut a h h') : IsM P w h' k b := by
  obtain ⟨o2, items, n, g, hc, hd2, hi⟩ := x
  have ne : b ≠ a := fun z => by
    rw [z, ho] at g
    cases g
    rw [hd] at hd2
    cases hd2
  exact ⟨o2, items, n, (sb.2 b ne).trans g, hc, hd2, hi⟩
/-- one more -/
theorem add (G : Got P w s.heap a L es ep t) {x : Addr} {k : List Key} (hx : IsM P w s.heap k x) (new : ∀ p ∈ L, p.2 ≠ k) (hu : A.units < cLine) (few : L.length + 1 ≤ 4) {Q : Bool → Shared → Prop}
    (go : ∀ h' L' es' ep' t', Heap.SameBut a s.heap h' → Got P w h' a L' es' ep' t' → L'.Perm ((x, k) :: L) → Q true { s with heap := h' }) : wpAny (model P w) A (setAddHashed a (.ref x) (mh P w k)) Q E s := by
  obtain ⟨o, ho, hex, hd⟩ := G.ob
  have m7 := G.m7
  unfold setAddHashed
  refine wpAny_holding ?_
  rw [show (100000 : Nat) = 99999 + 1 from rfl, setAddHashedIn_succ]
  refine wpAny_bind (wpAny_setState_of ho hd G.fits ?_)
  dsimp only
  refine wp_if_neg (by simp [byScan, Value.scannable]) ?_
  obtain ⟨n, hn, fr, bs⟩ := G.tab.first (by rw [List.length_map, m7]; omega) (mh P w k)
  have big : n - 0 < 100000 := by
    have : 10 * SetTable.turns t.mask ≤ 1420 := by
      unfold SetTable.turns
      omega
    omega
  refine wpAny_bind ?_
  unfold setSearch
  refine seek G hx new hu hn fr bs ?_ 100000 0 none rfl (Nat.zero_le _) big
  dsimp only
  refine wpAny_bind (wpAny_setState_of ho hd G.fits ?_)
  dsimp only
  obtain ⟨q1, q2, q3, q4, q5, q6, q7, q8, q9⟩ := G.tab.put fr bs
  generalize t.put (way t.mask (mh P w k) n) = pt at q1 q3 q4 q5 q6 q7 q8 q9 ⊢
  obtain ⟨t1, p⟩ := pt
  dsimp only at q1 q3 q4 q5 q6 q7 q8 q9 ⊢
  subst q1
  have both : ∀ (c : Bool), wpAny (model P w) A (do
      storeSet a (SetTable.insertAt es (SetTable.below t.place (way t.mask (mh P w k) n)) (mh P w k, Value.ref x)) (if c = true then t1 else { t1 with plain := false })
      if (!false && (if c = true then t1 else { t1 with plain := false }).tooFull) = true then setRelay a (SetTable.grown (es.size + 1))
      return true) Q E s := fun c => by
    generalize et : (if c = true then t1 else { t1 with plain := false }) = t2
    have e1 : t2.place = t1.place ∧ t2.dummies = t1.dummies ∧ t2.mask = t1.mask := by
      rw [← et]
      cases c <;> exact ⟨rfl, rfl, rfl⟩
    obtain ⟨e1, e2, e3⟩ := e1
    have q3' : TabOk t2 ((L.map fun p => mh P w p.2).take (SetTable.below t.place (way t.mask (mh P w k) n)) ++ mh P w k :: (L.map fun p => mh P w p.2).drop (SetTable.below t.place (way t.mask (mh P w k) n))) := ⟨by rw [e1]; exact q3.ris, by rw [e2]; exact q3.dm, by rw [e1]; exact q3.sz, by rw [e3]; exact q3.mok, by rw [e1, e3]; exact q3.bd, by rw [e1, e3]; exact q3.reach⟩
    have q9' : t2.fill = (L.map fun p => mh P w p.2).length + 1 := by
      rw [← q9]
      show t2.place.size + t2.dummies.size = t1.place.size + t1.dummies.size
      rw [e1, e2]
    rw [← e3] at q4
    clear q3 q9 q5 q6 q7 q8 e1 e2 e3 et
    generalize SetTable.below t.place (way t.mask (mh P w k) n) = p at q2 q3' ⊢
    have pm := put_perm L p (x, k)
    have lenL : (L.take p ++ (x, k) :: L.drop p).length = L.length + 1 := pm.length_eq
    have er : (SetTable.insertAt es p (mh P w k, Value.ref x)).toList = rows P w (L.take p ++ (x, k) :: L.drop p) := by
      rw [SetTable.toList_insertAt, G.rw_]
      unfold rows
      rw [List.map_append, List.map_cons, List.map_take, List.map_drop]
    have eh : (L.take p ++ (x, k) :: L.drop p).map (fun p => mh P w p.2) = (L.map fun p => mh P w p.2).take p ++ mh P w k :: (L.map fun p => mh P w p.2).drop p := by rw [List.map_append, List.map_cons, List.map_take, List.map_drop]
    rw [← eh] at q3'
    have es1 : (SetTable.insertAt es p (mh P w k, Value.ref x)).size = L.length + 1 := by
      have h := congrArg List.length er
      unfold rows at h
      rwa [Array.length_toList, List.length_map, lenL] at h
    generalize SetTable.insertAt es p (mh P w k, Value.ref x) = ens at er es1 ⊢
    generalize L.take p ++ (x, k) :: L.drop p = L1 at pm lenL q3' er
    refine wpAny_bind (wpAny_storeSet_of ho hd ?_ (by rw [es1, sizeLine_eq]; omega))
    have sb : Heap.SameBut a s.heap (s.heap.update a (Obj.putSet ens t2)) := Heap.SameBut.update ..
    have ho1 := store_at (es' := ens) (t' := t2) ho hd
    generalize s.heap.update a (Obj.putSet ens t2) = h1 at sb ho1 ⊢
    have nf : t2.tooFull = false := by
      unfold SetTable.tooFull
      rw [decide_eq_false_iff_not, q9', List.length_map, q4, m7]
      omega
    have fin := go h1 L1 ens (ep + 1) t2 sb ⟨⟨_, ho1, ⟨hex.1, hex.2.1, hex.2.2⟩, rfl⟩, er, q3', fun p hp => by
      rcases List.mem_cons.mp (pm.mem_iff.mp hp) with e | hp
      · rw [e]; exact isM_same hx ho hd sb
      · exact isM_same (G.tup p hp) ho hd sb, by rw [q4]; exact m7, by rw [lenL]; exact few⟩ pm
    first
      | (refine wp_if_neg (by simp [nf]) ?_; exact wpAny_pure fin)
      | (refine wpAny_bind ?_; refine wp_if_neg (by simp [nf]) ?_; exact wpAny_pure (wpAny_pure fin))
  by_cases pl : t1.plain = true
  · first
      | (refine wpAny_bind ?_; refine wp_if_pos pl ?_; exact byValT hx both)
      | exact wp_if_pos pl (wpAny_bind (byValT hx both))
  · first
      | (refine wpAny_bind ?_; refine wp_if_neg pl ?_; exact wpAny_pure (both true))
      | exact wp_if_neg pl (wpAny_bind (wpAny_pure (both true)))
      | exact wp_if_neg pl (both true)
end
end SX
set_option maxHeartbeats 4000000
namespace SX
open PySem PySem.Spec PyProof.Rows L2
section
variable {P : Program} {w : World} {A : Around} {E : Value → Shared → Prop}
theorem isM_keep {h h' : Heap} {k : List Key} {b : Addr} (x : IsM P w h k b) (kp : ∀ c o, h.get? c = some o → h'.get? c = some o) : IsM P w h' k b :=
  let ⟨o, items, n, g, r⟩ := x
  ⟨o, items, n, kp b o g, r⟩
theorem Got.keep {h h' : Heap} {a : Addr} {L : List (Addr × List Key)} {es : Array (Int × Value)} {ep : Nat} {t : SetTable} (G : Got P w h a L es ep t) (ka : ∀ o, h.get? a = some o → h'.get? a = some o) (kt : ∀ p ∈ L, IsM P w h' p.2 p.1) : Got P w h' a L es ep t :=
  let ⟨o, ho, r⟩ := G.ob
  { G with ob := ⟨o, ka o ho, r⟩, tup := kt }
theorem fresh {h : Heap} {a : Addr} (ho : h.get? a = some { cls := .type "set", dict := none, data := .set #[] 0 (.fresh 0 0 (!w.params.followText "set-order")) }) : Got P w h a [] #[] 0 (.fresh 0 0 (!w.params.followText "set-order")) := by
  have R := setTR_fresh (P := P) (w := w) ho
  exact ⟨R.ob, rfl, R.tab, fun p hp => by (cases hp), rfl, Nat.zero_le _⟩
/-- the items go in, one by one -/
theorem fill {I S : Addr} {fp wr : List Addr} {n : Nat} {Pv : Nat → Value → Prop} {St : Nat → Heap → Prop} {R : Result → Shared → Prop} (W : Walks P w A.in1 I fp wr n Pv St) (nS : S ∉ fp) (ks : List (Addr × List Key)) (hn : n = ks.length) (few : ks.length ≤ 4) (nd : (ks.map (·.2)).Nodup)
    (hv : ∀ i v, Pv i v → ∃ p, ks[i]? = some p ∧ v = .ref p.1) (h0 : Heap) (hk : ∀ p ∈ ks, IsM P w h0 p.2 p.1) (hS : h0.get? S = none) (hw : ∀ b ∈ wr, h0.get? b = none) (hu : A.in1.units < cLine) :
    ∀ (k i : Nat) (s : Shared), n - i = k → i ≤ n → St i s.heap → (∀ b o, h0.get? b = some o → s.heap.get? b = some o) → (∃ L es ep t, Got P w s.heap S L es ep t ∧ L.Perm (ks.take i)) →
      (∀ h' tk L es ep t, Got P w h' S L es ep t → L.length = ks.length → (∀ b o, h0.get? b = some o → h'.get? b = some o) → R (.ok (.ret .none)) { s with heap := h', toks := tk }) → codeAny (model P w) A (.builtin "set.update.loop" ⟨[.ref S, .ref I], []⟩) R s := by
  have nw : S ∉ wr := fun h => nS (W.sub _ h)
  have old : ∀ {b : Addr} {o : Obj}, h0.get? b = some o → b ∉ wr := fun e hb => by rw [hw _ hb] at e; cases e
  intro k
  induction k with
  | zero =>
    intro i s ek hi st kp ⟨L, es, ep, t, G, pm⟩ go
    have e : i = n := by omega
    subst e
    refine codeAny_builtin F.entry_set_update_loop ?_
    rw [Around.under_plainId F.plain_set_update_loop _]
    show wpAny _ A.in1 (pyNext (.ref I) >>= _) _ _ s
    refine wpAny_bind (W.done s _ _ st fun h' tk mv => ?_)
    have kp' : ∀ b o, h0.get? b = some o → h'.get? b = some o := fun b o e => mv b o (old e) (kp b o e)
    show wpAny _ A.in1 (ret Value.none) _ _ _
    refine wpAny_pure (go h' tk L es ep t (G.keep (fun o e => mv S o nw e) fun p hp => isM_keep (hk p (List.mem_of_mem_take (pm.mem_iff.mp hp))) kp') ?_ kp')
    rw [pm.length_eq, List.length_take]
    omega
  | succ k ih =>
    intro i s ek hi st kp ⟨L, es, ep, t, G, pm⟩ go
    have lt : i < n := by omega
    refine codeAny_builtin F.entry_set_update_loop ?_
    rw [Around.under_plainId F.plain_set_update_loop _]
    show wpAny _ A.in1 (pyNext (.ref I) >>= _) _ _ s
    refine wpAny_bind (W.item i s _ _ lt st fun v h1 tk pv st1 mv => ?_)
    obtain ⟨p, hp, rfl⟩ := hv i v pv
    have kp1 : ∀ b o, h0.get? b = some o → h1.get? b = some o := fun b o e => mv b o (old e) (kp b o e)
    have sub : ∀ q ∈ L, q ∈ ks := fun q hq => List.mem_of_mem_take (pm.mem_iff.mp hq)
    have G1 : Got P w h1 S L es ep t := G.keep (fun o e => mv S o nw e) fun q hq => isM_keep (hk q (sub q hq)) kp1
    have hx : IsM P w h1 p.2 p.1 := isM_keep (hk p (List.mem_of_getElem? hp)) kp1
    have ln : L.length = i := by rw [pm.length_eq, List.length_take]; omega
    have new : ∀ q ∈ L, q.2 ≠ p.2 := fun q hq e => by
      obtain ⟨j, hj⟩ := List.mem_iff_getElem?.mp (pm.mem_iff.mp hq)
      rw [List.getElem?_take] at hj
      split at hj
      · rename_i hji
        have inj := List.pairwise_iff_getElem.mp nd
        obtain ⟨l1, e1⟩ := List.getElem?_eq_some_iff.mp hj
        obtain ⟨l2, e2⟩ := List.getElem?_eq_some_iff.mp hp
        refine inj j i (by rw [List.length_map]; exact l1) (by rw [List.length_map]; exact l2) hji ?_
        rw [List.getElem_map, List.getElem_map, e1, e2]
        exact e
      · cases hj
    show wpAny _ A.in1 (holding [Value.ref p.1] (setAdd S (.ref p.1)) >>= _) _ _ { s with heap := h1, toks := tk }
    refine wpAny_bind (wpAny_holding ?_)
    unfold setAdd
    refine wpAny_holding (wpAny_bind (wpAny_pyHash_tuple hu hx (add (s := { s with heap := h1, toks := tk + (p.2.length + 1) }) G1 hx new hu (by omega) fun h2 L' es' ep' t' sb G2 pm2 => ?_)))
    have kp2 : ∀ b o, h0.get? b = some o → h2.get? b = some o := fun b o e => (sb.2 b (fun z => by rw [z, hS] at e; cases e)).trans (kp1 b o e)
    have st2 : St (i + 1) h2 := W.frame _ h1 _ st1 fun b hb o e => by
      rw [sb.2 b (fun h : b = S => nS (by rw [← h]; exact hb))]
      exact e
    have pm3 : L'.Perm (ks.take (i + 1)) := by
      rw [List.take_succ, hp]
      exact (pm2.trans (pm.cons _)).trans (List.perm_append_singleton p (ks.take i)).symm
    exact wpAny_pure ⟨plainId_quiet F.plain_set_update_loop _, ih (i + 1) _ (by omega) lt st2 kp2 ⟨L', es', ep', t', G2, pm3⟩ fun h3 tk3 L3 es3 ep3 t3 G3 l3 k3 => go h3 tk3 L3 es3 ep3 t3 G3 l3 k3⟩
end
section
variable {P : Program} {w : World} {A : Around} {E : Value → Shared → Prop} {s : Shared}
/-- set(t), t a tuple of different tuples -/
theorem call_set {l : Addr} {items : Array Value} (ks : List (Addr × List Key)) {Q : Value → Shared → Prop} (hh : A.handled = none) (hl : s.heap.IsTuple l items) (hit : items.toList = ks.map fun p => Value.ref p.1) (hk : ∀ p ∈ ks, IsM P w s.heap p.2 p.1) (few : ks.length ≤ 4) (nd : (ks.map (·.2)).Nodup) (hu : A.units + 3 < cLine)
    (go : ∀ (h' : Heap) (tk : Nat) L es ep t, Got P w h' s.heap.objs.size L es ep t → L.length = ks.length → (∀ b o, s.heap.get? b = some o → h'.get? b = some o) → Q (.ref s.heap.objs.size) { s with heap := h', toks := tk }) : wpAny (model P w) A (call (.type "set") [.ref l]) Q E s := by
  have hn : items.size = ks.length := by
    have q := congrArg List.length hit
    rwa [Array.length_toList, List.length_map] at q
  obtain ⟨c, tl, hmro⟩ := F.called_set.mro
  have hmade := F.called_set.made
  have hsub := F.called_set.sub
  refine wpAny_call (codeAny_of_tree ?_)
  show wpAny _ _ (callAny (.type "set") _) _ _ _
  refine wpAny_pure ⟨Code.quiet_builtin _ (by decide +kernel), codeAny_builtin F.entry_type_call ?_⟩
  rw [Around.under_plain (weight_type_call_type "set" [.ref l] []) rfl]
  have h1 := F.called_set.notType
  have h2 := F.called_set.canCreate
  have hct := F.typeCall_set_1 (.ref l)
  repeat (any_goals (first | assumption | wp_step))
  generalize eN : ({ cls := .type "set", dict := none, data := .set #[] 0 (.fresh 0 0 (!w.params.followText "set-order")) } : Obj) = ob
  have fob : ob.isFreed = false := by rw [← eN]; rfl
  refine codeAny_mono (code_set_led1 (.ref l) (E := E) (Q₁ := fun obj s₁ => obj = .ref s.heap.objs.size ∧ s₁ = { s with heap := s.heap.push ob }) (by rw [← eN]; exact ⟨rfl, rfl⟩)) fun r s₁ hr => ?_
  cases r with
  | error e => exact hr
  | ok fl =>
    cases fl with
    | ret obj =>
      obtain ⟨rfl, rfl⟩ := hr
      have gS : (s.heap.push ob).get? s.heap.objs.size = some ob := Heap.get?_push_size _ fob
      have hT : Shared.TypeIs { s with heap := s.heap.push ob } (.ref s.heap.objs.size) "set" := ⟨_, gS, by rw [← eN]⟩
      have hli := F.called_set.init.lookup
      have hbi := F.called_set.init.bind (.ref s.heap.objs.size)
      repeat (any_goals (first | assumption | wp_step))
      refine codeAny_mono (codeAny_call_builtin (R := wants (fun r s₂ => r = .none ∧ ∃ h' tk L es ep t, s₂ = { s with heap := h', toks := tk } ∧ Got P w h' s.heap.objs.size L es ep t ∧ L.length = ks.length ∧ (∀ b o, s.heap.get? b = some o → h'.get? b = some o)) E) F.called_set.init.plain F.entry_set_init
        (check_set_init_1 hT ?_)) fun r₂ s₂ hr₂ => ?_
      · obtain ⟨ol, hol, hcl, nl, hdl⟩ := id hl
        have hl1 : (s.heap.push ob).IsTuple l items := Heap.IsTuple.push hl _
        have hTl : Shared.TypeIs { s with heap := s.heap.push ob } (.ref l) "tuple" := hl1.typeIs
        have hsls := F.sub_tuple_set
        have hslf := F.sub_tuple_frozenset
        have hne : (Value.type "tuple" == Value.type "dict") = false := by decide
        obtain ⟨ocls, odict, odata, oslots⟩ := ol
        simp only at hcl hdl
        subst hcl hdl
        have hol' : (s.heap.push ob).get? l = some { cls := .type "tuple", dict := odict, data := .seq items nl, slots := oslots } := Heap.get?_push_of_some _ hol
        subst eN
        unfold Builtin.«set.__init__» noKeywords Builtin.Frozenset.updateFrom
        generalize hPI : pyIter = PI
        wp_walk
        subst hPI
        generalize eN : ({ cls := .type "set", dict := none, data := .set #[] 0 (.fresh 0 0 (!w.params.followText "set-order")) } : Obj) = ob at gS hl1 ⊢
        refine wpAny_pyIter_tuple hl1 ?_
        refine wpAny_bind (wpAny_runValue ?_)
        have ltl : l < s.heap.objs.size := Heap.lt_size hol
        have sz1 : (s.heap.push ob).objs.size = s.heap.objs.size + 1 := Heap.size_push ..
        have hh3 : A.in1.in1.in1.handled = none := by simp [hh]
        have neI : l ≠ (s.heap.push ob).objs.size := by
          rw [sz1]
          exact Nat.ne_of_lt (Nat.lt_succ_of_lt ltl)
        have nS : s.heap.objs.size ∉ [(s.heap.push ob).objs.size, l] := by
          rw [sz1]
          simp only [List.mem_cons, List.not_mem_nil, or_false, not_or]
          exact ⟨Nat.ne_of_lt (Nat.lt_succ_self _), Nat.ne_of_gt ltl⟩
        have hval : ∀ (i : Nat) (v : Value), items[i]? = some v → ∃ p, ks[i]? = some p ∧ v = .ref p.1 := fun i v hv => by
          have q : items.toList[i]? = some v := by
            rw [Array.getElem?_toList]
            exact hv
          rw [hit, List.getElem?_map] at q
          obtain ⟨p, hp, e⟩ := Option.map_eq_some_iff.mp q
          exact ⟨p, hp, e.symm⟩
        have none_of : ∀ b, s.heap.objs.size ≤ b → s.heap.get? b = none := fun b hb => by
          cases q : s.heap.get? b with
          | none => rfl
          | some o => exact absurd (Nat.lt_of_lt_of_le (Heap.lt_size q) hb) (Nat.lt_irrefl _)
        refine fill (Walks.tuple hh3 _ l neI items) nS ks hn few nd hval s.heap hk (none_of _ (Nat.le_refl _)) (fun b hb => none_of b (by rw [List.mem_singleton.mp hb, sz1]; exact Nat.le_succ _)) hu (items.size - 0) 0 _ (by omega) (Nat.zero_le _)
          ⟨⟨_, Heap.get?_push_size _ rfl, rfl, rfl⟩, Heap.IsTuple.push hl1 _⟩ (fun b o e => Heap.get?_push_of_some _ (Heap.get?_push_of_some _ e)) ⟨[], #[], 0, _, fresh (by rw [eN]; exact Heap.get?_push_of_some _ gS), .refl _⟩ fun h' tk L es ep t G ln kp => ?_
        show wpAny _ _ _ _ _ _
        refine wpAny_pure ?_
        show wpAny _ _ (ret Value.none) _ _ _
        exact wpAny_pure ⟨rfl, h', tk, L, es, ep, t, rfl, G, ln, kp⟩
      · cases r₂ with
        | error e => exact hr₂
        | ok fl₂ =>
          cases fl₂ with
          | ret r =>
            obtain ⟨rfl, h', tk, L, es, ep, t, rfl, G, ln, kp⟩ := hr₂
            repeat (any_goals (first | assumption | wp_step))
            exact go _ _ _ _ _ _ G ln kp
          | _ => exact hr₂.elim
    | _ => exact hr.elim
end
end SX
set_option maxHeartbeats 4000000
/-! len(set(t)) -/
namespace SX
open PySem PySem.Spec PyProof.Rows L2
theorem items_of {P : Program} {w : World} : ∀ {k : List Key} {us : List Value}, Vals (k.map kV) us → ItemsAre (mixKind P w) k us
  | [], _, .nil => .nil
  | _ :: _, _, .cons r t => .cons (kV_is r) (items_of t)
theorem isM_of {X : Cx} {pins : List (Addr × Obj)} {σ : L2.St} {H : Hp} {s : Shared} {b : Addr} {k : List Key} (I : L2.Inv X pins σ H s) (h : SqT X.K H b (k.map kV)) : IsM X.prog X.w s.heap k b := by
  obtain ⟨its, rv, ⟨o, ho, hc, n, hd⟩, _⟩ := I.tuple h
  exact ⟨o, its.toArray, n, ho, hc, hd, items_of (by simpa using rv)⟩
def tLenSetM (K : PySem.W.Frag) (ta : TE) : TE := fun σ H Q => ta σ H fun x H1 => ∃ (l : Addr) (L : List (Addr × List Key)), x = V.ref l ∧ SqT K H1 l (L.map fun p => .ref p.1) ∧ L.length ≤ 4 ∧ (∀ p ∈ L, SqT K H1 p.1 (p.2.map kV)) ∧ (L.map (·.2)).Nodup ∧ Q (.int (L.length : Nat)) H1
theorem pe_lenSetM {X : Cx} {a : Expr} {ta : TE} {p p2 q pos : Pos} (hu : X.A.units + 3 < cLine) (hg : Gl X "len") (hm : X.mg "len" = none) (hg2 : Gl X "set") (hm2 : X.mg "set" = none) (ha : PE X a ta) (hc : X.calm = true := by rfl)
    (na : starEach [a] X.env = (false, eval a X.env) :: starEach [] X.env := by rfl) : PE X (.Call (.Name "len" p) [.Call (.Name "set" p2) [a] [] q] [] pos) (tLenSetM X.K ta) := by
  refine ⟨fun pins s σ H Q I h => Call_ (ld_blt I hg hm boot_len ?_)⟩
  refine PyProof.Rows.callWith_builtin1 (PyProof.Rows.args_cons ?_ rfl) rfl rfl
  refine Call_ (ld_blt I hg2 hm2 boot_set ?_)
  refine PyProof.Rows.callWith_type1 (PyProof.Rows.args_cons (thn (ha.run pins s σ H _ I h) fun v s1 ⟨x, H1, I1, r1, q1⟩ => PyProof.Rows.args_nil ?_) na) na rfl
  obtain ⟨l, L, rfl, hq, few, ht, nd, go⟩ := q1
  cases r1
  obtain ⟨its, rv, pl, _⟩ := I1.tuple hq
  refine call_set L (I1.ok.hd hc) (show s1.heap.IsTuple l its.toArray from pl) (by simpa using SM.refs_vals rv) (fun p hp => isM_of I1 (ht p hp)) few nd hu fun h' tk L' es ep t G ln kp => PyProof.Rows.args_nil ?_
  obtain ⟨o, ho, hex, hd⟩ := G.ob
  have I2 : L2.Inv X pins σ H1 { s1 with heap := h', toks := tk } := I1.kept kp
  have es1 : es.size = L.length := (Got.size (s := { s1 with heap := h', toks := tk }) G).trans ln
  exact call_len_set ho hex hd (Got.fits (s := { s1 with heap := h', toks := tk }) G) (by rw [es1]; omega) ⟨.int (L.length : Nat), H1, I2.tok _, ⟨_, by rw [es1]⟩, go⟩
end SX
namespace RunX
open PySem PySem.Spec PyProof.Rows L2 He PO SM SX
variable {K : PySem.W.Frag} {E : XK}
instance (te : TE) [e : EvE K E te] : EvE K E (tLenSetM K te) where
  run := fun σ S => bindE (e.run σ S) fun x S1 => match x with
    | .ref n => (match S1[n]? with
      | some (.tup xs) => (match keyedD S1 xs with
        | some L => if L.length ≤ 4 ∧ (L.map (·.2)).Nodup then retS (.int (L.length : Nat)) S1 else none
        | none => none)
      | _ => none)
    | _ => none
  good := fun {σ S r} h w => bind_good (te := te) h w fun {x S1 r} l wx h => by
    split at h
    · split at h
      · split at h
        · split at h
          · exact ret_good h rfl
          · cases h
        · cases h
      · cases h
    · cases h
  ok := fun {σ S r ρ H Q} h w R p => bind_ok (te := te) h w R p fun {x S1 ρ1 H1} l wx h R1 F1 eσ p => by
    split at h
    · split at h
      · rename_i xs e1
        split at h
        · rename_i L hL
          split at h
          · rename_i c
            obtain ⟨ex, ht⟩ := keyedD_ok R1 hL
            have g := SqT.of (K := K) (R1.get e1).1
            have em : xs.map (dV K ρ1) = (L.map fun p => (ρ1.getD p.1 0, p.2)).map fun p => V.ref p.1 := by
              rw [ex, List.map_map, List.map_map]
              rfl
            rw [em] at g
            refine ⟨_, L.map fun p => (ρ1.getD p.1 0, p.2), rfl, g, by rw [List.length_map]; exact c.1, fun q hq => ?_, ?_, ?_⟩
            · obtain ⟨z, hz, rfl⟩ := List.mem_map.mp hq
              exact ht z hz
            · rw [List.map_map]
              exact c.2
            · rw [List.length_map]
              exact ret_post (E := E) h R1 p
          · cases h
        · cases h
      · cases h
    · cases h
end RunX
set_option maxHeartbeats 4000000
/-! raise C(e), C an own exception class whose __init__ keeps its argument. -/
namespace RunX
open PySem PySem.Spec PyProof.Rows L2 He PO
def tRaiseV (C : Addr) (f : Str) (ta : TA) : L2.St → Hp → XK → Prop := fun σ H E => ta σ H fun vs H1 => ∃ v, vs = [v] ∧ ∀ d, H1 d = none → E (.ref C) (some d) (upd H1 d (.xd [(f, v)]))
theorem pmk_excI {X : Cx} {C fI : Addr} {x f B newId initId : String} {bm bmB : List Value} {a : Expr} {ta : TA} {p pos : Pos} {k : Nat} (T : PySem.XT.ClsT X.K x f B newId initId bm bmB C fI) (NT : PySem.XT.NameT f) (gC : X.mg x = some (.ref C)) (rs : Raises X (.ref C)) (hr : Room k X.A) (ha : PA X [a] ta) (hg : Gl X x := by rfl)
    (hdb : ((PySem.Str.ofString x : Str) == ("__debug__" : Str)) = false := by decide)
    (he : starEach (a :: []) X.env = (false, eval a X.env) :: starEach [] X.env := by rfl) (hpl : (backTo pos (starEach [] X.env)).any (·.1) = false := by rfl) :
    PMk X (.Call (.Name x p) [a] [] pos) (tRaiseV C f ta) := by
  intro pins s σ H Q I h
  refine wpAny_Call_Name_kw (ld_glob I hg gC ?_ hdb)
  refine PySem.W.callWith_K (h₀ := X.base) I.ok.mod.kin T.kC (thn (ha.run pos pins s σ H _ I h) fun us s1 hh => ?_) he hpl
  obtain ⟨vs, H1, I1, r1, v, ev, q1⟩ := hh
  subst ev
  refine ⟨I1.kIn, ?_⟩
  cases r1 with
  | cons rv rn =>
    rename_i v' us'
    cases rn
    show wpAny _ _ (call (.ref C) [v']) _ _ _
    have hlim := I1.nolimit
    obtain ⟨hp, g, dr, tk, os⟩ := s1
    refine wpAny_call (PySem.XT.t_made T NT I1.kIn hlim (by have := hr.dp; omega) fun h' tk' e d t1 M => ?_)
    obtain ⟨G', g1, g2⟩ := restrict h' fun b => decide (b ≠ e)
    have gk : ∀ b, b ≠ e → G'.get? b = h'.get? b := fun b hb => g1 b (decide_eq_true hb)
    have ge : G'.get? e = none := g2 e (by simp)
    have old : ∀ b o, hp.get? b = some o → G'.get? b = some o := fun b o q => (gk b (Nat.ne_of_lt (Nat.lt_of_lt_of_le (Heap.lt_size q) M.new))).trans (M.keep b o q)
    have ob : ObjOk X.prog X.w (upd H1 d (.xd [((f : Str), v)])) G' d (.xd [((f : Str), v)]) :=
      ⟨_, M.ns.at (fun o q => (gk d M.dne).trans q), fun f => relO_one rv f⟩
    have J : L2.Inv X pins σ (upd H1 d (.xd [((f : Str), v)])) ⟨G', g, dr, tk', os⟩ := I1.laid (t' := tk') old M.dbig ob
    have ke : ∀ b o, G'.get? b = some o → h'.get? b = some o := fun b o q => by
      by_cases hb : b = e
      · rw [hb, ge] at q
        cases q
      · exact (gk b hb).symm.trans q
    have n2 : (upd H1 d (.xd [((f : Str), v)])) e = none := by
      rw [upd_ne (Ne.symm M.dne)]
      exact I1.hok.fresh M.new
    exact ⟨e, _, _, ⟨G', g, dr, tk', os⟩, _, .ref C, some d, rfl, J, ke, ge, M.obj, ⟨rfl, rfl⟩, rfl, rfl, n2, rfl, I1.bare, rs, q1 d (I1.hok.fresh M.dbig)⟩
variable {K : PySem.W.Frag} {E : XK}
/-- raise C(e) -/
def tRaiseI (C : Addr) (f : Str) (ta : TA) (E : XK) : TS := fun _ σ H => tRaiseV C f ta σ H E
instance (C : Str) (f : Str) (ta : TA) [a : EvA K E ta] : EvS K E (tRaiseI (ga K C) f ta E) where
  run := fun σ S => match a.run σ S with
    | some (.ret [v] S1) => some (.exc C (some S1.length) (S1 ++ [.xd [(f, v)]]))
    | some (.exc D d S1) => some (.exc D d S1)
    | _ => none
  good := fun {σ S o} h w => by
    split at h
    · rename_i v S1 h1
      cases h
      have l := of_decide_eq_true (ba (a.good h1 w)).1
      exact decide_eq_true (by rw [List.length_append]; omega)
    · rename_i D d S1 h1
      cases h
      exact a.good h1 w
    · cases h
  ok := fun {σ S o ρ H D} h w R p => by
    split at h
    · rename_i v S1 h1
      cases h
      obtain ⟨l, wv⟩ := ba (a.good h1 w)
      obtain ⟨wv, _⟩ := ba (show (wf _ v && true) = true from wv)
      refine a.ok h1 w R fun ρ1 H1 R1 F1 => ⟨_, rfl, fun d hd => ?_⟩
      obtain ⟨R2, F2⟩ := R1.new (o := .xd [(f, v)]) hd (by show (wf _ v && true) = true; rw [wv]; rfl)
      have z := p _ _ R2 (F1.trans R1 F2)
      have e : (some S1.length).map (fun n => (ρ1 ++ [d]).getD n 0) = some d := by
        rw [← R1.len]
        simp [List.getD_eq_getElem?_getD]
      rw [e] at z
      exact z
    · rename_i D d S1 h1
      cases h
      exact a.ok h1 w R p
    · cases h
end RunX
set_option maxHeartbeats 4000000
/-! max(xs), xs a list of one item of any kind. -/
namespace MX1
open PySem PySem.Spec PyProof.Rows L2
section
variable {prog : Program} {w : World} {A : Around} {E : Value → Shared → Prop} {s : Shared}
theorem turns {R : Result → Shared → Prop} {I S : Addr} {fp wr : List Addr} {Pv : Nat → Value → Prop} {St : Nat → Heap → Prop} (W : Walks prog w A.in1 I fp wr 1 Pv St) (nS : S ∉ fp) {c : Nat} (st : St 0 s.heap) (hS : s.heap.get? S = some { cls := .type "list", dict := none, data := .seq #[] c, slots := #[] })
    (go : ∀ v h' tk, Pv 0 v → (∀ b o, b ∉ wr → b ≠ S → s.heap.get? b = some o → h'.get? b = some o) → R (.ok (.ret v)) { s with heap := h', toks := tk }) : codeAny (model prog w) A (.builtin "max.loop" ⟨[.ref I, .none, .ref S], []⟩) R s := by
  have nw : S ∉ wr := fun h => nS (W.sub _ h)
  have en : (toString "max" ++ toString ".loop" : String) = "max.loop" := by decide
  refine codeAny_builtin F.entry_max_loop ?_
  rw [Around.under_plainId F.plain_max_loop _]
  show wpAny _ A.in1 (seqItems? (.ref S) >>= _) _ _ s
  refine wpAny_bind (wpAny_seqItems hS rfl ?_)
  show wpAny _ A.in1 (tryCatch (pyNext (.ref I)) _ >>= _) _ _ s
  refine wpAny_bind (wpAny_tryCatch (W.item 0 s _ _ Nat.one_pos st fun v h1 tk pv st1 k1 => ?_))
  have hS1 := k1 S _ nw hS
  show wpAny _ A.in1 (updateSeq S (fun _ => #[v, v]) >>= _) _ _ _
  refine wpAny_bind (wpAny_updateSeq hS1 rfl ?_)
  rw [en]
  refine wpAny_pure ⟨plainId_quiet F.plain_max_loop _, codeAny_builtin F.entry_max_loop ?_⟩
  have st2 : St 1 (h1.update S (Obj.mapSeq fun _ => #[v, v])) := W.frame _ _ _ st1 fun b hb o e => (Heap.get?_update_other _ _ (fun h : S = b => nS (by rw [h]; exact hb))).trans e
  have hS2 : (h1.update S (Obj.mapSeq fun _ => #[v, v])).get? S = some _ := Heap.get?_update_self _ hS1 rfl
  rw [Around.under_plainId F.plain_max_loop _]
  show wpAny _ A.in1 (seqItems? (.ref S) >>= _) _ _ _
  refine wpAny_bind (wpAny_seqItems (s := { s with heap := h1.update S (Obj.mapSeq fun _ => #[v, v]), toks := tk }) hS2 rfl ?_)
  show wpAny _ A.in1 (tryCatch (pyNext (.ref I)) _ >>= _) _ _ _
  refine wpAny_bind (wpAny_tryCatch (W.done { s with heap := h1.update S (Obj.mapSeq fun _ => #[v, v]), toks := tk } _ _ st2 fun h3 tk3 k3 => ?_))
  have hS3 := k3 S _ nw hS2
  show wpAny _ A.in1 (updateSeq S (fun _ => #[]) >>= _) _ _ _
  refine wpAny_bind (wpAny_updateSeq hS3 rfl (wpAny_bind (wpAny_letGo (wpAny_pure ?_))))
  exact go v _ tk3 pv fun b o hw hb e => (Heap.get?_update_other _ _ (Ne.symm hb)).trans (k3 b o hw ((Heap.get?_update_other _ _ (Ne.symm hb)).trans (k1 b o hw e)))
theorem max_one {l : Addr} {v : Value} {Q : Value → Shared → Prop} (hh : A.handled = none) (hl : s.heap.IsList l #[v]) (go : ∀ h' tk, (∀ b o, s.heap.get? b = some o → h'.get? b = some o) → Q v { s with heap := h', toks := tk }) : wpAny (model prog w) A (call (.builtin "max") [.ref l]) Q E s := by
  have en : (toString "max" ++ toString ".loop" : String) = "max.loop" := by decide
  refine call_function_tree F.kind_max F.plain_max F.entry_max (F.args_max1 _) ?_
  show wpAny _ A.in1 (Builtin.Builtins.bindParams "max" ["key", "default"] 0 ⟨[], []⟩ >>= _) _ _ s
  refine wpAny_bind (wpAny_of_eq (show Builtin.Builtins.bindParams "max" ["key", "default"] 0 ⟨[], []⟩ = pure [none, none] from rfl) ?_)
  refine wpAny_bind (wpAny_pure (wpAny_bind (wpAny_pyIter_list hl ?_)))
  have lt : l < s.heap.objs.size := let ⟨_, e, _⟩ := hl; Heap.lt_size e
  have W := Walks.list (prog := prog) (w := w) (A := A.in1) (show A.in1.handled = none from hh) s.heap.objs.size l (Nat.ne_of_lt lt) #[v]
  generalize eI : s.heap.push { cls := .type "list_iterator", data := .fields #[.ref l, .int 0 0] } = h1
  have sz : h1.objs.size = s.heap.objs.size + 1 := by rw [← eI]; exact Heap.size_push ..
  have k1 : ∀ b o, s.heap.get? b = some o → h1.get? b = some o := fun b o e => by rw [← eI]; exact Heap.get?_push_of_some _ e
  have st : h1.IsListIter s.heap.objs.size l 0 ∧ h1.IsList l #[v] := by
    rw [← eI]
    exact ⟨⟨_, Heap.get?_push_size _ rfl, rfl, rfl⟩, hl.push _⟩
  refine wpAny_bind (wpAny_newObj_type ?_)
  rw [en]
  have nS : h1.objs.size ∉ [s.heap.objs.size, l] := by
    rw [sz]
    simp only [List.mem_cons, List.not_mem_nil, or_false, not_or]
    exact ⟨Nat.ne_of_gt (Nat.lt_succ_self _), Nat.ne_of_gt (Nat.lt_succ_of_lt lt)⟩
  refine wpAny_pure ⟨plainId_quiet F.plain_max_loop _, turns W nS (W.frame _ _ _ st fun b _ o e => Heap.get?_push_of_some _ e) (Heap.get?_push_size _ rfl) fun u h' tk hu hk => ?_⟩
  have eu : v = u := by simpa using hu
  subst eu
  refine go h' tk fun b o e => ?_
  have hlt : b < s.heap.objs.size := Heap.lt_size e
  exact hk b o (by simp; exact Nat.ne_of_lt hlt) (by rw [sz]; exact Nat.ne_of_lt (Nat.lt_succ_of_lt hlt)) (Heap.get?_push_of_some _ (k1 b o e))
end
def rMax1 (K : PySem.W.Frag) : List V → Hp → VK → Prop := fun vs H Q => ∃ a x, vs = [V.ref a] ∧ SqL K H a [x] ∧ Q x H
theorem cr_max1 {X : Cx} (hc : X.calm = true) : CallR X (.builtin "max") (rMax1 X.K) := by
  intro pins s σ H vs us Q I r h
  obtain ⟨a, x, rfl, hs, q⟩ := h
  obtain ⟨its, rv, hl, _⟩ := I.list hs
  rw [Vals.ref1 r]
  cases rv with
  | cons rx rr =>
    cases rr
    exact max_one (I.ok.hd hc) hl.isList fun h' tk kp => ⟨x, H, I.kept kp, rx, q⟩
end MX1
namespace RunX
open PySem PySem.Spec PyProof.Rows L2 He PO MX1
variable {K : PySem.W.Frag} {E : XK}
instance : EvB K (rMax1 K) where
  run := fun ds S => match ds with
    | [x] => (match lstD S x with
      | some [y] => if wf S.length y = true then retS y S else none
      | _ => none)
    | _ => none
  good := fun {ds S q} h w => by
    split at h
    · split at h
      · split at h
        · rename_i c
          exact ret_good h c
        · cases h
      · cases h
    · cases h
  ok := fun {ds S q ρ H Q E} h w R p => by
    split at h
    · split at h
      · rename_i y hl
        split at h
        · obtain ⟨n, rfl, e, g, _⟩ := lstD_ok R hl
          exact ⟨_, dV K ρ y, rfl, SqL.of g, ret_post (E := E) h R p⟩
        · cases h
      · cases h
    · cases h
end RunX
set_option maxHeartbeats 4000000
/-! several except clauses, some of them with a name -/
namespace TM
open PySem PySem.Spec PyProof.Rows L2
/-- one clause: the class that it names, the slot of its name (if it has one), its suite's reading -/
structure Arm where
  c : Value
  i : Option Nat
  ts : Addr → Value → Option Addr → TS
/-- behind a suite with a name the name is gone -/
def asD (i : Nat) (D : Ends) : Ends := { nx := fun τ G => D.nx (τ.set i none) G, rt := D.rt, bk := fun τ G => D.bk (τ.set i none) G, ct := fun τ G => D.ct (τ.set i none) G }
def wArm (A : Arm) (a : Addr) (cls : Value) (d : Option Addr) (D : Ends) (σ : L2.St) (H : Hp) : Prop := match A.i with
  | none => A.ts a cls d D σ H
  | some i => A.ts a cls d (asD i D) (σ.set i (some (.ref a))) H
def wManyA (K : PySem.W.Frag) (Wout : WX) (D : Ends) : List Arm → WX
  | [] => Wout
  | A :: r => fun cls d σ H => ∃ b, PySem.W.exmOne K cls A.c = some b ∧ (b = true → ∀ a, H a = none → wArm A a cls d D σ H) ∧ (b = false → wManyA K Wout D r cls d σ H)
/-- the clause's suite has the reading ts -/
abbrev SuiteOk (X : Cx) (suite : List Stmt) (ts : Addr → Value → Option Addr → TS) : Prop :=
  ∀ (a : Addr) (oe : Obj) (cls : Value) (d : Option Addr) (pn : List (Addr × Obj)), Zc cls d oe → (∃ vs, oe.data = .fields vs) → PSs (X.suite a ((a, oe) :: pn)) suite (ts a cls d)
inductive HdsA (X : Cx) : List ExceptHandler → List Arm → Prop
  | nil : HdsA X [] []
  | cons {x : Str} {c : Value} {ts : Addr → Value → Option Addr → TS} {b₀ : Stmt} {suite : List Stmt} {np q : Pos} {hds : List ExceptHandler} {l : List Arm} (hc : Names X x c)
      (hsu : SuiteOk X (b₀ :: suite) ts) (r : HdsA X hds l) : HdsA X (.ExceptHandler (some (.Name x np)) none (b₀ :: suite) q :: hds) (⟨c, none, ts⟩ :: l)
  | as_ {x n : Str} {i : Nat} {c : Value} {ts : Addr → Value → Option Addr → TS} {b₀ : Stmt} {suite : List Stmt} {np q : Pos} {hds : List ExceptHandler} {l : List Arm} (hi : X.N[i]? = some n) (hln : X.env.kindOf n = some .local) (hc : Names X x c)
      (hsu : SuiteOk X (b₀ :: suite) ts) (r : HdsA X hds l) : HdsA X (.ExceptHandler (some (.Name x np)) (some n) (b₀ :: suite) q :: hds) (⟨c, some i, ts⟩ :: l)
section
variable {X : Cx} {pins : List (Addr × Obj)} {D : Ends}
/-- the body's end is the statement's -/
theorem sp_tr (ok : X.Ok) {pn : List (Addr × Obj)} {xe : Value → Shared → Prop} {f : Flow} {t : Shared} (h : SP (X.tr (X.pn ++ pins) xe) [] D f t) : SP X pins D f t := by
  cases f with
  | ret u => obtain ⟨v, τ, G, J, r, q⟩ := h; exact ⟨v, τ, G, J.ofTry ok, r, q⟩
  | next => obtain ⟨τ, G, J, q⟩ := h; exact ⟨τ, G, J.ofTry ok, q⟩
  | brk => obtain ⟨τ, G, J, q⟩ := h; exact ⟨τ, G, J.ofTry ok, q⟩
  | cont => obtain ⟨τ, G, J, q⟩ := h; exact ⟨τ, G, J.ofTry ok, q⟩
/-- a suite's end is the statement's -/
theorem sp_suite (ok : X.Ok) {a : Addr} {oe : Obj} {f : Flow} {t : Shared} (h : SP (X.suite a ((a, oe) :: (X.pn ++ pins))) [] D f t) : SP X pins D f t := by
  cases f with
  | ret u => obtain ⟨v, τ, G, J, r, q⟩ := h; exact ⟨v, τ, G, J.unsuite ok, r, q⟩
  | next => obtain ⟨τ, G, J, q⟩ := h; exact ⟨τ, G, J.unsuite ok, q⟩
  | brk => obtain ⟨τ, G, J, q⟩ := h; exact ⟨τ, G, J.unsuite ok, q⟩
  | cont => obtain ⟨τ, G, J, q⟩ := h; exact ⟨τ, G, J.unsuite ok, q⟩
/-- .. the name is unbound -/
theorem sp_gone (ok : X.Ok) {a : Addr} {oe : Obj} {n : Str} {i : Nat} {q : Pos} {f : Flow} {t : Shared} (hN : X.N.Nodup) (hi : X.N[i]? = some n) (hln : X.env.kindOf n = some .local) (h : SP (X.suite a ((a, oe) :: (X.pn ++ pins))) [] (asD i D) f t) :
    wpAny (model X.prog X.w) X.A (do bindName X.env n .none; unbindBehindTheSuite X.env n q) (fun _ t' => SP X pins D f t') X.xe t := by
  cases f with
  | ret u => obtain ⟨v, τ, G, J, r, q⟩ := h; exact gone_ok (J.unsuite ok) hN hi hln fun t' J' => ⟨v, _, _, J', r, q⟩
  | next => obtain ⟨τ, G, J, q⟩ := h; exact gone_ok (J.unsuite ok) hN hi hln fun t' J' => ⟨_, _, J', q⟩
  | brk => obtain ⟨τ, G, J, q⟩ := h; exact gone_ok (J.unsuite ok) hN hi hln fun t' J' => ⟨_, _, J', q⟩
  | cont => obtain ⟨τ, G, J, q⟩ := h; exact gone_ok (J.unsuite ok) hN hi hln fun t' J' => ⟨_, _, J', q⟩
/-- the class's name is looked up within the test -/
theorem named {x : Str} {c : Value} {np : Pos} {a : Addr} {oe : Obj} {σ : L2.St} {H : Hp} {t : Shared} {Q E : Value → Shared → Prop} (S : Inv (X.suite a ((a, oe) :: (X.pn ++ pins))) [] σ H t) (hc : Names X x c) (q : Q c t) :
    wpAny (model X.prog X.w) (X.A.mark (some (.ref a))) (eval (.Name x np) X.env) Q E t := by
  rcases hc with ⟨hg, hd, hm | ⟨hm, hv, hn⟩⟩
  · exact ld_glob S hg hm q hd
  · exact ld_blt S hg hm hv q hn hd
theorem ps_try_arms {body : List Stmt} {h₀ : ExceptHandler} {hds : List ExceptHandler} {l : List Arm} {pos : Pos} {tb : WX → TS} {Wout : WX} (hs : X.stack = X.env :: X.outer) (hf : X.env.frame = some X.env.locals) (hN : X.N.Nodup) (tk : Takes X Wout)
    (hb : ∀ (W : WX) (pn : List (Addr × Obj)) (xe : Value → Shared → Prop), Takes (X.tr pn xe) W → PassesOwn (model X.prog X.w) X.A X.env xe → PSs (X.tr pn xe) body (tb W))
    (hh : HdsA X (h₀ :: hds) l) : PS X (.Try body (h₀ :: hds) [] [] pos) (fun D σ H => tb (wManyA X.K Wout D l) D σ H) := by
  refine ⟨fun pins s σ H D I h => wpAny_Try_except ?_⟩
  have ok := I.ok
  have frm : X.A.frames = some (X.env :: X.outer) := hs ▸ ok.frames
  refine wpAny_mono ((hb _ _ (fun e t => wpAny (model X.prog X.w) X.A (noteFrame e X.env) (fun _ t1 => wpAny (model X.prog X.w) X.A (setFlight e none) (fun _ t2 =>
    wpAny (model X.prog X.w) X.A (handleBy e X.env (h₀ :: hds)) (SP X pins D) X.xe t2) X.xe t1) X.xe t) (fun u t caught => ?_) PassesOwn.looking).run [] s σ H D (I.toTry _) h) (fun f t hsp => ?_) fun _ _ z => z
  case refine_2 =>
    have z := sp_tr (pn := []) ok hsp
    cases f with
    | next => exact wpAny_execs_nil z
    | ret u => exact z
    | brk => exact z
    | cont => exact z
  obtain ⟨a, B, sI, pinsI, σ1, H1, cls, d, rfl, JI, nb, up, sky, na, os, ag, wish⟩ := caught
  have J : Inv X pins σ1 H1 sI := JI.ofTry ok
  rw [hs] at sky
  show wpAny _ X.A (noteFrame (.ref a) X.env) _ _ _
  refine Sky.land Zc.steady frm hf sky fun g fly more => ?_
  have upg := up.trans more
  obtain ⟨oe, vs, at_, z, dat⟩ := fly.there
  have out : a ∉ frs (X.env :: X.outer) := fun m => by
    obtain ⟨_, o, e, no⟩ := fly.2.2.1.mem m
    rw [at_] at e
    cases e
    exact no _ dat
  have nL : a ≠ X.env.locals := fun e => out (List.mem_filterMap.mpr ⟨_, List.mem_cons_self, by rw [hf, e]⟩)
  have nF : a ∉ X.fs := fun m => by
    obtain ⟨e, he, q⟩ := List.mem_filterMap.mp m
    exact out (List.mem_filterMap.mpr ⟨e, List.mem_cons_of_mem _ he, q⟩)
  have Jg : Inv X pins σ1 H1 { t with heap := g } := J.landed nb fly.1 upg os ag
  have Sg := Jg.suite at_ dat na nL nF
  have looks : PySem.W.Looks (model X.prog X.w) g (typeOf (.ref a)) cls := fun A Q E s k q => wpAny_typeOf_ref (k _ _ at_) (by rw [z.1]; exact q)
  have step : ∀ {hs' : List ExceptHandler} {l' : List Arm}, HdsA X hs' l' → wManyA X.K Wout D l' cls d σ1 H1 → wpAny (model X.prog X.w) X.A (handleBy (.ref a) X.env hs') (SP X pins D) X.xe { t with heap := g } := by
    intro hs' l' hk
    induction hk with
    | nil =>
      intro w
      refine wpAny_handleBy_nil ?_
      obtain ⟨_, _, _, oe', vs', T, oT, ts', e1, _, e2, e3, _⟩ := id fly
      unfold PySem.passOn
      refine wpAny_bind (wpAny_field e1 e2 e3 ?_)
      rw [if_neg (show ¬ ((Value.ref T == Value.none) = true) from by simp)]
      have fin : wpAny (model X.prog X.w) X.A (setFlight (.ref a) X.env.frame) (fun _ t4 => wpAny (model X.prog X.w) X.A (throw (.ref a) : Sem Flow) (SP X pins D) X.xe t4) X.xe { t with heap := g } := by
        rw [hf]
        exact HandSPX.setFlight_upZ fly fun g4 sky4 up4 => wpAny_throw (tk _ _ ⟨a, B, sI, pins, σ1, H1, cls, d, rfl, J, nb, upg.trans up4, .inr (.inr (by rw [hs]; exact sky4)), na, os, ag, w⟩)
      first
        | exact wpAny_bind (wpAny_pure (wpAny_bind fin))
        | exact wpAny_bind fin
    | cons hc hsu r ih =>
      rintro ⟨b, hb1, yes, no⟩
      refine wpAny_handleBy_cons (codeAny_handlers_test ?_) nofun
      refine named Sg hc ((PySem.W.exm_one (M := model X.prog X.w) Jg.kIn looks hb1).here ?_)
      cases b with
      | false => exact ih (no rfl)
      | true =>
        refine codeAny_handlers_suite (HandSPX.lands_againZ fly fun g4 fly4 up4 => ?_)
        have J4 : Inv X pins σ1 H1 { t with heap := g4 } := J.landed nb fly4.1 (upg.trans up4) os ag
        obtain ⟨oe4, vs4, at4, z4, dat4⟩ := fly4.there
        exact wpAny_mono ((hsu a oe4 cls d (X.pn ++ pins) z4 ⟨_, dat4⟩).run [] _ _ H1 _ (J4.suite at4 dat4 na nL nF) (yes rfl a na)) (fun f t6 h6 => sp_suite ok h6 |> fun y => by cases f <;> exact y) fun _ _ z => z.elim
    | as_ hi hln hc hsu r ih =>
      rintro ⟨b, hb1, yes, no⟩
      refine wpAny_handleBy_cons (codeAny_handlers_test ?_) nofun
      refine named Sg hc ((PySem.W.exm_one (M := model X.prog X.w) Jg.kIn looks hb1).here ?_)
      cases b with
      | false => exact ih (no rfl)
      | true =>
        refine codeAny_handlers_suite_as (HandSPX.lands_againZ fly fun g4 fly4 up4 => ?_)
        have J4 : Inv X pins σ1 H1 { t with heap := g4 } := J.landed nb fly4.1 (upg.trans up4) os ag
        obtain ⟨oe4, vs4, at4, z4, dat4⟩ := fly4.there
        refine store_ok (X := X.suite a ((a, oe4) :: (X.pn ++ pins))) (v := .ref a) (J4.suite at4 dat4 na nL nF) hN hi (.inl hln) rfl (fun t5 S5 => ?_) (.inr hln)
        exact wpAny_mono ((hsu a oe4 cls d (X.pn ++ pins) z4 ⟨_, dat4⟩).run [] t5 _ H1 _ S5 (yes rfl a na)) (fun f t6 h6 => by
          cases f <;> exact sp_gone ok hN hi hln h6) fun _ _ z => z.elim
  exact step hh wish
end
end TM
set_option maxHeartbeats 4000000
namespace L2
open PySem PySem.Spec PyProof.Rows
/-- a def that is called where nothing is being shown (repr) -/
structure FnG (P : Program) (w : World) (K : PySem.W.Frag) (mg : Str → Option Value) (base : Heap) (CX : CXT) (k : Nat) (f : Addr) (fd : FuncData) (ps : List Str) (sp : Sp) : Prop where
  len : ∀ vs H Q E, sp vs H Q E → vs.length = ps.length
  run : ∀ (A : Around) (outer : List Env) (s : Shared) (H : Hp) (args : Args) (us : List Value) (vs : List V) (Q : VK) (E : XK), A.guards = some [] → Room k A → Env0 P w K mg base A outer s H → BindsTo s fd args (ps.zip us) → Vals vs us → sp vs H Q E →
    codeAny (model P w) A (.call (.ref f) args) (CR CX outer P w H s Q E) s
def HasG (P : Program) (w : World) (K : PySem.W.Frag) (mg : Str → Option Value) (base : Heap) (CX : CXT) (k : Nat) (x : Str) (ps : List Str) (sp : Sp) : Prop :=
  mg x = some (.ref (He.ga K x)) ∧ PySem.W.keepIn K (.ref (He.ga K x)) = true ∧ ∃ fd, FnG P w K mg base CX k (He.ga K x) fd ps sp ∧ Binds K fd ps []
theorem hasG_of {P : Program} {w : World} {K : PySem.W.Frag} {mg : Str → Option Value} {base : Heap} {CX : CXT} {k : Nat} {x : Str} {params : Arguments} {body : List Stmt} {scope : Scope} {fd : FuncData} {N ps : List Str} {sp : Sp}
    (g : mg x = some (.ref (He.ga K x))) (F : FunD K x x params body scope [] [] (He.ga K x) fd) (S : FnScope N ps scope)
    (hb : ∀ (kV doc pm : Value) (an : Option Addr) (cdv ct : Value) (us : List Value), us.length = ps.length → bindArgs (PySem.W.fnOf x x params body scope .none kV doc pm an cdv ct) ⟨us, []⟩ = pure (ps.zip us))
    (len : ∀ vs H Q E, sp vs H Q E → vs.length = ps.length)
    (hbody : ∀ (cdv : Value) (A : Around) (outer : List Env) (s : Shared) (H : Hp) (vs : List V) (Q : VK) (E : XK), A.guards = some [] → Room k (A.deeper (envOfC x scope s.heap.objs.size (He.ga K x) cdv)) → sp vs H Q E →
      ∃ t, PSs (cxOf CX P w K mg base N x scope (He.ga K x) cdv A outer s H E) body t ∧ t { nx := fun _ H' => Q .non H', rt := Q } (start N vs) H) : HasG P w K mg base CX (k + 1) x ps sp := by
  refine ⟨g, F.kp, fd, ⟨len, fun A outer s H args us vs Q E hg hr e0 hbd r h => ?_⟩, F.bindsN hb⟩
  obtain ⟨oc, od, dV, kV, doc, pm, an, cdv, ct, osl, rfl, lk, hcd, _, _⟩ := F.ex
  exact LamX.run_ofS lk hcd S hr e0 hbd r (len _ _ _ _ h) fun hr' => hbody _ A outer s H vs Q E hg hr' h
section
variable {X : Cx} {CX : CXT} {k : Nat} {f : Addr} {fd : FuncData} {ps : List Str} {sp : Sp} {E : XK} {x : Str} {p pos : Pos} {e : Expr} {es : List Expr} {t : TA}
theorem pe_callG (F : FnG X.prog X.w X.K X.mg X.base CX k f fd ps sp) (gd : X.A.guards = some []) (hr : Room k X.A) (hg : Gl X x) (hm : X.mg x = some (.ref f)) (hk : PySem.W.keepIn X.K (.ref f) = true) (hb : Binds X.K fd ps []) (hx : Passes CX X E)
    (ha : PA X (e :: es) t) (hdb : (x == ("__debug__" : Str)) = false := by decide) (he : starEach (e :: es) X.env = (false, eval e X.env) :: starEach es X.env := by rfl) (hpl : (backTo pos (starEach es X.env)).any (·.1) = false := by rfl) :
    PE X (.Call (.Name x p) (e :: es) [] pos) (tCall sp [] E t) := by
  refine ⟨fun pins s σ H Q I h => ?_⟩
  refine wpAny_Call_Name_kw (ld_glob I hg hm ?_ hdb)
  refine PySem.W.callWith_K (h₀ := X.base) I.ok.mod.kin hk (thn (ha.run pos pins s σ H _ I h) fun us s1 ⟨vs, H1, J, r, q⟩ => ⟨J.kIn, ?_⟩) he hpl
  have q' : sp vs H1 Q E := by
    have z : sp (vs ++ []) H1 Q E := q
    rw [List.append_nil] at z
    exact z
  have ln : us.length = ps.length := by
    rw [← r.length]
    exact F.len _ _ _ _ q'
  have bd := hb s1 us J.kIn (by rw [List.append_nil]; exact ln)
  rw [List.append_nil] at bd
  refine wpAny_call (codeAny_mono (F.run X.A X.stack s1 H1 ⟨us, []⟩ us vs Q E gd hr J.env0 bd r q') fun r s' hq => ?_)
  match r, hq with
  | .error e, hq => exact hx pins σ H1 s1 e s' J hq
  | .ok (.ret u), hq => exact J.after hq
  | .ok .next, hq => exact hq.elim
  | .ok .brk, hq => exact hq.elim
  | .ok .cont, hq => exact hq.elim
end
end L2
set_option maxHeartbeats 4000000
namespace L2
open PySem PySem.Spec PyProof.Rows
/-- from the head's heap: the law is called, nothing is being shown, one table of codes (of the def itself) -/
theorem law_callG {P : Program} {w : World} {K : PySem.W.Frag} {mg mb : Str → Option Value} {CX : CXT} {k : Nat} {fa a cd Pt : Addr} {fd : FuncData} {x : Str} {sp : Sp} {s : Shared} {us : List Value} {ns : List Int}
    (KX : K.In s.heap) (gl : s.heap.Ns mainGlobals mg) (bl : s.heap.Ns builtinsNs mb) (bo : ∀ x : Str, x ≠ "__name__" → mb x = bootBuiltins x) (lim : s.heap.NoLimit) (gens : s.gens = #[])
    (hT : s.heap.get? Pt = some { cls := .none, data := .fields #[] }) (nT : K.lookup Pt = none) (C : PySem.W.CodeHd s.heap cd Pt)
    (hbm : ∃ (bm : Addr) (ob : Obj), mg "__builtins__" = some (.ref bm) ∧ bm ≠ builtinsNs ∧ s.heap.get? bm = some ob ∧ ob.cls = .type "module" ∧ ob.dict = some builtinsNs ∧ ob.data = .plain)
    (ha : s.heap.get? a = some { cls := .type "list", data := .seq us.toArray }) (hi : IntsAre us ns) (hl : ns.length ≤ sizeLine) (hr : Room k callerA)
    (F : ∀ base : Heap, K.In base → base.Ns mainGlobals mg → LamX.TabB base mg cd Pt → FnG P w K mg base CX k fa fd [x] sp) (hbind : ∀ (s : Shared) (u : Value), BindsTo s fd ⟨[u], []⟩ [(x, u)])
    (hsp : ∀ H : Hp, H Pt = some (.tbl #[]) → SqL K H a (ns.map V.int) → sp [.ref a] H (fun v _ => v = .bl true) fun _ _ _ => False)
    (hCX : ∀ H e s', CX [] H s (fun _ _ _ => False) e s' → False) :
    codeAny (model P w) callerA (.call (.ref fa) ⟨[.ref a], []⟩) (fun r s' => r = .ok (.ret (.bool true)) ∧ OldK s.heap s'.heap ∧ s'.os = s.os ∧ AllBare s'.gens) s := by
  have rv := vals_ints hi
  have lenV := hi.length
  have naP : a ≠ Pt := fun z => by
    rw [z, hT] at ha
    have z' : Data.fields #[] = Data.seq us.toArray _ := congrArg Obj.data (Option.some.inj ha)
    cases z'
  have go : ∀ H : Hp, H Pt = some (.tbl #[]) → (∀ b, b ≠ Pt → H b ≠ none → b = a ∧ K.lookup a = none ∧ ∃ xs, H b = some (.frz { cls := .type "list", data := .seq us.toArray } (.lst xs))) → SqL K H a (ns.map V.int) → HOk P w H s.heap →
      codeAny (model P w) callerA (.call (.ref fa) ⟨[.ref a], []⟩) (fun r s' => r = .ok (.ret (.bool true)) ∧ OldK s.heap s'.heap ∧ s'.os = s.os ∧ AllBare s'.gens) s := by
    intro H hP hO hS hok
    have clear : ∀ {b : Addr} {o : Obj}, s.heap.get? b = some o → b ≠ Pt → (b = a → K.lookup a = none → False) → (hidT s.heap H).get? b = some o := fun {b o} e n1 n2 => by
      refine hidT_get e ?_
      cases q : H b with
      | none => rfl
      | some u =>
        obtain ⟨z1, z2, _⟩ := hO b n1 (by rw [q]; simp)
        exact (n2 z1 z2).elim
    have notP : ∀ {b : Addr} {o : Obj}, s.heap.get? b = some o → o.data ≠ .fields #[] → b ≠ Pt := fun {b o} e n z => by
      rw [z, hT] at e
      cases e
      exact n rfl
    have notA : ∀ {b : Addr} {o : Obj}, s.heap.get? b = some o → (∀ vs n, o.data ≠ .seq vs n) → b = a → K.lookup a = none → False := fun {b o} e n z _ => by
      rw [z, ha] at e
      cases e
      exact n _ _ rfl
    have nsB : ∀ {b : Addr} {m : Str → Option Value}, s.heap.Ns b m → (hidT s.heap H).Ns b m := fun {b m} ⟨o, es, ep, e, d, r⟩ =>
      ⟨o, es, ep, clear e (notP e (by rw [d]; exact fun z => nomatch z)) (notA e fun vs n => by rw [d]; exact fun z => nomatch z), d, r⟩
    have KB : K.In (hidT s.heap H) := fun b o e => clear (KX b o e) (fun z => by rw [z, nT] at e; cases e) (fun z1 z2 => by rw [z1, z2] at e; cases e)
    have M : L2.Mod K mg (hidT s.heap H) := ⟨KB, nsB gl, ⟨mb, nsB bl, bo⟩, let ⟨mc, h1, h2⟩ := lim; ⟨mc, nsB h1, h2⟩⟩
    have TB : LamX.TabB (hidT s.heap H) mg cd Pt := by
      refine ⟨?_, ?_, fun z => ?_⟩
      · obtain ⟨o, vs, file, tf, flags, tg, inF, text, tt, e1, r1, r2, r3, rest⟩ := C
        refine ⟨o, vs, file, tf, flags, tg, inF, text, tt, clear e1 (notP e1 fun z => ?_) (notA e1 fun vs' n => by rw [r2]; exact fun z => nomatch z), r1, r2, r3, rest⟩
        rw [r2] at z
        cases z
        simp at r3
      · obtain ⟨bm, ob, b1, b2, b3, b4, b5, b6⟩ := hbm
        have nG : bm ≠ mainGlobals := fun q => by
          obtain ⟨o, es, ep, e, d, _⟩ := gl
          rw [q, e] at b3
          cases b3
          rw [d] at b6
          cases b6
        have nP := notP b3 (by rw [b6]; exact fun z => nomatch z)
        exact ⟨bm, ob, b1, b2, nG, nP, clear b3 nP (notA b3 fun vs n => by rw [b6]; exact fun z => nomatch z), b4, b5, b6⟩
      · obtain ⟨o, es, ep, e, d, _⟩ := gl
        exact notP e (by rw [d]; exact fun z => nomatch z) z
    have e0 : Env0 P w K mg (hidT s.heap H) callerA [] s H := ⟨rfl, M, fun b o e => of_hidT e, Nat.le_of_eq (hidT_size _ _), trivial, fun b hb => absurd (show b ∈ ([] : List Addr) from hb) (by simp), hok, .of_eq gens⟩
    refine codeAny_mono ((F _ KB (nsB gl) TB).run callerA [] s H ⟨[.ref a], []⟩ [.ref a] [.ref a] _ _ rfl hr e0 (hbind s (.ref a)) (.cons rfl .nil) (hsp H hP hS)) fun r s' h => ?_
    match r, h with
    | .error e, h => exact (hCX H e s' h).elim
    | .ok .next, h => exact h.elim
    | .ok .brk, h => exact h.elim
    | .ok .cont, h => exact h.elim
    | .ok (.ret u), h =>
      obtain ⟨v, H', os, bare, un, hok', r', q⟩ := h
      have q' : v = .bl true := q
      subst q'
      obtain rfl : u = Value.bool true := r'
      have kept : ∀ b o, b ≠ Pt → s.heap.get? b = some o → s'.heap.get? b = some o := fun b o nb e => by
        cases q : H b with
        | none => exact un.keep b o e q (by intro z; exact absurd (show b ∈ ([] : List Addr) from z) (by simp)) (by simp)
        | some u =>
          obtain ⟨_, _, xs, z⟩ := hO b nb (by rw [q]; simp)
          obtain ⟨e1, _⟩ := hok b _ z
          obtain ⟨e2, _⟩ := hok' b _ (un.frzs b _ _ z)
          rw [e] at e1
          cases e1
          exact e2
      obtain ⟨more, grew⟩ := un.tbls Pt #[] hP
      have tab' : s'.heap.get? Pt = some { cls := .none, data := .fields (#[] ++ more) } := hok' Pt _ grew
      refine ⟨rfl, ⟨fun b o e => ?_, fun b o e => ?_⟩, os, bare⟩
      · by_cases hb : b = Pt
        · subst hb
          rw [hT] at e
          cases e
          exact .inr (.inl ⟨(C.tab hT).isCodeTable, rfl, #[], more, rfl, tab'⟩)
        · exact .inl (kept b o hb e)
      · by_cases hb : b = Pt
        · subst hb
          exact ⟨_, tab'⟩
        · exact ⟨o, kept b o hb e⟩
  cases hk : K.lookup a with
  | some o =>
    have e := KX a o hk
    rw [ha] at e
    cases e
    refine go (fun b => if b = Pt then some (.tbl #[]) else none) (if_pos rfl) (fun b n z => absurd (if_neg n) z) (.inr ⟨_, us.toArray, _, hk, rfl, rfl, rfl, by rw [List.size_toArray, lenV]; exact hl, by simpa using rv⟩) (fun b u z => ?_)
    by_cases hb : b = Pt
    · have z' := (if_pos hb).symm.trans z
      cases z'
      subst hb
      exact hT
    · have z' := (if_neg hb).symm.trans z
      cases z'
  | none =>
    refine go (fun b => if b = Pt then some (.tbl #[]) else if b = a then some (.frz { cls := .type "list", data := .seq us.toArray } (.lst (ns.map V.int))) else none) (if_pos rfl) (fun b n z => ?_) (.inl (.inr ⟨{ cls := .type "list", data := .seq us.toArray }, (if_neg naP).trans (if_pos rfl)⟩)) (fun b u z => ?_)
    · by_cases hb : b = a
      · exact ⟨hb, hk, _, (if_neg n).trans (if_pos hb)⟩
      · exact absurd ((if_neg n).trans (if_neg hb)) z
    · by_cases hb : b = Pt
      · have z' := (if_pos hb).symm.trans z
        cases z'
        subst hb
        exact hT
      · have z1 := (if_neg hb).symm.trans z
        by_cases hb2 : b = a
        · have z' := (if_pos hb2).symm.trans z1
          cases z'
          subst hb2
          exact ⟨ha, by rw [List.length_map]; exact hl, us, _, rv, ha⟩
        · have z' := (if_neg hb2).symm.trans z1
          cases z'
end L2
namespace LamX
open PySem PySem.Spec PyProof.Rows L2
/-- what is known of the law at the head's heap h, its table Pt still empty -/
def LawG (l : PySem.W.OpenLaw) (w : World) (K : PySem.W.Frag) (CX : CXT) (k n : Nat) (x : Str) (mg : Str → Option Value) (fa : Addr) (h : Heap) : Prop :=
  ∃ (fd : FuncData) (cd Pt : Addr) (sp : Sp), h.get? Pt = some { cls := .none, data := .fields #[] } ∧ K.lookup Pt = none ∧ PySem.W.CodeHd h cd Pt ∧ (∀ (s : Shared) (u : Value), BindsTo s fd ⟨[u], []⟩ [(x, u)]) ∧
    (∀ (H : Hp) (a : Addr) (ns : List Int), ns.length ≤ n → (∀ z ∈ ns, Builtin.Int.intBits z ≤ 1048576) → H Pt = some (.tbl #[]) → SqL K H a (ns.map V.int) → sp [.ref a] H (fun v _ => v = .bl true) fun _ _ _ => False) ∧
    ∀ base : Heap, K.In base → base.Ns mainGlobals mg → TabB base mg cd Pt → FnG l.prog w K mg base CX k fa fd [x] sp
theorem walk_ofOwnG {l : PySem.W.OpenLaw} {n k : Nat} {q : Program} {loose : List Str} {XP : (Str → Option Value) → Heap → Prop} {YP : World → Heap → Prop} {d : DefRec} {CX : World → CXT} {x : Str}
    (hn : l.most = some n) (hn2 : n ≤ sizeLine) (hdf : d.params.defaults = []) (hr : Room k callerA) (hrec : ((recsOf q).any fun e => e.name == d.name) = true)
    (F : ∀ (w : World) (mg : Str → Option Value) (fa : Addr) (h : Heap), YP w h → h.Ns mainGlobals mg → mg d.name = some (.ref fa) → ∃ K : PySem.W.Frag, K.In h ∧ (OwnTab K fa h → LawG l w K (CX w) k n x mg fa h))
    (hCX : ∀ (w : World) (H : Hp) (s : Shared) (e : Value) (s' : Shared), CX w [] H s (fun _ _ _ => False) e s' → False) :
    PySem.W.WalkO q loose XP YP l.row.toRowW d [] (fun f vs => PySem.call f vs) := by
  refine Att.attach_callB hn hdf fun w s₀ s₁ mg mb fa o pm cd doc a vs ns G Y ho hd hcd hmg hobj hints hlen hbits hg => ?_
  obtain ⟨K, KX, F2⟩ := F w mg fa _ Y G.T.g hmg
  have own : OwnTab K fa s₁.heap := fun c P o1 fd1 e dd vs1 sl k1 k2 k3 k4 k5 => by
    obtain ⟨dL, hm, hn1⟩ := List.any_eq_true.mp hrec
    have hn2 : dL.name = d.name := beq_iff_eq.mp hn1
    obtain ⟨a', o', fd', c', P', h1, h2, h3, h4, h5, h6⟩ := G.T.tab dL hm
    rw [hn2, hmg] at h1
    cases h1
    have g1 := KX _ _ k1
    rw [g1] at h2
    cases h2
    rw [k2] at h3
    cases h3
    rw [k3] at h4
    cases h4
    obtain ⟨⟨oc, vc, e1, _, e3, e4⟩, hP⟩ := h6
    have g2 := KX _ _ k4
    rw [g2] at e1
    cases e1
    cases e3
    rw [k5] at e4
    cases e4
    exact hP
  obtain ⟨fd, c1, P1, sp, hT, nT, C, hb, hsp, hF⟩ := F2 own
  exact law_callG KX G.T.g G.T.b G.T.builtins G.T.nolimit hg hT nT C G.T.bmain hobj hints (Nat.le_trans hlen hn2) hr hF hb (fun H hH hS => hsp H a ns hlen hbits hH hS) fun H e s' => hCX w H s₁ e s'
end LamX
set_option maxHeartbeats 4000000
namespace L2
open PySem PySem.Spec PyProof.Rows
/-- a def that raises nothing, called where an exception p is handled; p may be asked for its class -/
structure FnP (P : Program) (w : World) (K : PySem.W.Frag) (mg : Str → Option Value) (base : Heap) (CX : CXT) (k : Nat) (f : Addr) (fd : FuncData) (ps : List Str) (sp : Addr × Obj → Sp) : Prop where
  len : ∀ p vs H Q E, sp p vs H Q E → vs.length = ps.length
  run : ∀ (A : Around) (outer : List Env) (s : Shared) (H : Hp) (args : Args) (us : List Value) (vs : List V) (Q : VK) (E : XK) (p : Addr × Obj), L2H.RoomH k A → L2H.PinOk outer H s p → Env0 P w K mg base A outer s H → BindsTo s fd args (ps.zip us) → Vals vs us → sp p vs H Q E →
    codeAny (model P w) A (.call (.ref f) args) (CR CX outer P w H s Q E) s
theorem fnP_of {CX : CXT} {P : Program} {w : World} {K : PySem.W.Frag} {mg : Str → Option Value} {base : Heap} {k : Nat} {f : Addr} {name qual : Str} {params : Arguments} {body : List Stmt} {scope : Scope} {fd : FuncData} {N ps : List Str} {sp : Addr × Obj → Sp}
    (F : FunD K name qual params body scope [] [] f fd) (hq : name = qual) (S : FnScope N ps scope) (len : ∀ p vs H Q E, sp p vs H Q E → vs.length = ps.length)
    (hbody : ∀ (cdv : Value) (A : Around) (outer : List Env) (s : Shared) (H : Hp) (vs : List V) (Q : VK) (E : XK) (p : Addr × Obj), L2H.RoomH k (A.deeper (envOfC qual scope s.heap.objs.size f cdv)) → sp p vs H Q E →
      ∃ t, PSs (L2H.cxH CX P w K mg base N qual scope f cdv A outer s H E p) body t ∧ t { nx := fun _ H' => Q .non H', rt := Q } (L2.start N vs) H) : FnP P w K mg base CX (k + 1) f fd ps sp := by
  obtain ⟨oc, od, dV, kV, doc, pm, an, cdv, ct, osl, rfl, lk, hcd, _, _⟩ := F.ex
  refine ⟨len, fun A outer s H args us vs Q E p hr hpin e0 hb r hsp => ?_⟩
  have ln := len _ _ _ _ _ hsp
  have KX : K.In s.heap := e0.mod.kin.keeps fun b o e => (e0.bs b o e).1
  have lim : s.heap.NoLimit := e0.mod.nolimit.keeps fun b o e => (e0.bs b o e).1
  refine codeAny_call_function hr.depth (KX _ _ lk) rfl S.co S.gen rfl (PySem.W.codeRec_of KX hcd) (hb _ _ _ _ ?_)
  refine wpAny_newFunctionEnv_cells S.kind (fun y hy => ?_) fun env he s1 x => ?_
  · rcases S.par y.1 (List.of_mem_zip hy).1 with q | q
    · exact .inl q
    · exact .inr ⟨q, PySem.W.cellsFrom_some _ _ _ (.inl q)⟩
  subst he
  refine ⟨lim.keeps x.toInCall.keep, codeAny_func ?_⟩
  obtain ⟨t, ht, tq⟩ := hbody cdv A outer s H vs Q E p (hr.deeper _) hsp
  have J := L2H.inv_startH (CX := CX) (E := E) (cd := cdv) S hpin e0 ln r x
  refine wpAny_mono (ht.run [] s1 (L2.start N vs) H _ J tq) (fun fl s' hs => ?_) fun e s' hs => hs
  have fin : ∀ {σ' : St} {H' : Hp} {v : V} {u : Value}, Inv (L2H.cxH CX P w K mg base N qual scope f cdv A outer s H E p) [] σ' H' s' → RelV v u → Q v H' → CE outer P w H s Q u s' := fun {σ' H' v u} I rv q => ⟨v, H', I.os, I.bare, I.base, I.hok, rv, q⟩
  match fl, hs with
  | .ret u, ⟨v, σ', H', I, rv, q⟩ => exact fin I rv q
  | .next, ⟨σ', H', I, q⟩ => exact fin (v := V.non) (u := Value.none) I rfl q
  | .brk, ⟨_, _, _, q⟩ => exact q.elim
  | .cont, ⟨_, _, _, q⟩ => exact q.elim
section
variable {X : Cx} {CX : CXT} {k : Nat} {f : Addr} {fd : FuncData} {ps : List Str} {sp : Addr × Obj → Sp} {E : XK} {x : Str} {q pos : Pos} {e : Expr} {es : List Expr} {t : TA} {p : Addr × Obj}
theorem pe_callP (F : FnP X.prog X.w X.K X.mg X.base CX k f fd ps sp) (hr : L2H.RoomH k X.A) (hp : p ∈ X.pn) (hg : Gl X x) (hm : X.mg x = some (.ref f)) (hk : PySem.W.keepIn X.K (.ref f) = true) (hb : Binds X.K fd ps []) (hx : Passes CX X E)
    (ha : PA X (e :: es) t) (hdb : (x == ("__debug__" : Str)) = false := by decide) (he : starEach (e :: es) X.env = (false, eval e X.env) :: starEach es X.env := by rfl) (hpl : (backTo pos (starEach es X.env)).any (·.1) = false := by rfl) :
    PE X (.Call (.Name x q) (e :: es) [] pos) (tCall (sp p) [] E t) := by
  refine ⟨fun pins s σ H Q I h => ?_⟩
  refine wpAny_Call_Name_kw (ld_glob I hg hm ?_ hdb)
  refine PySem.W.callWith_K (h₀ := X.base) I.ok.mod.kin hk (thn (ha.run pos pins s σ H _ I h) fun us s1 ⟨vs, H1, J, r, q⟩ => ⟨J.kIn, ?_⟩) he hpl
  have q' : sp p vs H1 Q E := by
    have z : sp p (vs ++ []) H1 Q E := q
    rw [List.append_nil] at z
    exact z
  have ln : us.length = ps.length := by
    rw [← r.length]
    exact F.len _ _ _ _ _ q'
  have bd := hb s1 us J.kIn (by rw [List.append_nil]; exact ln)
  rw [List.append_nil] at bd
  have P1 := J.pin p (List.mem_append_left _ hp)
  have hpin : L2H.PinOk X.stack H1 s1 p := ⟨P1.1, P1.2.1, fun hm => (List.mem_cons.mp (J.stkSub p.1 hm)).elim P1.2.2.1 P1.2.2.2.1, P1.2.2.2.2⟩
  refine wpAny_call (codeAny_mono (F.run X.A X.stack s1 H1 ⟨us, []⟩ us vs Q E p hr hpin J.env0 bd r q') fun r s' hq => ?_)
  match r, hq with
  | .error e, hq => exact hx pins σ H1 s1 e s' J hq
  | .ok (.ret u), hq => exact J.after hq
  | .ok .next, hq => exact hq.elim
  | .ok .brk, hq => exact hq.elim
  | .ok .cont, hq => exact hq.elim
end
end L2
set_option maxHeartbeats 4000000
/-! Small things that each law's texts want. -/
namespace PB
open PySem PySem.Spec PyProof.Rows L2 He Hx Hy PO
theorem memb {α : Type} [DecidableEq α] {x : α} {l : List α} (h : (l.any fun y => decide (y = x)) = true) : x ∈ l := by
  obtain ⟨y, hy, e⟩ := List.any_eq_true.mp h
  have e2 := of_decide_eq_true e
  rw [← e2]
  exact hy
theorem excC_ok {K : PySem.W.Frag} {C : Addr} (h : excCB K C = true) : ExcC K C := by
  obtain ⟨h1, h⟩ := ba h
  obtain ⟨h2, h⟩ := ba h
  obtain ⟨h3, h⟩ := ba h
  obtain ⟨h4, h⟩ := ba h
  obtain ⟨h5, h⟩ := ba h
  obtain ⟨h6, h⟩ := ba h
  obtain ⟨h7, h8⟩ := ba h
  exact ⟨eqO_ok h1, eqO_ok h2, of_decide_eq_true h3, h4, eqO_ok h5, eqO_ok h6, of_decide_eq_true h7, of_decide_eq_true h8⟩
theorem clsB_ok {K : PySem.W.Frag} {C : Addr} {bm : List Value} {newId : String} (h : clsB K C bm newId = true) :
    ∃ nm q N bs sn sub ab col dd k0 k1 k2 k3 k5, K.lookup C = some (excClassObj nm q C N bs bm true sn sub ab col dd k0 k1 k2 k3 k5 newId) := by
  unfold clsB at h
  split at h
  · rename_i dd cd sl hk
    split at h
    · rename_i k0 k1 k2 k3 n k5 hs
      obtain ⟨h1, h⟩ := ba h
      obtain ⟨h2, h⟩ := ba h
      obtain ⟨h3, h4⟩ := ba h
      have e1 := of_decide_eq_true h1
      have e2 := of_decide_eq_true h2
      have e4 : cd.hasDel = false := by simpa using h4
      obtain ⟨nm, bs, mro, ns, qn, hd, sn, sub, ab, col, del⟩ := cd
      dsimp only at e2 h3 e4
      subst e1 e2 h3 e4
      have hsl : sl = #[k0, k1, k2, k3, some (.builtin n), k5] := by
        obtain ⟨l⟩ := sl
        simp only at hs
        rw [hs]
      subst hsl
      exact ⟨nm, qn, ns, bs, sn, sub, ab, col, dd, k0, k1, k2, k3, k5, hk⟩
    · cases h
  · cases h
theorem initB_ok {K : PySem.W.Frag} {x f : String} {bm : List Value} {newId : String} (h : initB K x f bm newId = true) :
    (∃ nm q N bs sn sub ab col dd k0 k1 k2 k3 k5, K.lookup (ga K x) = some (excClassObj nm q (ga K x) N bs bm true sn sub ab col dd k0 k1 k2 k3 k5 newId)) ∧ PySem.W.findIn K (.ref (ga K x)) "__setattr__" = some (some (.builtin "object.__setattr__")) ∧
    PySem.W.findIn K (.ref (ga K x)) f = some none ∧ PySem.W.findIn K (.ref (ga K x)) "__init__" = some (some (.ref (ma K (ga K x) "__init__"))) ∧ PySem.W.typeIn K (.ref (ma K (ga K x) "__init__")) = some (.type "function") ∧ PySem.W.keepIn K (.ref (ga K x)) = true := by
  obtain ⟨h1, h⟩ := ba h
  obtain ⟨h2, h⟩ := ba h
  obtain ⟨h3, h⟩ := ba h
  obtain ⟨h4, h⟩ := ba h
  obtain ⟨h5, h6⟩ := ba h
  exact ⟨clsB_ok h1, eqO_ok h2, eqO_ok h3, eqO_ok h4, of_decide_eq_true h5, h6⟩
theorem tail_Index : PySem.XT.TailT "IndexError" tlIndexError := ⟨by decide +kernel, by decide +kernel, by decide +kernel, by decide +kernel, fun self => by kernel_rfl⟩
theorem tail_Over : PySem.XT.TailT "OverflowError" tlOverflowError := ⟨by decide +kernel, by decide +kernel, by decide +kernel, by decide +kernel, fun self => by kernel_rfl⟩
theorem tail_Arith : PySem.XT.TailT "ArithmeticError" tlArithmeticError := ⟨by decide +kernel, by decide +kernel, by decide +kernel, by decide +kernel, fun self => by kernel_rfl⟩
/-! ### properties -/
theorem prop_ok {K : PySem.W.Frag} {C f : Str} (h : propB K C f = true) : PropOf K (ga K C) f (ma K (ga K C) f) (propG K C f) := by
  obtain ⟨h1, h⟩ := ba h
  obtain ⟨h2, h⟩ := ba h
  obtain ⟨h3, h⟩ := ba h
  split at h
  · rename_i g rest e
    have e2 := of_decide_eq_true h
    subst e2
    exact ⟨eqO_ok h1, eqO_ok h2, of_decide_eq_true h3, rest, e⟩
  · cases h
/-! ### isinstance(x, C) -/
theorem isf_ok {K : PySem.W.Frag} {x : Str} (h : isfB K x = true) : IsF K (ga K x) := by
  obtain ⟨h1, h⟩ := ba h
  obtain ⟨h2, h⟩ := ba h
  obtain ⟨h3, h⟩ := ba h
  obtain ⟨h4, h⟩ := ba h
  obtain ⟨h5, h⟩ := ba h
  obtain ⟨h6, h7⟩ := ba h
  have t : ∀ t, (["NoneType", "bool", "int", "str", "list", "tuple", "dict"].any fun y => decide (y = t)) = true → PySem.W.kitOne K (.type t) (.ref (ga K x)) = some false := fun t q => of_decide_eq_true (List.all_eq_true.mp h2 t (memb q))
  exact ⟨t _ (by decide +kernel), t _ (by decide +kernel), t _ (by decide +kernel), t _ (by decide +kernel), t _ (by decide +kernel), t _ (by decide +kernel), t _ (by decide +kernel), of_decide_eq_true h3,
    fun e => .ins e (cls_ok h1) (eqO_ok h4) (eqO_ok h5) (of_decide_eq_true h6) (of_decide_eq_true h7)⟩
end PB
namespace L2
open PySem PySem.Spec PyProof.Rows
/-! ### a def of the text, its promise, its binding -/
def HasA (P : Program) (w : World) (K : PySem.W.Frag) (mg : Str → Option Value) (base : Heap) (CX : CXT) (k : Nat) (f : Addr) (ps : List Str) (sp : Sp) : Prop :=
  PySem.W.keepIn K (.ref f) = true ∧ ∃ fd, FnOk P w K mg base CX k f fd ps sp ∧ Binds K fd ps []
def Has (P : Program) (w : World) (K : PySem.W.Frag) (mg : Str → Option Value) (base : Heap) (CX : CXT) (k : Nat) (x : Str) (ps : List Str) (sp : Sp) : Prop :=
  mg x = some (.ref (He.ga K x)) ∧ HasA P w K mg base CX k (He.ga K x) ps sp
theorem hasA_of {P : Program} {w : World} {K : PySem.W.Frag} {mg : Str → Option Value} {base : Heap} {CX : CXT} {k : Nat} {f : Addr} {x q : Str} {params : Arguments} {body : List Stmt} {scope : Scope} {fd : FuncData} {N ps : List Str} {sp : Sp}
    (F : FunD K x q params body scope [] [] f fd) (S : FnScope N ps scope)
    (hb : ∀ (kV doc pm : Value) (an : Option Addr) (cdv ct : Value) (us : List Value), us.length = ps.length → bindArgs (PySem.W.fnOf x q params body scope .none kV doc pm an cdv ct) ⟨us, []⟩ = pure (ps.zip us))
    (len : ∀ vs H Q E, sp vs H Q E → vs.length = ps.length)
    (hbody : ∀ (cdv : Value) (A : Around) (outer : List Env) (s : Shared) (H : Hp) (vs : List V) (Q : VK) (E : XK), Room k (A.deeper (envOfC q scope s.heap.objs.size f cdv)) → sp vs H Q E →
      ∃ t, PSs (cxOf CX P w K mg base N q scope f cdv A outer s H E) body t ∧ t { nx := fun _ H' => Q .non H', rt := Q } (start N vs) H) : HasA P w K mg base CX (k + 1) f ps sp :=
  ⟨F.kp, fd, F.ok S len hbody, F.bindsN hb⟩
theorem has_of {P : Program} {w : World} {K : PySem.W.Frag} {mg : Str → Option Value} {base : Heap} {CX : CXT} {k : Nat} {x : Str} {params : Arguments} {body : List Stmt} {scope : Scope} {fd : FuncData} {N ps : List Str} {sp : Sp}
    (g : mg x = some (.ref (He.ga K x))) (F : FunD K x x params body scope [] [] (He.ga K x) fd) (S : FnScope N ps scope)
    (hb : ∀ (kV doc pm : Value) (an : Option Addr) (cdv ct : Value) (us : List Value), us.length = ps.length → bindArgs (PySem.W.fnOf x x params body scope .none kV doc pm an cdv ct) ⟨us, []⟩ = pure (ps.zip us))
    (len : ∀ vs H Q E, sp vs H Q E → vs.length = ps.length)
    (hbody : ∀ (cdv : Value) (A : Around) (outer : List Env) (s : Shared) (H : Hp) (vs : List V) (Q : VK) (E : XK), Room k (A.deeper (envOfC x scope s.heap.objs.size (He.ga K x) cdv)) → sp vs H Q E →
      ∃ t, PSs (cxOf CX P w K mg base N x scope (He.ga K x) cdv A outer s H E) body t ∧ t { nx := fun _ H' => Q .non H', rt := Q } (start N vs) H) : Has P w K mg base CX (k + 1) x ps sp :=
  ⟨g, hasA_of F S hb len hbody⟩
theorem fnG_at {P : Program} {w : World} {K : PySem.W.Frag} {mg : Str → Option Value} {base : Heap} {CX : CXT} {k : Nat} {x : Str} {f : Addr} {params : Arguments} {body : List Stmt} {scope : Scope} {fd : FuncData} {N ps : List Str} {sp : Sp} {cdv : Value}
    (F : FunD K x x params body scope [] [] f fd) (hc : fd.code = cdv) (S : FnScope N ps scope) (len : ∀ vs H Q E, sp vs H Q E → vs.length = ps.length)
    (hbody : ∀ (A : Around) (outer : List Env) (s : Shared) (H : Hp) (vs : List V) (Q : VK) (E : XK), A.guards = some [] → Room k (A.deeper (envOfC x scope s.heap.objs.size f cdv)) → sp vs H Q E →
      ∃ t, PSs (cxOf CX P w K mg base N x scope f cdv A outer s H E) body t ∧ t { nx := fun _ H' => Q .non H', rt := Q } (start N vs) H) : FnG P w K mg base CX (k + 1) f fd ps sp := by
  obtain ⟨oc, od, dV, kV, doc, pm, an, cdv', ct, osl, rfl, lk, hcd, _, _⟩ := F.ex
  have e : cdv' = cdv := hc
  subst e
  exact ⟨len, fun A outer s H args us vs Q E hg hr e0 hbd r h => LamX.run_ofS lk hcd S hr e0 hbd r (len _ _ _ _ h) fun hr' => hbody A outer s H vs Q E hg hr' h⟩
end L2
set_option maxHeartbeats 0
set_option maxHeartbeats 4000000
namespace RunX
open PySem PySem.Spec PyProof.Rows L2 He
variable {K : PySem.W.Frag} {E : XK}
/-! texts: x < y, x + y; the length of a dict -/
def rLtS : R2 := fun x y H Q => ∃ i j, x = .str i ∧ y = .str j ∧ Q (.bl (decide (i.cps.toList < j.cps.toList))) H
theorem op_ltS {X : Cx} : OpR X (compareOp .Lt) rLtS := op_lt_str
def rAddS : R2 := fun x y H Q => ∃ i j, x = .str i ∧ y = .str j ∧ i.length + j.length ≤ sizeLine ∧ Q (.str (i ++ j)) H
theorem op_addS {X : Cx} : OpR X (binaryOp .Add) rAddS := op_add_str
def rLenD : List V → Hp → VK → Prop := fun xs H Q => ∃ a kvs, xs = [V.ref a] ∧ H a = some (.dK kvs) ∧ Q (.int kvs.length) H
theorem call_lenDD {X : Cx} : CallR X (.builtin "len") rLenD := call_lenD
def ltN : List Nat → List Nat → Bool
  | _, [] => false
  | [], _ :: _ => true
  | a :: r, b :: s => if a < b then true else if b < a then false else ltN r s
theorem ltN_eq : ∀ (a b : List Nat), ltN a b = decide (a < b)
  | [], [] => by simp [ltN]
  | _ :: _, [] => by simp [ltN]
  | [], _ :: _ => by simp [ltN]
  | a :: r, b :: s => by
    unfold ltN
    rw [ltN_eq r s]
    by_cases h : a < b
    · simp [h, List.cons_lt_cons_iff]
    · by_cases h2 : b < a
      · have : a ≠ b := by omega
        simp [h, h2, this, List.cons_lt_cons_iff]
      · have e : a = b := by omega
        subst e
        simp [List.cons_lt_cons_iff]
instance : EvR K rLtS where
  run := fun S x y => match x, y with
    | .str i, .str j => retS (.bl (ltN i.cps.toList j.cps.toList)) S
    | _, _ => none
  good := fun {S x y q} h wx wy => by
    split at h
    · exact ret_good h rfl
    · cases h
  ok := fun {S x y q ρ H Q E} h wx wy R p => by
    split at h
    · rw [ltN_eq] at h
      exact ⟨_, _, rfl, rfl, ret_post (E := E) h R p⟩
    · cases h
instance : EvR K rAddS where
  run := fun S x y => match x, y with
    | .str i, .str j => if i.length + j.length ≤ 100000 then retS (.str (i ++ j)) S else none
    | _, _ => none
  good := fun {S x y q} h wx wy => by
    split at h
    · split at h
      · exact ret_good h rfl
      · cases h
    · cases h
  ok := fun {S x y q ρ H Q E} h wx wy R p => by
    split at h
    · split at h
      · rename_i c
        exact ⟨_, _, rfl, rfl, Nat.le_trans c (by decide), ret_post (E := E) h R p⟩
      · cases h
    · cases h
instance : EvB K rLenD where
  run := fun ds S => match ds with
    | [.ref n] => (match S[n]? with
      | some (.dK kvs) => retS (.int kvs.length) S
      | _ => none)
    | _ => none
  good := fun {ds S q} h w => by
    split at h
    · split at h
      · exact ret_good h rfl
      · cases h
    · cases h
  ok := fun {ds S q ρ H Q E} h w R p => by
    split at h
    · split at h
      · rename_i kvs e
        exact ⟨_, _, rfl, (R.get e).1, by rw [List.length_map]; exact ret_post (E := E) h R p⟩
      · cases h
    · cases h
end RunX
set_option maxHeartbeats 4000000
namespace L2
open PySem PySem.Spec PyProof.Rows
theorem Room.u1 {k : Nat} {A : Around} (r : Room k A) : A.units + 1 < cLine := by have := r.un; omega
theorem Room.u3 {k : Nat} {A : Around} (r : Room k A) : A.units + 3 < cLine := by have := r.un; omega
theorem Room.u65 {k : Nat} {A : Around} (r : Room k A) : A.units + 65 < cLine := by have := r.un; omega
end L2
namespace RunX
open PySem PySem.Spec PyProof.Rows L2 He
variable {K : PySem.W.Frag} {E : XK}
instance (te : TE) (i : Nat) [p : PeekE K E te] [e : EvS K E (tAsg te (gName i))] : EvS K E (tLock (tAsg te (gName i))) where
  run := fun σ S => match dictAt S (p.run σ S) with
    | some (n, kvs) => unlockS n kvs (e.run σ (S.set n (.frz kvs)))
    | none => none
  good := fun {σ S o} h w => by
    split at h
    · unfold unlockS at h
      split at h
      · rename_i h1
        cases h
        obtain ⟨l, wv⟩ := ba (e.good h1 (by rw [List.length_set]; exact w))
        rw [List.length_set] at l
        show (decide _ && _) = true
        rw [List.length_set, wv, l]
        rfl
      · rename_i h1
        cases h
        obtain ⟨l, wv⟩ := ba (e.good h1 (by rw [List.length_set]; exact w))
        rw [List.length_set] at l
        show (decide _ && _) = true
        rw [List.length_set, wv, l]
        rfl
      · cases h
    · cases h
  ok := fun {σ S o ρ H D} h w R q => by
    split at h
    · rename_i n kvs hd
      have hs := dictAt_eq hd
      unfold unlockS at h
      split at h
      · rename_i v S' h1
        cases h
        have l := of_decide_eq_true (ba (e.good h1 (by rw [List.length_set]; exact w))).1
        rw [List.length_set] at l
        refine ⟨_, _, (R.get hs).1, trivial, fun od => ?_⟩
        refine e.ok h1 (by rw [List.length_set]; exact w) (lock_in R hs od) fun ρ' H' R' F => ?_
        obtain ⟨a, b, c⟩ := lock_out R hs R' F l
        exact ⟨a, q ρ' _ b c⟩
      · rename_i v S' h1
        cases h
        have l := of_decide_eq_true (ba (e.good h1 (by rw [List.length_set]; exact w))).1
        rw [List.length_set] at l
        refine ⟨_, _, (R.get hs).1, trivial, fun od => ?_⟩
        refine e.ok h1 (by rw [List.length_set]; exact w) (lock_in R hs od) fun ρ' H' R' F => ?_
        obtain ⟨a, b, c⟩ := lock_out R hs R' F l
        exact ⟨a, q ρ' _ b c⟩
      · cases h
    · cases h
instance : EvE K E (fun _ _ _ => False) where
  run := fun _ _ => none
  good := fun h _ => by cases h
  ok := fun h _ _ _ => by cases h
instance : EvE K E tDNewT where
  run := fun _ S => alloc S (.dT [])
  good := fun {σ S r} h w => alloc_good h
  ok := fun {σ S r ρ H Q} h w R p => fun q hq => alloc_post (E := E) (o := .dT []) h rfl R p hq
instance (i j : Int) : Decidable (CMul i j) := inferInstanceAs (Decidable ((_ ∧ _) ∨ (_ ∧ _)))
def tNo : TT := fun _ _ _ => False
theorem pw_never {X : Cx} {e : Expr} : PW X e tNo := ⟨fun _ _ _ _ _ _ _ h => h.elim⟩
instance : EvT K E tNo where
  run := fun _ _ => none
  good := fun h _ => by cases h
  ok := fun h _ _ _ => by cases h
theorem passX0 {X : Cx} : Passes (L2.CX X.prog X.w) X E0 := fun _ _ _ _ _ _ _ h => by
  obtain ⟨_, _, _, _, _, _, _, _, _, _, _, _, z⟩ := h
  exact z.elim
theorem asRaise {X : Cx} {st : Stmt} {C : Addr} {E : XK} (h : PS X st (tRaise C E)) : PS X st (tRaise C E) := h
theorem asRaiseI {X : Cx} {st : Stmt} {C : Addr} {f : Str} {ta : TA} {E : XK} (h : PS X st (tRaiseI C f ta E)) : PS X st (tRaiseI C f ta E) := h
end RunX
namespace PB
open PySem PySem.Spec PyProof.Rows L2 He
theorem clsT_ty {K : PySem.W.Frag} {x f B newId initId : String} {bm bmB : List Value} {C fI : Addr} (h : PySem.XT.ClsT K x f B newId initId bm bmB C fI) : PySem.W.typeIn K (.ref C) = some (.type "type") := by
  obtain ⟨nm, q, N, bs, sn, sub, ab, col, dd, k0, k1, k2, k3, k5, e⟩ := h.cls
  simp only [PySem.W.typeIn, e]
  rfl
end PB
set_option maxHeartbeats 4000000
namespace K5
open PySem PySem.Spec PyProof.Rows L2 He Hx Hy PO RunX PB
structure Tx (K : PySem.W.Frag) (mg : Str → Option Value) : Prop where
  c : SaysY ck fn K
  glo : ∀ x ∈ gloN, mg x = some (.ref (ga K x))
  free : ∀ x ∈ freeN, mg x = none
  int : ∀ p ∈ intN, ∃ t, mg p.1 = some (.int p.2 t)
  str : ∀ p ∈ strN, ∃ t, mg p.1 = some (.str p.2 t)
theorem tx_of {K : PySem.W.Frag} {h : Heap} {mg : Str → Option Value} (X : K.In h) (G : h.Ns mainGlobals mg) (c : SaysY ck fn K) : Tx K mg where
  c := c
  glo := fun x hx => glo_ok X G (List.all_eq_true.mp (c.fact 0 (f := fun K => gloN.all fun x => (Fa.glo x).ok K) rfl) x hx)
  free := fun x hx => free_ok X G (List.all_eq_true.mp (c.fact 1 (f := fun K => freeN.all fun x => (Fa.free x).ok K) rfl) x hx)
  int := fun x hx => int_ok X G (List.all_eq_true.mp (c.fact 2 (f := fun K => intN.all fun p => (Fa.int p.1 p.2).ok K) rfl) x hx)
  str := fun x hx => str_ok X G (List.all_eq_true.mp (c.fact 3 (f := fun K => strN.all fun p => (Fa.str p.1 p.2).ok K) rfl) x hx)
section
variable {K : PySem.W.Frag} {mg : Str → Option Value}
theorem Tx.own (T : Tx K mg) (x : Str) (h : x ∈ ownN) : PySem.W.excIn K (ga K x) veBase "ValueError.__new__" = true ∧ PySem.W.keepIn K (.ref (ga K x)) = true ∧ PySem.W.subIn K (.ref (ga K x)) (.type "BaseException") = some true ∧ PySem.W.typeIn K (.ref (ga K x)) = some (.type "type") := exc_ok (List.all_eq_true.mp (T.c.fact 4 (f := fun K => ownN.all fun x => (Fa.exc x).ok K) rfl) x h)
theorem Tx.cls (T : Tx K mg) (x : Str) (h : x ∈ clsN) : Cls K (ga K x) ∧ Mk K (ga K x) (ma K (ga K x) "__init__") := by
  obtain ⟨h1, h2⟩ := ba (List.all_eq_true.mp (T.c.fact 5 (f := fun K => clsN.all fun x => (Fa.cls x).ok K && (Fa.mkr x).ok K) rfl) x h)
  exact ⟨cls_ok h1, mkr_ok h2⟩
theorem Tx.noat (T : Tx K mg) (p : Str × Str) (h : p ∈ fldN) : NoAttr K (ga K p.1) p.2 := noat_ok (List.all_eq_true.mp (T.c.fact 6 (f := fun K => fldN.all fun p => (Fa.noat p.1 p.2).ok K) rfl) p h)
theorem Tx.meth (T : Tx K mg) (p : Str × Str) (h : p ∈ methN) : Meth K (ga K p.1) p.2 (ma K (ga K p.1) p.2) := meth_ok (List.all_eq_true.mp (T.c.fact 7 (f := fun K => methN.all fun p => (Fa.meth p.1 p.2).ok K) rfl) p h)
theorem Tx.prop (T : Tx K mg) (p : Str × Str) (h : p ∈ propN) : PropOf K (ga K p.1) p.2 (ma K (ga K p.1) p.2) (propG K p.1 p.2) := prop_ok (List.all_eq_true.mp (T.c.fact 8 (f := fun K => propN.all fun p => PB.propB K p.1 p.2) rfl) p h)
theorem Tx.isf (T : Tx K mg) (x : Str) (h : x ∈ isfN) : IsF K (ga K x) := isf_ok (List.all_eq_true.mp (T.c.fact 9 (f := fun K => isfN.all fun x => PB.isfB K x) rfl) x h)
theorem Tx.exm (T : Tx K mg) (x y : Str) (hx : x ∈ raisN) (hy : y ∈ armN) : PySem.W.exmOne K (.ref (ga K x)) (.ref (ga K y)) = some (decide (x = y)) := exm_ok (List.all_eq_true.mp (List.all_eq_true.mp (T.c.fact 10 (f := fun K => raisN.all fun x => armN.all fun y => (Fa.exm x y (decide (x = y))).ok K) rfl) x hx) y hy)
theorem Tx.exC (T : Tx K mg) (x : Str) (hx : x ∈ raisN) : ExcC K (ga K x) := excC_ok (List.all_eq_true.mp (T.c.fact 11 (f := fun K => raisN.all fun x => PB.excCB K (ga K x)) rfl) x hx)
theorem Tx.sys (T : Tx K mg) : (K.lookup sysModules).isSome = true := T.c.fact 14 (f := fun K => (K.lookup sysModules).isSome) rfl
theorem Tx.ats (T : Tx K mg) (p : Str × Str) (h : p ∈ atN) : fAdP K (p.1, some p.2) = ma K (ga K p.1) p.2 := of_decide_eq_true (List.all_eq_true.mp (T.c.fact 15 (f := fun K => atN.all fun p => decide (fAdP K (p.1, some p.2) = ma K (ga K p.1) p.2)) rfl) p h)
theorem Tx.n_isinstance (T : Tx K mg) : mg "isinstance" = none := T.free _ (memb (by decide +kernel))
theorem Tx.n_str (T : Tx K mg) : mg "str" = none := T.free _ (memb (by decide +kernel))
theorem Tx.n_all (T : Tx K mg) : mg "all" = none := T.free _ (memb (by decide +kernel))
theorem Tx.n_len (T : Tx K mg) : mg "len" = none := T.free _ (memb (by decide +kernel))
theorem Tx.n_zip (T : Tx K mg) : mg "zip" = none := T.free _ (memb (by decide +kernel))
theorem Tx.n_tuple (T : Tx K mg) : mg "tuple" = none := T.free _ (memb (by decide +kernel))
theorem Tx.n_int (T : Tx K mg) : mg "int" = none := T.free _ (memb (by decide +kernel))
theorem Tx.n_bool (T : Tx K mg) : mg "bool" = none := T.free _ (memb (by decide +kernel))
theorem Tx.n_dict (T : Tx K mg) : mg "dict" = none := T.free _ (memb (by decide +kernel))
theorem Tx.n_list (T : Tx K mg) : mg "list" = none := T.free _ (memb (by decide +kernel))
theorem Tx.n_set (T : Tx K mg) : mg "set" = none := T.free _ (memb (by decide +kernel))
theorem Tx.n_sorted (T : Tx K mg) : mg "sorted" = none := T.free _ (memb (by decide +kernel))
theorem Tx.n_abs (T : Tx K mg) : mg "abs" = none := T.free _ (memb (by decide +kernel))
theorem Tx.n_max (T : Tx K mg) : mg "max" = none := T.free _ (memb (by decide +kernel))
theorem Tx.n_min (T : Tx K mg) : mg "min" = none := T.free _ (memb (by decide +kernel))
theorem Tx.n_range (T : Tx K mg) : mg "range" = none := T.free _ (memb (by decide +kernel))
theorem Tx.n_repr (T : Tx K mg) : mg "repr" = none := T.free _ (memb (by decide +kernel))
theorem Tx.g_MarkError (T : Tx K mg) : mg "MarkError" = some (.ref (ga K "MarkError")) := T.glo _ (memb (by decide +kernel))
theorem Tx.g_is_integer (T : Tx K mg) : mg "is_integer" = some (.ref (ga K "is_integer")) := T.glo _ (memb (by decide +kernel))
theorem Tx.g_is_between (T : Tx K mg) : mg "is_between" = some (.ref (ga K "is_between")) := T.glo _ (memb (by decide +kernel))
theorem Tx.g_is_word (T : Tx K mg) : mg "is_word" = some (.ref (ga K "is_word")) := T.glo _ (memb (by decide +kernel))
theorem Tx.g_are_ascending (T : Tx K mg) : mg "are_ascending" = some (.ref (ga K "are_ascending")) := T.glo _ (memb (by decide +kernel))
theorem Tx.g_are_letters (T : Tx K mg) : mg "are_letters" = some (.ref (ga K "are_letters")) := T.glo _ (memb (by decide +kernel))
theorem Tx.g_require_length (T : Tx K mg) : mg "require_length" = some (.ref (ga K "require_length")) := T.glo _ (memb (by decide +kernel))
theorem Tx.g_met_from (T : Tx K mg) : mg "met_from" = some (.ref (ga K "met_from")) := T.glo _ (memb (by decide +kernel))
theorem Tx.g_linked (T : Tx K mg) : mg "linked" = some (.ref (ga K "linked")) := T.glo _ (memb (by decide +kernel))
theorem Tx.g_useful_in (T : Tx K mg) : mg "useful_in" = some (.ref (ga K "useful_in")) := T.glo _ (memb (by decide +kernel))
theorem Tx.g_is_short (T : Tx K mg) : mg "is_short" = some (.ref (ga K "is_short")) := T.glo _ (memb (by decide +kernel))
theorem Tx.g_is_number (T : Tx K mg) : mg "is_number" = some (.ref (ga K "is_number")) := T.glo _ (memb (by decide +kernel))
theorem Tx.g_are_worded (T : Tx K mg) : mg "are_worded" = some (.ref (ga K "are_worded")) := T.glo _ (memb (by decide +kernel))
theorem Tx.g_is_edge (T : Tx K mg) : mg "is_edge" = some (.ref (ga K "is_edge")) := T.glo _ (memb (by decide +kernel))
theorem Tx.g_are_edges (T : Tx K mg) : mg "are_edges" = some (.ref (ga K "are_edges")) := T.glo _ (memb (by decide +kernel))
theorem Tx.g_edges_after (T : Tx K mg) : mg "edges_after" = some (.ref (ga K "edges_after")) := T.glo _ (memb (by decide +kernel))
theorem Tx.g_edges_before (T : Tx K mg) : mg "edges_before" = some (.ref (ga K "edges_before")) := T.glo _ (memb (by decide +kernel))
theorem Tx.g_kept_words (T : Tx K mg) : mg "kept_words" = some (.ref (ga K "kept_words")) := T.glo _ (memb (by decide +kernel))
theorem Tx.g_require_rewriter (T : Tx K mg) : mg "require_rewriter" = some (.ref (ga K "require_rewriter")) := T.glo _ (memb (by decide +kernel))
theorem Tx.g_is_edge_at (T : Tx K mg) : mg "is_edge_at" = some (.ref (ga K "is_edge_at")) := T.glo _ (memb (by decide +kernel))
theorem Tx.g_is_path_in (T : Tx K mg) : mg "is_path_in" = some (.ref (ga K "is_path_in")) := T.glo _ (memb (by decide +kernel))
theorem Tx.g_last_in (T : Tx K mg) : mg "last_in" = some (.ref (ga K "last_in")) := T.glo _ (memb (by decide +kernel))
theorem Tx.g_written_in (T : Tx K mg) : mg "written_in" = some (.ref (ga K "written_in")) := T.glo _ (memb (by decide +kernel))
theorem Tx.g_writes_in (T : Tx K mg) : mg "writes_in" = some (.ref (ga K "writes_in")) := T.glo _ (memb (by decide +kernel))
theorem Tx.g_require_path (T : Tx K mg) : mg "require_path" = some (.ref (ga K "require_path")) := T.glo _ (memb (by decide +kernel))
theorem Tx.g_is_edge_in (T : Tx K mg) : mg "is_edge_in" = some (.ref (ga K "is_edge_in")) := T.glo _ (memb (by decide +kernel))
theorem Tx.g_is_circle_in (T : Tx K mg) : mg "is_circle_in" = some (.ref (ga K "is_circle_in")) := T.glo _ (memb (by decide +kernel))
theorem Tx.g_difference_in (T : Tx K mg) : mg "difference_in" = some (.ref (ga K "difference_in")) := T.glo _ (memb (by decide +kernel))
theorem Tx.g_climb_in (T : Tx K mg) : mg "climb_in" = some (.ref (ga K "climb_in")) := T.glo _ (memb (by decide +kernel))
theorem Tx.g_best_end (T : Tx K mg) : mg "best_end" = some (.ref (ga K "best_end")) := T.glo _ (memb (by decide +kernel))
theorem Tx.g_length_told (T : Tx K mg) : mg "length_told" = some (.ref (ga K "length_told")) := T.glo _ (memb (by decide +kernel))
theorem Tx.g_bounds_in (T : Tx K mg) : mg "bounds_in" = some (.ref (ga K "bounds_in")) := T.glo _ (memb (by decide +kernel))
theorem Tx.g_is_even_in (T : Tx K mg) : mg "is_even_in" = some (.ref (ga K "is_even_in")) := T.glo _ (memb (by decide +kernel))
theorem Tx.g_is_table_in (T : Tx K mg) : mg "is_table_in" = some (.ref (ga K "is_table_in")) := T.glo _ (memb (by decide +kernel))
theorem Tx.g_shows_between (T : Tx K mg) : mg "shows_between" = some (.ref (ga K "shows_between")) := T.glo _ (memb (by decide +kernel))
theorem Tx.g_shows_length (T : Tx K mg) : mg "shows_length" = some (.ref (ga K "shows_length")) := T.glo _ (memb (by decide +kernel))
theorem Tx.g_first_circle (T : Tx K mg) : mg "first_circle" = some (.ref (ga K "first_circle")) := T.glo _ (memb (by decide +kernel))
theorem Tx.g_rate_told (T : Tx K mg) : mg "rate_told" = some (.ref (ga K "rate_told")) := T.glo _ (memb (by decide +kernel))
theorem Tx.g_is_rate_told (T : Tx K mg) : mg "is_rate_told" = some (.ref (ga K "is_rate_told")) := T.glo _ (memb (by decide +kernel))
theorem Tx.g_require_circle (T : Tx K mg) : mg "require_circle" = some (.ref (ga K "require_circle")) := T.glo _ (memb (by decide +kernel))
theorem Tx.g_require_word (T : Tx K mg) : mg "require_word" = some (.ref (ga K "require_word")) := T.glo _ (memb (by decide +kernel))
theorem Tx.g_is_circle (T : Tx K mg) : mg "is_circle" = some (.ref (ga K "is_circle")) := T.glo _ (memb (by decide +kernel))
theorem Tx.g_difference (T : Tx K mg) : mg "difference" = some (.ref (ga K "difference")) := T.glo _ (memb (by decide +kernel))
theorem Tx.g_length_paper (T : Tx K mg) : mg "length_paper" = some (.ref (ga K "length_paper")) := T.glo _ (memb (by decide +kernel))
theorem Tx.g_is_length_paper (T : Tx K mg) : mg "is_length_paper" = some (.ref (ga K "is_length_paper")) := T.glo _ (memb (by decide +kernel))
theorem Tx.g_length_bounds (T : Tx K mg) : mg "length_bounds" = some (.ref (ga K "length_bounds")) := T.glo _ (memb (by decide +kernel))
theorem Tx.g_is_even (T : Tx K mg) : mg "is_even" = some (.ref (ga K "is_even")) := T.glo _ (memb (by decide +kernel))
theorem Tx.g_state_differences (T : Tx K mg) : mg "state_differences" = some (.ref (ga K "state_differences")) := T.glo _ (memb (by decide +kernel))
theorem Tx.g_result_lengths (T : Tx K mg) : mg "result_lengths" = some (.ref (ga K "result_lengths")) := T.glo _ (memb (by decide +kernel))
theorem Tx.g_rate_of (T : Tx K mg) : mg "rate_of" = some (.ref (ga K "rate_of")) := T.glo _ (memb (by decide +kernel))
theorem Tx.g_rate (T : Tx K mg) : mg "rate" = some (.ref (ga K "rate")) := T.glo _ (memb (by decide +kernel))
theorem Tx.g_rate_paper (T : Tx K mg) : mg "rate_paper" = some (.ref (ga K "rate_paper")) := T.glo _ (memb (by decide +kernel))
theorem Tx.g_is_rate_paper (T : Tx K mg) : mg "is_rate_paper" = some (.ref (ga K "is_rate_paper")) := T.glo _ (memb (by decide +kernel))
theorem Tx.g_sack (T : Tx K mg) : mg "_law_sack" = some (.ref (ga K "_law_sack")) := T.glo _ (memb (by decide +kernel))
theorem Tx.g_dip (T : Tx K mg) : mg "_law_dip" = some (.ref (ga K "_law_dip")) := T.glo _ (memb (by decide +kernel))
theorem Tx.g_lone (T : Tx K mg) : mg "_law_one" = some (.ref (ga K "_law_one")) := T.glo _ (memb (by decide +kernel))
theorem Tx.g_met (T : Tx K mg) : mg "_law_met" = some (.ref (ga K "_law_met")) := T.glo _ (memb (by decide +kernel))
theorem Tx.g_right (T : Tx K mg) : mg "_law_right" = some (.ref (ga K "_law_right")) := T.glo _ (memb (by decide +kernel))
theorem Tx.g_law (T : Tx K mg) : mg "law" = some (.ref (ga K "law")) := T.glo _ (memb (by decide +kernel))
theorem Tx.g_Rewriter (T : Tx K mg) : mg "Rewriter" = some (.ref (ga K "Rewriter")) := T.glo _ (memb (by decide +kernel))
theorem Tx.g_Climb (T : Tx K mg) : mg "Climb" = some (.ref (ga K "Climb")) := T.glo _ (memb (by decide +kernel))
theorem Tx.g_InvalidText (T : Tx K mg) : mg "InvalidText" = some (.ref (ga K "InvalidText")) := T.glo _ (memb (by decide +kernel))
theorem Tx.g_InvalidRewriter (T : Tx K mg) : mg "InvalidRewriter" = some (.ref (ga K "InvalidRewriter")) := T.glo _ (memb (by decide +kernel))
theorem Tx.g_InvalidMachine (T : Tx K mg) : mg "InvalidMachine" = some (.ref (ga K "InvalidMachine")) := T.glo _ (memb (by decide +kernel))
theorem Tx.g_InvalidOperation (T : Tx K mg) : mg "InvalidOperation" = some (.ref (ga K "InvalidOperation")) := T.glo _ (memb (by decide +kernel))
theorem Tx.g_InvalidNumber (T : Tx K mg) : mg "InvalidNumber" = some (.ref (ga K "InvalidNumber")) := T.glo _ (memb (by decide +kernel))
theorem Tx.g_TooMany (T : Tx K mg) : mg "TooMany" = some (.ref (ga K "TooMany")) := T.glo _ (memb (by decide +kernel))
theorem Tx.g_NotSingle (T : Tx K mg) : mg "NotSingle" = some (.ref (ga K "NotSingle")) := T.glo _ (memb (by decide +kernel))
theorem Tx.v_MAX_TEXT (T : Tx K mg) : ∃ t, mg "MAX_TEXT" = some (.int 60 t) := T.int ("MAX_TEXT", 60) (memb (by decide +kernel))
theorem Tx.v_MOST_LETTERS_words (T : Tx K mg) : ∃ t, mg "MOST_LETTERS_words" = some (.int 4 t) := T.int ("MOST_LETTERS_words", 4) (memb (by decide +kernel))
theorem Tx.v_MAX_STATES (T : Tx K mg) : ∃ t, mg "MAX_STATES" = some (.int 12 t) := T.int ("MAX_STATES", 12) (memb (by decide +kernel))
theorem Tx.v_MAX_EDGES (T : Tx K mg) : ∃ t, mg "MAX_EDGES" = some (.int 64 t) := T.int ("MAX_EDGES", 64) (memb (by decide +kernel))
theorem Tx.v_MAX_WORD (T : Tx K mg) : ∃ t, mg "MAX_WORD" = some (.int 8 t) := T.int ("MAX_WORD", 8) (memb (by decide +kernel))
theorem Tx.v_BETWEEN_SIZE (T : Tx K mg) : ∃ t, mg "BETWEEN_SIZE" = some (.int 4 t) := T.int ("BETWEEN_SIZE", 4) (memb (by decide +kernel))
theorem Tx.v_RATE_SIZE (T : Tx K mg) : ∃ t, mg "RATE_SIZE" = some (.int 3 t) := T.int ("RATE_SIZE", 3) (memb (by decide +kernel))
theorem Tx.v_LETTERS (T : Tx K mg) : ∃ t, mg "LETTERS" = some (.str "abcdefghijklmnopqrstuvwxyz" t) := T.str ("LETTERS", "abcdefghijklmnopqrstuvwxyz") (memb (by decide +kernel))
theorem Tx.v_BETWEEN (T : Tx K mg) : ∃ t, mg "BETWEEN" = some (.str "between" t) := T.str ("BETWEEN", "between") (memb (by decide +kernel))
theorem Tx.v_CIRCLE (T : Tx K mg) : ∃ t, mg "CIRCLE" = some (.str "circle" t) := T.str ("CIRCLE", "circle") (memb (by decide +kernel))
theorem Tx.v_LEAST (T : Tx K mg) : ∃ t, mg "LEAST" = some (.str "least" t) := T.str ("LEAST", "least") (memb (by decide +kernel))
theorem Tx.v_GREATEST (T : Tx K mg) : ∃ t, mg "GREATEST" = some (.str "greatest" t) := T.str ("GREATEST", "greatest") (memb (by decide +kernel))
theorem Tx.e_InvalidText (T : Tx K mg) : PySem.W.excIn K (ga K "InvalidText") veBase "ValueError.__new__" = true ∧ PySem.W.keepIn K (.ref (ga K "InvalidText")) = true ∧ PySem.W.subIn K (.ref (ga K "InvalidText")) (.type "BaseException") = some true ∧ PySem.W.typeIn K (.ref (ga K "InvalidText")) = some (.type "type") := T.own _ (memb (by decide +kernel))
theorem Tx.e_InvalidRewriter (T : Tx K mg) : PySem.W.excIn K (ga K "InvalidRewriter") veBase "ValueError.__new__" = true ∧ PySem.W.keepIn K (.ref (ga K "InvalidRewriter")) = true ∧ PySem.W.subIn K (.ref (ga K "InvalidRewriter")) (.type "BaseException") = some true ∧ PySem.W.typeIn K (.ref (ga K "InvalidRewriter")) = some (.type "type") := T.own _ (memb (by decide +kernel))
theorem Tx.e_InvalidMachine (T : Tx K mg) : PySem.W.excIn K (ga K "InvalidMachine") veBase "ValueError.__new__" = true ∧ PySem.W.keepIn K (.ref (ga K "InvalidMachine")) = true ∧ PySem.W.subIn K (.ref (ga K "InvalidMachine")) (.type "BaseException") = some true ∧ PySem.W.typeIn K (.ref (ga K "InvalidMachine")) = some (.type "type") := T.own _ (memb (by decide +kernel))
theorem Tx.e_InvalidOperation (T : Tx K mg) : PySem.W.excIn K (ga K "InvalidOperation") veBase "ValueError.__new__" = true ∧ PySem.W.keepIn K (.ref (ga K "InvalidOperation")) = true ∧ PySem.W.subIn K (.ref (ga K "InvalidOperation")) (.type "BaseException") = some true ∧ PySem.W.typeIn K (.ref (ga K "InvalidOperation")) = some (.type "type") := T.own _ (memb (by decide +kernel))
theorem Tx.c_Rewriter (T : Tx K mg) : Cls K (ga K "Rewriter") ∧ Mk K (ga K "Rewriter") (ma K (ga K "Rewriter") "__init__") := T.cls _ (memb (by decide +kernel))
theorem Tx.f_Rewriter_own_letters (T : Tx K mg) : NoAttr K (ga K "Rewriter") "own_letters" := T.noat ("Rewriter", "own_letters") (memb (by decide +kernel))
theorem Tx.f_Rewriter_own_states (T : Tx K mg) : NoAttr K (ga K "Rewriter") "own_states" := T.noat ("Rewriter", "own_states") (memb (by decide +kernel))
theorem Tx.f_Rewriter_own_starts (T : Tx K mg) : NoAttr K (ga K "Rewriter") "own_starts" := T.noat ("Rewriter", "own_starts") (memb (by decide +kernel))
theorem Tx.f_Rewriter_own_edges (T : Tx K mg) : NoAttr K (ga K "Rewriter") "own_edges" := T.noat ("Rewriter", "own_edges") (memb (by decide +kernel))
theorem Tx.f_Rewriter_own_ends (T : Tx K mg) : NoAttr K (ga K "Rewriter") "own_ends" := T.noat ("Rewriter", "own_ends") (memb (by decide +kernel))
theorem Tx.f_Rewriter_own_after (T : Tx K mg) : NoAttr K (ga K "Rewriter") "own_after" := T.noat ("Rewriter", "own_after") (memb (by decide +kernel))
theorem Tx.f_Rewriter_own_before (T : Tx K mg) : NoAttr K (ga K "Rewriter") "own_before" := T.noat ("Rewriter", "own_before") (memb (by decide +kernel))
theorem Tx.c_Climb (T : Tx K mg) : Cls K (ga K "Climb") ∧ Mk K (ga K "Climb") (ma K (ga K "Climb") "__init__") := T.cls _ (memb (by decide +kernel))
theorem Tx.f_Climb_own_rewriter (T : Tx K mg) : NoAttr K (ga K "Climb") "own_rewriter" := T.noat ("Climb", "own_rewriter") (memb (by decide +kernel))
theorem Tx.f_Climb_own_weights (T : Tx K mg) : NoAttr K (ga K "Climb") "own_weights" := T.noat ("Climb", "own_weights") (memb (by decide +kernel))
theorem Tx.f_Climb_own_sums (T : Tx K mg) : NoAttr K (ga K "Climb") "own_sums" := T.noat ("Climb", "own_sums") (memb (by decide +kernel))
theorem Tx.f_Climb_own_ways (T : Tx K mg) : NoAttr K (ga K "Climb") "own_ways" := T.noat ("Climb", "own_ways") (memb (by decide +kernel))
theorem Tx.f_Climb_own_circle (T : Tx K mg) : NoAttr K (ga K "Climb") "own_circle" := T.noat ("Climb", "own_circle") (memb (by decide +kernel))
theorem Tx.m_goOn (T : Tx K mg) : Meth K (ga K "Climb") "go_on" (ma K (ga K "Climb") "go_on") := T.meth ("Climb", "go_on") (memb (by decide +kernel))
theorem Tx.m_pathTo (T : Tx K mg) : Meth K (ga K "Climb") "path_to" (ma K (ga K "Climb") "path_to") := T.meth ("Climb", "path_to") (memb (by decide +kernel))
theorem Tx.p_clCircle (T : Tx K mg) : PropOf K (ga K "Climb") "circle" (ma K (ga K "Climb") "circle") (propG K "Climb" "circle") := T.prop ("Climb", "circle") (memb (by decide +kernel))
theorem Tx.p_clSums (T : Tx K mg) : PropOf K (ga K "Climb") "sums" (ma K (ga K "Climb") "sums") (propG K "Climb" "sums") := T.prop ("Climb", "sums") (memb (by decide +kernel))
theorem Tx.is_Rewriter (T : Tx K mg) : IsF K (ga K "Rewriter") := T.isf _ (memb (by decide +kernel))
theorem Tx.fn_is_integer (T : Tx K mg) : ∃ fd, FunD K "is_integer" "is_integer" (defArgs s_is_integer) (defBody s_is_integer) (defScope s_is_integer) [] [] (ga K "is_integer") fd := T.c.def_ 0 (d := d_is_integer) rfl
theorem Tx.fn_is_between (T : Tx K mg) : ∃ fd, FunD K "is_between" "is_between" (defArgs s_is_between) (defBody s_is_between) (defScope s_is_between) [] [] (ga K "is_between") fd := T.c.def_ 1 (d := d_is_between) rfl
theorem Tx.fn_is_word (T : Tx K mg) : ∃ fd, FunD K "is_word" "is_word" (defArgs s_is_word) (defBody s_is_word) (defScope s_is_word) [] [] (ga K "is_word") fd := T.c.def_ 2 (d := d_is_word) rfl
theorem Tx.fn_are_ascending (T : Tx K mg) : ∃ fd, FunD K "are_ascending" "are_ascending" (defArgs s_are_ascending) (defBody s_are_ascending) (defScope s_are_ascending) [] [] (ga K "are_ascending") fd := T.c.def_ 3 (d := d_are_ascending) rfl
theorem Tx.fn_are_letters (T : Tx K mg) : ∃ fd, FunD K "are_letters" "are_letters" (defArgs s_are_letters) (defBody s_are_letters) (defScope s_are_letters) [] [] (ga K "are_letters") fd := T.c.def_ 4 (d := d_are_letters) rfl
theorem Tx.fn_require_length (T : Tx K mg) : ∃ fd, FunD K "require_length" "require_length" (defArgs s_require_length) (defBody s_require_length) (defScope s_require_length) [] [] (ga K "require_length") fd := T.c.def_ 5 (d := d_require_length) rfl
theorem Tx.fn_met_from (T : Tx K mg) : ∃ fd, FunD K "met_from" "met_from" (defArgs s_met_from) (defBody s_met_from) (defScope s_met_from) [] [] (ga K "met_from") fd := T.c.def_ 6 (d := d_met_from) rfl
theorem Tx.fn_linked (T : Tx K mg) : ∃ fd, FunD K "linked" "linked" (defArgs s_linked) (defBody s_linked) (defScope s_linked) [] [] (ga K "linked") fd := T.c.def_ 7 (d := d_linked) rfl
theorem Tx.fn_useful_in (T : Tx K mg) : ∃ fd, FunD K "useful_in" "useful_in" (defArgs s_useful_in) (defBody s_useful_in) (defScope s_useful_in) [] [] (ga K "useful_in") fd := T.c.def_ 8 (d := d_useful_in) rfl
theorem Tx.fn_is_short (T : Tx K mg) : ∃ fd, FunD K "is_short" "is_short" (defArgs s_is_short) (defBody s_is_short) (defScope s_is_short) [] [] (ga K "is_short") fd := T.c.def_ 9 (d := d_is_short) rfl
theorem Tx.fn_is_number (T : Tx K mg) : ∃ fd, FunD K "is_number" "is_number" (defArgs s_is_number) (defBody s_is_number) (defScope s_is_number) [] [] (ga K "is_number") fd := T.c.def_ 10 (d := d_is_number) rfl
theorem Tx.fn_are_worded (T : Tx K mg) : ∃ fd, FunD K "are_worded" "are_worded" (defArgs s_are_worded) (defBody s_are_worded) (defScope s_are_worded) [] [] (ga K "are_worded") fd := T.c.def_ 11 (d := d_are_worded) rfl
theorem Tx.fn_is_edge (T : Tx K mg) : ∃ fd, FunD K "is_edge" "is_edge" (defArgs s_is_edge) (defBody s_is_edge) (defScope s_is_edge) [] [] (ga K "is_edge") fd := T.c.def_ 12 (d := d_is_edge) rfl
theorem Tx.fn_are_edges (T : Tx K mg) : ∃ fd, FunD K "are_edges" "are_edges" (defArgs s_are_edges) (defBody s_are_edges) (defScope s_are_edges) [] [] (ga K "are_edges") fd := T.c.def_ 13 (d := d_are_edges) rfl
theorem Tx.fn_edges_after (T : Tx K mg) : ∃ fd, FunD K "edges_after" "edges_after" (defArgs s_edges_after) (defBody s_edges_after) (defScope s_edges_after) [] [] (ga K "edges_after") fd := T.c.def_ 14 (d := d_edges_after) rfl
theorem Tx.fn_edges_before (T : Tx K mg) : ∃ fd, FunD K "edges_before" "edges_before" (defArgs s_edges_before) (defBody s_edges_before) (defScope s_edges_before) [] [] (ga K "edges_before") fd := T.c.def_ 15 (d := d_edges_before) rfl
theorem Tx.fn_kept_words (T : Tx K mg) : ∃ fd, FunD K "kept_words" "kept_words" (defArgs s_kept_words) (defBody s_kept_words) (defScope s_kept_words) [] [] (ga K "kept_words") fd := T.c.def_ 16 (d := d_kept_words) rfl
theorem Tx.fn_rwInit (T : Tx K mg) : ∃ fd, FunD K "__init__" "Rewriter.__init__" (defArgs s_rwInit) (defBody s_rwInit) (defScope s_rwInit) [] [] (ma K (ga K "Rewriter") "__init__") fd := by
  have z := T.ats ("Rewriter", "__init__") (memb (by decide +kernel))
  rw [← z]
  exact T.c.def_ 17 (d := d_rwInit) rfl
theorem Tx.fn_require_rewriter (T : Tx K mg) : ∃ fd, FunD K "require_rewriter" "require_rewriter" (defArgs s_require_rewriter) (defBody s_require_rewriter) (defScope s_require_rewriter) [] [] (ga K "require_rewriter") fd := T.c.def_ 18 (d := d_require_rewriter) rfl
theorem Tx.fn_is_edge_at (T : Tx K mg) : ∃ fd, FunD K "is_edge_at" "is_edge_at" (defArgs s_is_edge_at) (defBody s_is_edge_at) (defScope s_is_edge_at) [] [] (ga K "is_edge_at") fd := T.c.def_ 19 (d := d_is_edge_at) rfl
theorem Tx.fn_is_path_in (T : Tx K mg) : ∃ fd, FunD K "is_path_in" "is_path_in" (defArgs s_is_path_in) (defBody s_is_path_in) (defScope s_is_path_in) [] [] (ga K "is_path_in") fd := T.c.def_ 20 (d := d_is_path_in) rfl
theorem Tx.fn_last_in (T : Tx K mg) : ∃ fd, FunD K "last_in" "last_in" (defArgs s_last_in) (defBody s_last_in) (defScope s_last_in) [] [] (ga K "last_in") fd := T.c.def_ 21 (d := d_last_in) rfl
theorem Tx.fn_written_in (T : Tx K mg) : ∃ fd, FunD K "written_in" "written_in" (defArgs s_written_in) (defBody s_written_in) (defScope s_written_in) [] [] (ga K "written_in") fd := T.c.def_ 22 (d := d_written_in) rfl
theorem Tx.fn_writes_in (T : Tx K mg) : ∃ fd, FunD K "writes_in" "writes_in" (defArgs s_writes_in) (defBody s_writes_in) (defScope s_writes_in) [] [] (ga K "writes_in") fd := T.c.def_ 23 (d := d_writes_in) rfl
theorem Tx.fn_require_path (T : Tx K mg) : ∃ fd, FunD K "require_path" "require_path" (defArgs s_require_path) (defBody s_require_path) (defScope s_require_path) [] [] (ga K "require_path") fd := T.c.def_ 24 (d := d_require_path) rfl
theorem Tx.fn_is_edge_in (T : Tx K mg) : ∃ fd, FunD K "is_edge_in" "is_edge_in" (defArgs s_is_edge_in) (defBody s_is_edge_in) (defScope s_is_edge_in) [] [] (ga K "is_edge_in") fd := T.c.def_ 25 (d := d_is_edge_in) rfl
theorem Tx.fn_is_circle_in (T : Tx K mg) : ∃ fd, FunD K "is_circle_in" "is_circle_in" (defArgs s_is_circle_in) (defBody s_is_circle_in) (defScope s_is_circle_in) [] [] (ga K "is_circle_in") fd := T.c.def_ 26 (d := d_is_circle_in) rfl
theorem Tx.fn_difference_in (T : Tx K mg) : ∃ fd, FunD K "difference_in" "difference_in" (defArgs s_difference_in) (defBody s_difference_in) (defScope s_difference_in) [] [] (ga K "difference_in") fd := T.c.def_ 27 (d := d_difference_in) rfl
theorem Tx.fn_clInit (T : Tx K mg) : ∃ fd, FunD K "__init__" "Climb.__init__" (defArgs s_clInit) (defBody s_clInit) (defScope s_clInit) [] [] (ma K (ga K "Climb") "__init__") fd := by
  have z := T.ats ("Climb", "__init__") (memb (by decide +kernel))
  rw [← z]
  exact T.c.def_ 28 (d := d_clInit) rfl
theorem Tx.fn_goOn (T : Tx K mg) : ∃ fd, FunD K "go_on" "Climb.go_on" (defArgs s_goOn) (defBody s_goOn) (defScope s_goOn) [] [] (ma K (ga K "Climb") "go_on") fd := by
  have z := T.ats ("Climb", "go_on") (memb (by decide +kernel))
  rw [← z]
  exact T.c.def_ 29 (d := d_goOn) rfl
theorem Tx.fn_pathTo (T : Tx K mg) : ∃ fd, FunD K "path_to" "Climb.path_to" (defArgs s_pathTo) (defBody s_pathTo) (defScope s_pathTo) [] [] (ma K (ga K "Climb") "path_to") fd := by
  have z := T.ats ("Climb", "path_to") (memb (by decide +kernel))
  rw [← z]
  exact T.c.def_ 30 (d := d_pathTo) rfl
theorem Tx.fn_clCircle (T : Tx K mg) : ∃ fd, FunD K "circle" "Climb.circle" (defArgs s_clCircle) (defBody s_clCircle) (defScope s_clCircle) [] [] (propG K "Climb" "circle") fd := T.c.def_ 31 (d := d_clCircle) rfl
theorem Tx.fn_clSums (T : Tx K mg) : ∃ fd, FunD K "sums" "Climb.sums" (defArgs s_clSums) (defBody s_clSums) (defScope s_clSums) [] [] (propG K "Climb" "sums") fd := T.c.def_ 32 (d := d_clSums) rfl
theorem Tx.fn_climb_in (T : Tx K mg) : ∃ fd, FunD K "climb_in" "climb_in" (defArgs s_climb_in) (defBody s_climb_in) (defScope s_climb_in) [] [] (ga K "climb_in") fd := T.c.def_ 33 (d := d_climb_in) rfl
theorem Tx.fn_best_end (T : Tx K mg) : ∃ fd, FunD K "best_end" "best_end" (defArgs s_best_end) (defBody s_best_end) (defScope s_best_end) [] [] (ga K "best_end") fd := T.c.def_ 34 (d := d_best_end) rfl
theorem Tx.fn_length_told (T : Tx K mg) : ∃ fd, FunD K "length_told" "length_told" (defArgs s_length_told) (defBody s_length_told) (defScope s_length_told) [] [] (ga K "length_told") fd := T.c.def_ 35 (d := d_length_told) rfl
theorem Tx.fn_bounds_in (T : Tx K mg) : ∃ fd, FunD K "bounds_in" "bounds_in" (defArgs s_bounds_in) (defBody s_bounds_in) (defScope s_bounds_in) [] [] (ga K "bounds_in") fd := T.c.def_ 36 (d := d_bounds_in) rfl
theorem Tx.fn_is_even_in (T : Tx K mg) : ∃ fd, FunD K "is_even_in" "is_even_in" (defArgs s_is_even_in) (defBody s_is_even_in) (defScope s_is_even_in) [] [] (ga K "is_even_in") fd := T.c.def_ 37 (d := d_is_even_in) rfl
theorem Tx.fn_is_table_in (T : Tx K mg) : ∃ fd, FunD K "is_table_in" "is_table_in" (defArgs s_is_table_in) (defBody s_is_table_in) (defScope s_is_table_in) [] [] (ga K "is_table_in") fd := T.c.def_ 38 (d := d_is_table_in) rfl
theorem Tx.fn_shows_between (T : Tx K mg) : ∃ fd, FunD K "shows_between" "shows_between" (defArgs s_shows_between) (defBody s_shows_between) (defScope s_shows_between) [] [] (ga K "shows_between") fd := T.c.def_ 39 (d := d_shows_between) rfl
theorem Tx.fn_shows_length (T : Tx K mg) : ∃ fd, FunD K "shows_length" "shows_length" (defArgs s_shows_length) (defBody s_shows_length) (defScope s_shows_length) [] [] (ga K "shows_length") fd := T.c.def_ 40 (d := d_shows_length) rfl
theorem Tx.fn_first_circle (T : Tx K mg) : ∃ fd, FunD K "first_circle" "first_circle" (defArgs s_first_circle) (defBody s_first_circle) (defScope s_first_circle) [] [] (ga K "first_circle") fd := T.c.def_ 41 (d := d_first_circle) rfl
theorem Tx.fn_rate_told (T : Tx K mg) : ∃ fd, FunD K "rate_told" "rate_told" (defArgs s_rate_told) (defBody s_rate_told) (defScope s_rate_told) [] [] (ga K "rate_told") fd := T.c.def_ 42 (d := d_rate_told) rfl
theorem Tx.fn_is_rate_told (T : Tx K mg) : ∃ fd, FunD K "is_rate_told" "is_rate_told" (defArgs s_is_rate_told) (defBody s_is_rate_told) (defScope s_is_rate_told) [] [] (ga K "is_rate_told") fd := T.c.def_ 43 (d := d_is_rate_told) rfl
theorem Tx.fn_require_circle (T : Tx K mg) : ∃ fd, FunD K "require_circle" "require_circle" (defArgs s_require_circle) (defBody s_require_circle) (defScope s_require_circle) [] [] (ga K "require_circle") fd := T.c.def_ 44 (d := d_require_circle) rfl
theorem Tx.fn_require_word (T : Tx K mg) : ∃ fd, FunD K "require_word" "require_word" (defArgs s_require_word) (defBody s_require_word) (defScope s_require_word) [] [] (ga K "require_word") fd := T.c.def_ 45 (d := d_require_word) rfl
theorem Tx.fn_is_circle (T : Tx K mg) : ∃ fd, FunD K "is_circle" "is_circle" (defArgs s_is_circle) (defBody s_is_circle) (defScope s_is_circle) [] [] (ga K "is_circle") fd := T.c.def_ 46 (d := d_is_circle) rfl
theorem Tx.fn_difference (T : Tx K mg) : ∃ fd, FunD K "difference" "difference" (defArgs s_difference) (defBody s_difference) (defScope s_difference) [] [] (ga K "difference") fd := T.c.def_ 47 (d := d_difference) rfl
theorem Tx.fn_length_paper (T : Tx K mg) : ∃ fd, FunD K "length_paper" "length_paper" (defArgs s_length_paper) (defBody s_length_paper) (defScope s_length_paper) [] [] (ga K "length_paper") fd := T.c.def_ 48 (d := d_length_paper) rfl
theorem Tx.fn_is_length_paper (T : Tx K mg) : ∃ fd, FunD K "is_length_paper" "is_length_paper" (defArgs s_is_length_paper) (defBody s_is_length_paper) (defScope s_is_length_paper) [] [] (ga K "is_length_paper") fd := T.c.def_ 49 (d := d_is_length_paper) rfl
theorem Tx.fn_length_bounds (T : Tx K mg) : ∃ fd, FunD K "length_bounds" "length_bounds" (defArgs s_length_bounds) (defBody s_length_bounds) (defScope s_length_bounds) [] [] (ga K "length_bounds") fd := T.c.def_ 50 (d := d_length_bounds) rfl
theorem Tx.fn_is_even (T : Tx K mg) : ∃ fd, FunD K "is_even" "is_even" (defArgs s_is_even) (defBody s_is_even) (defScope s_is_even) [] [] (ga K "is_even") fd := T.c.def_ 51 (d := d_is_even) rfl
theorem Tx.fn_state_differences (T : Tx K mg) : ∃ fd, FunD K "state_differences" "state_differences" (defArgs s_state_differences) (defBody s_state_differences) (defScope s_state_differences) [] [] (ga K "state_differences") fd := T.c.def_ 52 (d := d_state_differences) rfl
theorem Tx.fn_result_lengths (T : Tx K mg) : ∃ fd, FunD K "result_lengths" "result_lengths" (defArgs s_result_lengths) (defBody s_result_lengths) (defScope s_result_lengths) [] [] (ga K "result_lengths") fd := T.c.def_ 53 (d := d_result_lengths) rfl
theorem Tx.fn_rate_of (T : Tx K mg) : ∃ fd, FunD K "rate_of" "rate_of" (defArgs s_rate_of) (defBody s_rate_of) (defScope s_rate_of) [] [] (ga K "rate_of") fd := T.c.def_ 54 (d := d_rate_of) rfl
theorem Tx.fn_rate (T : Tx K mg) : ∃ fd, FunD K "rate" "rate" (defArgs s_rate) (defBody s_rate) (defScope s_rate) [] [] (ga K "rate") fd := T.c.def_ 55 (d := d_rate) rfl
theorem Tx.fn_rate_paper (T : Tx K mg) : ∃ fd, FunD K "rate_paper" "rate_paper" (defArgs s_rate_paper) (defBody s_rate_paper) (defScope s_rate_paper) [] [] (ga K "rate_paper") fd := T.c.def_ 56 (d := d_rate_paper) rfl
theorem Tx.fn_is_rate_paper (T : Tx K mg) : ∃ fd, FunD K "is_rate_paper" "is_rate_paper" (defArgs s_is_rate_paper) (defBody s_is_rate_paper) (defScope s_is_rate_paper) [] [] (ga K "is_rate_paper") fd := T.c.def_ 57 (d := d_is_rate_paper) rfl
theorem Tx.fn_iNumber (T : Tx K mg) : ∃ fd, FunD K "__init__" "InvalidNumber.__init__" (defArgs s_iNumber) (defBody s_iNumber) (defScope s_iNumber) [] [] (ma K (ga K "InvalidNumber") "__init__") fd := by
  have z := T.ats ("InvalidNumber", "__init__") (memb (by decide +kernel))
  rw [← z]
  exact T.c.def_ 58 (d := d_iNumber) rfl
theorem Tx.fn_sack (T : Tx K mg) : ∃ fd, FunD K "_law_sack" "_law_sack" (defArgs s_sack) (defBody s_sack) (defScope s_sack) [] [] (ga K "_law_sack") fd := T.c.def_ 59 (d := d_sack) rfl
theorem Tx.fn_dip (T : Tx K mg) : ∃ fd, FunD K "_law_dip" "_law_dip" (defArgs s_dip) (defBody s_dip) (defScope s_dip) [] [] (ga K "_law_dip") fd := T.c.def_ 60 (d := d_dip) rfl
theorem Tx.fn_lone (T : Tx K mg) : ∃ fd, FunD K "_law_one" "_law_one" (defArgs s_lone) (defBody s_lone) (defScope s_lone) [] [] (ga K "_law_one") fd := T.c.def_ 61 (d := d_lone) rfl
theorem Tx.fn_met (T : Tx K mg) : ∃ fd, FunD K "_law_met" "_law_met" (defArgs s_met) (defBody s_met) (defScope s_met) [] [] (ga K "_law_met") fd := T.c.def_ 62 (d := d_met) rfl
theorem Tx.fn_right (T : Tx K mg) : ∃ fd, FunD K "_law_right" "_law_right" (defArgs s_right) (defBody s_right) (defScope s_right) [] [] (ga K "_law_right") fd := T.c.def_ 63 (d := d_right) rfl
theorem Tx.fn_law (T : Tx K mg) : ∃ fd, FunD K "law" "law" (defArgs s_law) (defBody s_law) (defScope s_law) [] [] (ga K "law") fd := T.c.def_ 64 (d := d_law) rfl

theorem Tx.i_InvalidNumber (T : Tx K mg) : PySem.XT.ClsT K "InvalidNumber" "value" "IndexError" "IndexError.__new__" "IndexError.__init__" tlIndexError tlIndexError (ga K "InvalidNumber") (ma K (ga K "InvalidNumber") "__init__") := by
  have c0 := T.c.fact 12 (f := ckInit) rfl
  obtain ⟨h1, h2, h3, h4, h5, h6⟩ := PB.initB_ok (K := K) (x := "InvalidNumber") (f := "value") (bm := tlIndexError) (newId := "IndexError.__new__") (c0)
  have e := T.exC "InvalidNumber" (memb (by decide +kernel))
  obtain ⟨fd, F⟩ := T.fn_iNumber
  obtain ⟨oc, od, dV, kV, doc, pm, an, cdv, ct, osl, rfl, lk, hcd, hD, hK⟩ := F.ex
  rcases hD with ⟨_, rfl⟩ | ⟨z, _⟩
  · exact ⟨PySem.F.excBase_IndexError, tail_Index, h1, h2, e.hg, e.hk, h3, h4, h5, h6, e.hs, e.hd, oc, od, kV, doc, pm, an, cdv, ct, osl, _, _, _, _, _, _, _, lk, hcd⟩
  · exact absurd rfl z
end
end K5
set_option maxHeartbeats 4000000
set_option synthInstance.maxSize 100000
set_option synthInstance.maxHeartbeats 4000000
namespace K5
open PySem PySem.Spec PyProof.Rows L2 He Hx Hy PO RunX PB
section
variable {P : Program} {w : World} {K : PySem.W.Frag} {mg : Str → Option Value} {base : Heap}
abbrev ts_is_integer (K : PySem.W.Frag) : TS := tRet (tAndV (tCB (rIsi K) (tCons (tVar 0) (tCons (tC (V.ty "int")) tNil))) (tNotV (tCB (rIsi K) (tCons (tVar 0) (tCons (tC (V.ty "bool")) tNil)))))
def D_is_integer (K : PySem.W.Frag) : DefR := bodyR (K := K) ["value"] ["value"] (ts_is_integer K)
theorem ok_is_integer (T : Tx K mg) : Has P w K mg base (L2.CX P w) 1 "is_integer" ["value"] (spOf K (D_is_integer K)) := by
  obtain ⟨fd, F⟩ := T.fn_is_integer
  exact has_of T.g_is_integer F sc_is_integer (fun _ _ _ _ _ _ us hl => match us, hl with | [_], _ => rfl) (fun vs H Q E h => body_len h) (fun cdv A outer s H vs Q E hr h => ⟨ts_is_integer K, PSs.nox (
    (pss_one (ps_ret (by exact (pe_and (pe_callB (r := rIsi K) call_isi (by rfl) T.n_isinstance (by decide +kernel) (pa_cons (pv 0) (pa_cons (pe_bltn (v := .ty "int") (by rfl) T.n_int (by decide +kernel) rfl) pa_nil))) (pe_one (pe_not (pe_callB (r := rIsi K) call_isi (by rfl) T.n_isinstance (by decide +kernel) (pa_cons (pv 0) (pa_cons (pe_bltn (v := .ty "bool") (by rfl) T.n_bool (by decide +kernel) rfl) pa_nil)))))))))), body_ok (K := K) (E := E) (N := ["value"]) (ps := ["value"]) (ts := ts_is_integer K) (ts' := ts_is_integer K) rfl h⟩)
abbrev ts_is_word (K : PySem.W.Frag) : TS := tRet (tAndV (tCB (rIsi K) (tCons (tVar 0) (tCons (tC (V.ty "str")) tNil))) (tCB (rAll K) (tCons (tLc (iStr (tVar 0)) (gName 1) tYes (tOp rInS (tVar 1) (tC (V.str (Str.ofString "abcdefghijklmnopqrstuvwxyz")))) (List.map (fun x => x.snd) [(Str.ofString "sign", 1)])) tNil)))
def D_is_word (K : PySem.W.Frag) : DefR := bodyR (K := K) ["value", "sign"] ["value"] (ts_is_word K)
theorem ok_is_word (T : Tx K mg) : Has P w K mg base (L2.CX P w) 1 "is_word" ["value"] (spOf K (D_is_word K)) := by
  obtain ⟨t_LETTERS, c_LETTERS⟩ := T.v_LETTERS
  obtain ⟨fd, F⟩ := T.fn_is_word
  exact has_of T.g_is_word F sc_is_word (fun _ _ _ _ _ _ us hl => match us, hl with | [_], _ => rfl) (fun vs H Q E h => body_len h) (fun cdv A outer s H vs Q E hr h => ⟨ts_is_word K, PSs.nox (
    (pss_one (ps_ret (by exact (pe_and (pe_callB (r := rIsi K) call_isi (by rfl) T.n_isinstance (by decide +kernel) (pa_cons (pv 0) (pa_cons (pe_bltn (v := .ty "str") (by rfl) T.n_str (by decide +kernel) rfl) pa_nil))) (pe_one (pe_callB (r := rAll K) (cr_all rfl) (by rfl) T.n_all (by decide +kernel) (pa_cons (pe_lc (own := [("sign", 1)]) (g := gName 1) (by rfl) sc_is_word.nd (pi_str (pv 0)) (blkOk_by (own := [("sign", 1)]) (N := ["value", "sign"]) (sc := defScope s_is_word) (by decide +kernel)) (fun _ _ _ _ _ => (pg_name (i := 1) sc_is_word.nd rfl (Or.inl rfl))) (fun _ _ _ _ _ => pts_nil) (fun _ _ _ _ _ => (pe_cmpR op_inS (pv 1) (pe_glob (v := .str "abcdefghijklmnopqrstuvwxyz") rfl c_LETTERS ⟨_, rfl⟩) (by rfl)))) pa_nil)))))))), body_ok (K := K) (E := E) (N := ["value", "sign"]) (ps := ["value"]) (ts := ts_is_word K) (ts' := ts_is_word K) rfl h⟩)
abbrev ts_are_ascending (K : PySem.W.Frag) : TS := tRet (tCB (rAll K) (tCons (tLc (ZG.iZipG K (tCons (tVar 0) (tCons (tSl rSlS (tVar 0) (tPart (tC (V.int 1))) tNoPart) tNil))) (gTup K 2 (gCons (gName 1) (gCons (gName 2) gNil))) tYes (tOp rLtS (tVar 1) (tVar 2)) (List.map (fun x => x.snd) [(Str.ofString "one", 1), (Str.ofString "other", 2)])) tNil))
def D_are_ascending (K : PySem.W.Frag) : DefR := bodyR (K := K) ["signs", "one", "other"] ["signs"] (ts_are_ascending K)
theorem ok_are_ascending (T : Tx K mg) : Has P w K mg base (L2.CX P w) 1 "are_ascending" ["signs"] (spOf K (D_are_ascending K)) := by
  obtain ⟨fd, F⟩ := T.fn_are_ascending
  exact has_of T.g_are_ascending F sc_are_ascending (fun _ _ _ _ _ _ us hl => match us, hl with | [_], _ => rfl) (fun vs H Q E h => body_len h) (fun cdv A outer s H vs Q E hr h => ⟨ts_are_ascending K, PSs.nox (
    (pss_one (ps_ret (by exact (pe_callB (r := rAll K) (cr_all rfl) (by rfl) T.n_all (by decide +kernel) (pa_cons (pe_lc (own := [("one", 1), ("other", 2)]) (g := gTup K 2 (gCons (gName 1) (gCons (gName 2) gNil))) (by rfl) sc_are_ascending.nd (ZG.pi_zipG (by rfl) T.n_zip (pa_cons (pv 0) (pa_cons (pe_slice sl_str (pv 0) (po_some pe_int) po_none) pa_nil))) (blkOk_by (own := [("one", 1), ("other", 2)]) (N := ["signs", "one", "other"]) (sc := defScope s_are_ascending) (by decide +kernel)) (fun _ _ _ _ _ => (pg_tup (n := 2) (by rfl) (pgs_cons (pg_name (i := 1) sc_are_ascending.nd rfl (Or.inl rfl)) (pgs_cons (pg_name (i := 2) sc_are_ascending.nd rfl (Or.inl rfl)) pgs_nil)))) (fun _ _ _ _ _ => pts_nil) (fun _ _ _ _ _ => (pe_cmpR op_ltS (pv 1) (pv 2) (nomark _)))) pa_nil)))))), body_ok (K := K) (E := E) (N := ["signs", "one", "other"]) (ps := ["signs"]) (ts := ts_are_ascending K) (ts' := ts_are_ascending K) rfl h⟩)
abbrev ts_met_from (K : PySem.W.Frag) : TS := tSeq (tAsg tDNewK (gName 2)) (tSeq (tAsg (tLst tNil) (gName 3)) (tSeq (tFor (iList K (tVar 0)) (gName 4) (tSeq (tAsg (tC (V.bl true)) (gSub (tVar 2) (tVar 4) rSetD)) (tDrop (tBM K "list" rAppend (tVar 3) (tCons (tVar 4) tNil))))) (tSeq (tWhile (tTest (tOp (rNeD K) (tVar 3) (tLst tNil))) (tFor (iList K (tDGet2 (tVar 1) (tBM0 K "list" rPop (tVar 3)) (tLst tNil))) (gName 4) (tIfS (tB (tDNotIn (tVar 4) (tVar 2))) (tSeq (tAsg (tC (V.bl true)) (gSub (tVar 2) (tVar 4) rSetD)) (tDrop (tBM K "list" rAppend (tVar 3) (tCons (tVar 4) tNil)))) tNext))) (tRet (tVar 2)))))
def D_met_from (K : PySem.W.Frag) : DefR := bodyR (K := K) ["begins", "follows", "found", "waiting", "state"] ["begins", "follows"] (ts_met_from K)
theorem ok_met_from (T : Tx K mg) : Has P w K mg base (L2.CX P w) 1 "met_from" ["begins", "follows"] (spOf K (D_met_from K)) := by
  obtain ⟨fd, F⟩ := T.fn_met_from
  exact has_of T.g_met_from F sc_met_from (fun _ _ _ _ _ _ us hl => match us, hl with | [_, _], _ => rfl) (fun vs H Q E h => body_len h) (fun cdv A outer s H vs Q E hr h => ⟨ts_met_from K, PSs.nox (
    (pss_cons (ps_set (i := 2) sc_met_from.nd rfl (Or.inl rfl) (by exact pe_dnewK))
    (pss_cons (ps_set (i := 3) sc_met_from.nd rfl (Or.inl rfl) (by exact (pe_lst pa_nil)))
    (pss_cons (ps_for PassesOwn.never rfl (pi_list (pv 0)) (pg_name (i := 4) sc_met_from.nd rfl (Or.inl rfl)) (pss_cons (ps_asg pe_bl (pg_sub (pv 2) (pv 4) (set_dict hr.u1)))
    (pss_one (ps_expr (pe_bm PySem.F.plainAttrs_list PySem.F.slot_list_append PySem.F.type_list_append mt_append (pv 3) (pa_cons (pv 4) pa_nil))))))
    (pss_cons (ps_while PassesOwn.never (pt_cmpR (r := rNeD K) (op_neD hr.units) (pv 3) (pe_lst pa_nil) (nomark _)) (pss_one (ps_for PassesOwn.never rfl (pi_list (pe_dget2 hr.u1 (pv 1) (pe_bm0 PySem.F.plainAttrs_list PySem.F.slot_list_pop PySem.F.type_list_pop mt_pop (pv 3)) (pe_lst pa_nil) ⟨by rfl, by rfl, by rfl, by rfl⟩)) (pg_name (i := 4) sc_met_from.nd rfl (Or.inl rfl)) (pss_one (ps_if (pt_cmp (pc_dnotin hr.u1 (pv 4) (pv 2))) (pss_cons (ps_asg pe_bl (pg_sub (pv 2) (pv 4) (set_dict hr.u1)))
    (pss_one (ps_expr (pe_bm PySem.F.plainAttrs_list PySem.F.slot_list_append PySem.F.type_list_append mt_append (pv 3) (pa_cons (pv 4) pa_nil))))) pss_nil)))))
    (pss_one (ps_ret (by exact (pv 2))))))))), body_ok (K := K) (E := E) (N := ["begins", "follows", "found", "waiting", "state"]) (ps := ["begins", "follows"]) (ts := ts_met_from K) (ts' := ts_met_from K) rfl h⟩)
abbrev ts_linked (K : PySem.W.Frag) : TS := tSeq (tAsg tDNewK (gName 1)) (tSeq (tFor (iList K (tVar 0)) (gTup K 2 (gCons (gName 2) (gCons (gName 3) gNil))) (tAsg (tLst (StX.tStar K (tDGet2 (tVar 1) (tVar 2) (tLst tNil)) (tCons (tVar 3) tNil))) (gSub (tVar 1) (tVar 2) rSetD))) (tRet (tVar 1)))
def D_linked (K : PySem.W.Frag) : DefR := bodyR (K := K) ["pairs", "found", "one", "other"] ["pairs"] (ts_linked K)
theorem ok_linked (T : Tx K mg) : Has P w K mg base (L2.CX P w) 1 "linked" ["pairs"] (spOf K (D_linked K)) := by
  obtain ⟨fd, F⟩ := T.fn_linked
  exact has_of T.g_linked F sc_linked (fun _ _ _ _ _ _ us hl => match us, hl with | [_], _ => rfl) (fun vs H Q E h => body_len h) (fun cdv A outer s H vs Q E hr h => ⟨ts_linked K, PSs.nox (
    (pss_cons (ps_set (i := 1) sc_linked.nd rfl (Or.inl rfl) (by exact pe_dnewK))
    (pss_cons (ps_for PassesOwn.never rfl (pi_list (pv 0)) (pg_tup (n := 2) (by rfl) (pgs_cons (pg_name (i := 2) sc_linked.nd rfl (Or.inl rfl)) (pgs_cons (pg_name (i := 3) sc_linked.nd rfl (Or.inl rfl)) pgs_nil))) (pss_one (ps_asg (pe_lst (StX.pa_star (pe_dget2 hr.u1 (pv 1) (pv 2) (pe_lst pa_nil) ⟨by rfl, by rfl, by rfl, by rfl⟩) (pa_cons (pv 3) pa_nil))) (pg_sub (pv 1) (pv 2) (set_dict hr.u1)))))
    (pss_one (ps_ret (by exact (pv 1))))))), body_ok (K := K) (E := E) (N := ["pairs", "found", "one", "other"]) (ps := ["pairs"]) (ts := ts_linked K) (ts' := ts_linked K) rfl h⟩)
abbrev ts_edges_after (K : PySem.W.Frag) : TS := tSeq (tAsg tDNewT (gName 1)) (tSeq (tFor (iTup K (tVar 0)) (gName 2) (tAsg (tTup (StX.tStar K (tDGet2 (tVar 1) (tSl (rSlT K) (tVar 2) tNoPart (tPart (tC (V.int 2)))) (tTup tNil)) (tCons (tVar 2) tNil))) (gSub (tVar 1) (tSl (rSlT K) (tVar 2) tNoPart (tPart (tC (V.int 2)))) rSetD))) (tRet (tVar 1)))
def D_edges_after (K : PySem.W.Frag) : DefR := bodyR (K := K) ["edges", "found", "edge"] ["edges"] (ts_edges_after K)
theorem ok_edges_after (T : Tx K mg) : Has P w K mg base (L2.CX P w) 1 "edges_after" ["edges"] (spOf K (D_edges_after K)) := by
  obtain ⟨fd, F⟩ := T.fn_edges_after
  exact has_of T.g_edges_after F sc_edges_after (fun _ _ _ _ _ _ us hl => match us, hl with | [_], _ => rfl) (fun vs H Q E h => body_len h) (fun cdv A outer s H vs Q E hr h => ⟨ts_edges_after K, PSs.nox (
    (pss_cons (ps_set (i := 1) sc_edges_after.nd rfl (Or.inl rfl) (by exact pe_dnewT))
    (pss_cons (ps_for PassesOwn.never rfl (pi_tup (pv 0)) (pg_name (i := 2) sc_edges_after.nd rfl (Or.inl rfl)) (pss_one (ps_asg (pe_tup (StX.pa_star (pe_dget2 hr.u1 (pv 1) (pe_slice sl_tup (pv 2) po_none (po_some pe_int)) (pe_tup pa_nil) ⟨by rfl, by rfl, by rfl, by rfl⟩) (pa_cons (pv 2) pa_nil))) (pg_sub (pv 1) (pe_slice sl_tup (pv 2) po_none (po_some pe_int)) (set_dict hr.u1)))))
    (pss_one (ps_ret (by exact (pv 1))))))), body_ok (K := K) (E := E) (N := ["edges", "found", "edge"]) (ps := ["edges"]) (ts := ts_edges_after K) (ts' := ts_edges_after K) rfl h⟩)
abbrev ts_edges_before (K : PySem.W.Frag) : TS := tSeq (tAsg tDNewT (gName 1)) (tSeq (tFor (iTup K (tVar 0)) (gName 2) (tSeq (tAsg (tTup (tCons (tOp (rIxT K) (tVar 2) (tC (V.int 1))) (tCons (tOp (rIxT K) (tVar 2) (tC (V.int 3))) tNil))) (gName 3)) (tAsg (tTup (StX.tStar K (tDGet2 (tVar 1) (tVar 3) (tTup tNil)) (tCons (tVar 2) tNil))) (gSub (tVar 1) (tVar 3) rSetD)))) (tRet (tVar 1)))
def D_edges_before (K : PySem.W.Frag) : DefR := bodyR (K := K) ["edges", "found", "edge", "key"] ["edges"] (ts_edges_before K)
theorem ok_edges_before (T : Tx K mg) : Has P w K mg base (L2.CX P w) 1 "edges_before" ["edges"] (spOf K (D_edges_before K)) := by
  obtain ⟨fd, F⟩ := T.fn_edges_before
  exact has_of T.g_edges_before F sc_edges_before (fun _ _ _ _ _ _ us hl => match us, hl with | [_], _ => rfl) (fun vs H Q E h => body_len h) (fun cdv A outer s H vs Q E hr h => ⟨ts_edges_before K, PSs.nox (
    (pss_cons (ps_set (i := 1) sc_edges_before.nd rfl (Or.inl rfl) (by exact pe_dnewT))
    (pss_cons (ps_for PassesOwn.never rfl (pi_tup (pv 0)) (pg_name (i := 2) sc_edges_before.nd rfl (Or.inl rfl)) (pss_cons (ps_set (i := 3) sc_edges_before.nd rfl (Or.inl rfl) (by exact (pe_tup (pa_cons (pe_ix (r := rIxT K) ix_tup (pv 2) pe_int (fun _ _ => rfl)) (pa_cons (pe_ix (r := rIxT K) ix_tup (pv 2) pe_int (fun _ _ => rfl)) pa_nil)))))
    (pss_one (ps_asg (pe_tup (StX.pa_star (pe_dget2 hr.u1 (pv 1) (pv 3) (pe_tup pa_nil) ⟨by rfl, by rfl, by rfl, by rfl⟩) (pa_cons (pv 2) pa_nil))) (pg_sub (pv 1) (pv 3) (set_dict hr.u1))))))
    (pss_one (ps_ret (by exact (pv 1))))))), body_ok (K := K) (E := E) (N := ["edges", "found", "edge", "key"]) (ps := ["edges"]) (ts := ts_edges_before K) (ts' := ts_edges_before K) rfl h⟩)
abbrev ts_kept_words (K : PySem.W.Frag) : TS := tRet (DCT.tDcB false (iList K (tCB (rSortedI K) (tCons (tCB rListD (tCons (tVar 0) tNil)) tNil))) (gName 2) (tTest (tOp (rIn K false) (tVar 2) (tVar 1))) (tVar 2) (tDGet (tVar 0) (tVar 2)) (List.map (fun x => x.snd) [(Str.ofString "state", 2)]))
def D_kept_words (K : PySem.W.Frag) : DefR := bodyR (K := K) ["words", "states", "state"] ["words", "states"] (ts_kept_words K)
theorem ok_kept_words (T : Tx K mg) : Has P w K mg base (L2.CX P w) 1 "kept_words" ["words", "states"] (spOf K (D_kept_words K)) := by
  obtain ⟨fd, F⟩ := T.fn_kept_words
  exact has_of T.g_kept_words F sc_kept_words (fun _ _ _ _ _ _ us hl => match us, hl with | [_, _], _ => rfl) (fun vs H Q E h => body_len h) (fun cdv A outer s H vs Q E hr h => ⟨ts_kept_words K, PSs.nox (
    (pss_one (ps_ret (by exact (DCT.pe_dcB (own := [("state", 2)]) (g := gName 2) false hr.units0 (by rfl) sc_kept_words.nd (pi_list (pe_callB (r := rSortedI K) cr_sortedI (by rfl) T.n_sorted (by decide +kernel) (pa_cons (pe_callTy (r := rListD) (call_list_dK (by rfl)) (by rfl) T.n_list (by decide +kernel) (pa_cons (pv 0) pa_nil)) pa_nil))) (blkOk_by (own := [("state", 2)]) (N := ["words", "states", "state"]) (sc := defScope s_kept_words) (by decide +kernel)) (fun _ _ _ _ _ => (pg_name (i := 2) sc_kept_words.nd rfl (Or.inl rfl))) (fun _ _ _ _ _ => (pts_one (pt_cmpR (r := rIn K false) op_in_seq (pv 2) (pv 1) (by rfl)))) (fun _ _ _ _ _ => (pv 2)) (fun _ _ _ _ _ => (pe_dget hr.u1 (pv 0) (pv 2) (fun _ _ => rfl)))))))), body_ok (K := K) (E := E) (N := ["words", "states", "state"]) (ps := ["words", "states"]) (ts := ts_kept_words K) (ts' := ts_kept_words K) rfl h⟩)
abbrev ts_require_rewriter (K : PySem.W.Frag) (E : XK) : TS := tIfS (tNot (tB (tCB (rIsO (ga K (Str.ofString "Rewriter"))) (tCons (tVar 0) (tCons (tC (V.ref (ga K (Str.ofString "Rewriter")))) tNil))))) (RunX.tRaise (ga K (Str.ofString "InvalidRewriter")) E) tNext
def D_require_rewriter (K : PySem.W.Frag) : DefR := bodyR (K := K) ["value"] ["value"] (ts_require_rewriter K EN)
theorem ok_require_rewriter (T : Tx K mg) : Has P w K mg base (L2.CX P w) 1 "require_rewriter" ["value"] (spOf K (D_require_rewriter K)) := by
  obtain ⟨fd, F⟩ := T.fn_require_rewriter
  exact has_of T.g_require_rewriter F sc_require_rewriter (fun _ _ _ _ _ _ us hl => match us, hl with | [_], _ => rfl) (fun vs H Q E h => body_len h) (fun cdv A outer s H vs Q E hr h => ⟨ts_require_rewriter K E, (pss_one (ps_if (pt_not (pt_val (pe_callB (r := rIsO (ga K "Rewriter")) (call_isO T.is_Rewriter) (by rfl) T.n_isinstance (by decide +kernel) (pa_cons (pv 0) (pa_cons (pe_glob (v := .ref (ga K "Rewriter")) (by rfl) T.g_Rewriter rfl) pa_nil))))) (pss_one (asRaise (C := ga K "InvalidRewriter") (E := E) (ps_raise rfl (takes_of rfl rfl rfl rfl) (pmk_own PySem.F.excBase_ValueError (T.e_InvalidRewriter).1 T.g_InvalidRewriter (T.e_InvalidRewriter).2.1 (raises_own (T.e_InvalidRewriter).2.2.1 (T.e_InvalidRewriter).2.2.2) (by rfl))))) pss_nil)), body_ok (K := K) (E := E) (N := ["value"]) (ps := ["value"]) (ts := ts_require_rewriter K EN) (ts' := ts_require_rewriter K E) rfl h⟩)
abbrev ts_last_in (K : PySem.W.Frag) : TS := tSeq (tAsg (tVar 0) (gTup K 2 (gCons (gName 1) (gCons (gName 2) gNil)))) (tRet (tIf (tTest (tOp (rNeD K) (tVar 2) (tTup tNil))) (tOp (rIxT K) (tOp (rIxT K) (tVar 2) (tUn (rU fun i => V.int (-i)) (tC (V.int 1)))) (tC (V.int 3))) (tVar 1)))
def D_last_in (K : PySem.W.Frag) : DefR := bodyR (K := K) ["path", "state", "edges"] ["path"] (ts_last_in K)
theorem ok_last_in (T : Tx K mg) : Has P w K mg base (L2.CX P w) 1 "last_in" ["path"] (spOf K (D_last_in K)) := by
  obtain ⟨fd, F⟩ := T.fn_last_in
  exact has_of T.g_last_in F sc_last_in (fun _ _ _ _ _ _ us hl => match us, hl with | [_], _ => rfl) (fun vs H Q E h => body_len h) (fun cdv A outer s H vs Q E hr h => ⟨ts_last_in K, PSs.nox (
    (pss_cons (ps_asg (pv 0) (pg_tup (n := 2) (by rfl) (pgs_cons (pg_name (i := 1) sc_last_in.nd rfl (Or.inl rfl)) (pgs_cons (pg_name (i := 2) sc_last_in.nd rfl (Or.inl rfl)) pgs_nil))))
    (pss_one (ps_ret (by exact (pe_ifExp (pt_cmpR (r := rNeD K) (op_neD hr.units) (pv 2) (pe_tup pa_nil) (nomark _)) (pe_ix (r := rIxT K) ix_tup (pe_ix (r := rIxT K) ix_tup (pv 2) (pe_un un_neg pe_int) (fun _ _ => rfl)) pe_int (fun _ _ => rfl)) (pv 1))))))), body_ok (K := K) (E := E) (N := ["path", "state", "edges"]) (ps := ["path"]) (ts := ts_last_in K) (ts' := ts_last_in K) rfl h⟩)
abbrev ts_written_in (K : PySem.W.Frag) : TS := tRet (tM1 (rJoinO K) (tC (V.str (Str.ofString ""))) (tLst (tCons (tDGet (tFldO (ga K (Str.ofString "Rewriter")) (Str.ofString "own_starts") (tVar 0)) (tOp (rIxT K) (tVar 1) (tC (V.int 0)))) (StX.tStar K (tLc (iTup K (tOp (rIxT K) (tVar 1) (tC (V.int 1)))) (gName 2) tYes (tOp (rIxT K) (tVar 2) (tC (V.int 2))) (List.map (fun x => x.snd) [(Str.ofString "edge", 2)])) tNil))))
def D_written_in (K : PySem.W.Frag) : DefR := bodyR (K := K) ["rewriter", "path", "edge"] ["rewriter", "path"] (ts_written_in K)
theorem ok_written_in (T : Tx K mg) : Has P w K mg base (L2.CX P w) 1 "written_in" ["rewriter", "path"] (spOf K (D_written_in K)) := by
  obtain ⟨fd, F⟩ := T.fn_written_in
  exact has_of T.g_written_in F sc_written_in (fun _ _ _ _ _ _ us hl => match us, hl with | [_, _], _ => rfl) (fun vs H Q E h => body_len h) (fun cdv A outer s H vs Q E hr h => ⟨ts_written_in K, PSs.nox (
    (pss_one (ps_ret (by exact (pe_joinO pe_str (pe_lst (pa_cons (pe_dget hr.u1 (pe_fldO (T.c_Rewriter).1 T.f_Rewriter_own_starts (pv 0)) (pe_ix (r := rIxT K) ix_tup (pv 1) pe_int (fun _ _ => rfl)) (fun _ _ => rfl)) (StX.pa_star (pe_lc (own := [("edge", 2)]) (g := gName 2) (by rfl) sc_written_in.nd (pi_tup (pe_ix (r := rIxT K) ix_tup (pv 1) pe_int (fun _ _ => rfl))) (blkOk_by (own := [("edge", 2)]) (N := ["rewriter", "path", "edge"]) (sc := defScope s_written_in) (by decide +kernel)) (fun _ _ _ _ _ => (pg_name (i := 2) sc_written_in.nd rfl (Or.inl rfl))) (fun _ _ _ _ _ => pts_nil) (fun _ _ _ _ _ => (pe_ix (r := rIxT K) ix_tup (pv 2) pe_int (fun _ _ => rfl)))) pa_nil)))))))), body_ok (K := K) (E := E) (N := ["rewriter", "path", "edge"]) (ps := ["rewriter", "path"]) (ts := ts_written_in K) (ts' := ts_written_in K) rfl h⟩)
abbrev ts_clCircle (K : PySem.W.Frag) : TS := tRet (tFldO (ga K (Str.ofString "Climb")) (Str.ofString "own_circle") (tVar 0))
def D_clCircle (K : PySem.W.Frag) : DefR := bodyR (K := K) ["self"] ["self"] (ts_clCircle K)
theorem ok_clCircle (T : Tx K mg) : HasA P w K mg base (L2.CX P w) 1 (propG K "Climb" "circle") ["self"] (spOf K (D_clCircle K)) := by
  obtain ⟨fd, F⟩ := T.fn_clCircle
  exact hasA_of F sc_clCircle (fun _ _ _ _ _ _ us hl => match us, hl with | [_], _ => rfl) (fun vs H Q E h => body_len h) (fun cdv A outer s H vs Q E hr h => ⟨ts_clCircle K, PSs.nox (
    (pss_one (ps_ret (by exact (pe_fldO (T.c_Climb).1 T.f_Climb_own_circle (pv 0)))))), body_ok (K := K) (E := E) (N := ["self"]) (ps := ["self"]) (ts := ts_clCircle K) (ts' := ts_clCircle K) rfl h⟩)
end
end K5
set_option maxHeartbeats 4000000
set_option synthInstance.maxSize 100000
set_option synthInstance.maxHeartbeats 4000000
namespace K5
open PySem PySem.Spec PyProof.Rows L2 He Hx Hy PO RunX PB
section
variable {P : Program} {w : World} {K : PySem.W.Frag} {mg : Str → Option Value} {base : Heap}
abbrev ts_is_between (K : PySem.W.Frag) : TS := tRet (tAndV (tCall (spOf K (D_is_integer K)) [] E0 (tCons (tVar 0) tNil)) (tChain (rI0 fun i j => V.bl (decide (i ≤ j))) (rI0 fun i j => V.bl (decide (i ≤ j))) (tVar 1) (tVar 0) (tVar 2)))
def D_is_between (K : PySem.W.Frag) : DefR := bodyR (K := K) ["value", "low", "high"] ["value", "low", "high"] (ts_is_between K)
theorem ok_is_between (T : Tx K mg) : Has P w K mg base (L2.CX P w) 2 "is_between" ["value", "low", "high"] (spOf K (D_is_between K)) := by
  obtain ⟨g_is_integer, k_is_integer, fd_is_integer, G_is_integer, b_is_integer⟩ := ok_is_integer (P := P) (w := w) (base := base) T
  obtain ⟨fd, F⟩ := T.fn_is_between
  exact has_of T.g_is_between F sc_is_between (fun _ _ _ _ _ _ us hl => match us, hl with | [_, _, _], _ => rfl) (fun vs H Q E h => body_len h) (fun cdv A outer s H vs Q E hr h => ⟨ts_is_between K, PSs.nox (
    (pss_one (ps_ret (by exact (pe_and (pe_call (E := E0) G_is_integer (hr.mono (by decide)) (by rfl) g_is_integer k_is_integer b_is_integer .nil passX0 (pa_cons (pv 0) pa_nil)) (pe_one (pe_chain op_le op_le (pv 1) (pv 0) (pv 2)))))))), body_ok (K := K) (E := E) (N := ["value", "low", "high"]) (ps := ["value", "low", "high"]) (ts := ts_is_between K) (ts' := ts_is_between K) rfl h⟩)
abbrev ts_are_letters (K : PySem.W.Frag) : TS := tRet (tAndV (tCall (spOf K (D_is_word K)) [] E0 (tCons (tVar 0) tNil)) (tAndV (tChain (rI0 fun i j => V.bl (decide (i ≤ j))) (rI0 fun i j => V.bl (decide (i ≤ j))) (tC (V.int 1)) (tCB (rLen K) (tCons (tVar 0) tNil)) (tC (V.int 4))) (tCall (spOf K (D_are_ascending K)) [] E0 (tCons (tVar 0) tNil))))
def D_are_letters (K : PySem.W.Frag) : DefR := bodyR (K := K) ["value"] ["value"] (ts_are_letters K)
theorem ok_are_letters (T : Tx K mg) : Has P w K mg base (L2.CX P w) 2 "are_letters" ["value"] (spOf K (D_are_letters K)) := by
  obtain ⟨t_MOST_LETTERS_words, c_MOST_LETTERS_words⟩ := T.v_MOST_LETTERS_words
  obtain ⟨g_are_ascending, k_are_ascending, fd_are_ascending, G_are_ascending, b_are_ascending⟩ := ok_are_ascending (P := P) (w := w) (base := base) T
  obtain ⟨g_is_word, k_is_word, fd_is_word, G_is_word, b_is_word⟩ := ok_is_word (P := P) (w := w) (base := base) T
  obtain ⟨fd, F⟩ := T.fn_are_letters
  exact has_of T.g_are_letters F sc_are_letters (fun _ _ _ _ _ _ us hl => match us, hl with | [_], _ => rfl) (fun vs H Q E h => body_len h) (fun cdv A outer s H vs Q E hr h => ⟨ts_are_letters K, PSs.nox (
    (pss_one (ps_ret (by exact (pe_and (pe_call (E := E0) G_is_word (hr.mono (by decide)) (by rfl) g_is_word k_is_word b_is_word .nil passX0 (pa_cons (pv 0) pa_nil)) (pe_and (pe_chain op_le op_le pe_int (pe_callB (r := rLen K) call_len (by rfl) T.n_len (by decide +kernel) (pa_cons (pv 0) pa_nil)) (pe_glob (v := .int 4) rfl c_MOST_LETTERS_words ⟨_, rfl⟩)) (pe_one (pe_call (E := E0) G_are_ascending (hr.mono (by decide)) (by rfl) g_are_ascending k_are_ascending b_are_ascending .nil passX0 (pa_cons (pv 0) pa_nil))))))))), body_ok (K := K) (E := E) (N := ["value"]) (ps := ["value"]) (ts := ts_are_letters K) (ts' := ts_are_letters K) rfl h⟩)
abbrev ts_useful_in (K : PySem.W.Frag) : TS := tSeq (tAsg (tCall (spOf K (D_met_from K)) [] E0 (tCons (tCB rListD (tCons (tVar 0) tNil)) (tCons (tCall (spOf K (D_linked K)) [] E0 (tCons (tLc (iTup K (tVar 1)) (gName 3) tYes (tTup (tCons (tOp (rIxT K) (tVar 3) (tC (V.int 0))) (tCons (tOp (rIxT K) (tVar 3) (tC (V.int 3))) tNil))) (List.map (fun x => x.snd) [(Str.ofString "edge", 3)])) tNil)) tNil))) (gName 4)) (tSeq (tAsg (tCall (spOf K (D_met_from K)) [] E0 (tCons (tCB rListD (tCons (tVar 2) tNil)) (tCons (tCall (spOf K (D_linked K)) [] E0 (tCons (tLc (iTup K (tVar 1)) (gName 3) tYes (tTup (tCons (tOp (rIxT K) (tVar 3) (tC (V.int 3))) (tCons (tOp (rIxT K) (tVar 3) (tC (V.int 0))) tNil))) (List.map (fun x => x.snd) [(Str.ofString "edge", 3)])) tNil)) tNil))) (gName 5)) (tRet (tCB (rSortedI K) (tCons (tLockE (tLc (iKeys (tVar 4)) (gName 6) (tB (tDIn (tVar 6) (tVar 5))) (tVar 6) (List.map (fun x => x.snd) [(Str.ofString "state", 6)]))) tNil))))
def D_useful_in (K : PySem.W.Frag) : DefR := bodyR (K := K) ["starts", "edges", "ends", "edge", "ahead", "back", "state"] ["starts", "edges", "ends"] (ts_useful_in K)
theorem ok_useful_in (T : Tx K mg) : Has P w K mg base (L2.CX P w) 2 "useful_in" ["starts", "edges", "ends"] (spOf K (D_useful_in K)) := by
  obtain ⟨g_met_from, k_met_from, fd_met_from, G_met_from, b_met_from⟩ := ok_met_from (P := P) (w := w) (base := base) T
  obtain ⟨g_linked, k_linked, fd_linked, G_linked, b_linked⟩ := ok_linked (P := P) (w := w) (base := base) T
  obtain ⟨fd, F⟩ := T.fn_useful_in
  exact has_of T.g_useful_in F sc_useful_in (fun _ _ _ _ _ _ us hl => match us, hl with | [_, _, _], _ => rfl) (fun vs H Q E h => body_len h) (fun cdv A outer s H vs Q E hr h => ⟨ts_useful_in K, PSs.nox (
    (pss_cons (ps_set (i := 4) sc_useful_in.nd rfl (Or.inl rfl) (by exact (pe_call (E := E0) G_met_from (hr.mono (by decide)) (by rfl) g_met_from k_met_from b_met_from .nil passX0 (pa_cons (pe_callTy (r := rListD) (call_list_dK (by rfl)) (by rfl) T.n_list (by decide +kernel) (pa_cons (pv 0) pa_nil)) (pa_cons (pe_call (E := E0) G_linked (hr.mono (by decide)) (by rfl) g_linked k_linked b_linked .nil passX0 (pa_cons (pe_lc (own := [("edge", 3)]) (g := gName 3) (by rfl) sc_useful_in.nd (pi_tup (pv 1)) (blkOk_by (own := [("edge", 3)]) (N := ["starts", "edges", "ends", "edge", "ahead", "back", "state"]) (sc := defScope s_useful_in) (by decide +kernel)) (fun _ _ _ _ _ => (pg_name (i := 3) sc_useful_in.nd rfl (Or.inl rfl))) (fun _ _ _ _ _ => pts_nil) (fun _ _ _ _ _ => (pe_tup (pa_cons (pe_ix (r := rIxT K) ix_tup (pv 3) pe_int (fun _ _ => rfl)) (pa_cons (pe_ix (r := rIxT K) ix_tup (pv 3) pe_int (fun _ _ => rfl)) pa_nil))))) pa_nil)) pa_nil)))))
    (pss_cons (ps_set (i := 5) sc_useful_in.nd rfl (Or.inr rfl) (by exact (pe_call (E := E0) G_met_from (hr.mono (by decide)) (by rfl) g_met_from k_met_from b_met_from .nil passX0 (pa_cons (pe_callTy (r := rListD) (call_list_dK (by rfl)) (by rfl) T.n_list (by decide +kernel) (pa_cons (pv 2) pa_nil)) (pa_cons (pe_call (E := E0) G_linked (hr.mono (by decide)) (by rfl) g_linked k_linked b_linked .nil passX0 (pa_cons (pe_lc (own := [("edge", 3)]) (g := gName 3) (by rfl) sc_useful_in.nd (pi_tup (pv 1)) (blkOk_by (own := [("edge", 3)]) (N := ["starts", "edges", "ends", "edge", "ahead", "back", "state"]) (sc := defScope s_useful_in) (by decide +kernel)) (fun _ _ _ _ _ => (pg_name (i := 3) sc_useful_in.nd rfl (Or.inl rfl))) (fun _ _ _ _ _ => pts_nil) (fun _ _ _ _ _ => (pe_tup (pa_cons (pe_ix (r := rIxT K) ix_tup (pv 3) pe_int (fun _ _ => rfl)) (pa_cons (pe_ix (r := rIxT K) ix_tup (pv 3) pe_int (fun _ _ => rfl)) pa_nil))))) pa_nil)) pa_nil)))))
    (pss_one (ps_ret (by exact (pe_callB (r := rSortedI K) cr_sortedI (by rfl) T.n_sorted (by decide +kernel) (pa_cons (pe_lock (pe_lc (own := [("state", 6)]) (g := gName 6) (by rfl) sc_useful_in.nd (pi_keys (pv 4)) (blkOk_by (own := [("state", 6)]) (N := ["starts", "edges", "ends", "edge", "ahead", "back", "state"]) (sc := defScope s_useful_in) (by decide +kernel)) (fun _ _ _ _ _ => (pg_name (i := 6) sc_useful_in.nd rfl (Or.inl rfl))) (fun _ _ _ _ _ => (pts_one (pt_cmp (pc_din hr.u1 (pv 6) (pv 5))))) (fun _ _ _ _ _ => (pv 6)))) pa_nil)))))))), body_ok (K := K) (E := E) (N := ["starts", "edges", "ends", "edge", "ahead", "back", "state"]) (ps := ["starts", "edges", "ends"]) (ts := ts_useful_in K) (ts' := ts_useful_in K) rfl h⟩)
abbrev ts_is_short (K : PySem.W.Frag) : TS := tRet (tAndV (tCB (rIsi K) (tCons (tVar 0) (tCons (tC (V.ty "str")) tNil))) (tAndV (tOp (rI0 fun i j => V.bl (decide (i ≤ j))) (tCB (rLen K) (tCons (tVar 0) tNil)) (tC (V.int 8))) (tCall (spOf K (D_is_word K)) [] E0 (tCons (tVar 0) tNil))))
def D_is_short (K : PySem.W.Frag) : DefR := bodyR (K := K) ["value"] ["value"] (ts_is_short K)
theorem ok_is_short (T : Tx K mg) : Has P w K mg base (L2.CX P w) 2 "is_short" ["value"] (spOf K (D_is_short K)) := by
  obtain ⟨t_MAX_WORD, c_MAX_WORD⟩ := T.v_MAX_WORD
  obtain ⟨g_is_word, k_is_word, fd_is_word, G_is_word, b_is_word⟩ := ok_is_word (P := P) (w := w) (base := base) T
  obtain ⟨fd, F⟩ := T.fn_is_short
  exact has_of T.g_is_short F sc_is_short (fun _ _ _ _ _ _ us hl => match us, hl with | [_], _ => rfl) (fun vs H Q E h => body_len h) (fun cdv A outer s H vs Q E hr h => ⟨ts_is_short K, PSs.nox (
    (pss_one (ps_ret (by exact (pe_and (pe_callB (r := rIsi K) call_isi (by rfl) T.n_isinstance (by decide +kernel) (pa_cons (pv 0) (pa_cons (pe_bltn (v := .ty "str") (by rfl) T.n_str (by decide +kernel) rfl) pa_nil))) (pe_and (pe_cmpR op_le (pe_callB (r := rLen K) call_len (by rfl) T.n_len (by decide +kernel) (pa_cons (pv 0) pa_nil)) (pe_glob (v := .int 8) rfl c_MAX_WORD ⟨_, rfl⟩) (nomark _)) (pe_one (pe_call (E := E0) G_is_word (hr.mono (by decide)) (by rfl) g_is_word k_is_word b_is_word .nil passX0 (pa_cons (pv 0) pa_nil))))))))), body_ok (K := K) (E := E) (N := ["value"]) (ps := ["value"]) (ts := ts_is_short K) (ts' := ts_is_short K) rfl h⟩)
abbrev ts_is_edge_at (K : PySem.W.Frag) : TS := tSeq (tIfS (tOr (tNot (tB (tCB (rIsi K) (tCons (tVar 2) (tCons (tC (V.ty "tuple")) tNil))))) (tOr (tTest (tOp rNe (tCB (rLen K) (tCons (tVar 2) tNil)) (tC (V.int 4)))) (tOr (tNot (tB (tCall (spOf K (D_is_integer K)) [] E0 (tCons (tOp (rIxT K) (tVar 2) (tC (V.int 0))) tNil)))) (tNot (tB (tCall (spOf K (D_is_integer K)) [] E0 (tCons (tOp (rIxT K) (tVar 2) (tC (V.int 3))) tNil))))))) (tRet (tC (V.bl false))) tNext) (tSeq (tIfS (tOr (tNot (tB (tCB (rIsi K) (tCons (tOp (rIxT K) (tVar 2) (tC (V.int 1))) (tCons (tC (V.ty "str")) tNil))))) (tNot (tB (tCB (rIsi K) (tCons (tOp (rIxT K) (tVar 2) (tC (V.int 2))) (tCons (tC (V.ty "str")) tNil)))))) (tRet (tC (V.bl false))) tNext) (tRet (tAndV (tOp rEq (tOp (rIxT K) (tVar 2) (tC (V.int 0))) (tVar 1)) (tOp (rInDT K) (tVar 2) (tDGet2 (tFldO (ga K (Str.ofString "Rewriter")) (Str.ofString "own_after") (tVar 0)) (tTup (tCons (tVar 1) (tCons (tOp (rIxT K) (tVar 2) (tC (V.int 1))) tNil))) (tTup tNil))))))
def D_is_edge_at (K : PySem.W.Frag) : DefR := bodyR (K := K) ["rewriter", "state", "value"] ["rewriter", "state", "value"] (ts_is_edge_at K)
theorem ok_is_edge_at (T : Tx K mg) : Has P w K mg base (L2.CX P w) 2 "is_edge_at" ["rewriter", "state", "value"] (spOf K (D_is_edge_at K)) := by
  obtain ⟨g_is_integer, k_is_integer, fd_is_integer, G_is_integer, b_is_integer⟩ := ok_is_integer (P := P) (w := w) (base := base) T
  obtain ⟨fd, F⟩ := T.fn_is_edge_at
  exact has_of T.g_is_edge_at F sc_is_edge_at (fun _ _ _ _ _ _ us hl => match us, hl with | [_, _, _], _ => rfl) (fun vs H Q E h => body_len h) (fun cdv A outer s H vs Q E hr h => ⟨ts_is_edge_at K, PSs.nox (
    (pss_cons (ps_if (PW.pt (pw_or (pt_not (pt_val (pe_callB (r := rIsi K) call_isi (by rfl) T.n_isinstance (by decide +kernel) (pa_cons (pv 2) (pa_cons (pe_bltn (v := .ty "tuple") (by rfl) T.n_tuple (by decide +kernel) rfl) pa_nil))))) (pw_or (pt_cmpR op_ne (pe_callB (r := rLen K) call_len (by rfl) T.n_len (by decide +kernel) (pa_cons (pv 2) pa_nil)) pe_int (nomark _)) (pw_or (pt_not (pt_val (pe_call (E := E0) G_is_integer (hr.mono (by decide)) (by rfl) g_is_integer k_is_integer b_is_integer .nil passX0 (pa_cons (pe_ix (r := rIxT K) ix_tup (pv 2) pe_int (fun _ _ => rfl)) pa_nil)))) (pw_or1 (pt_not (pt_val (pe_call (E := E0) G_is_integer (hr.mono (by decide)) (by rfl) g_is_integer k_is_integer b_is_integer .nil passX0 (pa_cons (pe_ix (r := rIxT K) ix_tup (pv 2) pe_int (fun _ _ => rfl)) pa_nil))))))))) (pss_one (ps_ret (by exact pe_bl))) pss_nil)
    (pss_cons (ps_if (PW.pt (pw_or (pt_not (pt_val (pe_callB (r := rIsi K) call_isi (by rfl) T.n_isinstance (by decide +kernel) (pa_cons (pe_ix (r := rIxT K) ix_tup (pv 2) pe_int (fun _ _ => rfl)) (pa_cons (pe_bltn (v := .ty "str") (by rfl) T.n_str (by decide +kernel) rfl) pa_nil))))) (pw_or1 (pt_not (pt_val (pe_callB (r := rIsi K) call_isi (by rfl) T.n_isinstance (by decide +kernel) (pa_cons (pe_ix (r := rIxT K) ix_tup (pv 2) pe_int (fun _ _ => rfl)) (pa_cons (pe_bltn (v := .ty "str") (by rfl) T.n_str (by decide +kernel) rfl) pa_nil)))))))) (pss_one (ps_ret (by exact pe_bl))) pss_nil)
    (pss_one (ps_ret (by exact (pe_and (pe_cmpR op_eq (pe_ix (r := rIxT K) ix_tup (pv 2) pe_int (fun _ _ => rfl)) (pv 1) (nomark _)) (pe_one (pe_cmpR (r := rInDT K) (op_inDT hr.u65) (pv 2) (pe_dget2 hr.u1 (pe_fldO (T.c_Rewriter).1 T.f_Rewriter_own_after (pv 0)) (pe_tup (pa_cons (pv 1) (pa_cons (pe_ix (r := rIxT K) ix_tup (pv 2) pe_int (fun _ _ => rfl)) pa_nil))) (pe_tup pa_nil) ⟨by rfl, by rfl, by rfl, by rfl⟩) (by rfl)))))))))), body_ok (K := K) (E := E) (N := ["rewriter", "state", "value"]) (ps := ["rewriter", "state", "value"]) (ts := ts_is_edge_at K) (ts' := ts_is_edge_at K) rfl h⟩)
abbrev ts_writes_in (K : PySem.W.Frag) : TS := tRet (tOp RunX.rAddS (tCall (spOf K (D_written_in K)) [] E0 (tCons (tVar 0) (tCons (tVar 1) tNil))) (tDGet2 (tFldO (ga K (Str.ofString "Rewriter")) (Str.ofString "own_ends") (tVar 0)) (tCall (spOf K (D_last_in K)) [] E0 (tCons (tVar 1) tNil)) (tC (V.str (Str.ofString "")))))
def D_writes_in (K : PySem.W.Frag) : DefR := bodyR (K := K) ["rewriter", "path"] ["rewriter", "path"] (ts_writes_in K)
theorem ok_writes_in (T : Tx K mg) : Has P w K mg base (L2.CX P w) 2 "writes_in" ["rewriter", "path"] (spOf K (D_writes_in K)) := by
  obtain ⟨g_written_in, k_written_in, fd_written_in, G_written_in, b_written_in⟩ := ok_written_in (P := P) (w := w) (base := base) T
  obtain ⟨g_last_in, k_last_in, fd_last_in, G_last_in, b_last_in⟩ := ok_last_in (P := P) (w := w) (base := base) T
  obtain ⟨fd, F⟩ := T.fn_writes_in
  exact has_of T.g_writes_in F sc_writes_in (fun _ _ _ _ _ _ us hl => match us, hl with | [_, _], _ => rfl) (fun vs H Q E h => body_len h) (fun cdv A outer s H vs Q E hr h => ⟨ts_writes_in K, PSs.nox (
    (pss_one (ps_ret (by exact (pe_op op_addS (pe_call (E := E0) G_written_in (hr.mono (by decide)) (by rfl) g_written_in k_written_in b_written_in .nil passX0 (pa_cons (pv 0) (pa_cons (pv 1) pa_nil))) (pe_dget2 hr.u1 (pe_fldO (T.c_Rewriter).1 T.f_Rewriter_own_ends (pv 0)) (pe_call (E := E0) G_last_in (hr.mono (by decide)) (by rfl) g_last_in k_last_in b_last_in .nil passX0 (pa_cons (pv 1) pa_nil)) pe_str ⟨by rfl, by rfl, by rfl, by rfl⟩)))))), body_ok (K := K) (E := E) (N := ["rewriter", "path"]) (ps := ["rewriter", "path"]) (ts := ts_writes_in K) (ts' := ts_writes_in K) rfl h⟩)
abbrev ts_is_edge_in (K : PySem.W.Frag) : TS := tSeq (tIfS (tOr (tNot (tB (tCB (rIsi K) (tCons (tVar 1) (tCons (tC (V.ty "tuple")) tNil))))) (tOr (tTest (tOp rNe (tCB (rLen K) (tCons (tVar 1) tNil)) (tC (V.int 4)))) (tNot (tB (tCall (spOf K (D_is_integer K)) [] E0 (tCons (tOp (rIxT K) (tVar 1) (tC (V.int 0))) tNil)))))) (tRet (tC (V.bl false))) tNext) (tSeq (tIfS (tOr (tNot (tB (tCB (rIsi K) (tCons (tOp (rIxT K) (tVar 1) (tC (V.int 1))) (tCons (tC (V.ty "str")) tNil))))) (tOr (tNot (tB (tCB (rIsi K) (tCons (tOp (rIxT K) (tVar 1) (tC (V.int 2))) (tCons (tC (V.ty "str")) tNil))))) (tNot (tB (tCall (spOf K (D_is_integer K)) [] E0 (tCons (tOp (rIxT K) (tVar 1) (tC (V.int 3))) tNil)))))) (tRet (tC (V.bl false))) tNext) (tRet (tOp (rInDT K) (tVar 1) (tFldO (ga K (Str.ofString "Rewriter")) (Str.ofString "own_edges") (tVar 0)))))
def D_is_edge_in (K : PySem.W.Frag) : DefR := bodyR (K := K) ["rewriter", "value"] ["rewriter", "value"] (ts_is_edge_in K)
theorem ok_is_edge_in (T : Tx K mg) : Has P w K mg base (L2.CX P w) 2 "is_edge_in" ["rewriter", "value"] (spOf K (D_is_edge_in K)) := by
  obtain ⟨t_BETWEEN_SIZE, c_BETWEEN_SIZE⟩ := T.v_BETWEEN_SIZE
  obtain ⟨g_is_integer, k_is_integer, fd_is_integer, G_is_integer, b_is_integer⟩ := ok_is_integer (P := P) (w := w) (base := base) T
  obtain ⟨fd, F⟩ := T.fn_is_edge_in
  exact has_of T.g_is_edge_in F sc_is_edge_in (fun _ _ _ _ _ _ us hl => match us, hl with | [_, _], _ => rfl) (fun vs H Q E h => body_len h) (fun cdv A outer s H vs Q E hr h => ⟨ts_is_edge_in K, PSs.nox (
    (pss_cons (ps_if (PW.pt (pw_or (pt_not (pt_val (pe_callB (r := rIsi K) call_isi (by rfl) T.n_isinstance (by decide +kernel) (pa_cons (pv 1) (pa_cons (pe_bltn (v := .ty "tuple") (by rfl) T.n_tuple (by decide +kernel) rfl) pa_nil))))) (pw_or (pt_cmpR op_ne (pe_callB (r := rLen K) call_len (by rfl) T.n_len (by decide +kernel) (pa_cons (pv 1) pa_nil)) (pe_glob (v := .int 4) rfl c_BETWEEN_SIZE ⟨_, rfl⟩) (nomark _)) (pw_or1 (pt_not (pt_val (pe_call (E := E0) G_is_integer (hr.mono (by decide)) (by rfl) g_is_integer k_is_integer b_is_integer .nil passX0 (pa_cons (pe_ix (r := rIxT K) ix_tup (pv 1) pe_int (fun _ _ => rfl)) pa_nil)))))))) (pss_one (ps_ret (by exact pe_bl))) pss_nil)
    (pss_cons (ps_if (PW.pt (pw_or (pt_not (pt_val (pe_callB (r := rIsi K) call_isi (by rfl) T.n_isinstance (by decide +kernel) (pa_cons (pe_ix (r := rIxT K) ix_tup (pv 1) pe_int (fun _ _ => rfl)) (pa_cons (pe_bltn (v := .ty "str") (by rfl) T.n_str (by decide +kernel) rfl) pa_nil))))) (pw_or (pt_not (pt_val (pe_callB (r := rIsi K) call_isi (by rfl) T.n_isinstance (by decide +kernel) (pa_cons (pe_ix (r := rIxT K) ix_tup (pv 1) pe_int (fun _ _ => rfl)) (pa_cons (pe_bltn (v := .ty "str") (by rfl) T.n_str (by decide +kernel) rfl) pa_nil))))) (pw_or1 (pt_not (pt_val (pe_call (E := E0) G_is_integer (hr.mono (by decide)) (by rfl) g_is_integer k_is_integer b_is_integer .nil passX0 (pa_cons (pe_ix (r := rIxT K) ix_tup (pv 1) pe_int (fun _ _ => rfl)) pa_nil)))))))) (pss_one (ps_ret (by exact pe_bl))) pss_nil)
    (pss_one (ps_ret (by exact (pe_cmpR (r := rInDT K) (op_inDT hr.u65) (pv 1) (pe_fldO (T.c_Rewriter).1 T.f_Rewriter_own_edges (pv 0)) (by rfl)))))))), body_ok (K := K) (E := E) (N := ["rewriter", "value"]) (ps := ["rewriter", "value"]) (ts := ts_is_edge_in K) (ts' := ts_is_edge_in K) rfl h⟩)
abbrev ts_clSums (K : PySem.W.Frag) : TS := tRet (DCT.tDcB false (iTup K (tFldO (ga K (Str.ofString "Rewriter")) (Str.ofString "own_states") (tFldO (ga K (Str.ofString "Climb")) (Str.ofString "own_rewriter") (tVar 0)))) (gName 1) tYes (tVar 1) (tDGet (tFldO (ga K (Str.ofString "Climb")) (Str.ofString "own_sums") (tVar 0)) (tVar 1)) (List.map (fun x => x.snd) [(Str.ofString "state", 1)]))
def D_clSums (K : PySem.W.Frag) : DefR := bodyR (K := K) ["self", "state"] ["self"] (ts_clSums K)
theorem ok_clSums (T : Tx K mg) : HasA P w K mg base (L2.CX P w) 1 (propG K "Climb" "sums") ["self"] (spOf K (D_clSums K)) := by
  obtain ⟨fd, F⟩ := T.fn_clSums
  exact hasA_of F sc_clSums (fun _ _ _ _ _ _ us hl => match us, hl with | [_], _ => rfl) (fun vs H Q E h => body_len h) (fun cdv A outer s H vs Q E hr h => ⟨ts_clSums K, PSs.nox (
    (pss_one (ps_ret (by exact (DCT.pe_dcB (own := [("state", 1)]) (g := gName 1) false hr.units0 (by rfl) sc_clSums.nd (pi_tup (pe_fldO (T.c_Rewriter).1 T.f_Rewriter_own_states (pe_fldO (T.c_Climb).1 T.f_Climb_own_rewriter (pv 0)))) (blkOk_by (own := [("state", 1)]) (N := ["self", "state"]) (sc := defScope s_clSums) (by decide +kernel)) (fun _ _ _ _ _ => (pg_name (i := 1) sc_clSums.nd rfl (Or.inl rfl))) (fun _ _ _ _ _ => pts_nil) (fun _ _ _ _ _ => (pv 1)) (fun _ _ _ _ _ => (pe_dget hr.u1 (pe_fldO (T.c_Climb).1 T.f_Climb_own_sums (pv 0)) (pv 1) (fun _ _ => rfl)))))))), body_ok (K := K) (E := E) (N := ["self", "state"]) (ps := ["self"]) (ts := ts_clSums K) (ts' := ts_clSums K) rfl h⟩)
abbrev ts_goOn (K : PySem.W.Frag) : TS := tSeq (tAsg (tC V.non) (gName 1)) (tSeq (tFor (ZG.iZipG K (tCons (tFldO (ga K (Str.ofString "Rewriter")) (Str.ofString "own_edges") (tFldO (ga K (Str.ofString "Climb")) (Str.ofString "own_rewriter") (tVar 0))) (tCons (tFldO (ga K (Str.ofString "Climb")) (Str.ofString "own_weights") (tVar 0)) tNil))) (gTup K 2 (gCons (gName 2) (gCons (gName 3) gNil))) tNever) (tRet (tVar 1)))
def D_goOn (K : PySem.W.Frag) : DefR := bodyR (K := K) ["self", "found", "edge", "weight", "sum_here"] ["self"] (ts_goOn K)
theorem ok_goOn (T : Tx K mg) : HasA P w K mg base (L2.CX P w) 1 (ma K (ga K "Climb") "go_on") ["self"] (spOf K (D_goOn K)) := by
  obtain ⟨fd, F⟩ := T.fn_goOn
  exact hasA_of F sc_goOn (fun _ _ _ _ _ _ us hl => match us, hl with | [_], _ => rfl) (fun vs H Q E h => body_len h) (fun cdv A outer s H vs Q E hr h => ⟨ts_goOn K, PSs.nox (
    (pss_cons (ps_set (i := 1) sc_goOn.nd rfl (Or.inl rfl) (by exact pe_non))
    (pss_cons (ps_for PassesOwn.never rfl (ZG.pi_zipG (by rfl) T.n_zip (pa_cons (pe_fldO (T.c_Rewriter).1 T.f_Rewriter_own_edges (pe_fldO (T.c_Climb).1 T.f_Climb_own_rewriter (pv 0))) (pa_cons (pe_fldO (T.c_Climb).1 T.f_Climb_own_weights (pv 0)) pa_nil))) (pg_tup (n := 2) (by rfl) (pgs_cons (pg_name (i := 2) sc_goOn.nd rfl (Or.inl rfl)) (pgs_cons (pg_name (i := 3) sc_goOn.nd rfl (Or.inl rfl)) pgs_nil))) pss_never)
    (pss_one (ps_ret (by exact (pv 1))))))), body_ok (K := K) (E := E) (N := ["self", "found", "edge", "weight", "sum_here"]) (ps := ["self"]) (ts := ts_goOn K) (ts' := ts_goOn K) rfl h⟩)
abbrev ts_pathTo (K : PySem.W.Frag) : TS := tSeq (tAsg (tLst tNil) (gName 2)) (tSeq (tWhile (tB (tDIn (tVar 1) (tFldO (ga K (Str.ofString "Climb")) (Str.ofString "own_ways") (tVar 0)))) tNever) (tRet (tTup (tCons (tVar 1) (tCons (tCB (rTupleO K) (tCons (tVar 2) tNil)) tNil)))))
def D_pathTo (K : PySem.W.Frag) : DefR := bodyR (K := K) ["self", "state", "found"] ["self", "state"] (ts_pathTo K)
theorem ok_pathTo (T : Tx K mg) : HasA P w K mg base (L2.CX P w) 1 (ma K (ga K "Climb") "path_to") ["self", "state"] (spOf K (D_pathTo K)) := by
  obtain ⟨fd, F⟩ := T.fn_pathTo
  exact hasA_of F sc_pathTo (fun _ _ _ _ _ _ us hl => match us, hl with | [_, _], _ => rfl) (fun vs H Q E h => body_len h) (fun cdv A outer s H vs Q E hr h => ⟨ts_pathTo K, PSs.nox (
    (pss_cons (ps_set (i := 2) sc_pathTo.nd rfl (Or.inl rfl) (by exact (pe_lst pa_nil)))
    (pss_cons (ps_while PassesOwn.never (pt_cmp (pc_din hr.u1 (pv 1) (pe_fldO (T.c_Climb).1 T.f_Climb_own_ways (pv 0)))) pss_never)
    (pss_one (ps_ret (by exact (pe_tup (pa_cons (pv 1) (pa_cons (pe_callTy (r := rTupleO K) call_tupleO (by rfl) T.n_tuple (by decide +kernel) (pa_cons (pv 2) pa_nil)) pa_nil))))))))), body_ok (K := K) (E := E) (N := ["self", "state", "found"]) (ps := ["self", "state"]) (ts := ts_pathTo K) (ts' := ts_pathTo K) rfl h⟩)
abbrev ts_is_table_in (K : PySem.W.Frag) : TS := tSeq (tIfS (tOr (tNot (tB (tCB (rIsi K) (tCons (tVar 1) (tCons (tC (V.ty "dict")) tNil))))) (tTest (tOp rNe (tCB rLenD (tCons (tVar 1) tNil)) (tCB (rLen K) (tCons (tFldO (ga K (Str.ofString "Rewriter")) (Str.ofString "own_states") (tVar 0)) tNil))))) (tRet (tC (V.bl false))) tNext) (tSeq (tLock (tFor (iItems (tVar 1)) (gTup K 2 (gCons (gName 2) (gCons (gName 3) gNil))) (tSeq (tIfS (tOr (tNot (tB (tCall (spOf K (D_is_integer K)) [] E0 (tCons (tVar 2) tNil)))) (tOr (tTest (tOp (rIn K true) (tVar 2) (tFldO (ga K (Str.ofString "Rewriter")) (Str.ofString "own_states") (tVar 0)))) (tOr (tNot (tB (tCB (rIsi K) (tCons (tVar 3) (tCons (tC (V.ty "tuple")) tNil))))) (tTest (tOp rNe (tCB (rLen K) (tCons (tVar 3) tNil)) (tC (V.int 2))))))) (tRet (tC (V.bl false))) tNext) (tIfS (tOr (tNot (tB (tCall (spOf K (D_is_integer K)) [] E0 (tCons (tOp (rIxT K) (tVar 3) (tC (V.int 0))) tNil)))) (tNot (tB (tCall (spOf K (D_is_integer K)) [] E0 (tCons (tOp (rIxT K) (tVar 3) (tC (V.int 1))) tNil))))) (tRet (tC (V.bl false))) tNext)))) (tRet (tC (V.bl true))))
def D_is_table_in (K : PySem.W.Frag) : DefR := bodyR (K := K) ["rewriter", "value", "state", "pair"] ["rewriter", "value"] (ts_is_table_in K)
theorem ok_is_table_in (T : Tx K mg) : Has P w K mg base (L2.CX P w) 2 "is_table_in" ["rewriter", "value"] (spOf K (D_is_table_in K)) := by
  obtain ⟨g_is_integer, k_is_integer, fd_is_integer, G_is_integer, b_is_integer⟩ := ok_is_integer (P := P) (w := w) (base := base) T
  obtain ⟨fd, F⟩ := T.fn_is_table_in
  exact has_of T.g_is_table_in F sc_is_table_in (fun _ _ _ _ _ _ us hl => match us, hl with | [_, _], _ => rfl) (fun vs H Q E h => body_len h) (fun cdv A outer s H vs Q E hr h => ⟨ts_is_table_in K, PSs.nox (
    (pss_cons (ps_if (PW.pt (pw_or (pt_not (pt_val (pe_callB (r := rIsi K) call_isi (by rfl) T.n_isinstance (by decide +kernel) (pa_cons (pv 1) (pa_cons (pe_bltn (v := .ty "dict") (by rfl) T.n_dict (by decide +kernel) rfl) pa_nil))))) (pw_or1 (pt_cmpR op_ne (pe_callB (r := rLenD) call_lenDD (by rfl) T.n_len (by decide +kernel) (pa_cons (pv 1) pa_nil)) (pe_callB (r := rLen K) call_len (by rfl) T.n_len (by decide +kernel) (pa_cons (pe_fldO (T.c_Rewriter).1 T.f_Rewriter_own_states (pv 0)) pa_nil)) (nomark _))))) (pss_one (ps_ret (by exact pe_bl))) pss_nil)
    (pss_cons (ps_lock (ps_for PassesOwn.never rfl (pi_items (pv 1)) (pg_tup (n := 2) (by rfl) (pgs_cons (pg_name (i := 2) sc_is_table_in.nd rfl (Or.inl rfl)) (pgs_cons (pg_name (i := 3) sc_is_table_in.nd rfl (Or.inl rfl)) pgs_nil))) (pss_cons (ps_if (PW.pt (pw_or (pt_not (pt_val (pe_call (E := E0) G_is_integer (hr.mono (by decide)) (by rfl) g_is_integer k_is_integer b_is_integer .nil passX0 (pa_cons (pv 2) pa_nil)))) (pw_or (pt_cmpR (r := rIn K true) op_notIn_seq (pv 2) (pe_fldO (T.c_Rewriter).1 T.f_Rewriter_own_states (pv 0)) (by rfl)) (pw_or (pt_not (pt_val (pe_callB (r := rIsi K) call_isi (by rfl) T.n_isinstance (by decide +kernel) (pa_cons (pv 3) (pa_cons (pe_bltn (v := .ty "tuple") (by rfl) T.n_tuple (by decide +kernel) rfl) pa_nil))))) (pw_or1 (pt_cmpR op_ne (pe_callB (r := rLen K) call_len (by rfl) T.n_len (by decide +kernel) (pa_cons (pv 3) pa_nil)) pe_int (nomark _))))))) (pss_one (ps_ret (by exact pe_bl))) pss_nil)
    (pss_one (ps_if (PW.pt (pw_or (pt_not (pt_val (pe_call (E := E0) G_is_integer (hr.mono (by decide)) (by rfl) g_is_integer k_is_integer b_is_integer .nil passX0 (pa_cons (pe_ix (r := rIxT K) ix_tup (pv 3) pe_int (fun _ _ => rfl)) pa_nil)))) (pw_or1 (pt_not (pt_val (pe_call (E := E0) G_is_integer (hr.mono (by decide)) (by rfl) g_is_integer k_is_integer b_is_integer .nil passX0 (pa_cons (pe_ix (r := rIxT K) ix_tup (pv 3) pe_int (fun _ _ => rfl)) pa_nil))))))) (pss_one (ps_ret (by exact pe_bl))) pss_nil)))))
    (pss_one (ps_ret (by exact pe_bl)))))), body_ok (K := K) (E := E) (N := ["rewriter", "value", "state", "pair"]) (ps := ["rewriter", "value"]) (ts := ts_is_table_in K) (ts' := ts_is_table_in K) rfl h⟩)
abbrev ts_require_word (K : PySem.W.Frag) (E : XK) : TS := tSeq (tDrop (tCall (spOf K (D_require_rewriter K)) [] E (tCons (tVar 0) tNil))) (tIfS (tOr (tNot (tB (tCB (rIsi K) (tCons (tVar 1) (tCons (tC (V.ty "str")) tNil))))) (tTest (tOp (rIn K true) (tVar 1) (tTup (tCons (tC (V.str (Str.ofString "least"))) (tCons (tC (V.str (Str.ofString "greatest"))) tNil)))))) (RunX.tRaise (ga K (Str.ofString "InvalidOperation")) E) tNext)
def D_require_word (K : PySem.W.Frag) : DefR := bodyR (K := K) ["rewriter", "word"] ["rewriter", "word"] (ts_require_word K EN)
theorem ok_require_word (T : Tx K mg) : Has P w K mg base (L2.CX P w) 2 "require_word" ["rewriter", "word"] (spOf K (D_require_word K)) := by
  obtain ⟨t_GREATEST, c_GREATEST⟩ := T.v_GREATEST
  obtain ⟨t_LEAST, c_LEAST⟩ := T.v_LEAST
  obtain ⟨g_require_rewriter, k_require_rewriter, fd_require_rewriter, G_require_rewriter, b_require_rewriter⟩ := ok_require_rewriter (P := P) (w := w) (base := base) T
  obtain ⟨fd, F⟩ := T.fn_require_word
  exact has_of T.g_require_word F sc_require_word (fun _ _ _ _ _ _ us hl => match us, hl with | [_, _], _ => rfl) (fun vs H Q E h => body_len h) (fun cdv A outer s H vs Q E hr h => ⟨ts_require_word K E, (pss_cons (ps_expr (pe_call (E := E) G_require_rewriter (hr.mono (by decide)) (by rfl) g_require_rewriter k_require_rewriter b_require_rewriter .nil (passes_call (takes_of rfl rfl rfl rfl) (fun _ _ _ _ h => h)) (pa_cons (pv 0) pa_nil)))
    (pss_one (ps_if (PW.pt (pw_or (pt_not (pt_val (pe_callB (r := rIsi K) call_isi (by rfl) T.n_isinstance (by decide +kernel) (pa_cons (pv 1) (pa_cons (pe_bltn (v := .ty "str") (by rfl) T.n_str (by decide +kernel) rfl) pa_nil))))) (pw_or1 (pt_cmpR (r := rIn K true) op_notIn_seq (pv 1) (pe_tup (pa_cons (pe_glob (v := .str "least") rfl c_LEAST ⟨_, rfl⟩) (pa_cons (pe_glob (v := .str "greatest") rfl c_GREATEST ⟨_, rfl⟩) pa_nil))) (by rfl))))) (pss_one (asRaise (C := ga K "InvalidOperation") (E := E) (ps_raise rfl (takes_of rfl rfl rfl rfl) (pmk_own PySem.F.excBase_ValueError (T.e_InvalidOperation).1 T.g_InvalidOperation (T.e_InvalidOperation).2.1 (raises_own (T.e_InvalidOperation).2.2.1 (T.e_InvalidOperation).2.2.2) (by rfl))))) pss_nil))), body_ok (K := K) (E := E) (N := ["rewriter", "word"]) (ps := ["rewriter", "word"]) (ts := ts_require_word K EN) (ts' := ts_require_word K E) rfl h⟩)
end
end K5
set_option maxHeartbeats 4000000
set_option synthInstance.maxSize 100000
set_option synthInstance.maxHeartbeats 4000000
namespace K5
open PySem PySem.Spec PyProof.Rows L2 He Hx Hy PO RunX PB
section
variable {P : Program} {w : World} {K : PySem.W.Frag} {mg : Str → Option Value} {base : Heap}
abbrev ts_require_length (K : PySem.W.Frag) (E : XK) : TS := tIfS (tNot (tB (tCall (spOf K (D_is_between K)) [] E (tCons (tVar 0) (tCons (tC (V.int 0)) (tCons (tC (V.int 60)) tNil)))))) (tRaiseI (ga K (Str.ofString "InvalidNumber")) (Str.ofString "value") (tCons (tVar 0) tNil) E) tNext
def D_require_length (K : PySem.W.Frag) : DefR := bodyR (K := K) ["value"] ["value"] (ts_require_length K EN)
theorem ok_require_length (T : Tx K mg) : Has P w K mg base (L2.CX P w) 3 "require_length" ["value"] (spOf K (D_require_length K)) := by
  obtain ⟨t_MAX_TEXT, c_MAX_TEXT⟩ := T.v_MAX_TEXT
  obtain ⟨g_is_between, k_is_between, fd_is_between, G_is_between, b_is_between⟩ := ok_is_between (P := P) (w := w) (base := base) T
  obtain ⟨fd, F⟩ := T.fn_require_length
  exact has_of T.g_require_length F sc_require_length (fun _ _ _ _ _ _ us hl => match us, hl with | [_], _ => rfl) (fun vs H Q E h => body_len h) (fun cdv A outer s H vs Q E hr h => ⟨ts_require_length K E, (pss_one (ps_if (pt_not (pt_val (pe_call (E := E) G_is_between (hr.mono (by decide)) (by rfl) g_is_between k_is_between b_is_between .nil (passes_call (takes_of rfl rfl rfl rfl) (fun _ _ _ _ h => h)) (pa_cons (pv 0) (pa_cons pe_int (pa_cons (pe_glob (v := .int 60) rfl c_MAX_TEXT ⟨_, rfl⟩) pa_nil)))))) (pss_one (asRaiseI (C := ga K "InvalidNumber") (f := "value") (E := E) (ps_raise rfl (takes_of rfl rfl rfl rfl) (pmk_excI T.i_InvalidNumber PySem.XT.nt_value T.g_InvalidNumber (raises_own (T.exC "InvalidNumber" (memb (by decide +kernel))).hs (PB.clsT_ty T.i_InvalidNumber)) hr (pa_cons (pv 0) pa_nil))))) pss_nil)), body_ok (K := K) (E := E) (N := ["value"]) (ps := ["value"]) (ts := ts_require_length K EN) (ts' := ts_require_length K E) rfl h⟩)
abbrev ts_is_number (K : PySem.W.Frag) : TS := tRet (tCall (spOf K (D_is_between K)) [] E0 (tCons (tVar 0) (tCons (tC (V.int 0)) (tCons (tOp (rI0 fun i j => V.int (i - j)) (tC (V.int 12)) (tC (V.int 1))) tNil))))
def D_is_number (K : PySem.W.Frag) : DefR := bodyR (K := K) ["value"] ["value"] (ts_is_number K)
theorem ok_is_number (T : Tx K mg) : Has P w K mg base (L2.CX P w) 3 "is_number" ["value"] (spOf K (D_is_number K)) := by
  obtain ⟨t_MAX_STATES, c_MAX_STATES⟩ := T.v_MAX_STATES
  obtain ⟨g_is_between, k_is_between, fd_is_between, G_is_between, b_is_between⟩ := ok_is_between (P := P) (w := w) (base := base) T
  obtain ⟨fd, F⟩ := T.fn_is_number
  exact has_of T.g_is_number F sc_is_number (fun _ _ _ _ _ _ us hl => match us, hl with | [_], _ => rfl) (fun vs H Q E h => body_len h) (fun cdv A outer s H vs Q E hr h => ⟨ts_is_number K, PSs.nox (
    (pss_one (ps_ret (by exact (pe_call (E := E0) G_is_between (hr.mono (by decide)) (by rfl) g_is_between k_is_between b_is_between .nil passX0 (pa_cons (pv 0) (pa_cons pe_int (pa_cons (pe_op op_sub (pe_glob (v := .int 12) rfl c_MAX_STATES ⟨_, rfl⟩) pe_int) pa_nil)))))))), body_ok (K := K) (E := E) (N := ["value"]) (ps := ["value"]) (ts := ts_is_number K) (ts' := ts_is_number K) rfl h⟩)
abbrev ts_is_path_in (K : PySem.W.Frag) : TS := tSeq (tIfS (tOr (tNot (tB (tCB (rIsi K) (tCons (tVar 1) (tCons (tC (V.ty "tuple")) tNil))))) (tOr (tTest (tOp rNe (tCB (rLen K) (tCons (tVar 1) tNil)) (tC (V.int 2)))) (tNot (tB (tCall (spOf K (D_is_integer K)) [] E0 (tCons (tOp (rIxT K) (tVar 1) (tC (V.int 0))) tNil)))))) (tRet (tC (V.bl false))) tNext) (tSeq (tAsg (tVar 1) (gTup K 2 (gCons (gName 2) (gCons (gName 3) gNil)))) (tSeq (tIfS (tOr (tB (tDNotIn (tVar 2) (tFldO (ga K (Str.ofString "Rewriter")) (Str.ofString "own_starts") (tVar 0)))) (tNot (tB (tCB (rIsi K) (tCons (tVar 3) (tCons (tC (V.ty "tuple")) tNil)))))) (tRet (tC (V.bl false))) tNext) (tSeq (tFor (iTup K (tVar 3)) (gName 4) (tSeq (tIfS (tNot (tB (tCall (spOf K (D_is_edge_at K)) [] E0 (tCons (tVar 0) (tCons (tVar 2) (tCons (tVar 4) tNil)))))) (tRet (tC (V.bl false))) tNext) (tAsg (tOp (rIxT K) (tVar 4) (tC (V.int 3))) (gName 2)))) (tRet (tC (V.bl true))))))
def D_is_path_in (K : PySem.W.Frag) : DefR := bodyR (K := K) ["rewriter", "value", "here", "edges", "edge"] ["rewriter", "value"] (ts_is_path_in K)
theorem ok_is_path_in (T : Tx K mg) : Has P w K mg base (L2.CX P w) 3 "is_path_in" ["rewriter", "value"] (spOf K (D_is_path_in K)) := by
  obtain ⟨g_is_integer, k_is_integer, fd_is_integer, G_is_integer, b_is_integer⟩ := ok_is_integer (P := P) (w := w) (base := base) T
  obtain ⟨g_is_edge_at, k_is_edge_at, fd_is_edge_at, G_is_edge_at, b_is_edge_at⟩ := ok_is_edge_at (P := P) (w := w) (base := base) T
  obtain ⟨fd, F⟩ := T.fn_is_path_in
  exact has_of T.g_is_path_in F sc_is_path_in (fun _ _ _ _ _ _ us hl => match us, hl with | [_, _], _ => rfl) (fun vs H Q E h => body_len h) (fun cdv A outer s H vs Q E hr h => ⟨ts_is_path_in K, PSs.nox (
    (pss_cons (ps_if (PW.pt (pw_or (pt_not (pt_val (pe_callB (r := rIsi K) call_isi (by rfl) T.n_isinstance (by decide +kernel) (pa_cons (pv 1) (pa_cons (pe_bltn (v := .ty "tuple") (by rfl) T.n_tuple (by decide +kernel) rfl) pa_nil))))) (pw_or (pt_cmpR op_ne (pe_callB (r := rLen K) call_len (by rfl) T.n_len (by decide +kernel) (pa_cons (pv 1) pa_nil)) pe_int (nomark _)) (pw_or1 (pt_not (pt_val (pe_call (E := E0) G_is_integer (hr.mono (by decide)) (by rfl) g_is_integer k_is_integer b_is_integer .nil passX0 (pa_cons (pe_ix (r := rIxT K) ix_tup (pv 1) pe_int (fun _ _ => rfl)) pa_nil)))))))) (pss_one (ps_ret (by exact pe_bl))) pss_nil)
    (pss_cons (ps_asg (pv 1) (pg_tup (n := 2) (by rfl) (pgs_cons (pg_name (i := 2) sc_is_path_in.nd rfl (Or.inl rfl)) (pgs_cons (pg_name (i := 3) sc_is_path_in.nd rfl (Or.inl rfl)) pgs_nil))))
    (pss_cons (ps_if (PW.pt (pw_or (pt_cmp (pc_dnotin hr.u1 (pv 2) (pe_fldO (T.c_Rewriter).1 T.f_Rewriter_own_starts (pv 0)))) (pw_or1 (pt_not (pt_val (pe_callB (r := rIsi K) call_isi (by rfl) T.n_isinstance (by decide +kernel) (pa_cons (pv 3) (pa_cons (pe_bltn (v := .ty "tuple") (by rfl) T.n_tuple (by decide +kernel) rfl) pa_nil)))))))) (pss_one (ps_ret (by exact pe_bl))) pss_nil)
    (pss_cons (ps_for PassesOwn.never rfl (pi_tup (pv 3)) (pg_name (i := 4) sc_is_path_in.nd rfl (Or.inl rfl)) (pss_cons (ps_if (pt_not (pt_val (pe_call (E := E0) G_is_edge_at (hr.mono (by decide)) (by rfl) g_is_edge_at k_is_edge_at b_is_edge_at .nil passX0 (pa_cons (pv 0) (pa_cons (pv 2) (pa_cons (pv 4) pa_nil)))))) (pss_one (ps_ret (by exact pe_bl))) pss_nil)
    (pss_one (ps_set (i := 2) sc_is_path_in.nd rfl (Or.inl rfl) (by exact (pe_ix (r := rIxT K) ix_tup (pv 4) pe_int (fun _ _ => rfl)))))))
    (pss_one (ps_ret (by exact pe_bl)))))))), body_ok (K := K) (E := E) (N := ["rewriter", "value", "here", "edges", "edge"]) (ps := ["rewriter", "value"]) (ts := ts_is_path_in K) (ts' := ts_is_path_in K) rfl h⟩)
abbrev ts_is_circle_in (K : PySem.W.Frag) : TS := tSeq (tIfS (tOr (tNot (tB (tCB (rIsi K) (tCons (tVar 1) (tCons (tC (V.ty "tuple")) tNil))))) (tOr (tTest (tOp (rEqE K) (tVar 1) (tTup tNil))) (tNot (tB (tCB (rAll K) (tCons (tLc (iTup K (tVar 1)) (gName 2) tYes (tCall (spOf K (D_is_edge_in K)) [] E0 (tCons (tVar 0) (tCons (tVar 2) tNil))) (List.map (fun x => x.snd) [(Str.ofString "edge", 2)])) tNil)))))) (tRet (tC (V.bl false))) tNext) (tRet (tCB (rAll K) (tCons (tLc (ZG.iZipG K (tCons (tVar 1) (tCons (tLst (StX.tStar K (tSl (rSlT K) (tVar 1) (tPart (tC (V.int 1))) tNoPart) (tCons (tOp (rIxT K) (tVar 1) (tC (V.int 0))) tNil))) tNil))) (gTup K 2 (gCons (gName 3) (gCons (gName 4) gNil))) tYes (tOp rEq (tOp (rIxT K) (tVar 3) (tC (V.int 3))) (tOp (rIxT K) (tVar 4) (tC (V.int 0)))) (List.map (fun x => x.snd) [(Str.ofString "one", 3), (Str.ofString "other", 4)])) tNil)))
def D_is_circle_in (K : PySem.W.Frag) : DefR := bodyR (K := K) ["rewriter", "value", "edge", "one", "other"] ["rewriter", "value"] (ts_is_circle_in K)
theorem ok_is_circle_in (T : Tx K mg) : Has P w K mg base (L2.CX P w) 3 "is_circle_in" ["rewriter", "value"] (spOf K (D_is_circle_in K)) := by
  obtain ⟨g_is_edge_in, k_is_edge_in, fd_is_edge_in, G_is_edge_in, b_is_edge_in⟩ := ok_is_edge_in (P := P) (w := w) (base := base) T
  obtain ⟨fd, F⟩ := T.fn_is_circle_in
  exact has_of T.g_is_circle_in F sc_is_circle_in (fun _ _ _ _ _ _ us hl => match us, hl with | [_, _], _ => rfl) (fun vs H Q E h => body_len h) (fun cdv A outer s H vs Q E hr h => ⟨ts_is_circle_in K, PSs.nox (
    (pss_cons (ps_if (PW.pt (pw_or (pt_not (pt_val (pe_callB (r := rIsi K) call_isi (by rfl) T.n_isinstance (by decide +kernel) (pa_cons (pv 1) (pa_cons (pe_bltn (v := .ty "tuple") (by rfl) T.n_tuple (by decide +kernel) rfl) pa_nil))))) (pw_or (pt_cmpR (r := rEqE K) (op_eqE hr.units0) (pv 1) (pe_tup pa_nil) (nomark _)) (pw_or1 (pt_not (pt_val (pe_callB (r := rAll K) (cr_all rfl) (by rfl) T.n_all (by decide +kernel) (pa_cons (pe_lc (own := [("edge", 2)]) (g := gName 2) (by rfl) sc_is_circle_in.nd (pi_tup (pv 1)) (blkOk_by (own := [("edge", 2)]) (N := ["rewriter", "value", "edge", "one", "other"]) (sc := defScope s_is_circle_in) (by decide +kernel)) (fun _ _ _ _ _ => (pg_name (i := 2) sc_is_circle_in.nd rfl (Or.inl rfl))) (fun _ _ _ _ _ => pts_nil) (fun _ _ _ _ _ => (pe_call (E := E0) G_is_edge_in (hr.mono (by decide)) (by rfl) g_is_edge_in k_is_edge_in b_is_edge_in .nil passX0 (pa_cons (pv 0) (pa_cons (pv 2) pa_nil))))) pa_nil)))))))) (pss_one (ps_ret (by exact pe_bl))) pss_nil)
    (pss_one (ps_ret (by exact (pe_callB (r := rAll K) (cr_all rfl) (by rfl) T.n_all (by decide +kernel) (pa_cons (pe_lc (own := [("one", 3), ("other", 4)]) (g := gTup K 2 (gCons (gName 3) (gCons (gName 4) gNil))) (by rfl) sc_is_circle_in.nd (ZG.pi_zipG (by rfl) T.n_zip (pa_cons (pv 1) (pa_cons (pe_lst (StX.pa_star (pe_slice sl_tup (pv 1) (po_some pe_int) po_none) (pa_cons (pe_ix (r := rIxT K) ix_tup (pv 1) pe_int (fun _ _ => rfl)) pa_nil))) pa_nil))) (blkOk_by (own := [("one", 3), ("other", 4)]) (N := ["rewriter", "value", "edge", "one", "other"]) (sc := defScope s_is_circle_in) (by decide +kernel)) (fun _ _ _ _ _ => (pg_tup (n := 2) (by rfl) (pgs_cons (pg_name (i := 3) sc_is_circle_in.nd rfl (Or.inl rfl)) (pgs_cons (pg_name (i := 4) sc_is_circle_in.nd rfl (Or.inl rfl)) pgs_nil)))) (fun _ _ _ _ _ => pts_nil) (fun _ _ _ _ _ => (pe_cmpR op_eq (pe_ix (r := rIxT K) ix_tup (pv 3) pe_int (fun _ _ => rfl)) (pe_ix (r := rIxT K) ix_tup (pv 4) pe_int (fun _ _ => rfl)) (nomark _)))) pa_nil))))))), body_ok (K := K) (E := E) (N := ["rewriter", "value", "edge", "one", "other"]) (ps := ["rewriter", "value"]) (ts := ts_is_circle_in K) (ts' := ts_is_circle_in K) rfl h⟩)
abbrev ts_difference_in (K : PySem.W.Frag) : TS := tRet (tOp (rI0 fun i j => V.int (i - j)) (tCB (rLen K) (tCons (tCall (spOf K (D_writes_in K)) [] E0 (tCons (tVar 0) (tCons (tVar 1) tNil))) tNil)) (tCB (rLen K) (tCons (tOp (rIxT K) (tVar 1) (tC (V.int 1))) tNil)))
def D_difference_in (K : PySem.W.Frag) : DefR := bodyR (K := K) ["rewriter", "path"] ["rewriter", "path"] (ts_difference_in K)
theorem ok_difference_in (T : Tx K mg) : Has P w K mg base (L2.CX P w) 3 "difference_in" ["rewriter", "path"] (spOf K (D_difference_in K)) := by
  obtain ⟨g_writes_in, k_writes_in, fd_writes_in, G_writes_in, b_writes_in⟩ := ok_writes_in (P := P) (w := w) (base := base) T
  obtain ⟨fd, F⟩ := T.fn_difference_in
  exact has_of T.g_difference_in F sc_difference_in (fun _ _ _ _ _ _ us hl => match us, hl with | [_, _], _ => rfl) (fun vs H Q E h => body_len h) (fun cdv A outer s H vs Q E hr h => ⟨ts_difference_in K, PSs.nox (
    (pss_one (ps_ret (by exact (pe_op op_sub (pe_callB (r := rLen K) call_len (by rfl) T.n_len (by decide +kernel) (pa_cons (pe_call (E := E0) G_writes_in (hr.mono (by decide)) (by rfl) g_writes_in k_writes_in b_writes_in .nil passX0 (pa_cons (pv 0) (pa_cons (pv 1) pa_nil))) pa_nil)) (pe_callB (r := rLen K) call_len (by rfl) T.n_len (by decide +kernel) (pa_cons (pe_ix (r := rIxT K) ix_tup (pv 1) pe_int (fun _ _ => rfl)) pa_nil))))))), body_ok (K := K) (E := E) (N := ["rewriter", "path"]) (ps := ["rewriter", "path"]) (ts := ts_difference_in K) (ts' := ts_difference_in K) rfl h⟩)
abbrev ts_clInit (K : PySem.W.Frag) : TS := tSeq (tAsg (tTup (tCons (tVar 1) (tCons (tVar 2) tNil))) (gTup K 2 (gCons (gFldO (ga K (Str.ofString "Climb")) (Str.ofString "own_rewriter") (tVar 0)) (gCons (gFldO (ga K (Str.ofString "Climb")) (Str.ofString "own_weights") (tVar 0)) gNil)))) (tSeq (sFldO (ga K (Str.ofString "Climb")) (Str.ofString "own_sums") (tVar 0) (tCB rDictO (tCons (tVar 3) tNil))) (tSeq (sFldO (ga K (Str.ofString "Climb")) (Str.ofString "own_ways") (tVar 0) tDNewK) (tSeq (sFldO (ga K (Str.ofString "Climb")) (Str.ofString "own_circle") (tVar 0) (tC V.non)) (tSeq (tFor (iRng1 (tCons (tOp (rI0 fun i j => V.int (i + j)) (tCB (rLen K) (tCons (tFldO (ga K (Str.ofString "Rewriter")) (Str.ofString "own_states") (tVar 1)) tNil)) (tC (V.int 1))) tNil)) (gName 4) (tSeq (tAsg (tMeth (ga K (Str.ofString "Climb")) (Str.ofString "go_on") (spOf K (D_goOn K)) [] E0 (tVar 0) tNil) (gName 5)) (tIfS (tTest (tOp rIsN (tVar 5) (tC V.non))) tRetN tNext))) tNever))))
def D_clInit (K : PySem.W.Frag) : DefR := bodyR (K := K) ["self", "rewriter", "weights", "first", "turn", "goal"] ["self", "rewriter", "weights", "first"] (ts_clInit K)
theorem ok_clInit (T : Tx K mg) : HasA P w K mg base (L2.CX P w) 2 (ma K (ga K "Climb") "__init__") ["self", "rewriter", "weights", "first"] (spOf K (D_clInit K)) := by
  obtain ⟨k_goOn, fd_goOn, G_goOn, b_goOn⟩ := ok_goOn (P := P) (w := w) (base := base) T
  obtain ⟨fd, F⟩ := T.fn_clInit
  exact hasA_of F sc_clInit (fun _ _ _ _ _ _ us hl => match us, hl with | [_, _, _, _], _ => rfl) (fun vs H Q E h => body_len h) (fun cdv A outer s H vs Q E hr h => ⟨ts_clInit K, PSs.nox (
    (pss_cons (ps_asg (pe_tup (pa_cons (pv 1) (pa_cons (pv 2) pa_nil))) (pg_tup (n := 2) (by rfl) (pgs_cons (pg_fldO (T.c_Climb).1 T.f_Climb_own_rewriter (pv 0)) (pgs_cons (pg_fldO (T.c_Climb).1 T.f_Climb_own_weights (pv 0)) pgs_nil))))
    (pss_cons (ps_fldO (T.c_Climb).1 T.f_Climb_own_sums (pv 0) (pe_callTy (r := rDictO) call_dictO (by rfl) T.n_dict (by decide +kernel) (pa_cons (pv 3) pa_nil)))
    (pss_cons (ps_fldO (T.c_Climb).1 T.f_Climb_own_ways (pv 0) pe_dnewK)
    (pss_cons (ps_fldO (T.c_Climb).1 T.f_Climb_own_circle (pv 0) pe_non)
    (pss_cons (ps_for PassesOwn.never rfl (pi_range1 (by rfl) T.n_range (pa_cons (pe_op op_add (pe_callB (r := rLen K) call_len (by rfl) T.n_len (by decide +kernel) (pa_cons (pe_fldO (T.c_Rewriter).1 T.f_Rewriter_own_states (pv 1)) pa_nil)) pe_int) pa_nil)) (pg_name (i := 4) sc_clInit.nd rfl (Or.inl rfl)) (pss_cons (ps_set (i := 5) sc_clInit.nd rfl (Or.inl rfl) (by exact (pe_meth0 (E := E0) (pv 0) (T.c_Climb).1 T.m_goOn G_goOn (hr.mono (by decide)) b_goOn .nil passX0)))
    (pss_one (ps_if (pt_cmpR (r := rIsN) op_isN (pv 5) pe_non (nomark _)) (pss_one ps_retN) pss_nil))))
    (pss_one ps_never))))))), body_ok (K := K) (E := E) (N := ["self", "rewriter", "weights", "first", "turn", "goal"]) (ps := ["self", "rewriter", "weights", "first"]) (ts := ts_clInit K) (ts' := ts_clInit K) rfl h⟩)
abbrev ts_best_end (K : PySem.W.Frag) : TS := tSeq (tLock (tAsg (tLc (iItems (tFldO (ga K (Str.ofString "Rewriter")) (Str.ofString "own_ends") (tVar 0))) (gTup K 2 (gCons (gName 3) (gCons (gName 4) gNil))) tYes (tTup (tCons (tOp (rI0 fun i j => V.int (i + j)) (tDGet (tProp (ga K (Str.ofString "Climb")) (spOf K (D_clSums K)) [] E0 (tVar 1)) (tVar 3)) (tOp (rI CMul fun i j => V.int (i * j)) (tVar 2) (tCB (rLen K) (tCons (tVar 4) tNil)))) (tCons (tVar 3) tNil))) (List.map (fun x => x.snd) [(Str.ofString "state", 3), (Str.ofString "word", 4)])) (gName 5))) (tRet (tCB (MX1.rMax1 K) (tCons (tVar 5) tNil)))
def D_best_end (K : PySem.W.Frag) : DefR := bodyR (K := K) ["rewriter", "climb", "sign", "state", "word", "some"] ["rewriter", "climb", "sign"] (ts_best_end K)
theorem ok_best_end (T : Tx K mg) : Has P w K mg base (L2.CX P w) 3 "best_end" ["rewriter", "climb", "sign"] (spOf K (D_best_end K)) := by
  obtain ⟨k_clSums, fd_clSums, G_clSums, b_clSums⟩ := ok_clSums (P := P) (w := w) (base := base) T
  obtain ⟨fd, F⟩ := T.fn_best_end
  exact has_of T.g_best_end F sc_best_end (fun _ _ _ _ _ _ us hl => match us, hl with | [_, _, _], _ => rfl) (fun vs H Q E h => body_len h) (fun cdv A outer s H vs Q E hr h => ⟨ts_best_end K, PSs.nox (
    (pss_cons (ps_lock (ps_setLc (i := 5) (own := [("state", 3), ("word", 4)]) (g := gTup K 2 (gCons (gName 3) (gCons (gName 4) gNil))) (by rfl) sc_best_end.nd rfl rfl (sw_true rfl rfl rfl (by decide +kernel)) (pi_items (pe_fldO (T.c_Rewriter).1 T.f_Rewriter_own_ends (pv 0))) (blkOk_by (own := [("state", 3), ("word", 4)]) (N := ["rewriter", "climb", "sign", "state", "word", "some"]) (sc := defScope s_best_end) (by decide +kernel)) (fun _ _ _ _ _ => (pg_tup (n := 2) (by rfl) (pgs_cons (pg_name (i := 3) sc_best_end.nd rfl (Or.inl rfl)) (pgs_cons (pg_name (i := 4) sc_best_end.nd rfl (Or.inl rfl)) pgs_nil)))) (fun _ _ _ _ _ => pts_nil) (fun _ _ _ _ _ => (pe_tup (pa_cons (pe_op op_add (pe_dget hr.u1 (pe_prop (pv 1) (T.c_Climb).1 T.p_clSums G_clSums (hr.mono (by decide)) b_clSums .nil passX0 (by rfl)) (pv 3) (fun _ _ => rfl)) (pe_op op_mul (pv 2) (pe_callB (r := rLen K) call_len (by rfl) T.n_len (by decide +kernel) (pa_cons (pv 4) pa_nil)))) (pa_cons (pv 3) pa_nil))))))
    (pss_one (ps_ret (by exact (pe_callB (r := MX1.rMax1 K) (MX1.cr_max1 rfl) (by rfl) T.n_max (by decide +kernel) (pa_cons (pv 5) pa_nil))))))), body_ok (K := K) (E := E) (N := ["rewriter", "climb", "sign", "state", "word", "some"]) (ps := ["rewriter", "climb", "sign"]) (ts := ts_best_end K) (ts' := ts_best_end K) rfl h⟩)
abbrev ts_shows_between (K : PySem.W.Frag) : TS := tSeq (tIfS (tOr (tNot (tB (tCall (spOf K (D_is_table_in K)) [] E0 (tCons (tVar 0) (tCons (tVar 1) tNil))))) tNo) (tRet (tC (V.bl false))) tNext) tNever
def D_shows_between (K : PySem.W.Frag) : DefR := bodyR (K := K) ["rewriter", "table", "path", "other", "least", "greatest", "state", "word"] ["rewriter", "table", "path", "other"] (ts_shows_between K)
theorem ok_shows_between (T : Tx K mg) : Has P w K mg base (L2.CX P w) 3 "shows_between" ["rewriter", "table", "path", "other"] (spOf K (D_shows_between K)) := by
  obtain ⟨g_is_table_in, k_is_table_in, fd_is_table_in, G_is_table_in, b_is_table_in⟩ := ok_is_table_in (P := P) (w := w) (base := base) T
  obtain ⟨fd, F⟩ := T.fn_shows_between
  exact has_of T.g_shows_between F sc_shows_between (fun _ _ _ _ _ _ us hl => match us, hl with | [_, _, _, _], _ => rfl) (fun vs H Q E h => body_len h) (fun cdv A outer s H vs Q E hr h => ⟨ts_shows_between K, PSs.nox (
    (pss_cons (ps_if (PW.pt (pw_or (pt_not (pt_val (pe_call (E := E0) G_is_table_in (hr.mono (by decide)) (by rfl) g_is_table_in k_is_table_in b_is_table_in .nil passX0 (pa_cons (pv 0) (pa_cons (pv 1) pa_nil))))) pw_never)) (pss_one (ps_ret (by exact pe_bl))) pss_nil)
    pss_never)), body_ok (K := K) (E := E) (N := ["rewriter", "table", "path", "other", "least", "greatest", "state", "word"]) (ps := ["rewriter", "table", "path", "other"]) (ts := ts_shows_between K) (ts' := ts_shows_between K) rfl h⟩)
abbrev ts_length_paper (K : PySem.W.Frag) (E : XK) : TS := tSeq (tDrop (tCall (spOf K (D_require_rewriter K)) [] E (tCons (tVar 0) tNil))) tNever
def D_length_paper (K : PySem.W.Frag) : DefR := bodyR (K := K) ["rewriter"] ["rewriter"] (ts_length_paper K EN)
theorem ok_length_paper (T : Tx K mg) : Has P w K mg base (L2.CX P w) 2 "length_paper" ["rewriter"] (spOf K (D_length_paper K)) := by
  obtain ⟨g_require_rewriter, k_require_rewriter, fd_require_rewriter, G_require_rewriter, b_require_rewriter⟩ := ok_require_rewriter (P := P) (w := w) (base := base) T
  obtain ⟨fd, F⟩ := T.fn_length_paper
  exact has_of T.g_length_paper F sc_length_paper (fun _ _ _ _ _ _ us hl => match us, hl with | [_], _ => rfl) (fun vs H Q E h => body_len h) (fun cdv A outer s H vs Q E hr h => ⟨ts_length_paper K E, (pss_cons (ps_expr (pe_call (E := E) G_require_rewriter (hr.mono (by decide)) (by rfl) g_require_rewriter k_require_rewriter b_require_rewriter .nil (passes_call (takes_of rfl rfl rfl rfl) (fun _ _ _ _ h => h)) (pa_cons (pv 0) pa_nil)))
    pss_never), body_ok (K := K) (E := E) (N := ["rewriter"]) (ps := ["rewriter"]) (ts := ts_length_paper K EN) (ts' := ts_length_paper K E) rfl h⟩)
abbrev ts_length_bounds (K : PySem.W.Frag) (E : XK) : TS := tSeq (tDrop (tCall (spOf K (D_require_rewriter K)) [] E (tCons (tVar 0) tNil))) tNever
def D_length_bounds (K : PySem.W.Frag) : DefR := bodyR (K := K) ["rewriter"] ["rewriter"] (ts_length_bounds K EN)
theorem ok_length_bounds (T : Tx K mg) : Has P w K mg base (L2.CX P w) 2 "length_bounds" ["rewriter"] (spOf K (D_length_bounds K)) := by
  obtain ⟨g_require_rewriter, k_require_rewriter, fd_require_rewriter, G_require_rewriter, b_require_rewriter⟩ := ok_require_rewriter (P := P) (w := w) (base := base) T
  obtain ⟨fd, F⟩ := T.fn_length_bounds
  exact has_of T.g_length_bounds F sc_length_bounds (fun _ _ _ _ _ _ us hl => match us, hl with | [_], _ => rfl) (fun vs H Q E h => body_len h) (fun cdv A outer s H vs Q E hr h => ⟨ts_length_bounds K E, (pss_cons (ps_expr (pe_call (E := E) G_require_rewriter (hr.mono (by decide)) (by rfl) g_require_rewriter k_require_rewriter b_require_rewriter .nil (passes_call (takes_of rfl rfl rfl rfl) (fun _ _ _ _ h => h)) (pa_cons (pv 0) pa_nil)))
    pss_never), body_ok (K := K) (E := E) (N := ["rewriter"]) (ps := ["rewriter"]) (ts := ts_length_bounds K EN) (ts' := ts_length_bounds K E) rfl h⟩)
abbrev ts_is_even (K : PySem.W.Frag) (E : XK) : TS := tSeq (tDrop (tCall (spOf K (D_require_rewriter K)) [] E (tCons (tVar 0) tNil))) tNever
def D_is_even (K : PySem.W.Frag) : DefR := bodyR (K := K) ["rewriter"] ["rewriter"] (ts_is_even K EN)
theorem ok_is_even (T : Tx K mg) : Has P w K mg base (L2.CX P w) 2 "is_even" ["rewriter"] (spOf K (D_is_even K)) := by
  obtain ⟨g_require_rewriter, k_require_rewriter, fd_require_rewriter, G_require_rewriter, b_require_rewriter⟩ := ok_require_rewriter (P := P) (w := w) (base := base) T
  obtain ⟨fd, F⟩ := T.fn_is_even
  exact has_of T.g_is_even F sc_is_even (fun _ _ _ _ _ _ us hl => match us, hl with | [_], _ => rfl) (fun vs H Q E h => body_len h) (fun cdv A outer s H vs Q E hr h => ⟨ts_is_even K E, (pss_cons (ps_expr (pe_call (E := E) G_require_rewriter (hr.mono (by decide)) (by rfl) g_require_rewriter k_require_rewriter b_require_rewriter .nil (passes_call (takes_of rfl rfl rfl rfl) (fun _ _ _ _ h => h)) (pa_cons (pv 0) pa_nil)))
    pss_never), body_ok (K := K) (E := E) (N := ["rewriter"]) (ps := ["rewriter"]) (ts := ts_is_even K EN) (ts' := ts_is_even K E) rfl h⟩)
abbrev ts_rate (K : PySem.W.Frag) (E : XK) : TS := tSeq (tDrop (tCall (spOf K (D_require_word K)) [] E (tCons (tVar 0) (tCons (tVar 1) tNil)))) tNever
def D_rate (K : PySem.W.Frag) : DefR := bodyR (K := K) ["rewriter", "word", "paper"] ["rewriter", "word"] (ts_rate K EN)
theorem ok_rate (T : Tx K mg) : Has P w K mg base (L2.CX P w) 3 "rate" ["rewriter", "word"] (spOf K (D_rate K)) := by
  obtain ⟨g_require_word, k_require_word, fd_require_word, G_require_word, b_require_word⟩ := ok_require_word (P := P) (w := w) (base := base) T
  obtain ⟨fd, F⟩ := T.fn_rate
  exact has_of T.g_rate F sc_rate (fun _ _ _ _ _ _ us hl => match us, hl with | [_, _], _ => rfl) (fun vs H Q E h => body_len h) (fun cdv A outer s H vs Q E hr h => ⟨ts_rate K E, (pss_cons (ps_expr (pe_call (E := E) G_require_word (hr.mono (by decide)) (by rfl) g_require_word k_require_word b_require_word .nil (passes_call (takes_of rfl rfl rfl rfl) (fun _ _ _ _ h => h)) (pa_cons (pv 0) (pa_cons (pv 1) pa_nil))))
    pss_never), body_ok (K := K) (E := E) (N := ["rewriter", "word", "paper"]) (ps := ["rewriter", "word"]) (ts := ts_rate K EN) (ts' := ts_rate K E) rfl h⟩)
end
end K5
set_option maxHeartbeats 4000000
set_option synthInstance.maxSize 100000
set_option synthInstance.maxHeartbeats 4000000
namespace K5
open PySem PySem.Spec PyProof.Rows L2 He Hx Hy PO RunX PB
section
variable {P : Program} {w : World} {K : PySem.W.Frag} {mg : Str → Option Value} {base : Heap}
abbrev ts_are_worded (K : PySem.W.Frag) : TS := tRet (tAndV (tCB (rIsi K) (tCons (tVar 0) (tCons (tC (V.ty "dict")) tNil))) (tCB (rAll K) (tCons (tLockE (tLc (iItems (tVar 0)) (gTup K 2 (gCons (gName 1) (gCons (gName 2) gNil))) tYes (tAndV (tCall (spOf K (D_is_number K)) [] E0 (tCons (tVar 1) tNil)) (tCall (spOf K (D_is_short K)) [] E0 (tCons (tVar 2) tNil))) (List.map (fun x => x.snd) [(Str.ofString "state", 1), (Str.ofString "word", 2)]))) tNil)))
def D_are_worded (K : PySem.W.Frag) : DefR := bodyR (K := K) ["value", "state", "word"] ["value"] (ts_are_worded K)
theorem ok_are_worded (T : Tx K mg) : Has P w K mg base (L2.CX P w) 4 "are_worded" ["value"] (spOf K (D_are_worded K)) := by
  obtain ⟨g_is_short, k_is_short, fd_is_short, G_is_short, b_is_short⟩ := ok_is_short (P := P) (w := w) (base := base) T
  obtain ⟨g_is_number, k_is_number, fd_is_number, G_is_number, b_is_number⟩ := ok_is_number (P := P) (w := w) (base := base) T
  obtain ⟨fd, F⟩ := T.fn_are_worded
  exact has_of T.g_are_worded F sc_are_worded (fun _ _ _ _ _ _ us hl => match us, hl with | [_], _ => rfl) (fun vs H Q E h => body_len h) (fun cdv A outer s H vs Q E hr h => ⟨ts_are_worded K, PSs.nox (
    (pss_one (ps_ret (by exact (pe_and (pe_callB (r := rIsi K) call_isi (by rfl) T.n_isinstance (by decide +kernel) (pa_cons (pv 0) (pa_cons (pe_bltn (v := .ty "dict") (by rfl) T.n_dict (by decide +kernel) rfl) pa_nil))) (pe_one (pe_callB (r := rAll K) (cr_all rfl) (by rfl) T.n_all (by decide +kernel) (pa_cons (pe_lock (pe_lc (own := [("state", 1), ("word", 2)]) (g := gTup K 2 (gCons (gName 1) (gCons (gName 2) gNil))) (by rfl) sc_are_worded.nd (pi_items (pv 0)) (blkOk_by (own := [("state", 1), ("word", 2)]) (N := ["value", "state", "word"]) (sc := defScope s_are_worded) (by decide +kernel)) (fun _ _ _ _ _ => (pg_tup (n := 2) (by rfl) (pgs_cons (pg_name (i := 1) sc_are_worded.nd rfl (Or.inl rfl)) (pgs_cons (pg_name (i := 2) sc_are_worded.nd rfl (Or.inl rfl)) pgs_nil)))) (fun _ _ _ _ _ => pts_nil) (fun _ _ _ _ _ => (pe_and (pe_call (E := E0) G_is_number (hr.mono (by decide)) (by rfl) g_is_number k_is_number b_is_number .nil passX0 (pa_cons (pv 1) pa_nil)) (pe_one (pe_call (E := E0) G_is_short (hr.mono (by decide)) (by rfl) g_is_short k_is_short b_is_short .nil passX0 (pa_cons (pv 2) pa_nil))))))) pa_nil)))))))), body_ok (K := K) (E := E) (N := ["value", "state", "word"]) (ps := ["value"]) (ts := ts_are_worded K) (ts' := ts_are_worded K) rfl h⟩)
abbrev ts_is_edge (K : PySem.W.Frag) : TS := tSeq (tIfS (tOr (tNot (tB (tCB (rIsi K) (tCons (tVar 1) (tCons (tC (V.ty "tuple")) tNil))))) (tTest (tOp rNe (tCB (rLen K) (tCons (tVar 1) tNil)) (tC (V.int 4))))) (tRet (tC (V.bl false))) tNext) (tSeq (tAsg (tVar 1) (gTup K 4 (gCons (gName 2) (gCons (gName 3) (gCons (gName 4) (gCons (gName 5) gNil)))))) (tSeq (tIfS (tOr (tNot (tB (tCall (spOf K (D_is_number K)) [] E0 (tCons (tVar 2) tNil)))) (tOr (tNot (tB (tCall (spOf K (D_is_number K)) [] E0 (tCons (tVar 5) tNil)))) (tNot (tB (tCall (spOf K (D_is_short K)) [] E0 (tCons (tVar 4) tNil)))))) (tRet (tC (V.bl false))) tNext) (tRet (tAndV (tCB (rIsi K) (tCons (tVar 3) (tCons (tC (V.ty "str")) tNil))) (tAndV (tOp rEq (tCB (rLen K) (tCons (tVar 3) tNil)) (tC (V.int 1))) (tOp rInS (tVar 3) (tVar 0)))))))
def D_is_edge (K : PySem.W.Frag) : DefR := bodyR (K := K) ["letters", "value", "state", "letter", "word", "target"] ["letters", "value"] (ts_is_edge K)
theorem ok_is_edge (T : Tx K mg) : Has P w K mg base (L2.CX P w) 4 "is_edge" ["letters", "value"] (spOf K (D_is_edge K)) := by
  obtain ⟨g_is_short, k_is_short, fd_is_short, G_is_short, b_is_short⟩ := ok_is_short (P := P) (w := w) (base := base) T
  obtain ⟨g_is_number, k_is_number, fd_is_number, G_is_number, b_is_number⟩ := ok_is_number (P := P) (w := w) (base := base) T
  obtain ⟨fd, F⟩ := T.fn_is_edge
  exact has_of T.g_is_edge F sc_is_edge (fun _ _ _ _ _ _ us hl => match us, hl with | [_, _], _ => rfl) (fun vs H Q E h => body_len h) (fun cdv A outer s H vs Q E hr h => ⟨ts_is_edge K, PSs.nox (
    (pss_cons (ps_if (PW.pt (pw_or (pt_not (pt_val (pe_callB (r := rIsi K) call_isi (by rfl) T.n_isinstance (by decide +kernel) (pa_cons (pv 1) (pa_cons (pe_bltn (v := .ty "tuple") (by rfl) T.n_tuple (by decide +kernel) rfl) pa_nil))))) (pw_or1 (pt_cmpR op_ne (pe_callB (r := rLen K) call_len (by rfl) T.n_len (by decide +kernel) (pa_cons (pv 1) pa_nil)) pe_int (nomark _))))) (pss_one (ps_ret (by exact pe_bl))) pss_nil)
    (pss_cons (ps_asg (pv 1) (pg_tup (n := 4) (by rfl) (pgs_cons (pg_name (i := 2) sc_is_edge.nd rfl (Or.inl rfl)) (pgs_cons (pg_name (i := 3) sc_is_edge.nd rfl (Or.inl rfl)) (pgs_cons (pg_name (i := 4) sc_is_edge.nd rfl (Or.inl rfl)) (pgs_cons (pg_name (i := 5) sc_is_edge.nd rfl (Or.inl rfl)) pgs_nil))))))
    (pss_cons (ps_if (PW.pt (pw_or (pt_not (pt_val (pe_call (E := E0) G_is_number (hr.mono (by decide)) (by rfl) g_is_number k_is_number b_is_number .nil passX0 (pa_cons (pv 2) pa_nil)))) (pw_or (pt_not (pt_val (pe_call (E := E0) G_is_number (hr.mono (by decide)) (by rfl) g_is_number k_is_number b_is_number .nil passX0 (pa_cons (pv 5) pa_nil)))) (pw_or1 (pt_not (pt_val (pe_call (E := E0) G_is_short (hr.mono (by decide)) (by rfl) g_is_short k_is_short b_is_short .nil passX0 (pa_cons (pv 4) pa_nil)))))))) (pss_one (ps_ret (by exact pe_bl))) pss_nil)
    (pss_one (ps_ret (by exact (pe_and (pe_callB (r := rIsi K) call_isi (by rfl) T.n_isinstance (by decide +kernel) (pa_cons (pv 3) (pa_cons (pe_bltn (v := .ty "str") (by rfl) T.n_str (by decide +kernel) rfl) pa_nil))) (pe_and (pe_cmpR op_eq (pe_callB (r := rLen K) call_len (by rfl) T.n_len (by decide +kernel) (pa_cons (pv 3) pa_nil)) pe_int (nomark _)) (pe_one (pe_cmpR op_inS (pv 3) (pv 0) (by rfl)))))))))))), body_ok (K := K) (E := E) (N := ["letters", "value", "state", "letter", "word", "target"]) (ps := ["letters", "value"]) (ts := ts_is_edge K) (ts' := ts_is_edge K) rfl h⟩)
abbrev ts_require_path (K : PySem.W.Frag) (E : XK) : TS := tIfS (tNot (tB (tCall (spOf K (D_is_path_in K)) [] E (tCons (tVar 0) (tCons (tVar 1) tNil))))) (RunX.tRaise (ga K (Str.ofString "InvalidOperation")) E) tNext
def D_require_path (K : PySem.W.Frag) : DefR := bodyR (K := K) ["rewriter", "path"] ["rewriter", "path"] (ts_require_path K EN)
theorem ok_require_path (T : Tx K mg) : Has P w K mg base (L2.CX P w) 4 "require_path" ["rewriter", "path"] (spOf K (D_require_path K)) := by
  obtain ⟨g_is_path_in, k_is_path_in, fd_is_path_in, G_is_path_in, b_is_path_in⟩ := ok_is_path_in (P := P) (w := w) (base := base) T
  obtain ⟨fd, F⟩ := T.fn_require_path
  exact has_of T.g_require_path F sc_require_path (fun _ _ _ _ _ _ us hl => match us, hl with | [_, _], _ => rfl) (fun vs H Q E h => body_len h) (fun cdv A outer s H vs Q E hr h => ⟨ts_require_path K E, (pss_one (ps_if (pt_not (pt_val (pe_call (E := E) G_is_path_in (hr.mono (by decide)) (by rfl) g_is_path_in k_is_path_in b_is_path_in .nil (passes_call (takes_of rfl rfl rfl rfl) (fun _ _ _ _ h => h)) (pa_cons (pv 0) (pa_cons (pv 1) pa_nil))))) (pss_one (asRaise (C := ga K "InvalidOperation") (E := E) (ps_raise rfl (takes_of rfl rfl rfl rfl) (pmk_own PySem.F.excBase_ValueError (T.e_InvalidOperation).1 T.g_InvalidOperation (T.e_InvalidOperation).2.1 (raises_own (T.e_InvalidOperation).2.2.1 (T.e_InvalidOperation).2.2.2) (by rfl))))) pss_nil)), body_ok (K := K) (E := E) (N := ["rewriter", "path"]) (ps := ["rewriter", "path"]) (ts := ts_require_path K EN) (ts' := ts_require_path K E) rfl h⟩)
abbrev ts_climb_in (K : PySem.W.Frag) : TS := tSeq (tLock (tAsg (DCT.tDcB false (iItems (tFldO (ga K (Str.ofString "Rewriter")) (Str.ofString "own_starts") (tVar 0))) (gTup K 2 (gCons (gName 2) (gCons (gName 3) gNil))) tYes (tVar 2) (tOp (rI CMul fun i j => V.int (i * j)) (tVar 1) (tCB (rLen K) (tCons (tVar 3) tNil))) (List.map (fun x => x.snd) [(Str.ofString "state", 2), (Str.ofString "word", 3)])) (gName 4))) (tRet (tMake (ga K (Str.ofString "Climb")) (spOf K (D_clInit K)) [] E0 (tCons (tVar 0) (tCons (tLc (iTup K (tFldO (ga K (Str.ofString "Rewriter")) (Str.ofString "own_edges") (tVar 0))) (gName 5) tYes (tOp (rI CMul fun i j => V.int (i * j)) (tVar 1) (tOp (rI0 fun i j => V.int (i - j)) (tCB (rLen K) (tCons (tOp (rIxT K) (tVar 5) (tC (V.int 2))) tNil)) (tC (V.int 1)))) (List.map (fun x => x.snd) [(Str.ofString "edge", 5)])) (tCons (tVar 4) tNil)))))
def D_climb_in (K : PySem.W.Frag) : DefR := bodyR (K := K) ["rewriter", "sign", "state", "word", "first", "edge"] ["rewriter", "sign"] (ts_climb_in K)
theorem ok_climb_in (T : Tx K mg) : Has P w K mg base (L2.CX P w) 4 "climb_in" ["rewriter", "sign"] (spOf K (D_climb_in K)) := by
  obtain ⟨k_clInit, fd_clInit, G_clInit, b_clInit⟩ := ok_clInit (P := P) (w := w) (base := base) T
  obtain ⟨fd, F⟩ := T.fn_climb_in
  exact has_of T.g_climb_in F sc_climb_in (fun _ _ _ _ _ _ us hl => match us, hl with | [_, _], _ => rfl) (fun vs H Q E h => body_len h) (fun cdv A outer s H vs Q E hr h => ⟨ts_climb_in K, PSs.nox (
    (pss_cons (ps_lock (DCT.ps_setDcB (i := 4) (own := [("state", 2), ("word", 3)]) (g := gTup K 2 (gCons (gName 2) (gCons (gName 3) gNil))) false hr.units0 (by rfl) sc_climb_in.nd rfl rfl (DCT.sw_dc rfl rfl rfl (by decide +kernel)) (pi_items (pe_fldO (T.c_Rewriter).1 T.f_Rewriter_own_starts (pv 0))) (blkOk_by (own := [("state", 2), ("word", 3)]) (N := ["rewriter", "sign", "state", "word", "first", "edge"]) (sc := defScope s_climb_in) (by decide +kernel)) (fun _ _ _ _ _ => (pg_tup (n := 2) (by rfl) (pgs_cons (pg_name (i := 2) sc_climb_in.nd rfl (Or.inl rfl)) (pgs_cons (pg_name (i := 3) sc_climb_in.nd rfl (Or.inl rfl)) pgs_nil)))) (fun _ _ _ _ _ => pts_nil) (fun _ _ _ _ _ => (pv 2)) (fun _ _ _ _ _ => (pe_op op_mul (pv 1) (pe_callB (r := rLen K) call_len (by rfl) T.n_len (by decide +kernel) (pa_cons (pv 3) pa_nil))))))
    (pss_one (ps_ret (by exact (pe_make (E := E0) (T.c_Climb).2 G_clInit (hr.mono (by decide)) (by rfl) T.g_Climb b_clInit .nil passX0 (pa_cons (pv 0) (pa_cons (pe_lc (own := [("edge", 5)]) (g := gName 5) (by rfl) sc_climb_in.nd (pi_tup (pe_fldO (T.c_Rewriter).1 T.f_Rewriter_own_edges (pv 0))) (blkOk_by (own := [("edge", 5)]) (N := ["rewriter", "sign", "state", "word", "first", "edge"]) (sc := defScope s_climb_in) (by decide +kernel)) (fun _ _ _ _ _ => (pg_name (i := 5) sc_climb_in.nd rfl (Or.inl rfl))) (fun _ _ _ _ _ => pts_nil) (fun _ _ _ _ _ => (pe_op op_mul (pv 1) (pe_op op_sub (pe_callB (r := rLen K) call_len (by rfl) T.n_len (by decide +kernel) (pa_cons (pe_ix (r := rIxT K) ix_tup (pv 5) pe_int (fun _ _ => rfl)) pa_nil)) pe_int)))) (pa_cons (pv 4) pa_nil))))))))), body_ok (K := K) (E := E) (N := ["rewriter", "sign", "state", "word", "first", "edge"]) (ps := ["rewriter", "sign"]) (ts := ts_climb_in K) (ts' := ts_climb_in K) rfl h⟩)
abbrev ts_shows_length (K : PySem.W.Frag) : TS := tSeq (tIfS (tOr (tNot (tB (tCB (rIsi K) (tCons (tVar 1) (tCons (tC (V.ty "tuple")) tNil))))) (tOr (tTest (tOp (rEqE K) (tVar 1) (tTup tNil))) (tNot (tB (tCB (rIsi K) (tCons (tOp (rIxT K) (tVar 1) (tC (V.int 0))) (tCons (tC (V.ty "str")) tNil))))))) (tRet (tC (V.bl false))) tNext) (tSeq (tIfS (tTest (tOp rEq (tOp (rIxT K) (tVar 1) (tC (V.int 0))) (tC (V.str (Str.ofString "between"))))) (tRet (tAndV (tOp rEq (tCB (rLen K) (tCons (tVar 1) tNil)) (tC (V.int 4))) (tCall (spOf K (D_shows_between K)) [] E0 (tCons (tVar 0) (tCons (tOp (rIxT K) (tVar 1) (tC (V.int 1))) (tCons (tOp (rIxT K) (tVar 1) (tC (V.int 2))) (tCons (tOp (rIxT K) (tVar 1) (tC (V.int 3))) tNil))))))) tNext) (tSeq (tIfS (tOr (tTest (tOp rNe (tOp (rIxT K) (tVar 1) (tC (V.int 0))) (tC (V.str (Str.ofString "circle"))))) (tOr (tTest (tOp rNe (tCB (rLen K) (tCons (tVar 1) tNil)) (tC (V.int 2)))) (tNot (tB (tCall (spOf K (D_is_circle_in K)) [] E0 (tCons (tVar 0) (tCons (tOp (rIxT K) (tVar 1) (tC (V.int 1))) tNil))))))) (tRet (tC (V.bl false))) tNext) tNever))
def D_shows_length (K : PySem.W.Frag) : DefR := bodyR (K := K) ["rewriter", "value"] ["rewriter", "value"] (ts_shows_length K)
theorem ok_shows_length (T : Tx K mg) : Has P w K mg base (L2.CX P w) 4 "shows_length" ["rewriter", "value"] (spOf K (D_shows_length K)) := by
  obtain ⟨t_BETWEEN, c_BETWEEN⟩ := T.v_BETWEEN
  obtain ⟨t_BETWEEN_SIZE, c_BETWEEN_SIZE⟩ := T.v_BETWEEN_SIZE
  obtain ⟨t_CIRCLE, c_CIRCLE⟩ := T.v_CIRCLE
  obtain ⟨g_shows_between, k_shows_between, fd_shows_between, G_shows_between, b_shows_between⟩ := ok_shows_between (P := P) (w := w) (base := base) T
  obtain ⟨g_is_circle_in, k_is_circle_in, fd_is_circle_in, G_is_circle_in, b_is_circle_in⟩ := ok_is_circle_in (P := P) (w := w) (base := base) T
  obtain ⟨fd, F⟩ := T.fn_shows_length
  exact has_of T.g_shows_length F sc_shows_length (fun _ _ _ _ _ _ us hl => match us, hl with | [_, _], _ => rfl) (fun vs H Q E h => body_len h) (fun cdv A outer s H vs Q E hr h => ⟨ts_shows_length K, PSs.nox (
    (pss_cons (ps_if (PW.pt (pw_or (pt_not (pt_val (pe_callB (r := rIsi K) call_isi (by rfl) T.n_isinstance (by decide +kernel) (pa_cons (pv 1) (pa_cons (pe_bltn (v := .ty "tuple") (by rfl) T.n_tuple (by decide +kernel) rfl) pa_nil))))) (pw_or (pt_cmpR (r := rEqE K) (op_eqE hr.units0) (pv 1) (pe_tup pa_nil) (nomark _)) (pw_or1 (pt_not (pt_val (pe_callB (r := rIsi K) call_isi (by rfl) T.n_isinstance (by decide +kernel) (pa_cons (pe_ix (r := rIxT K) ix_tup (pv 1) pe_int (fun _ _ => rfl)) (pa_cons (pe_bltn (v := .ty "str") (by rfl) T.n_str (by decide +kernel) rfl) pa_nil))))))))) (pss_one (ps_ret (by exact pe_bl))) pss_nil)
    (pss_cons (ps_if (pt_cmpR op_eq (pe_ix (r := rIxT K) ix_tup (pv 1) pe_int (fun _ _ => rfl)) (pe_glob (v := .str "between") rfl c_BETWEEN ⟨_, rfl⟩) (nomark _)) (pss_one (ps_ret (by exact (pe_and (pe_cmpR op_eq (pe_callB (r := rLen K) call_len (by rfl) T.n_len (by decide +kernel) (pa_cons (pv 1) pa_nil)) (pe_glob (v := .int 4) rfl c_BETWEEN_SIZE ⟨_, rfl⟩) (nomark _)) (pe_one (pe_call (E := E0) G_shows_between (hr.mono (by decide)) (by rfl) g_shows_between k_shows_between b_shows_between .nil passX0 (pa_cons (pv 0) (pa_cons (pe_ix (r := rIxT K) ix_tup (pv 1) pe_int (fun _ _ => rfl)) (pa_cons (pe_ix (r := rIxT K) ix_tup (pv 1) pe_int (fun _ _ => rfl)) (pa_cons (pe_ix (r := rIxT K) ix_tup (pv 1) pe_int (fun _ _ => rfl)) pa_nil)))))))))) pss_nil)
    (pss_cons (ps_if (PW.pt (pw_or (pt_cmpR op_ne (pe_ix (r := rIxT K) ix_tup (pv 1) pe_int (fun _ _ => rfl)) (pe_glob (v := .str "circle") rfl c_CIRCLE ⟨_, rfl⟩) (nomark _)) (pw_or (pt_cmpR op_ne (pe_callB (r := rLen K) call_len (by rfl) T.n_len (by decide +kernel) (pa_cons (pv 1) pa_nil)) pe_int (nomark _)) (pw_or1 (pt_not (pt_val (pe_call (E := E0) G_is_circle_in (hr.mono (by decide)) (by rfl) g_is_circle_in k_is_circle_in b_is_circle_in .nil passX0 (pa_cons (pv 0) (pa_cons (pe_ix (r := rIxT K) ix_tup (pv 1) pe_int (fun _ _ => rfl)) pa_nil))))))))) (pss_one (ps_ret (by exact pe_bl))) pss_nil)
    pss_never)))), body_ok (K := K) (E := E) (N := ["rewriter", "value"]) (ps := ["rewriter", "value"]) (ts := ts_shows_length K) (ts' := ts_shows_length K) rfl h⟩)
abbrev ts_first_circle (K : PySem.W.Frag) : TS := tSeq (tAsg (tLc (iTup K (tFldO (ga K (Str.ofString "Rewriter")) (Str.ofString "own_edges") (tVar 0))) (gName 1) tYes (tC (V.int 1)) (List.map (fun x => x.snd) [(Str.ofString "edge", 1)])) (gName 2)) (tRet (tProp (ga K (Str.ofString "Climb")) (spOf K (D_clCircle K)) [] E0 (tMake (ga K (Str.ofString "Climb")) (spOf K (D_clInit K)) [] E0 (tCons (tVar 0) (tCons (tVar 2) (tCons (DCT.tDcB false (iTup K (tFldO (ga K (Str.ofString "Rewriter")) (Str.ofString "own_states") (tVar 0))) (gName 3) tYes (tVar 3) (tC (V.int 0)) (List.map (fun x => x.snd) [(Str.ofString "state", 3)])) tNil))))))
def D_first_circle (K : PySem.W.Frag) : DefR := bodyR (K := K) ["rewriter", "edge", "weights", "state"] ["rewriter"] (ts_first_circle K)
theorem ok_first_circle (T : Tx K mg) : Has P w K mg base (L2.CX P w) 4 "first_circle" ["rewriter"] (spOf K (D_first_circle K)) := by
  obtain ⟨k_clCircle, fd_clCircle, G_clCircle, b_clCircle⟩ := ok_clCircle (P := P) (w := w) (base := base) T
  obtain ⟨k_clInit, fd_clInit, G_clInit, b_clInit⟩ := ok_clInit (P := P) (w := w) (base := base) T
  obtain ⟨fd, F⟩ := T.fn_first_circle
  exact has_of T.g_first_circle F sc_first_circle (fun _ _ _ _ _ _ us hl => match us, hl with | [_], _ => rfl) (fun vs H Q E h => body_len h) (fun cdv A outer s H vs Q E hr h => ⟨ts_first_circle K, PSs.nox (
    (pss_cons (ps_setLc (i := 2) (own := [("edge", 1)]) (g := gName 1) (by rfl) sc_first_circle.nd rfl rfl (sw_true rfl rfl rfl (by decide +kernel)) (pi_tup (pe_fldO (T.c_Rewriter).1 T.f_Rewriter_own_edges (pv 0))) (blkOk_by (own := [("edge", 1)]) (N := ["rewriter", "edge", "weights", "state"]) (sc := defScope s_first_circle) (by decide +kernel)) (fun _ _ _ _ _ => (pg_name (i := 1) sc_first_circle.nd rfl (Or.inl rfl))) (fun _ _ _ _ _ => pts_nil) (fun _ _ _ _ _ => pe_int))
    (pss_one (ps_ret (by exact (pe_prop (pe_make (E := E0) (T.c_Climb).2 G_clInit (hr.mono (by decide)) (by rfl) T.g_Climb b_clInit .nil passX0 (pa_cons (pv 0) (pa_cons (pv 2) (pa_cons (DCT.pe_dcB (own := [("state", 3)]) (g := gName 3) false hr.units0 (by rfl) sc_first_circle.nd (pi_tup (pe_fldO (T.c_Rewriter).1 T.f_Rewriter_own_states (pv 0))) (blkOk_by (own := [("state", 3)]) (N := ["rewriter", "edge", "weights", "state"]) (sc := defScope s_first_circle) (by decide +kernel)) (fun _ _ _ _ _ => (pg_name (i := 3) sc_first_circle.nd rfl (Or.inl rfl))) (fun _ _ _ _ _ => pts_nil) (fun _ _ _ _ _ => (pv 3)) (fun _ _ _ _ _ => pe_int)) pa_nil)))) (T.c_Climb).1 T.p_clCircle G_clCircle (hr.mono (by decide)) b_clCircle .nil passX0 (by rfl))))))), body_ok (K := K) (E := E) (N := ["rewriter", "edge", "weights", "state"]) (ps := ["rewriter"]) (ts := ts_first_circle K) (ts' := ts_first_circle K) rfl h⟩)
abbrev ts_is_rate_told (K : PySem.W.Frag) : TS := tSeq (tIfS (tOr (tNot (tB (tCB (rIsi K) (tCons (tVar 2) (tCons (tC (V.ty "tuple")) tNil))))) (tOr (tTest (tOp rNe (tCB (rLen K) (tCons (tVar 2) tNil)) (tC (V.int 3)))) (tNot (tB (tCall (spOf K (D_is_circle_in K)) [] E0 (tCons (tVar 0) (tCons (tOp (rIxT K) (tVar 2) (tC (V.int 2))) tNil))))))) (tRet (tC (V.bl false))) tNext) tNever
def D_is_rate_told (K : PySem.W.Frag) : DefR := bodyR (K := K) ["rewriter", "word", "value", "rate", "table", "circle", "one", "state", "sign", "letter", "written", "other"] ["rewriter", "word", "value"] (ts_is_rate_told K)
theorem ok_is_rate_told (T : Tx K mg) : Has P w K mg base (L2.CX P w) 4 "is_rate_told" ["rewriter", "word", "value"] (spOf K (D_is_rate_told K)) := by
  obtain ⟨t_RATE_SIZE, c_RATE_SIZE⟩ := T.v_RATE_SIZE
  obtain ⟨g_is_circle_in, k_is_circle_in, fd_is_circle_in, G_is_circle_in, b_is_circle_in⟩ := ok_is_circle_in (P := P) (w := w) (base := base) T
  obtain ⟨fd, F⟩ := T.fn_is_rate_told
  exact has_of T.g_is_rate_told F sc_is_rate_told (fun _ _ _ _ _ _ us hl => match us, hl with | [_, _, _], _ => rfl) (fun vs H Q E h => body_len h) (fun cdv A outer s H vs Q E hr h => ⟨ts_is_rate_told K, PSs.nox (
    (pss_cons (ps_if (PW.pt (pw_or (pt_not (pt_val (pe_callB (r := rIsi K) call_isi (by rfl) T.n_isinstance (by decide +kernel) (pa_cons (pv 2) (pa_cons (pe_bltn (v := .ty "tuple") (by rfl) T.n_tuple (by decide +kernel) rfl) pa_nil))))) (pw_or (pt_cmpR op_ne (pe_callB (r := rLen K) call_len (by rfl) T.n_len (by decide +kernel) (pa_cons (pv 2) pa_nil)) (pe_glob (v := .int 3) rfl c_RATE_SIZE ⟨_, rfl⟩) (nomark _)) (pw_or1 (pt_not (pt_val (pe_call (E := E0) G_is_circle_in (hr.mono (by decide)) (by rfl) g_is_circle_in k_is_circle_in b_is_circle_in .nil passX0 (pa_cons (pv 0) (pa_cons (pe_ix (r := rIxT K) ix_tup (pv 2) pe_int (fun _ _ => rfl)) pa_nil))))))))) (pss_one (ps_ret (by exact pe_bl))) pss_nil)
    pss_never)), body_ok (K := K) (E := E) (N := ["rewriter", "word", "value", "rate", "table", "circle", "one", "state", "sign", "letter", "written", "other"]) (ps := ["rewriter", "word", "value"]) (ts := ts_is_rate_told K) (ts' := ts_is_rate_told K) rfl h⟩)
abbrev ts_require_circle (K : PySem.W.Frag) (E : XK) : TS := tSeq (tDrop (tCall (spOf K (D_require_rewriter K)) [] E (tCons (tVar 0) tNil))) (tIfS (tNot (tB (tCall (spOf K (D_is_circle_in K)) [] E (tCons (tVar 0) (tCons (tVar 1) tNil))))) (RunX.tRaise (ga K (Str.ofString "InvalidOperation")) E) tNext)
def D_require_circle (K : PySem.W.Frag) : DefR := bodyR (K := K) ["rewriter", "circle"] ["rewriter", "circle"] (ts_require_circle K EN)
theorem ok_require_circle (T : Tx K mg) : Has P w K mg base (L2.CX P w) 4 "require_circle" ["rewriter", "circle"] (spOf K (D_require_circle K)) := by
  obtain ⟨g_require_rewriter, k_require_rewriter, fd_require_rewriter, G_require_rewriter, b_require_rewriter⟩ := ok_require_rewriter (P := P) (w := w) (base := base) T
  obtain ⟨g_is_circle_in, k_is_circle_in, fd_is_circle_in, G_is_circle_in, b_is_circle_in⟩ := ok_is_circle_in (P := P) (w := w) (base := base) T
  obtain ⟨fd, F⟩ := T.fn_require_circle
  exact has_of T.g_require_circle F sc_require_circle (fun _ _ _ _ _ _ us hl => match us, hl with | [_, _], _ => rfl) (fun vs H Q E h => body_len h) (fun cdv A outer s H vs Q E hr h => ⟨ts_require_circle K E, (pss_cons (ps_expr (pe_call (E := E) G_require_rewriter (hr.mono (by decide)) (by rfl) g_require_rewriter k_require_rewriter b_require_rewriter .nil (passes_call (takes_of rfl rfl rfl rfl) (fun _ _ _ _ h => h)) (pa_cons (pv 0) pa_nil)))
    (pss_one (ps_if (pt_not (pt_val (pe_call (E := E) G_is_circle_in (hr.mono (by decide)) (by rfl) g_is_circle_in k_is_circle_in b_is_circle_in .nil (passes_call (takes_of rfl rfl rfl rfl) (fun _ _ _ _ h => h)) (pa_cons (pv 0) (pa_cons (pv 1) pa_nil))))) (pss_one (asRaise (C := ga K "InvalidOperation") (E := E) (ps_raise rfl (takes_of rfl rfl rfl rfl) (pmk_own PySem.F.excBase_ValueError (T.e_InvalidOperation).1 T.g_InvalidOperation (T.e_InvalidOperation).2.1 (raises_own (T.e_InvalidOperation).2.2.1 (T.e_InvalidOperation).2.2.2) (by rfl))))) pss_nil))), body_ok (K := K) (E := E) (N := ["rewriter", "circle"]) (ps := ["rewriter", "circle"]) (ts := ts_require_circle K EN) (ts' := ts_require_circle K E) rfl h⟩)
abbrev ts_is_circle (K : PySem.W.Frag) (E : XK) : TS := tSeq (tDrop (tCall (spOf K (D_require_rewriter K)) [] E (tCons (tVar 0) tNil))) (tRet (tCall (spOf K (D_is_circle_in K)) [] E (tCons (tVar 0) (tCons (tVar 1) tNil))))
def D_is_circle (K : PySem.W.Frag) : DefR := bodyR (K := K) ["rewriter", "value"] ["rewriter", "value"] (ts_is_circle K EN)
theorem ok_is_circle (T : Tx K mg) : Has P w K mg base (L2.CX P w) 4 "is_circle" ["rewriter", "value"] (spOf K (D_is_circle K)) := by
  obtain ⟨g_require_rewriter, k_require_rewriter, fd_require_rewriter, G_require_rewriter, b_require_rewriter⟩ := ok_require_rewriter (P := P) (w := w) (base := base) T
  obtain ⟨g_is_circle_in, k_is_circle_in, fd_is_circle_in, G_is_circle_in, b_is_circle_in⟩ := ok_is_circle_in (P := P) (w := w) (base := base) T
  obtain ⟨fd, F⟩ := T.fn_is_circle
  exact has_of T.g_is_circle F sc_is_circle (fun _ _ _ _ _ _ us hl => match us, hl with | [_, _], _ => rfl) (fun vs H Q E h => body_len h) (fun cdv A outer s H vs Q E hr h => ⟨ts_is_circle K E, (pss_cons (ps_expr (pe_call (E := E) G_require_rewriter (hr.mono (by decide)) (by rfl) g_require_rewriter k_require_rewriter b_require_rewriter .nil (passes_call (takes_of rfl rfl rfl rfl) (fun _ _ _ _ h => h)) (pa_cons (pv 0) pa_nil)))
    (pss_one (ps_ret (by exact (pe_call (E := E) G_is_circle_in (hr.mono (by decide)) (by rfl) g_is_circle_in k_is_circle_in b_is_circle_in .nil (passes_call (takes_of rfl rfl rfl rfl) (fun _ _ _ _ h => h)) (pa_cons (pv 0) (pa_cons (pv 1) pa_nil))))))), body_ok (K := K) (E := E) (N := ["rewriter", "value"]) (ps := ["rewriter", "value"]) (ts := ts_is_circle K EN) (ts' := ts_is_circle K E) rfl h⟩)
abbrev ts_result_lengths (K : PySem.W.Frag) (E : XK) : TS := tSeq (tDrop (tCall (spOf K (D_require_rewriter K)) [] E (tCons (tVar 0) tNil))) (tSeq (tDrop (tCall (spOf K (D_require_length K)) [] E (tCons (tVar 1) tNil))) tNever)
def D_result_lengths (K : PySem.W.Frag) : DefR := bodyR (K := K) ["rewriter", "length", "state", "word", "here", "turn", "later", "one", "letter", "other", "low", "high", "known", "ends", "pair", "more"] ["rewriter", "length"] (ts_result_lengths K EN)
theorem ok_result_lengths (T : Tx K mg) : Has P w K mg base (L2.CX P w) 4 "result_lengths" ["rewriter", "length"] (spOf K (D_result_lengths K)) := by
  obtain ⟨g_require_rewriter, k_require_rewriter, fd_require_rewriter, G_require_rewriter, b_require_rewriter⟩ := ok_require_rewriter (P := P) (w := w) (base := base) T
  obtain ⟨g_require_length, k_require_length, fd_require_length, G_require_length, b_require_length⟩ := ok_require_length (P := P) (w := w) (base := base) T
  obtain ⟨fd, F⟩ := T.fn_result_lengths
  exact has_of T.g_result_lengths F sc_result_lengths (fun _ _ _ _ _ _ us hl => match us, hl with | [_, _], _ => rfl) (fun vs H Q E h => body_len h) (fun cdv A outer s H vs Q E hr h => ⟨ts_result_lengths K E, (pss_cons (ps_expr (pe_call (E := E) G_require_rewriter (hr.mono (by decide)) (by rfl) g_require_rewriter k_require_rewriter b_require_rewriter .nil (passes_call (takes_of rfl rfl rfl rfl) (fun _ _ _ _ h => h)) (pa_cons (pv 0) pa_nil)))
    (pss_cons (ps_expr (pe_call (E := E) G_require_length (hr.mono (by decide)) (by rfl) g_require_length k_require_length b_require_length .nil (passes_call (takes_of rfl rfl rfl rfl) (fun _ _ _ _ h => h)) (pa_cons (pv 1) pa_nil)))
    pss_never)), body_ok (K := K) (E := E) (N := ["rewriter", "length", "state", "word", "here", "turn", "later", "one", "letter", "other", "low", "high", "known", "ends", "pair", "more"]) (ps := ["rewriter", "length"]) (ts := ts_result_lengths K EN) (ts' := ts_result_lengths K E) rfl h⟩)
end
end K5
set_option maxHeartbeats 4000000
set_option synthInstance.maxSize 100000
set_option synthInstance.maxHeartbeats 4000000
namespace K5
open PySem PySem.Spec PyProof.Rows L2 He Hx Hy PO RunX PB
section
variable {P : Program} {w : World} {K : PySem.W.Frag} {mg : Str → Option Value} {base : Heap}
abbrev ts_are_edges (K : PySem.W.Frag) : TS := tSeq (tIfS (tOr (tNot (tB (tCB (rIsi K) (tCons (tVar 1) (tCons (tC (V.ty "tuple")) tNil))))) (tNot (tB (tCB (rAll K) (tCons (tLc (iTup K (tVar 1)) (gName 2) tYes (tCall (spOf K (D_is_edge K)) [] E0 (tCons (tVar 0) (tCons (tVar 2) tNil))) (List.map (fun x => x.snd) [(Str.ofString "edge", 2)])) tNil))))) (tRet (tC (V.bl false))) tNext) (tRet (tOp (rI0 fun i j => V.bl (decide (i ≤ j))) (SX.tLenSetM K (tVar 1)) (tC (V.int 64))))
def D_are_edges (K : PySem.W.Frag) : DefR := bodyR (K := K) ["letters", "value", "edge"] ["letters", "value"] (ts_are_edges K)
theorem ok_are_edges (T : Tx K mg) : Has P w K mg base (L2.CX P w) 5 "are_edges" ["letters", "value"] (spOf K (D_are_edges K)) := by
  obtain ⟨t_MAX_EDGES, c_MAX_EDGES⟩ := T.v_MAX_EDGES
  obtain ⟨g_is_edge, k_is_edge, fd_is_edge, G_is_edge, b_is_edge⟩ := ok_is_edge (P := P) (w := w) (base := base) T
  obtain ⟨fd, F⟩ := T.fn_are_edges
  exact has_of T.g_are_edges F sc_are_edges (fun _ _ _ _ _ _ us hl => match us, hl with | [_, _], _ => rfl) (fun vs H Q E h => body_len h) (fun cdv A outer s H vs Q E hr h => ⟨ts_are_edges K, PSs.nox (
    (pss_cons (ps_if (PW.pt (pw_or (pt_not (pt_val (pe_callB (r := rIsi K) call_isi (by rfl) T.n_isinstance (by decide +kernel) (pa_cons (pv 1) (pa_cons (pe_bltn (v := .ty "tuple") (by rfl) T.n_tuple (by decide +kernel) rfl) pa_nil))))) (pw_or1 (pt_not (pt_val (pe_callB (r := rAll K) (cr_all rfl) (by rfl) T.n_all (by decide +kernel) (pa_cons (pe_lc (own := [("edge", 2)]) (g := gName 2) (by rfl) sc_are_edges.nd (pi_tup (pv 1)) (blkOk_by (own := [("edge", 2)]) (N := ["letters", "value", "edge"]) (sc := defScope s_are_edges) (by decide +kernel)) (fun _ _ _ _ _ => (pg_name (i := 2) sc_are_edges.nd rfl (Or.inl rfl))) (fun _ _ _ _ _ => pts_nil) (fun _ _ _ _ _ => (pe_call (E := E0) G_is_edge (hr.mono (by decide)) (by rfl) g_is_edge k_is_edge b_is_edge .nil passX0 (pa_cons (pv 0) (pa_cons (pv 2) pa_nil))))) pa_nil))))))) (pss_one (ps_ret (by exact pe_bl))) pss_nil)
    (pss_one (ps_ret (by exact (pe_cmpR op_le (SX.pe_lenSetM hr.u3 (by rfl) T.n_len (by rfl) T.n_set (pv 1)) (pe_glob (v := .int 64) rfl c_MAX_EDGES ⟨_, rfl⟩) (nomark _))))))), body_ok (K := K) (E := E) (N := ["letters", "value", "edge"]) (ps := ["letters", "value"]) (ts := ts_are_edges K) (ts' := ts_are_edges K) rfl h⟩)
abbrev ts_length_told (K : PySem.W.Frag) : TS := tSeq (tAsg (tTup (tCons (tCall (spOf K (D_climb_in K)) [] E0 (tCons (tVar 0) (tCons (tUn (rU fun i => V.int (-i)) (tC (V.int 1))) tNil))) (tCons (tCall (spOf K (D_climb_in K)) [] E0 (tCons (tVar 0) (tCons (tC (V.int 1)) tNil))) tNil))) (gTup K 2 (gCons (gName 1) (gCons (gName 2) gNil)))) (tSeq (tFor (iTup K (tTup (tCons (tVar 1) (tCons (tVar 2) tNil)))) (gName 3) (tIfS (tTest (tOp rNotN (tProp (ga K (Str.ofString "Climb")) (spOf K (D_clCircle K)) [] E0 (tVar 3)) (tC V.non))) tNever tNext)) (tSeq (tAsg (DCT.tDcB false (iTup K (tFldO (ga K (Str.ofString "Rewriter")) (Str.ofString "own_states") (tVar 0))) (gName 4) tYes (tVar 4) (tTup (tCons (tUn (rU fun i => V.int (-i)) (tDGet (tProp (ga K (Str.ofString "Climb")) (spOf K (D_clSums K)) [] E0 (tVar 1)) (tVar 4))) (tCons (tDGet (tProp (ga K (Str.ofString "Climb")) (spOf K (D_clSums K)) [] E0 (tVar 2)) (tVar 4)) tNil))) (List.map (fun x => x.snd) [(Str.ofString "state", 4)])) (gName 5)) (tSeq (tIfS (tTest (tOp rEqDE (tVar 5) tDNewK)) (tRet (tTup (tCons (tC (V.str (Str.ofString "between"))) (tCons (tVar 5) (tCons (tC V.non) (tCons (tC V.non) tNil)))))) tNext) (tSeq (tAsg (tLst (tCons (tOp (rIxT K) (tCall (spOf K (D_best_end K)) [] E0 (tCons (tVar 0) (tCons (tVar 1) (tCons (tUn (rU fun i => V.int (-i)) (tC (V.int 1))) tNil)))) (tC (V.int 1))) (tCons (tOp (rIxT K) (tCall (spOf K (D_best_end K)) [] E0 (tCons (tVar 0) (tCons (tVar 2) (tCons (tC (V.int 1)) tNil)))) (tC (V.int 1))) tNil))) (gName 6)) (tRet (tTup (tCons (tC (V.str (Str.ofString "between"))) (tCons (tVar 5) (tCons (tMeth (ga K (Str.ofString "Climb")) (Str.ofString "path_to") (spOf K (D_pathTo K)) [] E0 (tVar 1) (tCons (tOp (rIxL K) (tVar 6) (tC (V.int 0))) tNil)) (tCons (tMeth (ga K (Str.ofString "Climb")) (Str.ofString "path_to") (spOf K (D_pathTo K)) [] E0 (tVar 2) (tCons (tOp (rIxL K) (tVar 6) (tC (V.int 1))) tNil)) tNil))))))))))
def D_length_told (K : PySem.W.Frag) : DefR := bodyR (K := K) ["rewriter", "low", "high", "climb", "state", "table", "ends"] ["rewriter"] (ts_length_told K)
theorem ok_length_told (T : Tx K mg) : Has P w K mg base (L2.CX P w) 5 "length_told" ["rewriter"] (spOf K (D_length_told K)) := by
  obtain ⟨t_BETWEEN, c_BETWEEN⟩ := T.v_BETWEEN
  obtain ⟨g_climb_in, k_climb_in, fd_climb_in, G_climb_in, b_climb_in⟩ := ok_climb_in (P := P) (w := w) (base := base) T
  obtain ⟨k_clCircle, fd_clCircle, G_clCircle, b_clCircle⟩ := ok_clCircle (P := P) (w := w) (base := base) T
  obtain ⟨k_clSums, fd_clSums, G_clSums, b_clSums⟩ := ok_clSums (P := P) (w := w) (base := base) T
  obtain ⟨g_best_end, k_best_end, fd_best_end, G_best_end, b_best_end⟩ := ok_best_end (P := P) (w := w) (base := base) T
  obtain ⟨k_pathTo, fd_pathTo, G_pathTo, b_pathTo⟩ := ok_pathTo (P := P) (w := w) (base := base) T
  obtain ⟨fd, F⟩ := T.fn_length_told
  exact has_of T.g_length_told F sc_length_told (fun _ _ _ _ _ _ us hl => match us, hl with | [_], _ => rfl) (fun vs H Q E h => body_len h) (fun cdv A outer s H vs Q E hr h => ⟨ts_length_told K, PSs.nox (
    (pss_cons (ps_asg (pe_tup (pa_cons (pe_call (E := E0) G_climb_in (hr.mono (by decide)) (by rfl) g_climb_in k_climb_in b_climb_in .nil passX0 (pa_cons (pv 0) (pa_cons (pe_un un_neg pe_int) pa_nil))) (pa_cons (pe_call (E := E0) G_climb_in (hr.mono (by decide)) (by rfl) g_climb_in k_climb_in b_climb_in .nil passX0 (pa_cons (pv 0) (pa_cons pe_int pa_nil))) pa_nil))) (pg_tup (n := 2) (by rfl) (pgs_cons (pg_name (i := 1) sc_length_told.nd rfl (Or.inr rfl)) (pgs_cons (pg_name (i := 2) sc_length_told.nd rfl (Or.inr rfl)) pgs_nil))))
    (pss_cons (ps_for PassesOwn.never rfl (pi_tup (pe_tup (pa_cons (pv 1) (pa_cons (pv 2) pa_nil)))) (pg_name (i := 3) sc_length_told.nd rfl (Or.inl rfl)) (pss_one (ps_if (pt_cmpR (r := rNotN) op_notN (pe_prop (pv 3) (T.c_Climb).1 T.p_clCircle G_clCircle (hr.mono (by decide)) b_clCircle .nil passX0 (by rfl)) pe_non (nomark _)) pss_never pss_nil)))
    (pss_cons (DCT.ps_setDcB (i := 5) (own := [("state", 4)]) (g := gName 4) false hr.units0 (by rfl) sc_length_told.nd rfl rfl (DCT.sw_dc rfl rfl rfl (by decide +kernel)) (pi_tup (pe_fldO (T.c_Rewriter).1 T.f_Rewriter_own_states (pv 0))) (blkOk_by (own := [("state", 4)]) (N := ["rewriter", "low", "high", "climb", "state", "table", "ends"]) (sc := defScope s_length_told) (by decide +kernel)) (fun _ _ _ _ _ => (pg_name (i := 4) sc_length_told.nd rfl (Or.inl rfl))) (fun _ _ _ _ _ => pts_nil) (fun _ _ _ _ _ => (pv 4)) (fun _ _ _ _ _ => (pe_tup (pa_cons (pe_un un_neg (pe_dget hr.u1 (pe_prop (pv 1) (T.c_Climb).1 T.p_clSums G_clSums (hr.mono (by decide)) b_clSums .nil passX0 (by rfl)) (pv 4) (fun _ _ => rfl))) (pa_cons (pe_dget hr.u1 (pe_prop (pv 2) (T.c_Climb).1 T.p_clSums G_clSums (hr.mono (by decide)) b_clSums .nil passX0 (by rfl)) (pv 4) (fun _ _ => rfl)) pa_nil)))))
    (pss_cons (ps_if (pt_cmpR (r := rEqDE) (op_eqDE hr.units0) (pv 5) pe_dnewK (nomark _)) (pss_one (ps_ret (by exact (pe_tup (pa_cons (pe_glob (v := .str "between") rfl c_BETWEEN ⟨_, rfl⟩) (pa_cons (pv 5) (pa_cons pe_non (pa_cons pe_non pa_nil)))))))) pss_nil)
    (pss_cons (ps_set (i := 6) sc_length_told.nd rfl (Or.inl rfl) (by exact (pe_lst (pa_cons (pe_ix (r := rIxT K) ix_tup (pe_call (E := E0) G_best_end (hr.mono (by decide)) (by rfl) g_best_end k_best_end b_best_end .nil passX0 (pa_cons (pv 0) (pa_cons (pv 1) (pa_cons (pe_un un_neg pe_int) pa_nil)))) pe_int (fun _ _ => rfl)) (pa_cons (pe_ix (r := rIxT K) ix_tup (pe_call (E := E0) G_best_end (hr.mono (by decide)) (by rfl) g_best_end k_best_end b_best_end .nil passX0 (pa_cons (pv 0) (pa_cons (pv 2) (pa_cons pe_int pa_nil)))) pe_int (fun _ _ => rfl)) pa_nil)))))
    (pss_one (ps_ret (by exact (pe_tup (pa_cons (pe_glob (v := .str "between") rfl c_BETWEEN ⟨_, rfl⟩) (pa_cons (pv 5) (pa_cons (pe_meth (E := E0) (pv 1) (T.c_Climb).1 T.m_pathTo G_pathTo (hr.mono (by decide)) b_pathTo .nil passX0 (pa_cons (pe_ix (r := rIxL K) ix_list (pv 6) pe_int (fun _ _ => rfl)) pa_nil)) (pa_cons (pe_meth (E := E0) (pv 2) (T.c_Climb).1 T.m_pathTo G_pathTo (hr.mono (by decide)) b_pathTo .nil passX0 (pa_cons (pe_ix (r := rIxL K) ix_list (pv 6) pe_int (fun _ _ => rfl)) pa_nil)) pa_nil)))))))))))))), body_ok (K := K) (E := E) (N := ["rewriter", "low", "high", "climb", "state", "table", "ends"]) (ps := ["rewriter"]) (ts := ts_length_told K) (ts' := ts_length_told K) rfl h⟩)
abbrev ts_rate_told (K : PySem.W.Frag) : TS := tSeq (tAsg (tTup (tCons (tIf (tTest (tOp rEq (tVar 1) (tC (V.str (Str.ofString "greatest"))))) (tC (V.int 1)) (tUn (rU fun i => V.int (-i)) (tC (V.int 1)))) (tCons (tCall (spOf K (D_first_circle K)) [] E0 (tCons (tVar 0) tNil)) tNil))) (gTup K 2 (gCons (gName 2) (gCons (gName 3) gNil)))) (tSeq (tIfS (tTest (tOp rIsN (tVar 3) (tC V.non))) (tRet (tC V.non)) tNext) tNever)
def D_rate_told (K : PySem.W.Frag) : DefR := bodyR (K := K) ["rewriter", "word", "sign", "circle", "climb", "state", "number"] ["rewriter", "word"] (ts_rate_told K)
theorem ok_rate_told (T : Tx K mg) : Has P w K mg base (L2.CX P w) 5 "rate_told" ["rewriter", "word"] (spOf K (D_rate_told K)) := by
  obtain ⟨t_GREATEST, c_GREATEST⟩ := T.v_GREATEST
  obtain ⟨g_first_circle, k_first_circle, fd_first_circle, G_first_circle, b_first_circle⟩ := ok_first_circle (P := P) (w := w) (base := base) T
  obtain ⟨fd, F⟩ := T.fn_rate_told
  exact has_of T.g_rate_told F sc_rate_told (fun _ _ _ _ _ _ us hl => match us, hl with | [_, _], _ => rfl) (fun vs H Q E h => body_len h) (fun cdv A outer s H vs Q E hr h => ⟨ts_rate_told K, PSs.nox (
    (pss_cons (ps_asg (pe_tup (pa_cons (pe_ifExp (pt_cmpR op_eq (pv 1) (pe_glob (v := .str "greatest") rfl c_GREATEST ⟨_, rfl⟩) (nomark _)) pe_int (pe_un un_neg pe_int)) (pa_cons (pe_call (E := E0) G_first_circle (hr.mono (by decide)) (by rfl) g_first_circle k_first_circle b_first_circle .nil passX0 (pa_cons (pv 0) pa_nil)) pa_nil))) (pg_tup (n := 2) (by rfl) (pgs_cons (pg_name (i := 2) sc_rate_told.nd rfl (Or.inr rfl)) (pgs_cons (pg_name (i := 3) sc_rate_told.nd rfl (Or.inl rfl)) pgs_nil))))
    (pss_cons (ps_if (pt_cmpR (r := rIsN) op_isN (pv 3) pe_non (nomark _)) (pss_one (ps_ret (by exact pe_non))) pss_nil)
    pss_never))), body_ok (K := K) (E := E) (N := ["rewriter", "word", "sign", "circle", "climb", "state", "number"]) (ps := ["rewriter", "word"]) (ts := ts_rate_told K) (ts' := ts_rate_told K) rfl h⟩)
abbrev ts_difference (K : PySem.W.Frag) (E : XK) : TS := tSeq (tDrop (tCall (spOf K (D_require_rewriter K)) [] E (tCons (tVar 0) tNil))) (tSeq (tDrop (tCall (spOf K (D_require_path K)) [] E (tCons (tVar 0) (tCons (tVar 1) tNil)))) tNever)
def D_difference (K : PySem.W.Frag) : DefR := bodyR (K := K) ["rewriter", "path"] ["rewriter", "path"] (ts_difference K EN)
theorem ok_difference (T : Tx K mg) : Has P w K mg base (L2.CX P w) 5 "difference" ["rewriter", "path"] (spOf K (D_difference K)) := by
  obtain ⟨g_require_rewriter, k_require_rewriter, fd_require_rewriter, G_require_rewriter, b_require_rewriter⟩ := ok_require_rewriter (P := P) (w := w) (base := base) T
  obtain ⟨g_require_path, k_require_path, fd_require_path, G_require_path, b_require_path⟩ := ok_require_path (P := P) (w := w) (base := base) T
  obtain ⟨fd, F⟩ := T.fn_difference
  exact has_of T.g_difference F sc_difference (fun _ _ _ _ _ _ us hl => match us, hl with | [_, _], _ => rfl) (fun vs H Q E h => body_len h) (fun cdv A outer s H vs Q E hr h => ⟨ts_difference K E, (pss_cons (ps_expr (pe_call (E := E) G_require_rewriter (hr.mono (by decide)) (by rfl) g_require_rewriter k_require_rewriter b_require_rewriter .nil (passes_call (takes_of rfl rfl rfl rfl) (fun _ _ _ _ h => h)) (pa_cons (pv 0) pa_nil)))
    (pss_cons (ps_expr (pe_call (E := E) G_require_path (hr.mono (by decide)) (by rfl) g_require_path k_require_path b_require_path .nil (passes_call (takes_of rfl rfl rfl rfl) (fun _ _ _ _ h => h)) (pa_cons (pv 0) (pa_cons (pv 1) pa_nil))))
    pss_never)), body_ok (K := K) (E := E) (N := ["rewriter", "path"]) (ps := ["rewriter", "path"]) (ts := ts_difference K EN) (ts' := ts_difference K E) rfl h⟩)
abbrev ts_is_length_paper (K : PySem.W.Frag) (E : XK) : TS := tSeq (tDrop (tCall (spOf K (D_require_rewriter K)) [] E (tCons (tVar 0) tNil))) (tRet (tCall (spOf K (D_shows_length K)) [] E (tCons (tVar 0) (tCons (tVar 1) tNil))))
def D_is_length_paper (K : PySem.W.Frag) : DefR := bodyR (K := K) ["rewriter", "value"] ["rewriter", "value"] (ts_is_length_paper K EN)
theorem ok_is_length_paper (T : Tx K mg) : Has P w K mg base (L2.CX P w) 5 "is_length_paper" ["rewriter", "value"] (spOf K (D_is_length_paper K)) := by
  obtain ⟨g_require_rewriter, k_require_rewriter, fd_require_rewriter, G_require_rewriter, b_require_rewriter⟩ := ok_require_rewriter (P := P) (w := w) (base := base) T
  obtain ⟨g_shows_length, k_shows_length, fd_shows_length, G_shows_length, b_shows_length⟩ := ok_shows_length (P := P) (w := w) (base := base) T
  obtain ⟨fd, F⟩ := T.fn_is_length_paper
  exact has_of T.g_is_length_paper F sc_is_length_paper (fun _ _ _ _ _ _ us hl => match us, hl with | [_, _], _ => rfl) (fun vs H Q E h => body_len h) (fun cdv A outer s H vs Q E hr h => ⟨ts_is_length_paper K E, (pss_cons (ps_expr (pe_call (E := E) G_require_rewriter (hr.mono (by decide)) (by rfl) g_require_rewriter k_require_rewriter b_require_rewriter .nil (passes_call (takes_of rfl rfl rfl rfl) (fun _ _ _ _ h => h)) (pa_cons (pv 0) pa_nil)))
    (pss_one (ps_ret (by exact (pe_call (E := E) G_shows_length (hr.mono (by decide)) (by rfl) g_shows_length k_shows_length b_shows_length .nil (passes_call (takes_of rfl rfl rfl rfl) (fun _ _ _ _ h => h)) (pa_cons (pv 0) (pa_cons (pv 1) pa_nil))))))), body_ok (K := K) (E := E) (N := ["rewriter", "value"]) (ps := ["rewriter", "value"]) (ts := ts_is_length_paper K EN) (ts' := ts_is_length_paper K E) rfl h⟩)
abbrev ts_rate_of (K : PySem.W.Frag) (E : XK) : TS := tSeq (tDrop (tCall (spOf K (D_require_circle K)) [] E (tCons (tVar 0) (tCons (tVar 1) tNil)))) tNever
def D_rate_of (K : PySem.W.Frag) : DefR := bodyR (K := K) ["rewriter", "circle"] ["rewriter", "circle"] (ts_rate_of K EN)
theorem ok_rate_of (T : Tx K mg) : Has P w K mg base (L2.CX P w) 5 "rate_of" ["rewriter", "circle"] (spOf K (D_rate_of K)) := by
  obtain ⟨g_require_circle, k_require_circle, fd_require_circle, G_require_circle, b_require_circle⟩ := ok_require_circle (P := P) (w := w) (base := base) T
  obtain ⟨fd, F⟩ := T.fn_rate_of
  exact has_of T.g_rate_of F sc_rate_of (fun _ _ _ _ _ _ us hl => match us, hl with | [_, _], _ => rfl) (fun vs H Q E h => body_len h) (fun cdv A outer s H vs Q E hr h => ⟨ts_rate_of K E, (pss_cons (ps_expr (pe_call (E := E) G_require_circle (hr.mono (by decide)) (by rfl) g_require_circle k_require_circle b_require_circle .nil (passes_call (takes_of rfl rfl rfl rfl) (fun _ _ _ _ h => h)) (pa_cons (pv 0) (pa_cons (pv 1) pa_nil))))
    pss_never), body_ok (K := K) (E := E) (N := ["rewriter", "circle"]) (ps := ["rewriter", "circle"]) (ts := ts_rate_of K EN) (ts' := ts_rate_of K E) rfl h⟩)
abbrev ts_is_rate_paper (K : PySem.W.Frag) (E : XK) : TS := tSeq (tDrop (tCall (spOf K (D_require_word K)) [] E (tCons (tVar 0) (tCons (tVar 1) tNil)))) (tRet (tCall (spOf K (D_is_rate_told K)) [] E (tCons (tVar 0) (tCons (tVar 1) (tCons (tVar 2) tNil)))))
def D_is_rate_paper (K : PySem.W.Frag) : DefR := bodyR (K := K) ["rewriter", "word", "value"] ["rewriter", "word", "value"] (ts_is_rate_paper K EN)
theorem ok_is_rate_paper (T : Tx K mg) : Has P w K mg base (L2.CX P w) 5 "is_rate_paper" ["rewriter", "word", "value"] (spOf K (D_is_rate_paper K)) := by
  obtain ⟨g_require_word, k_require_word, fd_require_word, G_require_word, b_require_word⟩ := ok_require_word (P := P) (w := w) (base := base) T
  obtain ⟨g_is_rate_told, k_is_rate_told, fd_is_rate_told, G_is_rate_told, b_is_rate_told⟩ := ok_is_rate_told (P := P) (w := w) (base := base) T
  obtain ⟨fd, F⟩ := T.fn_is_rate_paper
  exact has_of T.g_is_rate_paper F sc_is_rate_paper (fun _ _ _ _ _ _ us hl => match us, hl with | [_, _, _], _ => rfl) (fun vs H Q E h => body_len h) (fun cdv A outer s H vs Q E hr h => ⟨ts_is_rate_paper K E, (pss_cons (ps_expr (pe_call (E := E) G_require_word (hr.mono (by decide)) (by rfl) g_require_word k_require_word b_require_word .nil (passes_call (takes_of rfl rfl rfl rfl) (fun _ _ _ _ h => h)) (pa_cons (pv 0) (pa_cons (pv 1) pa_nil))))
    (pss_one (ps_ret (by exact (pe_call (E := E) G_is_rate_told (hr.mono (by decide)) (by rfl) g_is_rate_told k_is_rate_told b_is_rate_told .nil (passes_call (takes_of rfl rfl rfl rfl) (fun _ _ _ _ h => h)) (pa_cons (pv 0) (pa_cons (pv 1) (pa_cons (pv 2) pa_nil)))))))), body_ok (K := K) (E := E) (N := ["rewriter", "word", "value"]) (ps := ["rewriter", "word", "value"]) (ts := ts_is_rate_paper K EN) (ts' := ts_is_rate_paper K E) rfl h⟩)
end
end K5
set_option maxHeartbeats 4000000
set_option synthInstance.maxSize 100000
set_option synthInstance.maxHeartbeats 4000000
namespace K5
open PySem PySem.Spec PyProof.Rows L2 He Hx Hy PO RunX PB
section
variable {P : Program} {w : World} {K : PySem.W.Frag} {mg : Str → Option Value} {base : Heap}
abbrev ts_rwInit (K : PySem.W.Frag) : TS := tSeq (tIfS (tOr (tNot (tB (tCall (spOf K (D_are_letters K)) [] E0 (tCons (tVar 1) tNil)))) (tOr (tNot (tB (tCall (spOf K (D_are_worded K)) [] E0 (tCons (tVar 2) tNil)))) (tOr (tNot (tB (tCall (spOf K (D_are_edges K)) [] E0 (tCons (tVar 1) (tCons (tVar 3) tNil))))) (tNot (tB (tCall (spOf K (D_are_worded K)) [] E0 (tCons (tVar 4) tNil))))))) tNever tNext) (tSeq (tAsg (tCall (spOf K (D_useful_in K)) [] E0 (tCons (tVar 2) (tCons (tVar 3) (tCons (tVar 4) tNil)))) (gName 5)) (tSeq (tAsg (DCT.tDcB true (iTup K (tVar 3)) (gName 6) (tAnd (tTest (tOp (rIn K false) (tOp (rIxT K) (tVar 6) (tC (V.int 0))) (tVar 5))) (tTest (tOp (rIn K false) (tOp (rIxT K) (tVar 6) (tC (V.int 3))) (tVar 5)))) (tVar 6) (tC (V.bl true)) (List.map (fun x => x.snd) [(Str.ofString "edge", 6)])) (gName 7)) (tSeq (sFldO (ga K (Str.ofString "Rewriter")) (Str.ofString "own_letters") (tVar 0) (tVar 1)) (tSeq (sFldO (ga K (Str.ofString "Rewriter")) (Str.ofString "own_states") (tVar 0) (tCB (rTupleO K) (tCons (tVar 5) tNil))) (tSeq (sFldO (ga K (Str.ofString "Rewriter")) (Str.ofString "own_starts") (tVar 0) (tCall (spOf K (D_kept_words K)) [] E0 (tCons (tVar 2) (tCons (tVar 5) tNil)))) (tSeq (sFldO (ga K (Str.ofString "Rewriter")) (Str.ofString "own_edges") (tVar 0) (tCB (rTupleO K) (tCons (tCB (SM.rSortM K) (tCons (tCB rListKT (tCons (tVar 7) tNil)) tNil)) tNil))) (tSeq (sFldO (ga K (Str.ofString "Rewriter")) (Str.ofString "own_ends") (tVar 0) (tCall (spOf K (D_kept_words K)) [] E0 (tCons (tVar 4) (tCons (tVar 5) tNil)))) (tSeq (sFldO (ga K (Str.ofString "Rewriter")) (Str.ofString "own_after") (tVar 0) (tCall (spOf K (D_edges_after K)) [] E0 (tCons (tFldO (ga K (Str.ofString "Rewriter")) (Str.ofString "own_edges") (tVar 0)) tNil))) (sFldO (ga K (Str.ofString "Rewriter")) (Str.ofString "own_before") (tVar 0) (tCall (spOf K (D_edges_before K)) [] E0 (tCons (tFldO (ga K (Str.ofString "Rewriter")) (Str.ofString "own_edges") (tVar 0)) tNil)))))))))))
def D_rwInit (K : PySem.W.Frag) : DefR := bodyR (K := K) ["self", "letters", "starts", "edges", "ends", "states", "edge", "useful"] ["self", "letters", "starts", "edges", "ends"] (ts_rwInit K)
theorem ok_rwInit (T : Tx K mg) : HasA P w K mg base (L2.CX P w) 6 (ma K (ga K "Rewriter") "__init__") ["self", "letters", "starts", "edges", "ends"] (spOf K (D_rwInit K)) := by
  obtain ⟨g_are_worded, k_are_worded, fd_are_worded, G_are_worded, b_are_worded⟩ := ok_are_worded (P := P) (w := w) (base := base) T
  obtain ⟨g_are_edges, k_are_edges, fd_are_edges, G_are_edges, b_are_edges⟩ := ok_are_edges (P := P) (w := w) (base := base) T
  obtain ⟨g_are_letters, k_are_letters, fd_are_letters, G_are_letters, b_are_letters⟩ := ok_are_letters (P := P) (w := w) (base := base) T
  obtain ⟨g_useful_in, k_useful_in, fd_useful_in, G_useful_in, b_useful_in⟩ := ok_useful_in (P := P) (w := w) (base := base) T
  obtain ⟨g_kept_words, k_kept_words, fd_kept_words, G_kept_words, b_kept_words⟩ := ok_kept_words (P := P) (w := w) (base := base) T
  obtain ⟨g_edges_after, k_edges_after, fd_edges_after, G_edges_after, b_edges_after⟩ := ok_edges_after (P := P) (w := w) (base := base) T
  obtain ⟨g_edges_before, k_edges_before, fd_edges_before, G_edges_before, b_edges_before⟩ := ok_edges_before (P := P) (w := w) (base := base) T
  obtain ⟨fd, F⟩ := T.fn_rwInit
  exact hasA_of F sc_rwInit (fun _ _ _ _ _ _ us hl => match us, hl with | [_, _, _, _, _], _ => rfl) (fun vs H Q E h => body_len h) (fun cdv A outer s H vs Q E hr h => ⟨ts_rwInit K, PSs.nox (
    (pss_cons (ps_if (PW.pt (pw_or (pt_not (pt_val (pe_call (E := E0) G_are_letters (hr.mono (by decide)) (by rfl) g_are_letters k_are_letters b_are_letters .nil passX0 (pa_cons (pv 1) pa_nil)))) (pw_or (pt_not (pt_val (pe_call (E := E0) G_are_worded (hr.mono (by decide)) (by rfl) g_are_worded k_are_worded b_are_worded .nil passX0 (pa_cons (pv 2) pa_nil)))) (pw_or (pt_not (pt_val (pe_call (E := E0) G_are_edges (hr.mono (by decide)) (by rfl) g_are_edges k_are_edges b_are_edges .nil passX0 (pa_cons (pv 1) (pa_cons (pv 3) pa_nil))))) (pw_or1 (pt_not (pt_val (pe_call (E := E0) G_are_worded (hr.mono (by decide)) (by rfl) g_are_worded k_are_worded b_are_worded .nil passX0 (pa_cons (pv 4) pa_nil))))))))) (pss_one ps_never) pss_nil)
    (pss_cons (ps_set (i := 5) sc_rwInit.nd rfl (Or.inr rfl) (by exact (pe_call (E := E0) G_useful_in (hr.mono (by decide)) (by rfl) g_useful_in k_useful_in b_useful_in .nil passX0 (pa_cons (pv 2) (pa_cons (pv 3) (pa_cons (pv 4) pa_nil))))))
    (pss_cons (DCT.ps_setDcB (i := 7) (own := [("edge", 6)]) (g := gName 6) true hr.units0 (by rfl) sc_rwInit.nd rfl rfl (DCT.sw_dc rfl rfl rfl (by decide +kernel)) (pi_tup (pv 3)) (blkOk_by (own := [("edge", 6)]) (N := ["self", "letters", "starts", "edges", "ends", "states", "edge", "useful"]) (sc := defScope s_rwInit) (by decide +kernel)) (fun _ _ _ _ _ => (pg_name (i := 6) sc_rwInit.nd rfl (Or.inl rfl))) (fun _ _ _ _ _ => (pts_one (PW.pt (pw_and (pt_cmpR (r := rIn K false) op_in_seq (pe_ix (r := rIxT K) ix_tup (pv 6) pe_int (fun _ _ => rfl)) (pv 5) (by rfl)) (pw_and1 (pt_cmpR (r := rIn K false) op_in_seq (pe_ix (r := rIxT K) ix_tup (pv 6) pe_int (fun _ _ => rfl)) (pv 5) (by rfl))))))) (fun _ _ _ _ _ => (pv 6)) (fun _ _ _ _ _ => pe_bl))
    (pss_cons (ps_fldO (T.c_Rewriter).1 T.f_Rewriter_own_letters (pv 0) (pv 1))
    (pss_cons (ps_fldO (T.c_Rewriter).1 T.f_Rewriter_own_states (pv 0) (pe_callTy (r := rTupleO K) call_tupleO (by rfl) T.n_tuple (by decide +kernel) (pa_cons (pv 5) pa_nil)))
    (pss_cons (ps_fldO (T.c_Rewriter).1 T.f_Rewriter_own_starts (pv 0) (pe_call (E := E0) G_kept_words (hr.mono (by decide)) (by rfl) g_kept_words k_kept_words b_kept_words .nil passX0 (pa_cons (pv 2) (pa_cons (pv 5) pa_nil))))
    (pss_cons (ps_fldO (T.c_Rewriter).1 T.f_Rewriter_own_edges (pv 0) (pe_callTy (r := rTupleO K) call_tupleO (by rfl) T.n_tuple (by decide +kernel) (pa_cons (pe_callB (r := SM.rSortM K) SM.cr_sortM (by rfl) T.n_sorted (by decide +kernel) (pa_cons (pe_callTy (r := rListKT) (call_listKT (by rfl)) (by rfl) T.n_list (by decide +kernel) (pa_cons (pv 7) pa_nil)) pa_nil)) pa_nil)))
    (pss_cons (ps_fldO (T.c_Rewriter).1 T.f_Rewriter_own_ends (pv 0) (pe_call (E := E0) G_kept_words (hr.mono (by decide)) (by rfl) g_kept_words k_kept_words b_kept_words .nil passX0 (pa_cons (pv 4) (pa_cons (pv 5) pa_nil))))
    (pss_cons (ps_fldO (T.c_Rewriter).1 T.f_Rewriter_own_after (pv 0) (pe_call (E := E0) G_edges_after (hr.mono (by decide)) (by rfl) g_edges_after k_edges_after b_edges_after .nil passX0 (pa_cons (pe_fldO (T.c_Rewriter).1 T.f_Rewriter_own_edges (pv 0)) pa_nil)))
    (pss_one (ps_fldO (T.c_Rewriter).1 T.f_Rewriter_own_before (pv 0) (pe_call (E := E0) G_edges_before (hr.mono (by decide)) (by rfl) g_edges_before k_edges_before b_edges_before .nil passX0 (pa_cons (pe_fldO (T.c_Rewriter).1 T.f_Rewriter_own_edges (pv 0)) pa_nil)))))))))))))), body_ok (K := K) (E := E) (N := ["self", "letters", "starts", "edges", "ends", "states", "edge", "useful"]) (ps := ["self", "letters", "starts", "edges", "ends"]) (ts := ts_rwInit K) (ts' := ts_rwInit K) rfl h⟩)
abbrev ts_bounds_in (K : PySem.W.Frag) : TS := tSeq (tAsg (tCall (spOf K (D_length_told K)) [] E0 (tCons (tVar 0) tNil)) (gName 1)) (tSeq (tIfS (tTest (tOp rEq (tOp (rIxT K) (tVar 1) (tC (V.int 0))) (tC (V.str (Str.ofString "circle"))))) tNever tNext) (tSeq (tIfS (tTest (tOp rIsN (tOp (rIxT K) (tVar 1) (tC (V.int 2))) (tC V.non))) tNever tNext) (tRet (tTup (tCons (tCall (spOf K (D_difference_in K)) [] E0 (tCons (tVar 0) (tCons (tOp (rIxT K) (tVar 1) (tC (V.int 2))) tNil))) (tCons (tCall (spOf K (D_difference_in K)) [] E0 (tCons (tVar 0) (tCons (tOp (rIxT K) (tVar 1) (tC (V.int 3))) tNil))) tNil))))))
def D_bounds_in (K : PySem.W.Frag) : DefR := bodyR (K := K) ["rewriter", "paper"] ["rewriter"] (ts_bounds_in K)
theorem ok_bounds_in (T : Tx K mg) : Has P w K mg base (L2.CX P w) 6 "bounds_in" ["rewriter"] (spOf K (D_bounds_in K)) := by
  obtain ⟨t_CIRCLE, c_CIRCLE⟩ := T.v_CIRCLE
  obtain ⟨g_length_told, k_length_told, fd_length_told, G_length_told, b_length_told⟩ := ok_length_told (P := P) (w := w) (base := base) T
  obtain ⟨g_difference_in, k_difference_in, fd_difference_in, G_difference_in, b_difference_in⟩ := ok_difference_in (P := P) (w := w) (base := base) T
  obtain ⟨fd, F⟩ := T.fn_bounds_in
  exact has_of T.g_bounds_in F sc_bounds_in (fun _ _ _ _ _ _ us hl => match us, hl with | [_], _ => rfl) (fun vs H Q E h => body_len h) (fun cdv A outer s H vs Q E hr h => ⟨ts_bounds_in K, PSs.nox (
    (pss_cons (ps_set (i := 1) sc_bounds_in.nd rfl (Or.inl rfl) (by exact (pe_call (E := E0) G_length_told (hr.mono (by decide)) (by rfl) g_length_told k_length_told b_length_told .nil passX0 (pa_cons (pv 0) pa_nil))))
    (pss_cons (ps_if (pt_cmpR op_eq (pe_ix (r := rIxT K) ix_tup (pv 1) pe_int (fun _ _ => rfl)) (pe_glob (v := .str "circle") rfl c_CIRCLE ⟨_, rfl⟩) (nomark _)) pss_never pss_nil)
    (pss_cons (ps_if (pt_cmpR (r := rIsN) op_isN (pe_ix (r := rIxT K) ix_tup (pv 1) pe_int (fun _ _ => rfl)) pe_non (nomark _)) pss_never pss_nil)
    (pss_one (ps_ret (by exact (pe_tup (pa_cons (pe_call (E := E0) G_difference_in (hr.mono (by decide)) (by rfl) g_difference_in k_difference_in b_difference_in .nil passX0 (pa_cons (pv 0) (pa_cons (pe_ix (r := rIxT K) ix_tup (pv 1) pe_int (fun _ _ => rfl)) pa_nil))) (pa_cons (pe_call (E := E0) G_difference_in (hr.mono (by decide)) (by rfl) g_difference_in k_difference_in b_difference_in .nil passX0 (pa_cons (pv 0) (pa_cons (pe_ix (r := rIxT K) ix_tup (pv 1) pe_int (fun _ _ => rfl)) pa_nil))) pa_nil)))))))))), body_ok (K := K) (E := E) (N := ["rewriter", "paper"]) (ps := ["rewriter"]) (ts := ts_bounds_in K) (ts' := ts_bounds_in K) rfl h⟩)
abbrev ts_rate_paper (K : PySem.W.Frag) (E : XK) : TS := tSeq (tDrop (tCall (spOf K (D_require_word K)) [] E (tCons (tVar 0) (tCons (tVar 1) tNil)))) (tSeq (tAsg (tCall (spOf K (D_rate_told K)) [] E (tCons (tVar 0) (tCons (tVar 1) tNil))) (gName 2)) (tSeq (tIfS (tTest (tOp rIsN (tVar 2) (tC V.non))) (RunX.tRaise (ga K (Str.ofString "InvalidOperation")) E) tNext) tNever))
def D_rate_paper (K : PySem.W.Frag) : DefR := bodyR (K := K) ["rewriter", "word", "paper"] ["rewriter", "word"] (ts_rate_paper K EN)
theorem ok_rate_paper (T : Tx K mg) : Has P w K mg base (L2.CX P w) 6 "rate_paper" ["rewriter", "word"] (spOf K (D_rate_paper K)) := by
  obtain ⟨g_require_word, k_require_word, fd_require_word, G_require_word, b_require_word⟩ := ok_require_word (P := P) (w := w) (base := base) T
  obtain ⟨g_rate_told, k_rate_told, fd_rate_told, G_rate_told, b_rate_told⟩ := ok_rate_told (P := P) (w := w) (base := base) T
  obtain ⟨fd, F⟩ := T.fn_rate_paper
  exact has_of T.g_rate_paper F sc_rate_paper (fun _ _ _ _ _ _ us hl => match us, hl with | [_, _], _ => rfl) (fun vs H Q E h => body_len h) (fun cdv A outer s H vs Q E hr h => ⟨ts_rate_paper K E, (pss_cons (ps_expr (pe_call (E := E) G_require_word (hr.mono (by decide)) (by rfl) g_require_word k_require_word b_require_word .nil (passes_call (takes_of rfl rfl rfl rfl) (fun _ _ _ _ h => h)) (pa_cons (pv 0) (pa_cons (pv 1) pa_nil))))
    (pss_cons (ps_set (i := 2) sc_rate_paper.nd rfl (Or.inl rfl) (by exact (pe_call (E := E) G_rate_told (hr.mono (by decide)) (by rfl) g_rate_told k_rate_told b_rate_told .nil (passes_call (takes_of rfl rfl rfl rfl) (fun _ _ _ _ h => h)) (pa_cons (pv 0) (pa_cons (pv 1) pa_nil)))))
    (pss_cons (ps_if (pt_cmpR (r := rIsN) op_isN (pv 2) pe_non (nomark _)) (pss_one (asRaise (C := ga K "InvalidOperation") (E := E) (ps_raise rfl (takes_of rfl rfl rfl rfl) (pmk_own PySem.F.excBase_ValueError (T.e_InvalidOperation).1 T.g_InvalidOperation (T.e_InvalidOperation).2.1 (raises_own (T.e_InvalidOperation).2.2.1 (T.e_InvalidOperation).2.2.2) (by rfl))))) pss_nil)
    pss_never))), body_ok (K := K) (E := E) (N := ["rewriter", "word", "paper"]) (ps := ["rewriter", "word"]) (ts := ts_rate_paper K EN) (ts' := ts_rate_paper K E) rfl h⟩)
end
end K5
set_option maxHeartbeats 4000000
set_option synthInstance.maxSize 100000
set_option synthInstance.maxHeartbeats 4000000
namespace K5
open PySem PySem.Spec PyProof.Rows L2 He Hx Hy PO RunX PB
section
variable {P : Program} {w : World} {K : PySem.W.Frag} {mg : Str → Option Value} {base : Heap}
abbrev ts_is_even_in (K : PySem.W.Frag) : TS := tRet (tOp (rInDT K) (tCall (spOf K (D_bounds_in K)) [] E0 (tCons (tVar 0) tNil)) (tTup (tCons (tTup tNil) (tCons (tTup (tCons (tC (V.int 0)) (tCons (tC (V.int 0)) tNil))) tNil))))
def D_is_even_in (K : PySem.W.Frag) : DefR := bodyR (K := K) ["rewriter"] ["rewriter"] (ts_is_even_in K)
theorem ok_is_even_in (T : Tx K mg) : Has P w K mg base (L2.CX P w) 7 "is_even_in" ["rewriter"] (spOf K (D_is_even_in K)) := by
  obtain ⟨g_bounds_in, k_bounds_in, fd_bounds_in, G_bounds_in, b_bounds_in⟩ := ok_bounds_in (P := P) (w := w) (base := base) T
  obtain ⟨fd, F⟩ := T.fn_is_even_in
  exact has_of T.g_is_even_in F sc_is_even_in (fun _ _ _ _ _ _ us hl => match us, hl with | [_], _ => rfl) (fun vs H Q E h => body_len h) (fun cdv A outer s H vs Q E hr h => ⟨ts_is_even_in K, PSs.nox (
    (pss_one (ps_ret (by exact (pe_cmpR (r := rInDT K) (op_inDT hr.u65) (pe_call (E := E0) G_bounds_in (hr.mono (by decide)) (by rfl) g_bounds_in k_bounds_in b_bounds_in .nil passX0 (pa_cons (pv 0) pa_nil)) (pe_tup (pa_cons (pe_tup pa_nil) (pa_cons (pe_tup (pa_cons pe_int (pa_cons pe_int pa_nil))) pa_nil))) (by rfl)))))), body_ok (K := K) (E := E) (N := ["rewriter"]) (ps := ["rewriter"]) (ts := ts_is_even_in K) (ts' := ts_is_even_in K) rfl h⟩)
end
end K5
set_option maxHeartbeats 4000000
set_option synthInstance.maxSize 100000
set_option synthInstance.maxHeartbeats 4000000
namespace K5
open PySem PySem.Spec PyProof.Rows L2 He Hx Hy PO RunX PB
section
variable {P : Program} {w : World} {K : PySem.W.Frag} {mg : Str → Option Value} {base : Heap}
abbrev ts_state_differences (K : PySem.W.Frag) (E : XK) : TS := tSeq (tDrop (tCall (spOf K (D_require_rewriter K)) [] E (tCons (tVar 0) tNil))) (tSeq (tIfS (tNot (tB (tCall (spOf K (D_is_even_in K)) [] E (tCons (tVar 0) tNil)))) (RunX.tRaise (ga K (Str.ofString "InvalidOperation")) E) tNext) tNever)
def D_state_differences (K : PySem.W.Frag) : DefR := bodyR (K := K) ["rewriter"] ["rewriter"] (ts_state_differences K EN)
theorem ok_state_differences (T : Tx K mg) : Has P w K mg base (L2.CX P w) 8 "state_differences" ["rewriter"] (spOf K (D_state_differences K)) := by
  obtain ⟨g_require_rewriter, k_require_rewriter, fd_require_rewriter, G_require_rewriter, b_require_rewriter⟩ := ok_require_rewriter (P := P) (w := w) (base := base) T
  obtain ⟨g_is_even_in, k_is_even_in, fd_is_even_in, G_is_even_in, b_is_even_in⟩ := ok_is_even_in (P := P) (w := w) (base := base) T
  obtain ⟨fd, F⟩ := T.fn_state_differences
  exact has_of T.g_state_differences F sc_state_differences (fun _ _ _ _ _ _ us hl => match us, hl with | [_], _ => rfl) (fun vs H Q E h => body_len h) (fun cdv A outer s H vs Q E hr h => ⟨ts_state_differences K E, (pss_cons (ps_expr (pe_call (E := E) G_require_rewriter (hr.mono (by decide)) (by rfl) g_require_rewriter k_require_rewriter b_require_rewriter .nil (passes_call (takes_of rfl rfl rfl rfl) (fun _ _ _ _ h => h)) (pa_cons (pv 0) pa_nil)))
    (pss_cons (ps_if (pt_not (pt_val (pe_call (E := E) G_is_even_in (hr.mono (by decide)) (by rfl) g_is_even_in k_is_even_in b_is_even_in .nil (passes_call (takes_of rfl rfl rfl rfl) (fun _ _ _ _ h => h)) (pa_cons (pv 0) pa_nil)))) (pss_one (asRaise (C := ga K "InvalidOperation") (E := E) (ps_raise rfl (takes_of rfl rfl rfl rfl) (pmk_own PySem.F.excBase_ValueError (T.e_InvalidOperation).1 T.g_InvalidOperation (T.e_InvalidOperation).2.1 (raises_own (T.e_InvalidOperation).2.2.1 (T.e_InvalidOperation).2.2.2) (by rfl))))) pss_nil)
    pss_never)), body_ok (K := K) (E := E) (N := ["rewriter"]) (ps := ["rewriter"]) (ts := ts_state_differences K EN) (ts' := ts_state_differences K E) rfl h⟩)
end
end K5
set_option maxHeartbeats 4000000
/-! What the tops of the error laws share. -/
namespace L2
open PySem PySem.Spec PyProof.Rows
def CPowW : Int → Int → Prop := fun i j => 0 ≤ j ∧ (Builtin.Int.intBits i : Int) * j ≤ 2 ^ 27
theorem op_powW {X : Cx} : OpR X (binaryOp .Pow) (rI CPowW fun i j => .int (i ^ j.toNat)) := opI fun _ _ _ _ _ _ _ hc q => pow_int hc.1 hc.2 q
theorem SqL.updL {K : PySem.W.Frag} {H : Hp} {a p : Addr} {o : HO} {xs : List V} (h : SqL K H a xs) (hne : a ≠ p) : SqL K (upd H p o) a xs := by
  rcases h with (h | ⟨z, h⟩) | h
  · exact .inl (.inl (by rw [upd_ne hne]; exact h))
  · exact .inl (.inr ⟨z, by rw [upd_ne hne]; exact h⟩)
  · exact .inr h
theorem seq_set {te : TE} {i : Nat} {u : TS} {D : Ends} {σ : L2.St} {H : Hp} (h : te σ H fun x H1 => u D (σ.set i (some x)) H1) : tSeq (tAsg te (gName i)) u D σ H := h
theorem one_ret {te : TE} {D : Ends} {σ : L2.St} {H : Hp} (h : te σ H D.rt) : tRet te D σ H := h
theorem seq_drop {te : TE} {u : TS} {D : Ends} {σ : L2.St} {H : Hp} (h : te σ H fun _ H1 => u D σ H1) : tSeq (tDrop te) u D σ H := h
theorem szd {n : Nat} (h : n ≤ 100000) : n ≤ sizeLine := Nat.le_trans h (by decide)
/-- the bag of draws -/
def bagO (b0 b1 b2 : Int) : HO := .lst [.int b0, .int b1, .int b2]
def spStart (K : PySem.W.Frag) : Sp := fun vs H Q _ => ∃ (l : Addr) (ns : List Int) (i : Nat), vs = [.ref l, .int i] ∧ SqL K H l (ns.map V.int) ∧ ns.length ≤ 1000 ∧ i < 1000 ∧ ∀ p b0 b1 b2, H p = none → Q (.ref p) (upd H p (bagO b0 b1 b2))
def spThrow : Sp := fun vs H Q _ => ∃ (p : Addr) (n : Int) (b0 b1 b2 : Int), vs = [.ref p, .int n] ∧ H p = some (bagO b0 b1 b2) ∧ 0 < n ∧ n < 1000000000 ∧ ∀ r c0 c1 c2, 0 ≤ r → r < n → Q (.int r) (upd H p (bagO c0 c1 c2))
def spPick (K : PySem.W.Frag) : Sp := fun vs H Q _ => ∃ (p l : Addr) (xs : List V) (b0 b1 b2 : Int), vs = [.ref p, .ref l] ∧ H p = some (bagO b0 b1 b2) ∧ l ≠ p ∧ SqL K H l xs ∧ xs ≠ [] ∧ xs.length < 1000 ∧ ∀ (j : Nat) v c0 c1 c2, xs[j]? = some v → Q v (upd H p (bagO c0 c1 c2))
end L2
set_option maxHeartbeats 4000000
namespace K5
open PySem PySem.Spec PyProof.Rows L2 He Hx Hy PO RunX PB
section
variable {P : Program} {w : World} {K : PySem.W.Frag} {mg : Str → Option Value} {base : Heap}
theorem ok_sack (T : Tx K mg) : Has P w K mg base (L2.CX P w) 1 "_law_sack" ["script", "spot"] (spStart K) := by
  obtain ⟨fd, F⟩ := T.fn_sack
  refine has_of T.g_sack F sc_sack (fun _ _ _ _ _ _ us hl => match us, hl with | [_, _], _ => rfl) (fun vs H Q E h => ?_) (fun cdv A outer s H vs Q E hr h => ⟨_, PSs.nox (
    (pss_cons (ps_set (i := 2) sc_sack.nd rfl (Or.inl rfl) (by exact (pe_ifExp (pt_cmpR op_lt (pv 1) (pe_callB (r := rLen K) call_len (by rfl) T.n_len (by decide +kernel) (pa_cons (pv 0) pa_nil)) (nomark _)) (pe_callTy call_int1 (by rfl) T.n_int (by decide +kernel) (pa_cons (pe_ix (r := rIxL K) ix_list (pv 0) (pv 1) (fun _ _ => rfl)) pa_nil)) (pe_op op_add (pe_op op_mul pe_int (pv 1)) pe_int))))
    (pss_cons (ps_set (i := 3) sc_sack.nd rfl (Or.inl rfl) (by exact (pe_op op_modN (pe_callTy call_int1 (by rfl) T.n_int (by decide +kernel) (pa_cons (pe_callB call_abs (by rfl) T.n_abs (by decide +kernel) (pa_cons (pv 2) pa_nil)) pa_nil)) (pe_op op_powW (pe_op op_pow pe_int pe_int) pe_int))))
    (pss_cons (ps_set (i := 4) sc_sack.nd rfl (Or.inl rfl) (by exact (pe_op op_add (pe_op op_add (pe_op op_add (pe_op op_mul (pe_op op_modN (pv 3) pe_int) pe_int) (pe_op op_mul pe_int (pv 1))) (pe_op op_mul pe_int (pe_callTy call_int1 (by rfl) T.n_int (by decide +kernel) (pa_cons (pe_cmpR op_lt (pv 2) pe_int (nomark _)) pa_nil)))) pe_int)))
    (pss_one (ps_ret (by exact (pe_lst (pa_cons (pe_callB (call_max2 rfl) (by rfl) T.n_max (by decide +kernel) (pa_cons pe_int (pa_cons (pe_op op_sub (pv 3) (pe_op op_pow pe_int pe_int)) pa_nil))) (pa_cons (pv 4) (pa_cons pe_int pa_nil))))))))))), ?_⟩)
  · obtain ⟨l, ns, i, rfl, _⟩ := h
    rfl
  · obtain ⟨l, ns, i, rfl, hS, hl, hi, k⟩ := h
    refine ⟨_, rfl, _, rfl, _, _, rfl, Or.inl ⟨_, hS, rfl⟩, _, _, rfl, rfl, _, rfl, ite2 (fun c => ?_) (fun c => ?_)⟩
    · have c2 := of_decide_eq_true c
      have hlt : i < (ns.map V.int).length := by
        have z : ((i : Nat) : Int) < (((ns.map V.int).length : Nat) : Int) := c2
        omega
      have hn : i < ns.length := by simpa using hlt
      refine ⟨_, rfl, _, rfl, l, _, (i : Int), .int (ns[i]), rfl, rfl, hS, atI_nat (by simp [hn]), .inl ⟨_, rfl, ?_⟩⟩
      refine ⟨_, rfl, _, rfl, .inl ⟨_, rfl, ?_⟩⟩
      refine ⟨_, _, rfl, rfl, ⟨by decide, by decide, by decide⟩, _, _, rfl, rfl, ⟨by decide, by decide +kernel⟩, _, _, rfl, rfl, id (α := ((10 : Int) ^ Int.toNat 53) ^ Int.toNat 6 ≠ 0) (by decide +kernel), ?_⟩
      refine ⟨_, rfl, _, _, rfl, rfl, id (α := (2305843009213693951 : Int) ≠ 0) (by decide), _, _, rfl, rfl, .inr ⟨by decide, by decide⟩, ?_⟩
      refine ⟨_, rfl, _, _, rfl, rfl, .inl ⟨by decide, by decide⟩, _, _, rfl, rfl, ?_⟩
      refine ⟨_, rfl, _, _, rfl, rfl, .inr ⟨_, rfl, _, _, rfl, rfl, .inl ⟨by decide, by decide⟩, _, _, rfl, rfl, _, _, rfl, rfl, ?_⟩⟩
      refine ⟨_, rfl, _, _, rfl, rfl, ⟨by decide, by decide, by decide⟩, _, _, rfl, rfl, _, _, rfl, ?_⟩
      exact ⟨_, rfl, (by show 3 ≤ sizeLine; decide), fun p hp => k p _ _ _ hp⟩
    · refine ⟨_, rfl, _, _, rfl, rfl, .inl ⟨by decide, by decide⟩, _, _, rfl, rfl, ?_⟩
      refine ⟨_, rfl, _, rfl, .inl ⟨_, rfl, ?_⟩⟩
      refine ⟨_, _, rfl, rfl, ⟨by decide, by decide, by decide⟩, _, _, rfl, rfl, ⟨by decide, by decide +kernel⟩, _, _, rfl, rfl, id (α := ((10 : Int) ^ Int.toNat 53) ^ Int.toNat 6 ≠ 0) (by decide +kernel), ?_⟩
      refine ⟨_, rfl, _, _, rfl, rfl, id (α := (2305843009213693951 : Int) ≠ 0) (by decide), _, _, rfl, rfl, .inr ⟨by decide, by decide⟩, ?_⟩
      refine ⟨_, rfl, _, _, rfl, rfl, .inl ⟨by decide, by decide⟩, _, _, rfl, rfl, ?_⟩
      refine ⟨_, rfl, _, _, rfl, rfl, .inr ⟨_, rfl, _, _, rfl, rfl, .inl ⟨by decide, by decide⟩, _, _, rfl, rfl, _, _, rfl, rfl, ?_⟩⟩
      refine ⟨_, rfl, _, _, rfl, rfl, ⟨by decide, by decide, by decide⟩, _, _, rfl, rfl, _, _, rfl, ?_⟩
      exact ⟨_, rfl, (by show 3 ≤ sizeLine; decide), fun p hp => k p _ _ _ hp⟩
theorem ok_dip (T : Tx K mg) : Has P w K mg base (L2.CX P w) 1 "_law_dip" ["sack", "total"] spThrow := by
  obtain ⟨fd, F⟩ := T.fn_dip
  refine has_of T.g_dip F sc_dip (fun _ _ _ _ _ _ us hl => match us, hl with | [_, _], _ => rfl) (fun vs H Q E h => ?_) (fun cdv A outer s H vs Q E hr h => ⟨_, PSs.nox (
    (pss_cons (ps_if (pt_cmpR op_gt (pe_ix (r := rIxL K) ix_list (pv 0) pe_int (fun _ _ => rfl)) pe_int (nomark _)) (pss_cons (ps_set (i := 2) sc_dip.nd rfl (Or.inl rfl) (by exact (pe_op op_modN (pe_callTy call_int1 (by rfl) T.n_int (by decide +kernel) (pa_cons (pe_ix (r := rIxL K) ix_list (pv 0) pe_int (fun _ _ => rfl)) pa_nil)) (pv 1))))
    (pss_cons (ps_asg (pe_op op_fdivN (pe_ix (r := rIxL K) ix_list (pv 0) pe_int (fun _ _ => rfl)) (pv 1)) (pg_sub (pv 0) pe_int set_list))
    (pss_one (ps_ret (by exact (pv 2)))))) pss_nil)
    (pss_cons (ps_asg (pe_op op_add (pe_ix (r := rIxL K) ix_list (pv 0) pe_int (fun _ _ => rfl)) pe_int) (pg_sub (pv 0) pe_int set_list))
    (pss_cons (ps_set (i := 3) sc_dip.nd rfl (Or.inl rfl) (by exact (pe_op op_modN (pe_callTy call_int1 (by rfl) T.n_int (by decide +kernel) (pa_cons (pe_op op_add (pe_ix (r := rIxL K) ix_list (pv 0) pe_int (fun _ _ => rfl)) (pe_op op_mul pe_int (pe_ix (r := rIxL K) ix_list (pv 0) pe_int (fun _ _ => rfl)))) pa_nil)) pe_int)))
    (pss_cons (ps_set (i := 4) sc_dip.nd rfl (Or.inl rfl) (by exact (pe_op op_add (pe_op op_mul (pe_op op_modN (pe_callTy call_int1 (by rfl) T.n_int (by decide +kernel) (pa_cons (pe_op op_add (pe_op op_mul (pv 3) (pv 3)) (pe_op op_mul pe_int (pe_ix (r := rIxL K) ix_list (pv 0) pe_int (fun _ _ => rfl)))) pa_nil)) pe_int) pe_int) (pv 3))))
    (pss_one (ps_ret (by exact (pe_op op_modN (pe_callTy call_int1 (by rfl) T.n_int (by decide +kernel) (pa_cons (pe_op op_fdivN (pv 4) pe_int) pa_nil)) (pv 1)))))))))), ?_⟩)
  · obtain ⟨p, n, b0, b1, b2, rfl, _⟩ := h
    rfl
  · obtain ⟨p, n, b0, b1, b2, rfl, hb, hn, hn2, k⟩ := h
    have nz : n ≠ 0 := by omega
    have na : n.natAbs < 1073741824 := by omega
    have hS : SqL K H p [.int b0, .int b1, .int b2] := SqL.of hb
    refine ⟨_, rfl, p, _, _, _, rfl, rfl, hS, rfl, _, _, rfl, rfl, _, rfl, ite2 (fun c => ?_) (fun c => ?_)⟩
    · refine ⟨_, rfl, p, _, _, _, rfl, rfl, hS, rfl, .inl ⟨_, rfl, _, rfl, _, _, rfl, rfl, nz, ?_⟩⟩
      refine ⟨_, rfl, p, _, _, _, rfl, rfl, hS, rfl, _, rfl, _, _, rfl, rfl, ⟨nz, na⟩, ?_⟩
      exact ⟨_, rfl, p, _, _, _, rfl, rfl, hb, rfl, _, rfl, k _ _ _ _ (Int.fmod_nonneg_of_pos _ hn) (Int.fmod_lt_of_pos _ hn)⟩
    · refine ⟨_, rfl, p, _, _, _, rfl, rfl, hS, rfl, _, _, rfl, rfl, _, rfl, p, _, _, _, rfl, rfl, hb, rfl, ?_⟩
      have hb2 : upd H p (.lst [.int b0, .int b1, .int (b2 + 1)]) p = some (.lst [.int b0, .int b1, .int (b2 + 1)]) := upd_same
      have hS2 : SqL K (upd H p (.lst [.int b0, .int b1, .int (b2 + 1)])) p [.int b0, .int b1, .int (b2 + 1)] := SqL.of hb2
      refine ⟨_, rfl, p, _, _, _, rfl, rfl, hS2, rfl, _, rfl, p, _, _, _, rfl, rfl, hS2, rfl, _, _, rfl, rfl, .inl ⟨by decide, by decide⟩, _, _, rfl, rfl, .inl ⟨_, rfl, _, _, rfl, rfl, id (α := (2305843009213693951 : Int) ≠ 0) (by decide), ?_⟩⟩
      have hM : ∀ x : Int, -(2 ^ 64) < x.fmod 2305843009213693951 ∧ x.fmod 2305843009213693951 < 2 ^ 64 := fun x => by
        have a1 := Int.fmod_nonneg_of_pos x (b := 2305843009213693951) (by decide)
        have a2 := Int.fmod_lt_of_pos x (b := 2305843009213693951) (by decide)
        omega
      refine ⟨_, rfl, _, rfl, _, _, rfl, rfl, .inl (hM _), _, rfl, p, _, _, _, rfl, rfl, hS2, rfl, _, _, rfl, rfl, .inl ⟨by decide, by decide⟩, _, _, rfl, rfl, .inl ⟨_, rfl, _, _, rfl, rfl, id (α := (2305843009213693951 : Int) ≠ 0) (by decide), ?_⟩⟩
      refine ⟨_, _, rfl, rfl, .inl (hM _), _, rfl, _, _, rfl, rfl, ?_⟩
      refine ⟨_, rfl, _, _, rfl, rfl, ⟨by decide, by decide⟩, .inl ⟨_, rfl, _, rfl, _, _, rfl, rfl, nz, ?_⟩⟩
      exact k _ _ _ _ (Int.fmod_nonneg_of_pos _ hn) (Int.fmod_lt_of_pos _ hn)
theorem ok_lone (T : Tx K mg) : Has P w K mg base (L2.CX P w) 2 "_law_one" ["sack", "items"] (spPick K) := by
  obtain ⟨g_dip, k_dip, fd_dip, G_dip, b_dip⟩ := ok_dip (P := P) (w := w) (base := base) T
  obtain ⟨fd, F⟩ := T.fn_lone
  refine has_of T.g_lone F sc_lone (fun _ _ _ _ _ _ us hl => match us, hl with | [_, _], _ => rfl) (fun vs H Q E h => ?_) (fun cdv A outer s H vs Q E hr h => ⟨_, PSs.nox (
    (pss_one (ps_ret (by exact (pe_ix (r := rIxL K) ix_list (pv 1) (pe_call (E := E0) G_dip (hr.mono (by decide)) (by rfl) g_dip k_dip b_dip .nil passX0 (pa_cons (pv 0) (pa_cons (pe_callB (r := rLen K) call_len (by rfl) T.n_len (by decide +kernel) (pa_cons (pv 1) pa_nil)) pa_nil))) (fun _ _ => rfl)))))), ?_⟩)
  · obtain ⟨p, l, xs, b0, b1, b2, rfl, _⟩ := h
    rfl
  · obtain ⟨p, l, xs, b0, b1, b2, rfl, hb, hlp, hS, hne, hl, k⟩ := h
    have hpos : 0 < xs.length := List.length_pos_iff.mpr hne
    refine ⟨_, rfl, _, rfl, _, rfl, _, _, rfl, Or.inl ⟨_, hS, rfl⟩, p, _, b0, b1, b2, rfl, hb, by omega, by omega, fun r c0 c1 c2 h0 h1 => ?_⟩
    have hS2 : SqL K (upd H p (bagO c0 c1 c2)) l xs := SqL.updL hS hlp
    obtain ⟨j, rfl⟩ : ∃ j : Nat, r = j := ⟨r.toNat, by omega⟩
    have hj : j < xs.length := by omega
    exact ⟨l, xs, (j : Int), xs[j], rfl, rfl, hS2, atI_nat (by simp [hj]), k j _ _ _ _ (by simp [hj])⟩
end
end K5
set_option maxHeartbeats 4000000
namespace K5
open PySem PySem.Spec PyProof.Rows L2 He Hx Hy PO RunX PB
section
variable {P : Program} {w : World} {K : PySem.W.Frag} {mg : Str → Option Value} {base : Heap}
def plainW : List (Str × Str) := [("InvalidText", "text"), ("InvalidRewriter", "rewriter"), ("InvalidMachine", "machine"), ("InvalidOperation", "operation")]
/-- what `_law_met` makes of an exception -/
def XM (K : PySem.W.Frag) (cls : Value) (d : Option Addr) (H : Hp) (Q : VK) : Prop :=
  (∃ p ∈ plainW, cls = .ref (ga K p.1) ∧ d = none ∧ Q (.str p.2) H) ∨ (∃ dd v, cls = .ref (ga K "InvalidNumber") ∧ d = some dd ∧ H dd = some (.xd [("value", v)]) ∧ ∀ a, H a = none → Q (.ref a) (upd H a (.tup [.str "number", v])))
def TTmet (K : PySem.W.Frag) : (XK → Hp → VK → Prop) → Hp → VK → Prop := fun tl H Q =>
  tl (fun cls d H' => XM K cls d H' Q) H fun v H' => ∀ a, H' a = none → Q (.ref a) (upd H' a (.tup [.str "told", v]))
theorem exm_at (T : Tx K mg) (x y : Str) (b : Bool) (hx : (raisN.any fun z => decide (z = x)) = true) (hy : (armN.any fun z => decide (z = y)) = true) (e : decide (x = y) = b) : PySem.W.exmOne K (.ref (ga K x)) (.ref (ga K y)) = some b :=
  (T.exm x y (memb hx) (memb hy)).trans (congrArg some e)
theorem arm_no {K : PySem.W.Frag} {Wout : WX} {D : Ends} {A : TM.Arm} {r : List TM.Arm} {cls : Value} {d : Option Addr} {σ : L2.St} {H : Hp} (e : PySem.W.exmOne K cls A.c = some false) (h : TM.wManyA K Wout D r cls d σ H) : TM.wManyA K Wout D (A :: r) cls d σ H :=
  ⟨false, e, fun z => Bool.noConfusion z, fun _ => h⟩
theorem arm_yes {K : PySem.W.Frag} {Wout : WX} {D : Ends} {A : TM.Arm} {r : List TM.Arm} {cls : Value} {d : Option Addr} {σ : L2.St} {H : Hp} (e : PySem.W.exmOne K cls A.c = some true) (h : ∀ a, H a = none → TM.wArm A a cls d D σ H) : TM.wManyA K Wout D (A :: r) cls d σ H :=
  ⟨true, e, fun _ => h, fun z => Bool.noConfusion z⟩
def tsNum (K : PySem.W.Frag) : Addr → Value → Option Addr → TS := fun a cls d D σ H => (1 < σ.length → σ[1]? = some (some (.ref a))) ∧
  (cls = .ref (ga K "InvalidNumber") ∧ ∃ (dd : Addr) (fs : List (Str × V)) (v : V), d = some dd ∧ H dd = some (.xd fs) ∧ fs.lookup ("value" : Str) = some v ∧ [V.str "number", v].length ≤ sizeLine ∧ ∀ a, H a = none → D.rt (.ref a) (upd H a (.tup [.str "number", v])))
theorem met_gives (T : Tx K mg) {X : Cx} {g : Addr} {cdg : Value} {q : Str} (hP : X.prog = P) (hw : X.w = w) (hK : X.K = K) (hmg : X.mg = mg) : LamX.GivesTo X ["call", "e"] "_law_met" (defScope s_met) g cdg (defBody s_met) "call" q (TTmet K) := by
  subst hP hw hK hmg
  intro f c' s H Q tl act hc h
  have nv : PySem.W.findIn X.K (.ref (ga X.K "InvalidNumber")) "value" = some none := T.i_InvalidNumber.noN
  have xf : XfC X.K (ga X.K "InvalidNumber") := ⟨T.i_InvalidNumber.ga, T.i_InvalidNumber.gg, T.i_InvalidNumber.exC, T.i_InvalidNumber.hdC⟩
  refine ⟨_, pss_one (TM.ps_try_arms (X := (cxOf C8.CX0 X.prog X.w X.K X.mg X.base ["call", "e"] "_law_met" (defScope s_met) g cdg X.A X.stack s H C8.E0).nox)
      (l := [⟨.ref (ga X.K "InvalidText"), none, fun _ _ _ => tRet (tC (.str "text"))⟩, ⟨.ref (ga X.K "InvalidRewriter"), none, fun _ _ _ => tRet (tC (.str "rewriter"))⟩, ⟨.ref (ga X.K "InvalidMachine"), none, fun _ _ _ => tRet (tC (.str "machine"))⟩,
        ⟨.ref (ga X.K "InvalidOperation"), none, fun _ _ _ => tRet (tC (.str "operation"))⟩, ⟨.ref (ga X.K "InvalidNumber"), some 1, tsNum X.K⟩,
        ⟨.ref (ga X.K "TooMany"), some 1, fun _ _ _ => tNever⟩, ⟨.ref (ga X.K "NotSingle"), none, fun _ _ _ => tNever⟩])
      (tb := fun W D σ H => ∃ Ech : XK, (∀ cls d σ' H', Ech cls d H' → W cls d σ' H') ∧ σ[0]? = some (some (.ref f)) ∧ H c' = some (LamX.CodeO c' q) ∧ tl Ech H (fun v H1 => ∀ a, H1 a = none → D.rt (.ref a) (upd H1 a (.tup [.str "told", v]))))
      rfl rfl sc_met.nd LamX.takes0 (fun W pn xe tk _ => ?_) ?_), ?_⟩
  · refine ⟨fun pins s' σ H' D I h' => ?_⟩
    obtain ⟨Ech, hW, h1, h2, h3⟩ := h'
    exact PSs.run (pss_one (ps_ret (pe_tup (pa_cons pe_str (pa_cons (act W pn xe Ech _ _ tk hW) pa_nil))))) pins s' σ H' D I ⟨h1, h2, by
      have e : (fun (v : V) (H1 : Hp) => [V.str "told", v].length ≤ sizeLine ∧ ∀ a, H1 a = none → D.rt (.ref a) (upd H1 a (.tup [.str "told", v]))) = fun v H1 => ∀ a, H1 a = none → D.rt (.ref a) (upd H1 a (.tup [.str "told", v])) := by
        funext v H1
        exact propext ⟨fun z => z.2, fun z => ⟨szd (by simp), z⟩⟩
      show tl Ech H' (fun (v : V) (H1 : Hp) => [V.str "told", v].length ≤ sizeLine ∧ ∀ a, H1 a = none → D.rt (.ref a) (upd H1 a (.tup [.str "told", v])))
      rw [e]
      exact h3⟩
  · refine .cons ⟨rfl, by decide, .inl T.g_InvalidText⟩ (fun a oe cls d pn hz hd => pss_one (ps_ret pe_str)) (.cons ⟨rfl, by decide, .inl T.g_InvalidRewriter⟩ (fun a oe cls d pn hz hd => pss_one (ps_ret pe_str)) (.cons ⟨rfl, by decide, .inl T.g_InvalidMachine⟩ (fun a oe cls d pn hz hd => pss_one (ps_ret pe_str))
      (.cons ⟨rfl, by decide, .inl T.g_InvalidOperation⟩ (fun a oe cls d pn hz hd => pss_one (ps_ret pe_str)) (.as_ rfl rfl ⟨rfl, by decide, .inl T.g_InvalidNumber⟩ (fun a oe cls d pn hz hd => ⟨fun pins s' σ H' D I h' => PSs.run (pss_one (ps_ret (pe_tup (pa_cons pe_str (pa_cons (pe_xf (X := (cxOf C8.CX0 X.prog X.w X.K X.mg X.base ["call", "e"] "_law_met" (defScope s_met) g cdg X.A X.stack s H C8.E0).nox) (n := "value") xf nv hz hd (pv 1)) pa_nil))))) pins s' σ H' D I ⟨_, h'.1 (by have len : σ.length = 2 := I.len; omega), rfl, h'.2⟩⟩)
      (.as_ rfl rfl ⟨rfl, by decide, .inl T.g_TooMany⟩ (fun a oe cls d pn hz hd => pss_never) (.cons ⟨rfl, by decide, .inl T.g_NotSingle⟩ (fun a oe cls d pn hz hd => pss_never) .nil))))))
  · refine ⟨_, fun cls d σ' H' hE => ?_, rfl, hc, h⟩
    rcases hE with ⟨p, hp, rfl, rfl, k⟩ | ⟨dd, v, rfl, rfl, hv, k⟩
    · simp only [plainW, List.mem_cons, List.not_mem_nil, or_false] at hp
      rcases hp with rfl | rfl | rfl | rfl
      · exact arm_yes (exm_at T _ _ _ (by decide +kernel) (by decide +kernel) (by decide +kernel)) fun a ha => k
      · exact arm_no (exm_at T _ _ _ (by decide +kernel) (by decide +kernel) (by decide +kernel)) (arm_yes (exm_at T _ _ _ (by decide +kernel) (by decide +kernel) (by decide +kernel)) fun a ha => k)
      · exact arm_no (exm_at T _ _ _ (by decide +kernel) (by decide +kernel) (by decide +kernel)) (arm_no (exm_at T _ _ _ (by decide +kernel) (by decide +kernel) (by decide +kernel)) (arm_yes (exm_at T _ _ _ (by decide +kernel) (by decide +kernel) (by decide +kernel)) fun a ha => k))
      · exact arm_no (exm_at T _ _ _ (by decide +kernel) (by decide +kernel) (by decide +kernel)) (arm_no (exm_at T _ _ _ (by decide +kernel) (by decide +kernel) (by decide +kernel)) (arm_no (exm_at T _ _ _ (by decide +kernel) (by decide +kernel) (by decide +kernel)) (arm_yes (exm_at T _ _ _ (by decide +kernel) (by decide +kernel) (by decide +kernel)) fun a ha => k)))
    · refine arm_no (exm_at T _ _ _ (by decide +kernel) (by decide +kernel) (by decide +kernel)) (arm_no (exm_at T _ _ _ (by decide +kernel) (by decide +kernel) (by decide +kernel)) (arm_no (exm_at T _ _ _ (by decide +kernel) (by decide +kernel) (by decide +kernel)) (arm_no (exm_at T _ _ _ (by decide +kernel) (by decide +kernel) (by decide +kernel)) (arm_yes (exm_at T _ _ _ (by decide +kernel) (by decide +kernel) (by decide +kernel)) fun a ha => ?_))))
      refine ⟨fun hl => ?_, rfl, dd, [("value", v)], v, rfl, hv, by simp [List.lookup], szd (by simp), k⟩
      rw [List.length_set] at hl
      simp [hl]
end
end K5
set_option maxHeartbeats 4000000
namespace L2
open PySem PySem.Spec PyProof.Rows
/-! f(..), f a name of the def's own (or a captured one) that holds one of several defs; exceptions go on -/
def tCallZ (i : Nat) (S : Addr → Sp → Prop) (E : XK) (t : TA) : TE := fun σ H Q => ∃ f sp, σ[i]? = some (some (.ref f)) ∧ S f sp ∧ t σ H fun vs H1 => sp vs H1 Q E
section
variable {X : Cx} {CX : CXT} {k i : Nat} {E : XK} {x : Str} {p pos : Pos} {e : Expr} {es : List Expr} {t : TA}
theorem pe_callZ {S : Addr → Sp → Prop} (A : ∀ f sp, S f sp → ∃ j, j ≤ k ∧ ∃ ps, HasA X.prog X.w X.K X.mg X.base CX j f ps sp) (hr : Room k X.A) (hN : X.N[i]? = some x) (hv : Vis X.env.scope x) (hx : Passes CX X E) (ha : PA X (e :: es) t)
    (hdb : (x == ("__debug__" : Str)) = false := by decide) (hcd : (x == ("__classdict__" : Str)) = false := by decide)
    (he : starEach (e :: es) X.env = (false, eval e X.env) :: starEach es X.env := by rfl) (hpl : (backTo pos (starEach es X.env)).any (·.1) = false := by rfl) : PE X (.Call (.Name x p) (e :: es) [] pos) (tCallZ i S E t) := by
  refine ⟨fun pins s σ H Q I h => ?_⟩
  obtain ⟨f, sp, hs, hS, ht⟩ := h
  obtain ⟨j, hj, ps, hk, fd, F, hb⟩ := A f sp hS
  refine (pe_callL (i := i) (f := f) (sp := sp) (dvs := []) (E := E) F (hr.mono hj) hN hv hk hb .nil hx ha hdb hcd he hpl).run pins s σ H Q I ⟨hs, ?_⟩
  have e0 : (fun (vs : List V) (H1 : Hp) => sp (vs ++ []) H1 Q E) = fun vs H1 => sp vs H1 Q E := by
    funext vs H1
    rw [List.append_nil]
  show t σ H (fun vs H1 => sp (vs ++ []) H1 Q E)
  rw [e0]
  exact ht
end
end L2
set_option maxHeartbeats 4000000
namespace RunX
open PySem PySem.Spec PyProof.Rows L2 He
variable {K : PySem.W.Frag}
/-! ### values that show scalars and tuples of them -/
inductive TD (H : Hp) : V → PyData → Prop
  | non : TD H .non .none
  | bl (b : Bool) : TD H (.bl b) (.bool b)
  | int (i : Int) : TD H (.int i) (.int i)
  | str (x : Str) : TD H (.str x) (.str x)
  | tup1 {a : Addr} {v : V} {d : PyData} : H a = some (.tup [v]) → TD H v d → TD H (.ref a) (.tuple [d])
  | tup2 {a : Addr} {v u : V} {d e : PyData} : H a = some (.tup [v, u]) → TD H v d → TD H u e → TD H (.ref a) (.tuple [d, e])
def TDs (H : Hp) (xs : List V) (ds : List PyData) : Prop := xs.length = ds.length ∧ ∀ (i : Nat) x d, xs[i]? = some x → ds[i]? = some d → TD H x d
theorem TD.mono {H H' : Hp} (s : ∀ b xs, H b = some (.tup xs) → H' b = some (.tup xs)) {v : V} {d : PyData} (h : TD H v d) : TD H' v d := by
  induction h with
  | non => exact .non
  | bl b => exact .bl b
  | int i => exact .int i
  | str x => exact .str x
  | tup1 e _ ih => exact .tup1 (s _ _ e) ih
  | tup2 e _ _ ih1 ih2 => exact .tup2 (s _ _ e) ih1 ih2
theorem TDs.mono {H H' : Hp} (s : ∀ b xs, H b = some (.tup xs) → H' b = some (.tup xs)) {xs : List V} {ds : List PyData} (h : TDs H xs ds) : TDs H' xs ds := ⟨h.1, fun i x d hx hd => (h.2 i x d hx hd).mono s⟩
theorem TDs.nil {H : Hp} : TDs H [] [] := ⟨rfl, fun i x d hx _ => by simp at hx⟩
theorem TDs.cons {H : Hp} {x : V} {d : PyData} {xs : List V} {ds : List PyData} (h : TD H x d) (t : TDs H xs ds) : TDs H (x :: xs) (d :: ds) := ⟨by simp [t.1], fun i y e hy he => by
  cases i with
  | zero =>
    cases hy
    cases he
    exact h
  | succ i => exact t.2 i y e (by simpa using hy) (by simpa using he)⟩
theorem TDs.app {H : Hp} {xs ys : List V} {ds es : List PyData} (h : TDs H xs ds) (k : TDs H ys es) : TDs H (xs ++ ys) (ds ++ es) := ⟨by simp [h.1, k.1], fun i y e hy he => by
  by_cases c : i < xs.length
  · rw [List.getElem?_append_left c] at hy
    rw [List.getElem?_append_left (by rw [← h.1]; exact c)] at he
    exact h.2 i y e hy he
  · have c := Nat.le_of_not_lt c
    rw [List.getElem?_append_right c] at hy
    rw [List.getElem?_append_right (by rw [← h.1]; exact c), ← h.1] at he
    exact k.2 _ y e hy he⟩
theorem TD.dr {H : Hp} {v : V} {d : PyData} (h : TD H v d) : DR H v d := by
  induction h with
  | non => exact .non
  | bl b => exact .bl b
  | int i => exact .int i
  | str x => exact .str x
  | tup1 e _ ih => exact .tup e (.cons ih .nil)
  | tup2 e _ _ ih1 ih2 => exact .tup e (.cons ih1 (.cons ih2 .nil))
theorem TDs.drs {H : Hp} : ∀ {xs : List V} {ds : List PyData}, TDs H xs ds → DRs H xs ds
  | [], [], _ => .nil
  | x :: xs, d :: ds, h => .cons (h.2 0 x d rfl rfl).dr (TDs.drs ⟨by have := h.1; simpa using this, fun i y e hy he => h.2 (i + 1) y e (by simpa using hy) (by simpa using he)⟩)
  | [], _ :: _, h => by cases h.1
  | _ :: _, [], h => by cases h.1
/-! ### Rep, kept -/
theorem Rep.ofKeep {ρ : List Addr} {S : List DO} {H H' : Hp} (r : Rep K ρ S H) (k : ∀ b o, b ∈ ρ → H b = some o → H' b = some o) : Rep K ρ S H' :=
  ⟨r.len, r.nd, fun i o a hi ha => by
    obtain ⟨h, e, s⟩ := r.obj i o a hi ha
    exact ⟨h, k a h (List.mem_of_getElem? ha) e, s⟩, r.wf⟩
theorem sh_notbl {ρ : List Addr} {o : DO} {ps : Array Value} (s : Sh K ρ o (.tbl ps)) : False := by
  cases o with
  | frz kvs => obtain ⟨_, e⟩ := s; cases e
  | lst _ | tup _ | dK _ | dT _ | xd _ | ins _ _ _ | own _ => cases (show HO.tbl ps = dO K ρ _ from s)
theorem sh_noext {ρ : List Addr} {o : DO} {φ : Heap → Prop} (s : Sh K ρ o (.ext φ)) : False := by
  cases o with
  | frz kvs => obtain ⟨_, e⟩ := s; cases e
  | lst _ | tup _ | dK _ | dT _ | xd _ | ins _ _ _ | own _ => cases (show HO.ext φ = dO K ρ _ from s)
theorem Rep.sh {ρ : List Addr} {S : List DO} {H : Hp} (r : Rep K ρ S H) {b : Addr} {u : HO} (hb : b ∈ ρ) (e : H b = some u) : ∃ o, Sh K ρ o u := by
  obtain ⟨i, hi, ei⟩ := List.mem_iff_getElem.mp hb
  have hs : i < S.length := by rw [← r.len]; exact hi
  obtain ⟨h, eh, s⟩ := r.obj i (S[i]'hs) b (List.getElem?_eq_getElem hs) (by rw [List.getElem?_eq_getElem hi, ei])
  rw [e] at eh
  cases eh
  exact ⟨_, s⟩
theorem Rep.take {ρ m : List Addr} {S S' : List DO} {H : Hp} (r : Rep K (ρ ++ m) S' H) (hl : ρ.length = S.length) (hS : S'.take S.length = S) (w : ∀ o ∈ S, wfO S.length o = true) : Rep K ρ S H := by
  have at_ : ∀ i, i < S.length → S'[i]? = S[i]? := fun i hi => by
    have z : (S'.take S.length)[i]? = S[i]? := by rw [hS]
    rw [List.getElem?_take_of_lt hi] at z
    exact z
  have lt : ∀ {i : Nat} {a : Addr}, ρ[i]? = some a → i < ρ.length := fun {i a} h => (List.getElem?_eq_some_iff.mp h).1
  refine ⟨hl, fun i j a hi hj ne => ?_, fun i o a hi ha => ?_, w⟩
  · obtain ⟨xs, e⟩ := r.nd i j a (by rw [List.getElem?_append_left (lt hi)]; exact hi) (by rw [List.getElem?_append_left (lt hj)]; exact hj) ne
    exact ⟨xs, by rw [← at_ i (by rw [← hl]; exact lt hi)]; exact e⟩
  · have li := (List.getElem?_eq_some_iff.mp hi).1
    obtain ⟨h, e, s⟩ := r.obj i o a (by rw [at_ i li]; exact hi) (by rw [List.getElem?_append_left (lt ha)]; exact ha)
    refine ⟨h, e, ?_⟩
    have wo := w o (List.mem_of_getElem? hi)
    rw [← hl] at wo
    cases o with
    | frz kvs =>
      obtain ⟨od, e⟩ := s
      refine ⟨od, ?_⟩
      have z := dO_app (K := K) (m := m) (o := .frz kvs) wo
      simp only [dO] at z
      rw [← z]
      exact e
    | lst _ | tup _ | dK _ | dT _ | xd _ | ins _ _ _ | own _ =>
      have e : h = dO K (ρ ++ m) _ := s
      rw [dO_app wo] at e
      exact e
/-! ### tables of code objects, kept -/
theorem tabs_keep {Tq : List (Addr × Str)} {H H' : Hp} (h : LamX.Tabs Tq H) (k : ∀ b o, H b = some o → ((∃ ps, o = .tbl ps) ∨ ∃ φ, o = .ext φ) → H' b = some o) : LamX.Tabs Tq H' := fun p hp => by
  obtain ⟨ps, h1, h2, h3⟩ := h p hp
  refine ⟨ps, k _ _ h1 (.inl ⟨_, rfl⟩), h2, fun pos cv hc => ?_⟩
  obtain ⟨c, e1, e2⟩ := h3 pos cv hc
  exact ⟨c, e1, k _ _ e2 (.inr ⟨_, rfl⟩)⟩
/-! ### the state of a top -/
def OnlyTbl (H0 : Hp) (b : Addr) : Prop := ∀ o, H0 b = some o → ∃ ps, o = .tbl ps
structure St (K : PySem.W.Frag) (Tq : List (Addr × Str)) (p : Addr) (H0 : Hp) (ρ : List Addr) (S : List DO) (Wt : List (Addr × List PyData)) (Tu : List (Addr × List V)) (H : Hp) : Prop where
  rep : Rep K ρ S H
  new : ∀ b ∈ ρ, ∀ o, H0 b = some o → (∃ ps, o = .tbl ps) ∨ ∃ xs, o = .tup xs
  keep : ∀ b o, b ≠ p → H0 b = some o → (∀ ps, o ≠ .tbl ps) → H b = some o
  bag : ∃ c0 c1 c2, H p = some (bagO c0 c1 c2)
  pn : p ∉ ρ
  tabs : LamX.Tabs Tq H
  wt : ∀ q ∈ Wt, q.1 ∉ ρ ∧ q.1 ≠ p ∧ OnlyTbl H0 q.1 ∧ ∃ xs, H q.1 = some (.lst xs) ∧ TDs H xs q.2
  tu : ∀ q ∈ Tu, H q.1 = some (.tup q.2)
section
variable {Tq : List (Addr × Str)} {p : Addr} {H0 H : Hp} {ρ : List Addr} {S : List DO} {Wt : List (Addr × List PyData)} {Tu : List (Addr × List V)}
/-- more objects, and what evaluation does -/
theorem St.grow (s : St K Tq p H0 ρ S Wt Tu H) {ρ' : List Addr} {S' : List DO} {H' : Hp} (R : Rep K ρ' S' H') (F : Fr ρ H ρ' H') : St K Tq p H0 ρ' S' Wt Tu H' := by
  obtain ⟨⟨m, e, hm⟩, out, _, tup, _⟩ := F
  have nin : ∀ b u, H b = some u → (∀ xs, u ≠ .tup xs) → b ∉ ρ → b ∉ ρ' := fun b u hb nt n z => by
    rw [e] at z
    rcases List.mem_append.mp z with z | z
    · exact n z
    · rcases hm b z with q | ⟨xs, q⟩
      · rw [q] at hb; cases hb
      · rw [q] at hb; cases hb; exact nt xs rfl
  obtain ⟨c0, c1, c2, hb⟩ := s.bag
  refine ⟨R, fun b hb' o ho => ?_, fun b o n ho nt => ?_, ⟨c0, c1, c2, out _ _ s.pn hb⟩, nin _ _ hb (fun _ z => nomatch z) s.pn, tabs_keep s.tabs fun b o hb ho => out _ _ (fun z => ?_) hb, fun q hq => ?_, fun q hq => tup _ _ (s.tu q hq)⟩
  · rw [e] at hb'
    rcases List.mem_append.mp hb' with z | z
    · exact s.new b z o ho
    · by_cases c : ∃ ps, o = .tbl ps
      · exact .inl c
      · have bp : b ≠ p := fun ep => by
          rw [ep] at z
          rcases hm _ z with q | ⟨xs, q⟩
          · rw [hb] at q; cases q
          · rw [hb] at q; cases q
        have hk := s.keep b o bp ho fun ps e => c ⟨ps, e⟩
        rcases hm b z with q | ⟨xs, q⟩
        · rw [hk] at q; cases q
        · rw [hk] at q
          cases q
          exact .inr ⟨xs, rfl⟩
  · have hk := s.keep b o n ho nt
    by_cases c : b ∈ ρ
    · rcases s.new b c o ho with ⟨ps, rfl⟩ | ⟨xs, rfl⟩
      · exact absurd rfl (nt ps)
      · exact tup _ _ hk
    · exact out _ _ c hk
  · obtain ⟨o', sh⟩ := s.rep.sh z hb
    rcases ho with ⟨ps, rfl⟩ | ⟨φ, rfl⟩
    · exact sh_notbl sh
    · exact sh_noext sh
  · obtain ⟨h1, h2, h3, xs, h4, h5⟩ := s.wt q hq
    exact ⟨nin _ _ h4 (fun _ z => nomatch z) h1, h2, h3, xs, out _ _ h1 h4, h5.mono tup⟩
/-- all but tables stays -/
theorem St.ext (s : St K Tq p H0 ρ S Wt Tu H) {H' : Hp} (e : LamX.ExtN H H') (t : LamX.Tabs Tq H') : St K Tq p H0 ρ S Wt Tu H' := by
  obtain ⟨c0, c1, c2, hb⟩ := s.bag
  refine ⟨s.rep.ofKeep fun b o hb ho => e _ _ ho fun ps z => ?_, s.new, fun b o n ho nt => e _ _ (s.keep b o n ho nt) nt, ⟨c0, c1, c2, e _ _ hb fun _ z => nomatch z⟩, s.pn, t, fun q hq => ?_, fun q hq => e _ _ (s.tu q hq) fun _ z => nomatch z⟩
  · obtain ⟨o', sh⟩ := s.rep.sh hb ho
    rw [z] at sh
    exact sh_notbl sh
  · obtain ⟨h1, h2, h3, xs, h4, h5⟩ := s.wt q hq
    exact ⟨h1, h2, h3, xs, e _ _ h4 (fun _ z => nomatch z), h5.mono fun b xs hb => e _ _ hb fun _ z => nomatch z⟩
/-- a new object -/
theorem St.add (s : St K Tq p H0 ρ S Wt Tu H) {a : Addr} {o : HO} (ha : H a = none) : St K Tq p H0 ρ S Wt Tu (upd H a o) := by
  have old : ∀ b u, H b = some u → upd H a o b = some u := fun b u hb => by
    rw [upd_ne fun z => by rw [z, ha] at hb; cases hb]
    exact hb
  obtain ⟨c0, c1, c2, hb⟩ := s.bag
  refine ⟨s.rep.ofKeep fun b u _ h => old b u h, s.new, fun b u n h nt => old _ _ (s.keep b u n h nt), ⟨c0, c1, c2, old _ _ hb⟩, s.pn, tabs_keep s.tabs fun b u h _ => old b u h, fun q hq => ?_, fun q hq => old _ _ (s.tu q hq)⟩
  obtain ⟨h1, h2, h3, xs, h4, h5⟩ := s.wt q hq
  exact ⟨h1, h2, h3, xs, old _ _ h4, h5.mono fun b xs hb => old _ _ hb⟩
/-- the first objects alone -/
theorem St.drop {m : List Addr} {S' : List DO} (s : St K Tq p H0 (ρ ++ m) S' Wt Tu H) (hl : ρ.length = S.length) (hS : S'.take S.length = S) (w : ∀ o ∈ S, wfO S.length o = true) : St K Tq p H0 ρ S Wt Tu H :=
  ⟨s.rep.take hl hS w, fun b hb => s.new b (List.mem_append_left _ hb), s.keep, s.bag, fun z => s.pn (List.mem_append_left _ z), s.tabs, fun q hq => by
    obtain ⟨h1, h2⟩ := s.wt q hq
    exact ⟨fun z => h1 (List.mem_append_left _ z), h2⟩, s.tu⟩
/-- a draw -/
theorem St.draw (s : St K Tq p H0 ρ S Wt Tu H) {c0 c1 c2 : Int} : St K Tq p H0 ρ S Wt Tu (upd H p (bagO c0 c1 c2)) := by
  obtain ⟨d0, d1, d2, hb⟩ := s.bag
  have old : ∀ b u, b ≠ p → H b = some u → upd H p (bagO c0 c1 c2) b = some u := fun b u n hb => by
    rw [upd_ne n]
    exact hb
  have ne : ∀ b u, H b = some u → (∀ xs, u ≠ .lst xs) → b ≠ p := fun b u h n z => by
    rw [z, hb] at h
    cases h
    exact n _ rfl
  refine ⟨s.rep.ofKeep fun b u hb h => old b u (fun z => s.pn (z ▸ hb)) h, s.new, fun b u n h nt => old _ _ n (s.keep b u n h nt), ⟨c0, c1, c2, upd_same⟩, s.pn, tabs_keep s.tabs fun b u h hu => old b u (ne b u h fun xs z => ?_) h, fun q hq => ?_, fun q hq => old _ _ (ne _ _ (s.tu q hq) fun _ z => nomatch z) (s.tu q hq)⟩
  · rcases hu with ⟨ps, rfl⟩ | ⟨φ, rfl⟩ <;> cases z
  · obtain ⟨h1, h2, h3, xs, h4, h5⟩ := s.wt q hq
    exact ⟨h1, h2, h3, xs, old _ _ h2 h4, h5.mono fun b xs hb => old _ _ (ne _ _ hb fun _ z => nomatch z) hb⟩
/-- a new list is watched -/
theorem St.list (s : St K Tq p H0 ρ S Wt Tu H) {a : Addr} {xs : List V} {ds : List PyData} (ha : H a = none) (h : TDs H xs ds) : St K Tq p H0 ρ S ((a, ds) :: Wt) Tu (upd H a (.lst xs)) := by
  have s1 := s.add (o := .lst xs) ha
  refine ⟨s1.rep, s1.new, s1.keep, s1.bag, s1.pn, s1.tabs, fun q hq => ?_, s1.tu⟩
  rcases List.mem_cons.mp hq with rfl | hq
  · refine ⟨fun z => ?_, fun z => ?_, fun o ho => ?_, xs, upd_same, h.mono fun b ys hb => ?_⟩
    · obtain ⟨o, e⟩ := s.rep.at_ z
      have e : H a = some o := e
      rw [ha] at e
      cases e
    · obtain ⟨c0, c1, c2, hb⟩ := s.bag
      have z : a = p := z
      rw [z, hb] at ha
      cases ha
    · by_cases c : ∃ ps, o = .tbl ps
      · exact c
      · by_cases cp : a = p
        · obtain ⟨c0, c1, c2, hb⟩ := s.bag
          rw [cp, hb] at ha
          cases ha
        · have z := s.keep a o cp ho fun ps e => c ⟨ps, e⟩
          rw [ha] at z
          cases z
    · rw [upd_ne fun z => by rw [z, ha] at hb; cases hb]
      exact hb
  · exact s1.wt q hq
/-- a watched list becomes another one -/
theorem St.put {t : Addr} {ds ds' : List PyData} {xs : List V} (s : St K Tq p H0 ρ S ((t, ds) :: Wt) Tu H) (nt : ∀ q ∈ Wt, q.1 ≠ t) (h : TDs H xs ds') : St K Tq p H0 ρ S ((t, ds') :: Wt) Tu (upd H t (.lst xs)) := by
  obtain ⟨h1, h2, h3, ys, h4, h5⟩ := s.wt _ List.mem_cons_self
  have h1 : t ∉ ρ := h1
  have h2 : t ≠ p := h2
  have h4 : H t = some (.lst ys) := h4
  have old : ∀ b u, b ≠ t → H b = some u → upd H t (.lst xs) b = some u := fun b u n hb => by
    rw [upd_ne n]
    exact hb
  have ne : ∀ b u, H b = some u → (∀ xs, u ≠ .lst xs) → b ≠ t := fun b u h n z => by
    rw [z, h4] at h
    cases h
    exact n _ rfl
  have mono : ∀ b zs, H b = some (.tup zs) → upd H t (.lst xs) b = some (.tup zs) := fun b zs hb => old _ _ (ne _ _ hb fun _ z => nomatch z) hb
  obtain ⟨c0, c1, c2, hb⟩ := s.bag
  refine ⟨s.rep.ofKeep fun b u hb h => old b u (fun z => h1 (z ▸ hb)) h, s.new, fun b u n h nt => old _ _ (fun z => ?_) (s.keep b u n h nt), ⟨c0, c1, c2, old _ _ (Ne.symm h2) hb⟩, s.pn, tabs_keep s.tabs fun b u h hu => old b u (ne b u h fun xs z => ?_) h, fun q hq => ?_, fun q hq => mono _ _ (s.tu q hq)⟩
  · rw [z] at h
    obtain ⟨ps, e⟩ := h3 _ h
    exact nt ps e
  · rcases hu with ⟨ps, rfl⟩ | ⟨φ, rfl⟩ <;> cases z
  · rcases List.mem_cons.mp hq with rfl | hq
    · exact ⟨h1, h2, h3, xs, upd_same, h.mono mono⟩
    · obtain ⟨k1, k2, k3, zs, k4, k5⟩ := s.wt q (List.mem_cons_of_mem _ hq)
      exact ⟨k1, k2, k3, zs, old _ _ (nt q hq) k4, k5.mono mono⟩
theorem St.perm {Wt' : List (Addr × List PyData)} (s : St K Tq p H0 ρ S Wt Tu H) (h : ∀ q ∈ Wt', q ∈ Wt) : St K Tq p H0 ρ S Wt' Tu H :=
  ⟨s.rep, s.new, s.keep, s.bag, s.pn, s.tabs, fun q hq => s.wt q (h q hq), s.tu⟩
/-- a new tuple is watched -/
theorem St.tup (s : St K Tq p H0 ρ S Wt Tu H) {a : Addr} {xs : List V} (ha : H a = none) : St K Tq p H0 ρ S Wt ((a, xs) :: Tu) (upd H a (.tup xs)) := by
  have s1 := s.add (o := .tup xs) ha
  refine ⟨s1.rep, s1.new, s1.keep, s1.bag, s1.pn, s1.tabs, s1.wt, fun q hq => ?_⟩
  rcases List.mem_cons.mp hq with rfl | hq
  · exact upd_same
  · exact s1.tu q hq
end
end RunX
set_option maxHeartbeats 8000000
namespace K5
open PySem PySem.Spec PyProof.Rows L2 He Hx Hy PO RunX PB
abbrev te1 (K : PySem.W.Frag) : TE := (tLst (tCons (tC V.non) (tCons (tTup tNil) (tCons (tC (V.int 0)) (tCons (tC (V.str (Str.ofString "rewriter"))) (tCons (tTup (tCons (tC (V.str (Str.ofString "ab"))) (tCons tDNewK (tCons (tTup tNil) (tCons tDNewK tNil))))) (tCons (tLst (tCons (tC (V.int 1)) tNil)) (tCons tDNewK (tCons (tC (V.bl true)) tNil)))))))))
abbrev te2 (K : PySem.W.Frag) : TE := (tMake (ga K (Str.ofString "Rewriter")) (spOf K (D_rwInit K)) [] E0 (tCons (tC (V.str (Str.ofString "ab"))) (tCons (tDisp [(tC (V.int 0), tC (V.str (Str.ofString "")))]) (tCons (tTup (tCons (tTup (tCons (tC (V.int 0)) (tCons (tC (V.str (Str.ofString "a"))) (tCons (tC (V.str (Str.ofString "ab"))) (tCons (tC (V.int 1)) tNil))))) (tCons (tTup (tCons (tC (V.int 1)) (tCons (tC (V.str (Str.ofString "b"))) (tCons (tC (V.str (Str.ofString ""))) (tCons (tC (V.int 0)) tNil))))) tNil))) (tCons (tDisp [(tC (V.int 0), tC (V.str (Str.ofString ""))), (tC (V.int 1), tC (V.str (Str.ofString "a")))]) tNil)))))
abbrev te3 (K : PySem.W.Frag) : TE := (tLst (tCons (tC V.non) (tCons (tTup tNil) (tCons (tTup (tCons (tC (V.int 1)) (tCons (tTup tNil) tNil))) (tCons (tTup (tCons (tC (V.int 0)) (tCons (tLst (tCons (tTup (tCons (tC (V.int 0)) (tCons (tC (V.str (Str.ofString "a"))) (tCons (tC (V.str (Str.ofString "ab"))) (tCons (tC (V.int 1)) tNil))))) tNil)) tNil))) (tCons (tTup (tCons (tC (V.int 0)) (tCons (tTup (tCons (tTup (tCons (tC (V.int 0)) (tCons (tC (V.str (Str.ofString "a"))) (tCons (tC (V.str (Str.ofString "a"))) (tCons (tC (V.int 1)) tNil))))) tNil)) tNil))) (tCons (tTup (tCons (tC (V.int 0)) (tCons (tTup (tCons (tTup (tCons (tC (V.int 1)) (tCons (tC (V.str (Str.ofString "b"))) (tCons (tC (V.str (Str.ofString ""))) (tCons (tC (V.int 0)) tNil))))) tNil)) tNil))) (tCons (tTup (tCons (tC (V.bl true)) (tCons (tTup tNil) tNil))) (tCons (tC (V.int 5)) (tCons (tTup (tCons (tC (V.int 0)) tNil)) tNil))))))))))
abbrev te4 (K : PySem.W.Frag) : TE := (tLst (tCons (tC V.non) (tCons (tTup tNil) (tCons (tTup (tCons (tTup (tCons (tC (V.int 0)) (tCons (tC (V.str (Str.ofString "a"))) (tCons (tC (V.str (Str.ofString "ab"))) (tCons (tC (V.int 1)) tNil))))) tNil)) (tCons (tLst (tCons (tTup (tCons (tC (V.int 0)) (tCons (tC (V.str (Str.ofString "a"))) (tCons (tC (V.str (Str.ofString "ab"))) (tCons (tC (V.int 1)) tNil))))) (tCons (tTup (tCons (tC (V.int 1)) (tCons (tC (V.str (Str.ofString "b"))) (tCons (tC (V.str (Str.ofString ""))) (tCons (tC (V.int 0)) tNil))))) tNil))) (tCons (tTup (tCons (tTup (tCons (tC (V.int 1)) (tCons (tC (V.str (Str.ofString "b"))) (tCons (tC (V.str (Str.ofString ""))) (tCons (tC (V.int 0)) tNil))))) (tCons (tTup (tCons (tC (V.int 1)) (tCons (tC (V.str (Str.ofString "b"))) (tCons (tC (V.str (Str.ofString ""))) (tCons (tC (V.int 0)) tNil))))) tNil))) (tCons (tC (V.int 5)) (tCons (tC (V.str (Str.ofString "a"))) tNil))))))))
abbrev te5 (K : PySem.W.Frag) : TE := (tLst (tCons (tC V.non) (tCons (tC (V.str (Str.ofString ""))) (tCons (tC (V.str (Str.ofString "most"))) (tCons (tC (V.str (Str.ofString "Least"))) (tCons (tC (V.int 0)) (tCons (tTup (tCons (tC (V.str (Str.ofString "least"))) tNil)) (tCons (tC (V.bl true)) tNil))))))))
abbrev te6 (K : PySem.W.Frag) : TE := (tLst (tCons (tC V.non) (tCons (tUn (rU fun i => V.int (-i)) (tC (V.int 1))) (tCons (tC (V.int 61)) (tCons (tC (V.bl true)) (tCons (tC (V.str (Str.ofString "3"))) (tCons (tTup (tCons (tC (V.int 3)) tNil)) (tCons (tOp (rI CPow fun i j => V.int (i ^ j.toNat)) (tC (V.int 10)) (tC (V.int 30))) tNil))))))))
abbrev te7 (K : PySem.W.Frag) : TE := (tTup (tCons (tVar 1) (tCons (tVar 3) (tCons (tVar 4) (tCons tDNewK (tCons (tLst (tCons (tLst tNil) tNil)) (tCons (tDisp [(tC (V.str (Str.ofString "a")), tC (V.int 1))]) (tCons (tTup (tCons (tC (V.str (Str.ofString "between"))) (tCons tDNewK (tCons tDNewK (tCons tDNewK tNil))))) (tCons (tTup (tCons (tC (V.str (Str.ofString "between"))) (tCons (tDisp [(tC (V.int 0), tDNewK), (tC (V.int 1), tTup tNil)]) (tCons (tC V.non) (tCons (tC V.non) tNil))))) (tCons (tTup (tCons (tC (V.str (Str.ofString "circle"))) (tCons tDNewK tNil))) (tCons (tTup (tCons tDNewK (tCons tDNewK (tCons tDNewK tNil)))) tNil)))))))))))

def S0 : List DO := [.tup [], .dK [], .tup [], .dK [], .tup [.str "ab", .ref 1, .ref 2, .ref 3], .lst [.int 1], .dK [], .lst [.non, .ref 0, .int 0, .str "rewriter", .ref 4, .ref 5, .ref 6, .bl true], .dK [(.inl 0, .str "")], .tup [.int 0, .str "a", .str "ab", .int 1], .tup [.int 1, .str "b", .str "", .int 0], .tup [.ref 9, .ref 10], .dK [(.inl 0, .str ""), (.inl 1, .str "a")], .own 14, .ins "Rewriter" 13 [("own_letters", .str "ab"), ("own_states", .ref 64), ("own_starts", .ref 67), ("own_edges", .ref 72), ("own_ends", .ref 75), ("own_after", .ref 76), ("own_before", .ref 85)], .lst [.bl true, .bl true], .lst [.bl true], .tup [.str "a", .str "b"], .lst [.bl true], .tup [.int 0, .str ""], .lst [], .lst [.bl true, .bl true], .lst [.bl true, .bl true], .lst [], .lst [.bl true, .bl true], .tup [.int 0, .str ""], .lst [], .tup [.int 1, .str "a"], .lst [.bl true], .lst [.int 0], .lst [.ref 31, .ref 32], .tup [.int 0, .int 1], .tup [.int 1, .int 0], .dK [(.inl 0, .ref 35), (.inl 1, .ref 37)], .lst [], .lst [.int 1], .lst [], .lst [.int 0], .dK [(.inl 0, .bl true), (.inl 1, .bl true)], .lst [], .lst [], .lst [], .lst [], .lst [], .lst [], .lst [.int 0, .int 1], .lst [.ref 47, .ref 48], .tup [.int 1, .int 0], .tup [.int 0, .int 1], .dK [(.inl 1, .ref 51), (.inl 0, .ref 53)], .lst [], .lst [.int 0], .lst [], .lst [.int 1], .dK [(.inl 0, .bl true), (.inl 1, .bl true)], .lst [], .lst [], .lst [], .lst [], .lst [], .lst [], .lst [.int 0, .int 1], .lst [.int 0, .int 1], .dT [([.inl 0, .inr "a", .inr "ab", .inl 1], .bl true), ([.inl 1, .inr "b", .inr "", .inl 0], .bl true)], .tup [.int 0, .int 1], .lst [.int 0], .lst [.int 0], .dK [(.inl 0, .str "")], .tup [.int 0, .str "a", .str "ab", .int 1], .tup [.int 1, .str "b", .str "", .int 0], .lst [.ref 68, .ref 69], .lst [.ref 68, .ref 69], .tup [.ref 68, .ref 69], .lst [.int 0, .int 1], .lst [.int 0, .int 1], .dK [(.inl 0, .str ""), (.inl 1, .str "a")], .dT [([.inl 0, .inr "a"], .ref 79), ([.inl 1, .inr "b"], .ref 83)], .tup [.int 0, .str "a"], .tup [], .tup [.ref 68], .tup [.int 0, .str "a"], .tup [.int 1, .str "b"], .tup [], .tup [.ref 69], .tup [.int 1, .str "b"], .dT [([.inr "a", .inl 1], .ref 88), ([.inr "b", .inl 0], .ref 91)], .tup [.str "a", .int 1], .tup [], .tup [.ref 68], .tup [.str "b", .int 0], .tup [], .tup [.ref 69], .tup [], .tup [], .tup [.int 1, .ref 93], .tup [.int 0, .str "a", .str "ab", .int 1], .lst [.ref 95], .tup [.int 0, .ref 96], .tup [.int 0, .str "a", .str "a", .int 1], .tup [.ref 98], .tup [.int 0, .ref 99], .tup [.int 1, .str "b", .str "", .int 0], .tup [.ref 101], .tup [.int 0, .ref 102], .tup [], .tup [.bl true, .ref 104], .tup [.int 0], .lst [.non, .ref 92, .ref 94, .ref 97, .ref 100, .ref 103, .ref 105, .int 5, .ref 106], .tup [], .tup [.int 0, .str "a", .str "ab", .int 1], .tup [.ref 109], .tup [.int 0, .str "a", .str "ab", .int 1], .tup [.int 1, .str "b", .str "", .int 0], .lst [.ref 111, .ref 112], .tup [.int 1, .str "b", .str "", .int 0], .tup [.int 1, .str "b", .str "", .int 0], .tup [.ref 114, .ref 115], .lst [.non, .ref 108, .ref 110, .ref 113, .ref 116, .int 5, .str "a"], .tup [.str "least"], .lst [.non, .str "", .str "most", .str "Least", .int 0, .ref 118, .bl true], .tup [.int 3], .lst [.non, .int (-1), .int 61, .bl true, .str "3", .ref 120, .int 1000000000000000000000000000000]]
def noneD : List DV := [.non, .ref 0, .int 0, .str "rewriter", .ref 4, .ref 5, .ref 6, .bl true]
def pathD : List DV := [.non, .ref 92, .ref 94, .ref 97, .ref 100, .ref 103, .ref 105, .int 5, .ref 106]
def circD : List DV := [.non, .ref 108, .ref 110, .ref 113, .ref 116, .int 5, .str "a"]
def wordD : List DV := [.non, .str "", .str "most", .str "Least", .int 0, .ref 118, .bl true]
def lenD : List DV := [.non, .int (-1), .int 61, .bl true, .str "3", .ref 120, .int 1000000000000000000000000000000]
abbrev good_ : DV := .ref 14
section
variable {K : PySem.W.Frag}
theorem r1 : EvE.run K EN (te1 K) [] [] = some (.ret (.ref 7) (S0.take 8)) := by kernel_rfl
theorem r2 : EvE.run K EN (te2 K) [] (S0.take 8) = some (.ret (.ref 14) (S0.take 92)) := by kernel_rfl
theorem r3 : EvE.run K EN (te3 K) [] (S0.take 92) = some (.ret (.ref 107) (S0.take 108)) := by kernel_rfl
theorem r4 : EvE.run K EN (te4 K) [] (S0.take 108) = some (.ret (.ref 117) (S0.take 118)) := by kernel_rfl
theorem r5 : EvE.run K EN (te5 K) [] (S0.take 118) = some (.ret (.ref 119) (S0.take 120)) := by kernel_rfl
theorem r6 : EvE.run K EN (te6 K) [] (S0.take 120) = some (.ret (.ref 121) S0) := by kernel_rfl
def isExc (S : List DO) (C : Str) (r : Option Res) : Bool := match r with
  | some (.exc D none S') => decide (D = C) && decide (S'.take S.length = S)
  | _ => false
def isFls (S : List DO) (r : Option Res) : Bool := match r with
  | some (.ret (.bl false) S') => decide (S'.take S.length = S)
  | _ => false
def isNum (S : List DO) (v : DV) (r : Option Res) : Bool := match r with
  | some (.exc D (some n) S') => decide (D = "InvalidNumber") && (decide (S'[n]? = some (.xd [("value", v)])) && decide (S'.take S.length = S))
  | _ => false
abbrev IR : Str := "InvalidRewriter"
abbrev IO : Str := "InvalidOperation"
theorem n1 : (noneD.all fun d => isExc S0 IR ((D_length_paper K).run [d] S0) && isExc S0 IR ((D_length_bounds K).run [d] S0) && isExc S0 IR ((D_is_even K).run [d] S0) && isExc S0 IR ((D_state_differences K).run [d] S0)) = true := by kernel_rfl
theorem n2 : (noneD.all fun d => isExc S0 IR ((D_is_length_paper K).run [d, .non] S0) && isExc S0 IR ((D_is_circle K).run [d, .non] S0)) = true := by kernel_rfl
theorem n3 : (noneD.all fun d => pathD.all fun e => isExc S0 IR ((D_difference K).run [d, e] S0)) = true := by kernel_rfl
theorem n4 : (noneD.all fun d => circD.all fun e => isExc S0 IR ((D_rate_of K).run [d, e] S0)) = true := by kernel_rfl
theorem n5 : (noneD.all fun d => lenD.all fun e => isExc S0 IR ((D_result_lengths K).run [d, e] S0)) = true := by kernel_rfl
theorem n6 : (noneD.all fun d => wordD.all fun e => isExc S0 IR ((D_rate K).run [d, e] S0) && isExc S0 IR ((D_rate_paper K).run [d, e] S0) && isExc S0 IR ((D_is_rate_paper K).run [d, e, .non] S0)) = true := by kernel_rfl
theorem g1 : (circD.all fun e => isFls S0 ((D_is_length_paper K).run [good_, e] S0) && isFls S0 ((D_is_circle K).run [good_, e] S0) && isExc S0 IO ((D_rate_of K).run [good_, e] S0)) = true := by kernel_rfl
theorem g2 : (pathD.all fun e => isExc S0 IO ((D_difference K).run [good_, e] S0)) = true := by kernel_rfl
theorem g3 : (lenD.all fun e => isNum S0 e ((D_result_lengths K).run [good_, e] S0)) = true := by kernel_rfl
theorem g4 : (wordD.all fun e => isExc S0 IO ((D_rate K).run [good_, e] S0) && isExc S0 IO ((D_rate_paper K).run [good_, e] S0) && isExc S0 IO ((D_is_rate_paper K).run [good_, e, .non] S0)) = true := by kernel_rfl
end
end K5
set_option maxHeartbeats 4000000
namespace RunX
open PySem PySem.Spec PyProof.Rows L2 He
variable {K : PySem.W.Frag}
section
variable {Tq : List (Addr × Str)} {p : Addr} {H0 H : Hp} {ρ : List Addr} {S : List DO} {Wt : List (Addr × List PyData)} {Tu : List (Addr × List V)} {σ : L2.St}
theorem ev_step (s : St K Tq p H0 ρ S Wt Tu H) {te : TE} [e : EvE K EN te] {σd : List (Option DV)} {v : DV} {S' : List DO} {Q : VK} (hc : te σ H Q = te (dSt K ρ σd) H Q) (wσ : wfS S.length σd = true) (run : e.run σd S = some (.ret v S'))
    (k : ∀ m H', St K Tq p H0 (ρ ++ m) S' Wt Tu H' → Q (dV K (ρ ++ m) v) H') : te σ H Q := by
  rw [hc]
  refine e.ok run wσ s.rep fun ρ' H' R F => ?_
  have s' := s.grow R F
  obtain ⟨⟨m, em, _⟩, _⟩ := F
  subst em
  exact k m H' s'
theorem draw_step (s : St K Tq p H0 ρ S Wt Tu H) (hσ : σ[0]? = some (some (.ref p))) {te : TE} [e : EvE K EN te] (hc : ∀ Q, te σ H Q = te (dSt K ρ []) H Q) {n : Nat} {S' : List DO} {ds : List DV} (run : e.run [] S = some (.ret (.ref n) S')) (hn : S'[n]? = some (.lst ds)) (hne : ds ≠ []) (hl : ds.length < 1000) {E : XK} {Q : VK}
    (k : ∀ m H' d, d ∈ ds → St K Tq p H0 (ρ ++ m) S' Wt Tu H' → Q (dV K (ρ ++ m) d) H') : tCall (spPick K) [] E (tCons (tVar 0) (tCons te tNil)) σ H Q := by
  refine ⟨_, hσ, ev_step s (hc _) rfl run fun m H' s' => ?_⟩
  obtain ⟨c0, c1, c2, hb⟩ := s'.bag
  have g := (s'.rep.get hn).1
  refine ⟨p, (ρ ++ m).getD n 0, ds.map (dV K (ρ ++ m)), c0, c1, c2, rfl, hb, fun z => s'.pn ?_, SqL.of g, fun z => hne (List.map_eq_nil_iff.mp z), by rw [List.length_map]; exact hl, fun j v d0 d1 d2 hj => ?_⟩
  · have hlt : n < (ρ ++ m).length := by
      rw [s'.rep.len]
      exact (List.getElem?_eq_some_iff.mp hn).1
    rw [← z, List.getD_eq_getElem?_getD, List.getElem?_eq_getElem hlt]
    exact List.getElem_mem hlt
  · rw [List.getElem?_map] at hj
    obtain ⟨d, hd, rfl⟩ := Option.map_eq_some_iff.mp hj
    exact k m _ d (List.mem_of_getElem? hd) s'.draw
theorem St.watch (s : St K Tq p H0 ρ S Wt Tu H) {a : Addr} {xs : List V} (h : H a = some (.tup xs)) : St K Tq p H0 ρ S Wt ((a, xs) :: Tu) H :=
  ⟨s.rep, s.new, s.keep, s.bag, s.pn, s.tabs, s.wt, fun q hq => by
    rcases List.mem_cons.mp hq with rfl | hq
    · exact h
    · exact s.tu q hq⟩
theorem St.forget {Tu' : List (Addr × List V)} (s : St K Tq p H0 ρ S Wt Tu H) (h : ∀ q ∈ Tu', q ∈ Tu) : St K Tq p H0 ρ S Wt Tu' H := ⟨s.rep, s.new, s.keep, s.bag, s.pn, s.tabs, s.wt, fun q hq => s.tu q (h q hq)⟩
/-- the same value, more objects -/
theorem St.val (s : St K Tq p H0 ρ S Wt Tu H) {m : List Addr} {v : DV} (w : wf S.length v = true) : dV K (ρ ++ m) v = dV K ρ v := dV_app (by rw [s.rep.len]; exact w)
theorem St.len (s : St K Tq p H0 ρ S Wt Tu H) : ρ.length = S.length := s.rep.len
variable {t d : Addr} {ds es fs : List PyData}
theorem St.swap {a b : Addr × List PyData} (s : St K Tq p H0 ρ S [a, b] Tu H) : St K Tq p H0 ρ S [b, a] Tu H := s.perm fun q hq => by
  simp only [List.mem_cons, List.not_mem_nil, or_false] at hq ⊢
  exact hq.symm
/-- x.append(v), x the first watched list -/
theorem lst_app (s : St K Tq p H0 ρ S [(t, ds), (d, es)] Tu H) (htd : d ≠ t) (hl : ds.length < 1000) {v : V} {x : PyData} (hd : TD H v x) {Q : VK} (k : ∀ H2, St K Tq p H0 ρ S [(t, ds ++ [x]), (d, es)] Tu H2 → Q .non H2) : rAppend (.ref t) [v] H Q := by
  obtain ⟨_, _, _, xs, h4, h5⟩ := s.wt _ List.mem_cons_self
  exact ⟨t, xs, v, rfl, rfl, h4, by
    have e : xs.length = ds.length := h5.1
    rw [e]
    exact Nat.lt_of_lt_of_le hl (by decide), k _ (s.put (fun q hq => by rw [List.mem_singleton.mp hq]; exact htd) (h5.app (.cons hd .nil)))⟩
theorem lst_app2 (s : St K Tq p H0 ρ S [(t, ds), (d, es)] Tu H) (htd : d ≠ t) (hl : es.length < 1000) {v : V} {x : PyData} (hd : TD H v x) {Q : VK} (k : ∀ H2, St K Tq p H0 ρ S [(t, ds), (d, es ++ [x])] Tu H2 → Q .non H2) : rAppend (.ref d) [v] H Q :=
  lst_app s.swap htd.symm hl hd fun H2 s2 => k H2 s2.swap
theorem ty_lst (s : St K Tq p H0 ρ S [(t, ds), (d, es)] Tu H) : tyV K "list" (.ref t) H := by
  obtain ⟨_, _, _, xs, h4, h5⟩ := s.wt _ List.mem_cons_self
  exact .inl ⟨rfl, _, SqL.of h4⟩
theorem ty_lst2 (s : St K Tq p H0 ρ S [(t, ds), (d, es)] Tu H) : tyV K "list" (.ref d) H := ty_lst s.swap
/-- due + [..] -/
theorem cat_ok (s : St K Tq p H0 ρ S [(t, ds), (d, es)] Tu H) {zs : List V} {l : Addr} (hz : TDs H zs fs) (hn : H l = none) (hl : es.length + fs.length < 1000) {Q : VK} (k : ∀ d' H2, d' ≠ t → St K Tq p H0 ρ S [(t, ds), (d', es ++ fs)] Tu H2 → Q (.ref d') H2) : rCat (.ref d) (.ref l) (upd H l (.lst zs)) Q := by
  have s1 := s.list hn hz
  obtain ⟨_, _, _, xs, h4, h5⟩ := s1.wt (d, es) (by simp)
  have h4 : (upd H l (.lst zs)) d = some (.lst xs) := h4
  have h5 : TDs (upd H l (.lst zs)) xs es := h5
  obtain ⟨_, _, _, ys, h6, h7⟩ := s1.wt (l, fs) (by simp)
  have h6 : (upd H l (.lst zs)) l = some (.lst ys) := h6
  have h7 : TDs (upd H l (.lst zs)) ys fs := h7
  obtain ⟨_, _, _, ts, h8, _⟩ := s1.wt (t, ds) (by simp)
  have h8 : (upd H l (.lst zs)) t = some (.lst ts) := h8
  refine ⟨d, l, xs, ys, rfl, rfl, h4, h6, ?_, fun q hq => k q _ (fun z => ?_) ((s1.list hq (h5.app h7)).perm fun q hq => ?_)⟩
  · rw [h5.1, h7.1]
    exact Nat.le_trans (Nat.le_of_lt hl) (by decide)
  · rw [z, h8] at hq
    cases hq
  · simp only [List.mem_cons, List.not_mem_nil, or_false] at hq ⊢
    rcases hq with rfl | rfl
    · exact .inr (.inr (.inl rfl))
    · exact .inl rfl
end
end RunX
set_option maxHeartbeats 8000000
namespace K5
open PySem PySem.Spec PyProof.Rows L2 He Hx Hy PO RunX PB
abbrev te8 (K : PySem.W.Frag) (E : XK) : TE := tCall (spOf K (D_rate_paper K)) [] E (tCons (tMake (ga K (Str.ofString "Rewriter")) (spOf K (D_rwInit K)) [] E (tCons (tC (V.str (Str.ofString "a"))) (tCons (tDisp [(tC (V.int 0), tC (V.str (Str.ofString "")))]) (tCons (tTup tNil) (tCons (tDisp [(tC (V.int 0), tC (V.str (Str.ofString "")))]) tNil))))) (tCons (tC (V.str (Str.ofString "least"))) tNil))
abbrev te9 (K : PySem.W.Frag) (E : XK) : TE := tCall (spOf K (D_state_differences K)) [] E (tCons (tMake (ga K (Str.ofString "Rewriter")) (spOf K (D_rwInit K)) [] E (tCons (tC (V.str (Str.ofString "a"))) (tCons (tDisp [(tC (V.int 0), tC (V.str (Str.ofString "a")))]) (tCons (tTup tNil) (tCons (tDisp [(tC (V.int 0), tC (V.str (Str.ofString "")))]) tNil))))) tNil)
def S1 : List DO := S0 ++ [.dK [], .lst [], .lst [.ref 123], .dK [(.inr "a", .int 1)], .dK [], .dK [], .dK [], .tup [.str "between", .ref 126, .ref 127, .ref 128], .dK [(.inl 0, .ref 131), (.inl 1, .ref 132)], .dK [], .tup [], .tup [.str "between", .ref 130, .non, .non], .dK [], .tup [.str "circle", .ref 134], .dK [], .dK [], .dK [], .tup [.ref 136, .ref 137, .ref 138]]
def restD : List DV := [.ref 122, .ref 124, .ref 125, .ref 129, .ref 133, .ref 135, .ref 139]
def valsD : List DV := noneD ++ pathD ++ circD ++ restD
section
variable {K : PySem.W.Frag}
theorem r7 (d1 d3 d4 : DV) : EvE.run K EN (te7 K) [none, some d1, none, some d3, some d4] S0 = some (.ret (.ref 140) (S1 ++ [.tup (d1 :: d3 :: d4 :: restD)])) := by kernel_rfl
theorem x8 (E : XK) : isExc S0 IO (EvE.run K E (te8 K E) [] S0) = true := by kernel_rfl
theorem x9 (E : XK) : isExc S0 IO (EvE.run K E (te9 K E) [] S0) = true := by kernel_rfl
theorem v1_ : (valsD.all fun d => isFls S1 ((D_is_length_paper K).run [good_, d] S1) && isFls S1 ((D_is_circle K).run [good_, d] S1) && isFls S1 ((D_is_rate_paper K).run [good_, .str "least", d] S1)) = true := by kernel_rfl
theorem wfS0 : ∀ o ∈ S0, wfO S0.length o = true := List.all_eq_true.mp (by kernel_rfl)
theorem wfS1 : ∀ o ∈ S1, wfO S1.length o = true := List.all_eq_true.mp (by kernel_rfl)
theorem isExc_ok {S : List DO} {C : Str} {r : Option Res} (h : isExc S C r = true) : ∃ S', r = some (.exc C none S') ∧ S'.take S.length = S := by
  unfold isExc at h
  split at h
  · rename_i D S'
    obtain ⟨h1, h2⟩ := ba h
    have e := of_decide_eq_true h1
    subst e
    exact ⟨S', rfl, of_decide_eq_true h2⟩
  · cases h
theorem isFls_ok {S : List DO} {r : Option Res} (h : isFls S r = true) : ∃ S', r = some (.ret (.bl false) S') ∧ S'.take S.length = S := by
  unfold isFls at h
  split at h
  · rename_i S'
    exact ⟨S', rfl, of_decide_eq_true h⟩
  · cases h
theorem isNum_ok {S : List DO} {v : DV} {r : Option Res} (h : isNum S v r = true) : ∃ n S', r = some (.exc "InvalidNumber" (some n) S') ∧ S'[n]? = some (.xd [("value", v)]) ∧ S'.take S.length = S := by
  unfold isNum at h
  split at h
  · rename_i D n S'
    obtain ⟨h1, h⟩ := ba h
    obtain ⟨h2, h3⟩ := ba h
    have e := of_decide_eq_true h1
    subst e
    exact ⟨n, S', rfl, of_decide_eq_true h2, of_decide_eq_true h3⟩
  · cases h
variable {Tq : List (Addr × Str)} {p : Addr} {H0 H : Hp} {ρ : List Addr} {S : List DO} {Wt : List (Addr × List PyData)} {Tu : List (Addr × List V)} {σ : L2.St} {tE : XK → TE} {r : XK → Option Res} {Q : VK}
/-- back to the objects at hand -/
theorem back (s : St K Tq p H0 ρ S Wt Tu H) (wS : ∀ o ∈ S, wfO S.length o = true) {ρ' : List Addr} {S' : List DO} {H' : Hp} (R : Rep K ρ' S' H') (F : Fr ρ H ρ' H') (e : S'.take S.length = S) : St K Tq p H0 ρ S Wt Tu H' := by
  have s' := s.grow R F
  obtain ⟨⟨m, em, _⟩, _⟩ := F
  subst em
  exact s'.drop s.rep.len e wS
theorem lam_exc (s : St K Tq p H0 ρ S Wt Tu H) (wS : ∀ o ∈ S, wfO S.length o = true) {C word : Str} (hm : (C, word) ∈ plainW) (ok : ∀ E, isExc S C (r E) = true)
    (call : ∀ (H1 : Hp) (E : XK) (Q' : VK) (q : Res), r E = some q → Rep K ρ S H1 → Post K E ρ H1 Q' q → tE E σ H1 Q') (k : ∀ H2, St K Tq p H0 ρ S Wt Tu H2 → Q (.str word) H2) : LamX.tLam Tq (TTmet K) tE σ H Q := by
  refine ⟨s.tabs, fun H1 e1 t1 => ?_⟩
  have s1 := s.ext e1 t1
  obtain ⟨S', er, et⟩ := isExc_ok (ok fun cls d H' => XM K cls d H' Q)
  exact call H1 _ _ _ er s1.rep fun ρ' H' R F => .inl ⟨(C, word), hm, rfl, rfl, k _ (back s1 wS R F et)⟩
theorem lam_fls (s : St K Tq p H0 ρ S Wt Tu H) (wS : ∀ o ∈ S, wfO S.length o = true) (ok : ∀ E, isFls S (r E) = true)
    (call : ∀ (H1 : Hp) (E : XK) (Q' : VK) (q : Res), r E = some q → Rep K ρ S H1 → Post K E ρ H1 Q' q → tE E σ H1 Q') (k : ∀ a H2, St K Tq p H0 ρ S Wt Tu H2 → H2 a = some (.tup [.str "told", .bl false]) → Q (.ref a) H2) : LamX.tLam Tq (TTmet K) tE σ H Q := by
  refine ⟨s.tabs, fun H1 e1 t1 => ?_⟩
  have s1 := s.ext e1 t1
  obtain ⟨S', er, et⟩ := isFls_ok (ok fun cls d H' => XM K cls d H' Q)
  exact call H1 _ _ _ er s1.rep fun ρ' H' R F => fun a ha => k a _ ((back s1 wS R F et).add ha) upd_same
theorem lam_num (s : St K Tq p H0 ρ S Wt Tu H) (wS : ∀ o ∈ S, wfO S.length o = true) {v : DV} (wv : wf S.length v = true) (ok : ∀ E, isNum S v (r E) = true)
    (call : ∀ (H1 : Hp) (E : XK) (Q' : VK) (q : Res), r E = some q → Rep K ρ S H1 → Post K E ρ H1 Q' q → tE E σ H1 Q') (k : ∀ a H2, St K Tq p H0 ρ S Wt Tu H2 → H2 a = some (.tup [.str "number", dV K ρ v]) → Q (.ref a) H2) : LamX.tLam Tq (TTmet K) tE σ H Q := by
  refine ⟨s.tabs, fun H1 e1 t1 => ?_⟩
  have s1 := s.ext e1 t1
  obtain ⟨n, S', er, en, et⟩ := isNum_ok (ok fun cls d H' => XM K cls d H' Q)
  refine call H1 _ _ _ er s1.rep fun ρ' H' R F => .inr ⟨ρ'.getD n 0, dV K ρ' v, rfl, rfl, (R.get en).1, fun a ha => ?_⟩
  rw [F.val s1.rep.len wv]
  exact k a _ ((back s1 wS R F et).add ha) upd_same
/-- the defs that `call` stands for -/
def SCall (K : PySem.W.Frag) (f : Addr) (sp : Sp) : Prop := (f = ga K "length_paper" ∧ sp = spOf K (D_length_paper K)) ∨ (f = ga K "length_bounds" ∧ sp = spOf K (D_length_bounds K)) ∨ (f = ga K "is_even" ∧ sp = spOf K (D_is_even K)) ∨ (f = ga K "state_differences" ∧ sp = spOf K (D_state_differences K)) ∨
  (f = ga K "is_length_paper" ∧ sp = spOf K (D_is_length_paper K)) ∨ (f = ga K "is_circle" ∧ sp = spOf K (D_is_circle K)) ∨ (f = ga K "rate" ∧ sp = spOf K (D_rate K)) ∨ (f = ga K "rate_paper" ∧ sp = spOf K (D_rate_paper K))
/-! ### the calls -/
variable {D : DefR} {f : Addr} {i j l : Nat} {a b c : DV}
theorem callZ1 (hS : SCall K f (spOf K D)) (h9 : σ[9]? = some (some (.ref f))) (hi : σ[i]? = some (some (dV K ρ a))) (wa : wf S.length a = true) : ∀ (H1 : Hp) (E : XK) (Q' : VK) (q : Res), D.run [a] S = some q → Rep K ρ S H1 → Post K E ρ H1 Q' q → tCallZ 9 (SCall K) E (tCons (tVar i) tNil) σ H1 Q' :=
  fun H1 E Q' q run R post => ⟨f, _, h9, hS, _, hi, ρ, S, [a], q, R, rfl, by simp [wa], run, post⟩
theorem callZ2 (hS : SCall K f (spOf K D)) (h9 : σ[9]? = some (some (.ref f))) (hi : σ[i]? = some (some (dV K ρ a))) (wa : wf S.length a = true) (hj : σ[j]? = some (some (dV K ρ b))) (wb : wf S.length b = true) : ∀ (H1 : Hp) (E : XK) (Q' : VK) (q : Res), D.run [a, b] S = some q → Rep K ρ S H1 → Post K E ρ H1 Q' q → tCallZ 9 (SCall K) E (tCons (tVar i) (tCons (tVar j) tNil)) σ H1 Q' :=
  fun H1 E Q' q run R post => ⟨f, _, h9, hS, _, hi, _, hj, ρ, S, [a, b], q, R, rfl, by simp [wa, wb], run, post⟩
theorem callZN (hS : SCall K f (spOf K D)) (h9 : σ[9]? = some (some (.ref f))) (hi : σ[i]? = some (some (dV K ρ a))) (wa : wf S.length a = true) : ∀ (H1 : Hp) (E : XK) (Q' : VK) (q : Res), D.run [a, .non] S = some q → Rep K ρ S H1 → Post K E ρ H1 Q' q → tCallZ 9 (SCall K) E (tCons (tVar i) (tCons (tC .non) tNil)) σ H1 Q' :=
  fun H1 E Q' q run R post => ⟨f, _, h9, hS, _, hi, ρ, S, [a, .non], q, R, rfl, (by show (wf S.length a && (true && true)) = true; rw [wa]; rfl), run, post⟩
theorem callG2 (hi : σ[i]? = some (some (dV K ρ a))) (wa : wf S.length a = true) (hj : σ[j]? = some (some (dV K ρ b))) (wb : wf S.length b = true) : ∀ (H1 : Hp) (E : XK) (Q' : VK) (q : Res), D.run [a, b] S = some q → Rep K ρ S H1 → Post K E ρ H1 Q' q → tCall (spOf K D) [] E (tCons (tVar i) (tCons (tVar j) tNil)) σ H1 Q' :=
  fun H1 E Q' q run R post => ⟨_, hi, _, hj, ρ, S, [a, b], q, R, rfl, by simp [wa, wb], run, post⟩
theorem callG2N (hi : σ[i]? = some (some (dV K ρ a))) (wa : wf S.length a = true) (hj : σ[j]? = some (some (dV K ρ b))) (wb : wf S.length b = true) : ∀ (H1 : Hp) (E : XK) (Q' : VK) (q : Res), D.run [a, b, .non] S = some q → Rep K ρ S H1 → Post K E ρ H1 Q' q → tCall (spOf K D) [] E (tCons (tVar i) (tCons (tVar j) (tCons (tC .non) tNil))) σ H1 Q' :=
  fun H1 E Q' q run R post => ⟨_, hi, _, hj, ρ, S, [a, b, .non], q, R, rfl, (by show (wf S.length a && (wf S.length b && (true && true))) = true; rw [wa, wb]; rfl), run, post⟩
theorem callGS {x : Str} (hi : σ[i]? = some (some (dV K ρ a))) (wa : wf S.length a = true) (hj : σ[j]? = some (some (dV K ρ b))) (wb : wf S.length b = true) : ∀ (H1 : Hp) (E : XK) (Q' : VK) (q : Res), D.run [a, .str x, b] S = some q → Rep K ρ S H1 → Post K E ρ H1 Q' q → tCall (spOf K D) [] E (tCons (tVar i) (tCons (tC (.str x)) (tCons (tVar j) tNil))) σ H1 Q' :=
  fun H1 E Q' q run R post => ⟨_, hi, _, hj, ρ, S, [a, .str x, b], q, R, rfl, (by show (wf S.length a && (true && (wf S.length b && true))) = true; rw [wa, wb]; rfl), run, post⟩
theorem one_arg {a : TE} {σ : L2.St} {H : Hp} {Q : List V → Hp → Prop} (h : a σ H fun v H1 => Q [v] H1) : tCons a tNil σ H Q := h
/-! ### told.append(_law_met(lambda: ..)) -/
variable {t d : Addr} {ds es : List PyData} {u : TS} {Dx : Ends}
theorem tapp_exc (s : St K Tq p H0 ρ S [(t, ds), (d, es)] Tu H) (wS : ∀ o ∈ S, wfO S.length o = true) (htd : d ≠ t) (hl : ds.length < 1000) (h7 : σ[7]? = some (some (.ref t))) {C word : Str} (hm : (C, word) ∈ plainW) (ok : ∀ E, isExc S C (r E) = true)
    (call : ∀ (H1 : Hp) (E : XK) (Q' : VK) (q : Res), r E = some q → Rep K ρ S H1 → Post K E ρ H1 Q' q → tE E σ H1 Q') (k : ∀ H2, St K Tq p H0 ρ S [(t, ds ++ [.str word]), (d, es)] Tu H2 → u Dx σ H2) :
    tSeq (tDrop (tBM K "list" rAppend (tVar 7) (tCons (LamX.tLam Tq (TTmet K) tE) tNil))) u Dx σ H :=
  by
  refine seq_drop ⟨_, h7, ty_lst s, ?_⟩
  refine one_arg (lam_exc s wS hm ok call fun H2 s2 => ?_)
  exact lst_app s2 htd hl (.str _) k
theorem tapp_fls (s : St K Tq p H0 ρ S [(t, ds), (d, es)] Tu H) (wS : ∀ o ∈ S, wfO S.length o = true) (htd : d ≠ t) (hl : ds.length < 1000) (h7 : σ[7]? = some (some (.ref t))) (ok : ∀ E, isFls S (r E) = true)
    (call : ∀ (H1 : Hp) (E : XK) (Q' : VK) (q : Res), r E = some q → Rep K ρ S H1 → Post K E ρ H1 Q' q → tE E σ H1 Q') (k : ∀ H2, St K Tq p H0 ρ S [(t, ds ++ [.tuple [.str "told", .bool false]]), (d, es)] Tu H2 → u Dx σ H2) :
    tSeq (tDrop (tBM K "list" rAppend (tVar 7) (tCons (LamX.tLam Tq (TTmet K) tE) tNil))) u Dx σ H :=
  by
  refine seq_drop ⟨_, h7, ty_lst s, ?_⟩
  refine one_arg (lam_fls s wS ok call fun a H2 s2 ha => ?_)
  exact lst_app s2 htd hl (.tup2 ha (.str _) (.bl _)) k
theorem tapp_num (s : St K Tq p H0 ρ S [(t, ds), (d, es)] Tu H) (wS : ∀ o ∈ S, wfO S.length o = true) (htd : d ≠ t) (hl : ds.length < 1000) (h7 : σ[7]? = some (some (.ref t))) {v : DV} (wv : wf S.length v = true) {x : PyData} (hx : ∀ H, Rep K ρ S H → TD H (dV K ρ v) x) (ok : ∀ E, isNum S v (r E) = true)
    (call : ∀ (H1 : Hp) (E : XK) (Q' : VK) (q : Res), r E = some q → Rep K ρ S H1 → Post K E ρ H1 Q' q → tE E σ H1 Q') (k : ∀ H2, St K Tq p H0 ρ S [(t, ds ++ [.tuple [.str "number", x]]), (d, es)] Tu H2 → u Dx σ H2) :
    tSeq (tDrop (tBM K "list" rAppend (tVar 7) (tCons (LamX.tLam Tq (TTmet K) tE) tNil))) u Dx σ H :=
  by
  refine seq_drop ⟨_, h7, ty_lst s, ?_⟩
  refine one_arg (lam_num s wS wv ok call fun a H2 s2 ha => ?_)
  exact lst_app s2 htd hl (.tup2 ha (.str _) (hx _ s2.rep)) k
end
end K5
set_option maxHeartbeats 16000000
namespace K5
open PySem PySem.Spec PyProof.Rows L2 He Hx Hy PO RunX PB
def lamQ : Str := (envOfC "_law_right" (defScope s_right) 0 0 .none).qual ++ "<lambda>"
section
variable {P : Program} {w : World} {K : PySem.W.Frag} {mg : Str → Option Value} {base : Heap} {cd Pt : Addr}
theorem scall (T : Tx K mg) : ∀ f sp, SCall K f sp → ∃ j, j ≤ 8 ∧ ∃ ps, HasA P w K mg base (L2.CX P w) j f ps sp := fun f sp h => by
  rcases h with ⟨rfl, rfl⟩ | ⟨rfl, rfl⟩ | ⟨rfl, rfl⟩ | ⟨rfl, rfl⟩ | ⟨rfl, rfl⟩ | ⟨rfl, rfl⟩ | ⟨rfl, rfl⟩ | ⟨rfl, rfl⟩
  · exact ⟨_, by decide, _, (ok_length_paper T).2⟩
  · exact ⟨_, by decide, _, (ok_length_bounds T).2⟩
  · exact ⟨_, by decide, _, (ok_is_even T).2⟩
  · exact ⟨_, by decide, _, (ok_state_differences T).2⟩
  · exact ⟨_, by decide, _, (ok_is_length_paper T).2⟩
  · exact ⟨_, by decide, _, (ok_is_circle T).2⟩
  · exact ⟨_, by decide, _, (ok_rate T).2⟩
  · exact ⟨_, by decide, _, (ok_rate_paper T).2⟩
/-! ### lists of words -/
abbrev rw_ : PyData := .str "rewriter"
abbrev op_ : PyData := .str "operation"
abbrev tf_ : PyData := .tuple [.str "told", .bool false]
def lenP : List (DV × PyData) := [(.non, .none), (.int (-1), .int (-1)), (.int 61, .int 61), (.bl true, .bool true), (.str "3", .str "3"), (.ref 120, .tuple [.int 3]), (.int 1000000000000000000000000000000, .int 1000000000000000000000000000000)]
def dueL (x : PyData) : List PyData := [rw_, rw_, rw_, rw_, rw_, tf_, rw_, tf_, rw_, op_, rw_, op_, rw_, .tuple [.str "number", x], rw_, op_, rw_, op_, rw_, op_, op_, op_]
theorem due_sh : (lenP.all fun q => (PyData.list (dueL q.2)).showable && (decide ((PyData.list (dueL q.2)).depth ≤ 50) && decide ((PyData.list (dueL q.2)).shown.length ≤ 100000))) = true := by decide +kernel
theorem len_at {d : DV} (h : d ∈ lenD) : ∃ x, (d, x) ∈ lenP := by
  simp only [lenD, List.mem_cons, List.not_mem_nil, or_false] at h
  rcases h with rfl | rfl | rfl | rfl | rfl | rfl | rfl <;> exact ⟨_, by simp [lenP]; rfl⟩
theorem td_len {ρ : List Addr} {H : Hp} {d : DV} {x : PyData} (h : (d, x) ∈ lenP) (R : Rep K ρ S0 H) : TD H (dV K ρ d) x := by
  simp only [lenP, List.mem_cons, List.not_mem_nil, or_false] at h
  rcases h with h | h | h | h | h | h | h <;> obtain ⟨rfl, rfl⟩ := Prod.mk.inj h
  · exact .non
  · exact .int _
  · exact .int _
  · exact .bl _
  · exact .str _
  · have g := (R.get (n := 120) (o := .tup [.int 3]) (by rfl)).1
    exact .tup1 g (.int _)
  · exact .int _
abbrev stk (p : Addr) (v1 v2 v3 v4 v5 v6 : V) (t d : Addr) (v9 v10 : Option V) : L2.St := [some (.ref p), some v1, some v2, some v3, some v4, some v5, some v6, some (.ref t), some (.ref d), v9, v10]
def spRight (K : PySem.W.Frag) (Pt : Addr) : Sp := fun vs H Q _ => ∃ p, vs = [.ref p] ∧ (∃ c0 c1 c2, H p = some (bagO c0 c1 c2)) ∧ LamX.Tabs [(Pt, lamQ)] H ∧ ∀ H', (∀ b o, b ≠ p → H b = some o → (∀ ps, o ≠ .tbl ps) → H' b = some o) → (∃ c0 c1 c2, H' p = some (bagO c0 c1 c2)) → LamX.Tabs [(Pt, lamQ)] H' → Q (.bl true) H'
theorem sq (ps : Prop) (h : ps) : ps := h
end
end K5
set_option maxHeartbeats 16000000
namespace K5
open PySem PySem.Spec PyProof.Rows L2 He Hx Hy PO RunX PB
abbrev bodyA (K : PySem.W.Frag) (Pt : Addr) : TS := (tSeq (tDrop (tBM K "list" rAppend (tVar 7) (tCons (LamX.tLam [(Pt, lamQ)] (TTmet K) fun E => tCallZ 9 (SCall K) E (tCons (tVar 1) tNil)) tNil))) (tDrop (tBM K "list" rAppend (tVar 8) (tCons (tC (V.str (Str.ofString "rewriter"))) tNil))))
abbrev bodyB (K : PySem.W.Frag) (Pt : Addr) : TS := (tSeq (tDrop (tBM K "list" rAppend (tVar 7) (tCons (LamX.tLam [(Pt, lamQ)] (TTmet K) fun E => tCallZ 9 (SCall K) E (tCons (tVar 1) (tCons (tC V.non) tNil))) tNil))) (tSeq (tDrop (tBM K "list" rAppend (tVar 7) (tCons (LamX.tLam [(Pt, lamQ)] (TTmet K) fun E => tCallZ 9 (SCall K) E (tCons (tVar 2) (tCons (tVar 4) tNil))) tNil))) (tAsg (tOp rCat (tVar 8) (tLst (tCons (tC (V.str (Str.ofString "rewriter"))) (tCons (tTup (tCons (tC (V.str (Str.ofString "told"))) (tCons (tC (V.bl false)) tNil))) tNil)))) (gName 8))))
abbrev bodyC (K : PySem.W.Frag) (Pt : Addr) : TS := (tSeq (tDrop (tBM K "list" rAppend (tVar 7) (tCons (LamX.tLam [(Pt, lamQ)] (TTmet K) fun E => tCallZ 9 (SCall K) E (tCons (tVar 1) (tCons (tVar 5) tNil))) tNil))) (tSeq (tDrop (tBM K "list" rAppend (tVar 7) (tCons (LamX.tLam [(Pt, lamQ)] (TTmet K) fun E => tCallZ 9 (SCall K) E (tCons (tVar 2) (tCons (tVar 5) tNil))) tNil))) (tAsg (tOp rCat (tVar 8) (tLst (tCons (tC (V.str (Str.ofString "rewriter"))) (tCons (tC (V.str (Str.ofString "operation"))) tNil)))) (gName 8))))
abbrev bodyD (K : PySem.W.Frag) (Pt : Addr) : TS := (tSeq (tFor (iTup K (tTup (tCons (tC (V.ref (ga K (Str.ofString "is_length_paper")))) (tCons (tC (V.ref (ga K (Str.ofString "is_circle")))) tNil)))) (gName 9) (tIfS (tTest (tOp (rNeD K) (LamX.tLam [(Pt, lamQ)] (TTmet K) fun E => tCallZ 9 (SCall K) E (tCons (tVar 2) (tCons (tVar 10) tNil))) (tTup (tCons (tC (V.str (Str.ofString "told"))) (tCons (tC (V.bl false)) tNil))))) (tRet (tC (V.bl false))) tNext)) (tIfS (tTest (tOp (rNeD K) (LamX.tLam [(Pt, lamQ)] (TTmet K) fun E => tCall (spOf K (D_is_rate_paper K)) [] E (tCons (tVar 2) (tCons (tC (V.str (Str.ofString "least"))) (tCons (tVar 10) tNil)))) (tTup (tCons (tC (V.str (Str.ofString "told"))) (tCons (tC (V.bl false)) tNil))))) (tRet (tC (V.bl false))) tNext))
abbrev bodyE (K : PySem.W.Frag) (Pt : Addr) : TS := (tIfS (tTest (tOp (rNeD K) (LamX.tLam [(Pt, lamQ)] (TTmet K) fun E => tCallZ 9 (SCall K) E (tCons (tVar 2) (tCons (tVar 10) tNil))) (tTup (tCons (tC (V.str (Str.ofString "told"))) (tCons (tC (V.bl false)) tNil))))) (tRet (tC (V.bl false))) tNext)
abbrev rest_ (K : PySem.W.Frag) (Pt : Addr) : TS := (tSeq (tPar 7 8 (tCons (tLst tNil) (tCons (tLst tNil) tNil))) (tSeq (tFor (iTup K (tTup (tCons (tC (V.ref (ga K (Str.ofString "length_paper")))) (tCons (tC (V.ref (ga K (Str.ofString "length_bounds")))) (tCons (tC (V.ref (ga K (Str.ofString "is_even")))) (tCons (tC (V.ref (ga K (Str.ofString "state_differences")))) tNil)))))) (gName 9) (tSeq (tDrop (tBM K "list" rAppend (tVar 7) (tCons (LamX.tLam [(Pt, lamQ)] (TTmet K) fun E => tCallZ 9 (SCall K) E (tCons (tVar 1) tNil)) tNil))) (tDrop (tBM K "list" rAppend (tVar 8) (tCons (tC (V.str (Str.ofString "rewriter"))) tNil))))) (tSeq (tFor (iTup K (tTup (tCons (tC (V.ref (ga K (Str.ofString "is_length_paper")))) (tCons (tC (V.ref (ga K (Str.ofString "is_circle")))) tNil)))) (gName 9) (tSeq (tDrop (tBM K "list" rAppend (tVar 7) (tCons (LamX.tLam [(Pt, lamQ)] (TTmet K) fun E => tCallZ 9 (SCall K) E (tCons (tVar 1) (tCons (tC V.non) tNil))) tNil))) (tSeq (tDrop (tBM K "list" rAppend (tVar 7) (tCons (LamX.tLam [(Pt, lamQ)] (TTmet K) fun E => tCallZ 9 (SCall K) E (tCons (tVar 2) (tCons (tVar 4) tNil))) tNil))) (tAsg (tOp rCat (tVar 8) (tLst (tCons (tC (V.str (Str.ofString "rewriter"))) (tCons (tTup (tCons (tC (V.str (Str.ofString "told"))) (tCons (tC (V.bl false)) tNil))) tNil)))) (gName 8))))) (tSeq (tDrop (tBM K "list" rAppend (tVar 7) (tCons (LamX.tLam [(Pt, lamQ)] (TTmet K) fun E => tCall (spOf K (D_difference K)) [] E (tCons (tVar 1) (tCons (tVar 3) tNil))) tNil))) (tSeq (tDrop (tBM K "list" rAppend (tVar 7) (tCons (LamX.tLam [(Pt, lamQ)] (TTmet K) fun E => tCall (spOf K (D_difference K)) [] E (tCons (tVar 2) (tCons (tVar 3) tNil))) tNil))) (tSeq (tDrop (tBM K "list" rAppend (tVar 7) (tCons (LamX.tLam [(Pt, lamQ)] (TTmet K) fun E => tCall (spOf K (D_rate_of K)) [] E (tCons (tVar 1) (tCons (tVar 4) tNil))) tNil))) (tSeq (tDrop (tBM K "list" rAppend (tVar 7) (tCons (LamX.tLam [(Pt, lamQ)] (TTmet K) fun E => tCall (spOf K (D_rate_of K)) [] E (tCons (tVar 2) (tCons (tVar 4) tNil))) tNil))) (tSeq (tDrop (tBM K "list" rAppend (tVar 7) (tCons (LamX.tLam [(Pt, lamQ)] (TTmet K) fun E => tCall (spOf K (D_result_lengths K)) [] E (tCons (tVar 1) (tCons (tVar 6) tNil))) tNil))) (tSeq (tDrop (tBM K "list" rAppend (tVar 7) (tCons (LamX.tLam [(Pt, lamQ)] (TTmet K) fun E => tCall (spOf K (D_result_lengths K)) [] E (tCons (tVar 2) (tCons (tVar 6) tNil))) tNil))) (tSeq (tAsg (tOp rCat (tVar 8) (tLst (tCons (tC (V.str (Str.ofString "rewriter"))) (tCons (tC (V.str (Str.ofString "operation"))) (tCons (tC (V.str (Str.ofString "rewriter"))) (tCons (tC (V.str (Str.ofString "operation"))) (tCons (tC (V.str (Str.ofString "rewriter"))) (tCons (tTup (tCons (tC (V.str (Str.ofString "number"))) (tCons (tVar 6) tNil))) tNil)))))))) (gName 8)) (tSeq (tFor (iTup K (tTup (tCons (tC (V.ref (ga K (Str.ofString "rate")))) (tCons (tC (V.ref (ga K (Str.ofString "rate_paper")))) tNil)))) (gName 9) (tSeq (tDrop (tBM K "list" rAppend (tVar 7) (tCons (LamX.tLam [(Pt, lamQ)] (TTmet K) fun E => tCallZ 9 (SCall K) E (tCons (tVar 1) (tCons (tVar 5) tNil))) tNil))) (tSeq (tDrop (tBM K "list" rAppend (tVar 7) (tCons (LamX.tLam [(Pt, lamQ)] (TTmet K) fun E => tCallZ 9 (SCall K) E (tCons (tVar 2) (tCons (tVar 5) tNil))) tNil))) (tAsg (tOp rCat (tVar 8) (tLst (tCons (tC (V.str (Str.ofString "rewriter"))) (tCons (tC (V.str (Str.ofString "operation"))) tNil)))) (gName 8))))) (tSeq (tDrop (tBM K "list" rAppend (tVar 7) (tCons (LamX.tLam [(Pt, lamQ)] (TTmet K) fun E => tCall (spOf K (D_is_rate_paper K)) [] E (tCons (tVar 1) (tCons (tVar 5) (tCons (tC V.non) tNil)))) tNil))) (tSeq (tDrop (tBM K "list" rAppend (tVar 7) (tCons (LamX.tLam [(Pt, lamQ)] (TTmet K) fun E => tCall (spOf K (D_is_rate_paper K)) [] E (tCons (tVar 2) (tCons (tVar 5) (tCons (tC V.non) tNil)))) tNil))) (tSeq (tDrop (tBM K "list" rAppend (tVar 7) (tCons (LamX.tLam [(Pt, lamQ)] (TTmet K) fun E => tCall (spOf K (D_rate_paper K)) [] E (tCons (tMake (ga K (Str.ofString "Rewriter")) (spOf K (D_rwInit K)) [] E (tCons (tC (V.str (Str.ofString "a"))) (tCons (tDisp [(tC (V.int 0), tC (V.str (Str.ofString "")))]) (tCons (tTup tNil) (tCons (tDisp [(tC (V.int 0), tC (V.str (Str.ofString "")))]) tNil))))) (tCons (tC (V.str (Str.ofString "least"))) tNil))) tNil))) (tSeq (tDrop (tBM K "list" rAppend (tVar 7) (tCons (LamX.tLam [(Pt, lamQ)] (TTmet K) fun E => tCall (spOf K (D_state_differences K)) [] E (tCons (tMake (ga K (Str.ofString "Rewriter")) (spOf K (D_rwInit K)) [] E (tCons (tC (V.str (Str.ofString "a"))) (tCons (tDisp [(tC (V.int 0), tC (V.str (Str.ofString "a")))]) (tCons (tTup tNil) (tCons (tDisp [(tC (V.int 0), tC (V.str (Str.ofString "")))]) tNil))))) tNil)) tNil))) (tSeq (tAsg (tOp rCat (tVar 8) (tLst (tCons (tC (V.str (Str.ofString "rewriter"))) (tCons (tC (V.str (Str.ofString "operation"))) (tCons (tC (V.str (Str.ofString "operation"))) (tCons (tC (V.str (Str.ofString "operation"))) tNil)))))) (gName 8)) (tSeq (tIfS (tTest (tOp rNe (tCB rReprG (tCons (tVar 7) tNil)) (tCB rReprG (tCons (tVar 8) tNil)))) (tRet (tC (V.bl false))) tNext) (tSeq (tFor (iTup K (tTup (tCons (tVar 1) (tCons (tVar 3) (tCons (tVar 4) (tCons tDNewK (tCons (tLst (tCons (tLst tNil) tNil)) (tCons (tDisp [(tC (V.str (Str.ofString "a")), tC (V.int 1))]) (tCons (tTup (tCons (tC (V.str (Str.ofString "between"))) (tCons tDNewK (tCons tDNewK (tCons tDNewK tNil))))) (tCons (tTup (tCons (tC (V.str (Str.ofString "between"))) (tCons (tDisp [(tC (V.int 0), tDNewK), (tC (V.int 1), tTup tNil)]) (tCons (tC V.non) (tCons (tC V.non) tNil))))) (tCons (tTup (tCons (tC (V.str (Str.ofString "circle"))) (tCons tDNewK tNil))) (tCons (tTup (tCons tDNewK (tCons tDNewK (tCons tDNewK tNil)))) tNil)))))))))))) (gName 10) (tSeq (tFor (iTup K (tTup (tCons (tC (V.ref (ga K (Str.ofString "is_length_paper")))) (tCons (tC (V.ref (ga K (Str.ofString "is_circle")))) tNil)))) (gName 9) (tIfS (tTest (tOp (rNeD K) (LamX.tLam [(Pt, lamQ)] (TTmet K) fun E => tCallZ 9 (SCall K) E (tCons (tVar 2) (tCons (tVar 10) tNil))) (tTup (tCons (tC (V.str (Str.ofString "told"))) (tCons (tC (V.bl false)) tNil))))) (tRet (tC (V.bl false))) tNext)) (tIfS (tTest (tOp (rNeD K) (LamX.tLam [(Pt, lamQ)] (TTmet K) fun E => tCall (spOf K (D_is_rate_paper K)) [] E (tCons (tVar 2) (tCons (tC (V.str (Str.ofString "least"))) (tCons (tVar 10) tNil)))) (tTup (tCons (tC (V.str (Str.ofString "told"))) (tCons (tC (V.bl false)) tNil))))) (tRet (tC (V.bl false))) tNext))) (tRet (tC (V.bl true)))))))))))))))))))))
theorem ifF {c : Bool} {A B : Prop} (hc : c = false) (h : B) : if c = true then A else B := by
  subst hc
  exact h
section
variable {K : PySem.W.Frag} {Pt : Addr} {p : Addr} {H0 H : Hp} {ρ : List Addr} {Tu : List (Addr × List V)} {t d : Addr} {ds es : List PyData} {Dx : Ends} {D : DefR} {f : Addr} {d1 d3 d4 d5 d6 dv : DV} {v1 v2 v3 v4 v5 v6 : V} {v9 v10 : Option V}
theorem turnA (hS : SCall K f (spOf K D)) (ok : isExc S0 IR (D.run [d1] S0) = true) (w1 : wf S0.length d1 = true) (s : St K [(Pt, lamQ)] p H0 ρ S0 [(t, ds), (d, es)] Tu H) (htd : d ≠ t) (hl : ds.length < 900) (hl2 : es.length < 900)
    (k : ∀ H2, St K [(Pt, lamQ)] p H0 ρ S0 [(t, ds ++ [rw_]), (d, es ++ [rw_])] Tu H2 → Dx.nx (stk p (dV K ρ d1) v2 v3 v4 v5 v6 t d (some (.ref f)) v10) H2) : bodyA K Pt Dx (stk p (dV K ρ d1) v2 v3 v4 v5 v6 t d (some (.ref f)) v10) H := by
  refine tapp_exc s wfS0 htd (by omega) rfl (C := IR) (word := "rewriter") (by decide +kernel) (fun _ => ok) (callZ1 hS rfl rfl w1) fun H2 s2 => ?_
  refine ⟨_, rfl, ty_lst2 s2, ?_⟩
  show rAppend (.ref d) [.str "rewriter"] H2 (fun _ H3 => Dx.nx _ H3)
  exact lst_app2 s2 htd (by omega) (.str _) k
theorem turnB (hS : SCall K f (spOf K D)) (ok : isExc S0 IR (D.run [d1, .non] S0) = true) (ok2 : isFls S0 (D.run [good_, d4] S0) = true) (w1 : wf S0.length d1 = true) (w4 : wf S0.length d4 = true) (s : St K [(Pt, lamQ)] p H0 ρ S0 [(t, ds), (d, es)] Tu H) (htd : d ≠ t) (hl : ds.length < 900) (hl2 : es.length < 900)
    (k : ∀ d' H2, d' ≠ t → St K [(Pt, lamQ)] p H0 ρ S0 [(t, ds ++ [rw_] ++ [tf_]), (d', es ++ [rw_, tf_])] Tu H2 → Dx.nx (stk p (dV K ρ d1) (dV K ρ good_) v3 (dV K ρ d4) v5 v6 t d' (some (.ref f)) v10) H2) : bodyB K Pt Dx (stk p (dV K ρ d1) (dV K ρ good_) v3 (dV K ρ d4) v5 v6 t d (some (.ref f)) v10) H := by
  refine tapp_exc s wfS0 htd (by omega) rfl (C := IR) (word := "rewriter") (by decide +kernel) (fun _ => ok) (callZN hS rfl rfl w1) fun H2 s2 => ?_
  refine tapp_fls s2 wfS0 htd (by rw [List.length_append]; simp; omega) rfl (fun _ => ok2) (callZ2 hS rfl rfl (by rfl) rfl w4) fun H3 s3 => ?_
  refine ⟨_, rfl, szd (by simp), fun a ha => ⟨szd (by simp), fun l hl => ?_⟩⟩
  exact cat_ok (s3.add ha) (.cons (.str _) (.cons (.tup2 upd_same (.str _) (.bl _)) .nil)) hl (by simp; omega) fun d' H2 n s4 => k d' H2 n s4
theorem turnC (hS : SCall K f (spOf K D)) (ok : isExc S0 IR (D.run [d1, d5] S0) = true) (ok2 : isExc S0 IO (D.run [good_, d5] S0) = true) (w1 : wf S0.length d1 = true) (w5 : wf S0.length d5 = true) (s : St K [(Pt, lamQ)] p H0 ρ S0 [(t, ds), (d, es)] Tu H) (htd : d ≠ t) (hl : ds.length < 900) (hl2 : es.length < 900)
    (k : ∀ d' H2, d' ≠ t → St K [(Pt, lamQ)] p H0 ρ S0 [(t, ds ++ [rw_] ++ [op_]), (d', es ++ [rw_, op_])] Tu H2 → Dx.nx (stk p (dV K ρ d1) (dV K ρ good_) v3 v4 (dV K ρ d5) v6 t d' (some (.ref f)) v10) H2) : bodyC K Pt Dx (stk p (dV K ρ d1) (dV K ρ good_) v3 v4 (dV K ρ d5) v6 t d (some (.ref f)) v10) H := by
  refine tapp_exc s wfS0 htd (by omega) rfl (C := IR) (word := "rewriter") (by decide +kernel) (fun _ => ok) (callZ2 hS rfl rfl w1 rfl w5) fun H2 s2 => ?_
  refine tapp_exc s2 wfS0 htd (by rw [List.length_append]; simp; omega) rfl (C := IO) (word := "operation") (by decide +kernel) (fun _ => ok2) (callZ2 hS rfl rfl (by rfl) rfl w5) fun H3 s3 => ?_
  refine ⟨_, rfl, szd (by simp), fun l hl => ?_⟩
  exact cat_ok s3 (.cons (.str _) (.cons (.str _) .nil)) hl (by simp; omega) fun d' H2 n s4 => k d' H2 n s4
def tfP : PyData := .tuple [.str "told", .bool false]
theorem tf_sh : SeqAt.shaped tfP = true := by decide +kernel
theorem tf_eqv : PyData.eqv tfP tfP = true := SeqAt.eqv_refl _ (by decide +kernel)
theorem dp_tf {H : Hp} {a : Addr} (h : H a = some (.tup [.str "told", .bl false])) : Dp K H (.ref a) tfP := .tup (SqT.of h) (.cons (.str _) (.cons (.bl _) .nil))
theorem told_ok {te : TE} {Wt : List (Addr × List PyData)} {S : List DO} {σ : L2.St} (h : ∀ Q' : VK, (∀ a H2, St K [(Pt, lamQ)] p H0 ρ S Wt Tu H2 → H2 a = some (.tup [.str "told", .bl false]) → Q' (.ref a) H2) → te σ H Q')
    (k : ∀ H2, St K [(Pt, lamQ)] p H0 ρ S Wt Tu H2 → Dx.nx σ H2) : tIfS (tTest (tOp (rNeD K) te (tTup (tCons (tC (V.str (Str.ofString "told"))) (tCons (tC (V.bl false)) tNil))))) (tRet (tC (V.bl false))) tNext Dx σ H := by
  refine h _ fun a H2 s2 ha => ⟨szd (by simp), fun b hb => ?_⟩
  refine ⟨tfP, tfP, dp_tf ?_, dp_tf upd_same, tf_sh, tf_sh, ?_⟩
  · rw [upd_ne fun z => by rw [z, hb] at ha; cases ha]
    exact ha
  · rw [tf_eqv]
    exact ⟨false, rfl, ifF rfl (k _ (s2.add hb))⟩
end
end K5
set_option maxHeartbeats 16000000
namespace K5
open PySem PySem.Spec PyProof.Rows L2 He Hx Hy PO RunX PB
theorem wN : (noneD.all (wf S0.length)) = true := by kernel_rfl
theorem wP : (pathD.all (wf S0.length)) = true := by kernel_rfl
theorem wC : (circD.all (wf S0.length)) = true := by kernel_rfl
theorem wW : (wordD.all (wf S0.length)) = true := by kernel_rfl
theorem wL : (lenD.all (wf S0.length)) = true := by kernel_rfl
theorem wV : (valsD.all (wf S1.length)) = true := by kernel_rfl
section
variable {K : PySem.W.Frag} {Pt : Addr} {p : Addr} {H0 H : Hp} {ρ : List Addr} {Tu : List (Addr × List V)} {t d : Addr} {Dx : Ends} {d1 d3 d4 d5 d6 dv : DV} {x6 : PyData}
/-- one of the values, judged -/
theorem turnD (s : St K [(Pt, lamQ)] p H0 ρ S1 [] Tu H) {v1 v3 v4 v5 v6 : V} {v9 : Option V} (hv : dv ∈ valsD) (k : ∀ v9 H2, St K [(Pt, lamQ)] p H0 ρ S1 [] Tu H2 → Dx.nx (stk p v1 (dV K ρ good_) v3 v4 v5 v6 t d v9 (some (dV K ρ dv))) H2) :
    bodyD K Pt Dx (stk p v1 (dV K ρ good_) v3 v4 v5 v6 t d v9 (some (dV K ρ dv))) H := by
  have wv := List.all_eq_true.mp wV dv hv
  obtain ⟨q12, q3⟩ := ba (List.all_eq_true.mp (v1_ (K := K)) dv hv)
  obtain ⟨q1, q2⟩ := ba q12
  refine ⟨szd (by simp), fun q hq => ⟨q, rfl, ⟨_, SqT.of upd_same⟩, ?_⟩⟩
  have s2 := s.tup (xs := [V.ref (ga K "is_length_paper"), V.ref (ga K "is_circle")]) hq
  refine for_it (walk_tup (xs := [V.ref (ga K "is_length_paper"), V.ref (ga K "is_circle")])) (fun i σ H' => ∃ v9, σ = stk p v1 (dV K ρ good_) v3 v4 v5 v6 t d v9 (some (dV K ρ dv)) ∧ St K [(Pt, lamQ)] p H0 ρ S1 [] ((q, [V.ref (ga K "is_length_paper"), V.ref (ga K "is_circle")]) :: Tu) H') ⟨v9, rfl, s2⟩ (fun i σ H' _ hP => ?_) ?_ ?_
  · obtain ⟨_, _, s'⟩ := hP
    exact SqT.of (s'.tu _ List.mem_cons_self)
  · rintro i x σ H2 H2' hi ⟨v9, rfl, s3⟩ ⟨rfl, hx⟩
    have hi' : i = 0 ∨ i = 1 := by
      have hi : i < 2 := hi
      omega
    rcases hi' with rfl | rfl
    · cases hx
      refine told_ok (fun Q' kq => lam_fls s3 wfS1 (fun _ => q1) (callZ2 (.inr (.inr (.inr (.inr (.inl ⟨rfl, rfl⟩))))) rfl rfl (by rfl) rfl wv) kq) fun H4 s4 => ⟨_, rfl, s4⟩
    · cases hx
      refine told_ok (fun Q' kq => lam_fls s3 wfS1 (fun _ => q2) (callZ2 (.inr (.inr (.inr (.inr (.inr (.inl ⟨rfl, rfl⟩)))))) rfl rfl (by rfl) rfl wv) kq) fun H4 s4 => ⟨_, rfl, s4⟩
  · rintro σ H2 ⟨v9, rfl, s3⟩
    refine told_ok (fun Q' kq => lam_fls s3 wfS1 (fun _ => q3) (callGS rfl (by rfl) rfl wv) kq) fun H4 s4 => k _ _ (s4.forget fun q hq => List.mem_cons_of_mem _ hq)
theorem seq_for {te : TE} {g : TG} {tb u : TS} {D : Ends} {σ : L2.St} {H : Hp} (h : te σ H fun x H1 => ∃ a, x = .ref a ∧ (∃ xs, SqT K H1 a xs) ∧ (∃ W : Nat → Nat → L2.St → Hp → Prop, (∃ m, W 0 m σ H1) ∧ ∀ i m σ H, W i m σ H →
  ((Itt K a).stop i H ∧ u D σ H) ∨ ((Itt K a).go i H ∧ ∃ N : L2.St → Hp → Prop, (∀ σ' H', N σ' H' → ∃ m', m' < m ∧ W (i + 1) m' σ' H') ∧ ∀ x H', (Itt K a).yld i H x H' → g x σ H' fun σ2 H2 => tb { D with nx := N, ct := N, bk := u D } σ2 H2))) : tSeq (tFor (iTup K te) g tb) u D σ H := h
theorem lt_take (n : Nat) (x : PyData) : (List.take n (dueL x)).length < 900 := Nat.lt_of_le_of_lt (List.length_take_le' n (dueL x)) (by simp [dueL])
theorem te7_eq {σ : L2.St} {Q : VK} (h1 : σ[1]? = some (some (dV K ρ d1))) (h3 : σ[3]? = some (some (dV K ρ d3))) (h4 : σ[4]? = some (some (dV K ρ d4))) : te7 K σ H Q = te7 K (dSt K ρ [none, some d1, none, some d3, some d4]) H Q := by
  have g1 : (dSt K ρ [none, some d1, none, some d3, some d4])[1]? = some (some (dV K ρ d1)) := rfl
  have g3 : (dSt K ρ [none, some d1, none, some d3, some d4])[3]? = some (some (dV K ρ d3)) := rfl
  have g4 : (dSt K ρ [none, some d1, none, some d3, some d4])[4]? = some (some (dV K ρ d4)) := rfl
  simp only [te7, L2.tTup, L2.tCons, L2.tVar, h1, h3, h4, g1, g3, g4, L2.tC, L2.tNil, L2.tLst, L2.tDNewK, L2.tDisp, L2.tPairs]
theorem te8_eq {E : XK} (σ τ : L2.St) (H : Hp) (Q : VK) : te8 K E σ H Q = te8 K E τ H Q := by
  simp only [te8, L2.tC, L2.tNil, L2.tLst, L2.tDNewK, L2.tDisp, L2.tPairs, L2.tTup, L2.tCons, L2.tCall, L2.tMake, L2.tUn, L2.tOp]
theorem te9_eq {E : XK} (σ τ : L2.St) (H : Hp) (Q : VK) : te9 K E σ H Q = te9 K E τ H Q := by
  simp only [te9, L2.tC, L2.tNil, L2.tLst, L2.tDNewK, L2.tDisp, L2.tPairs, L2.tTup, L2.tCons, L2.tCall, L2.tMake, L2.tUn, L2.tOp]
theorem vals_step {σ : L2.St} {Q : VK} (s : St K [(Pt, lamQ)] p H0 ρ S0 [] [] H) (h1 : σ[1]? = some (some (dV K ρ d1))) (h3 : σ[3]? = some (some (dV K ρ d3))) (h4 : σ[4]? = some (some (dV K ρ d4))) (w1 : wf S0.length d1 = true) (w3 : wf S0.length d3 = true) (w4 : wf S0.length d4 = true)
    (k : ∀ m H', St K [(Pt, lamQ)] p H0 (ρ ++ m) (S1 ++ [.tup (d1 :: d3 :: d4 :: restD)]) [] [] H' → Q (dV K (ρ ++ m) (.ref 140)) H') : te7 K σ H Q :=
  ev_step s (te := te7 K) (te7_eq h1 h3 h4) (by
    show (true && (wf S0.length d1 && (true && (wf S0.length d3 && (wf S0.length d4 && true))))) = true
    rw [w1, w3, w4]
    rfl) (r7 d1 d3 d4) k
theorem rest_ok (s : St K [(Pt, lamQ)] p H0 ρ S0 [] [] H) (h1 : d1 ∈ noneD) (h3 : d3 ∈ pathD) (h4 : d4 ∈ circD) (h5 : d5 ∈ wordD) (h6 : d6 ∈ lenD) (hx : (d6, x6) ∈ lenP) (kk : ∀ ρ' S' Wt Tu H', St K [(Pt, lamQ)] p H0 ρ' S' Wt Tu H' → Dx.rt (.bl true) H') :
    rest_ K Pt Dx [some (.ref p), some (dV K ρ d1), some (dV K ρ good_), some (dV K ρ d3), some (dV K ρ d4), some (dV K ρ d5), some (dV K ρ d6), none, none, none, none] H := by
  have w1 := List.all_eq_true.mp wN d1 h1
  have w3 := List.all_eq_true.mp wP d3 h3
  have w4 := List.all_eq_true.mp wC d4 h4
  have w5 := List.all_eq_true.mp wW d5 h5
  have w6 := List.all_eq_true.mp wL d6 h6
  have wg : wf S0.length good_ = true := by rfl
  obtain ⟨a3, a4⟩ := ba (List.all_eq_true.mp (n1 (K := K)) d1 h1)
  obtain ⟨a2, a3⟩ := ba a3
  obtain ⟨a1, a2⟩ := ba a2
  obtain ⟨b1, b2⟩ := ba (List.all_eq_true.mp (n2 (K := K)) d1 h1)
  have c3 := List.all_eq_true.mp (List.all_eq_true.mp (n3 (K := K)) d1 h1) d3 h3
  have c4 := List.all_eq_true.mp (List.all_eq_true.mp (n4 (K := K)) d1 h1) d4 h4
  have c5 := List.all_eq_true.mp (List.all_eq_true.mp (n5 (K := K)) d1 h1) d6 h6
  obtain ⟨c6, c8⟩ := ba (List.all_eq_true.mp (List.all_eq_true.mp (n6 (K := K)) d1 h1) d5 h5)
  obtain ⟨c6, c7⟩ := ba c6
  obtain ⟨e1, e3⟩ := ba (List.all_eq_true.mp (g1 (K := K)) d4 h4)
  obtain ⟨e1, e2⟩ := ba e1
  have e4 := List.all_eq_true.mp (g2 (K := K)) d3 h3
  have e5 := List.all_eq_true.mp (g3 (K := K)) d6 h6
  obtain ⟨e6, e8⟩ := ba (List.all_eq_true.mp (g4 (K := K)) d5 h5)
  obtain ⟨e6, e7⟩ := ba e6
  -- told, due
  refine ⟨szd (by simp), fun t ht => ⟨szd (by simp), fun d hd => ⟨_, _, rfl, ?_⟩⟩⟩
  have htd : d ≠ t := fun z => by
    rw [z, upd_same] at hd
    cases hd
  have s1 := ((s.list ht TDs.nil).list hd TDs.nil).swap
  generalize upd (upd H t (.lst [])) d (.lst []) = H1 at s1
  -- the first loop
  refine ⟨szd (by simp), fun q hq => ⟨q, rfl, ⟨_, SqT.of upd_same⟩, ?_⟩⟩
  have s2 := s1.tup (xs := [V.ref (ga K "length_paper"), V.ref (ga K "length_bounds"), V.ref (ga K "is_even"), V.ref (ga K "state_differences")]) hq
  refine for_it (walk_tup (xs := [V.ref (ga K "length_paper"), V.ref (ga K "length_bounds"), V.ref (ga K "is_even"), V.ref (ga K "state_differences")])) (fun i σ H' => ∃ v9, σ = stk p (dV K ρ d1) (dV K ρ good_) (dV K ρ d3) (dV K ρ d4) (dV K ρ d5) (dV K ρ d6) t d v9 none ∧ St K [(Pt, lamQ)] p H0 ρ S0 [(t, List.replicate i rw_), (d, List.replicate i rw_)] [(q, [V.ref (ga K "length_paper"), V.ref (ga K "length_bounds"), V.ref (ga K "is_even"), V.ref (ga K "state_differences")])] H') ⟨none, rfl, s2⟩ (fun i σ H' _ hP => ?_) ?_ ?_
  · obtain ⟨_, _, s'⟩ := hP
    exact SqT.of (s'.tu _ List.mem_cons_self)
  · rintro i x σ H2 H2' hi ⟨v9, rfl, s3⟩ ⟨rfl, hx⟩
    have hi' : i = 0 ∨ i = 1 ∨ i = 2 ∨ i = 3 := by
      have hi : i < 4 := hi
      omega
    rcases hi' with rfl | rfl | rfl | rfl
    · cases hx
      exact turnA (.inl ⟨rfl, rfl⟩) a1 w1 s3 htd (by decide) (by decide) fun H4 s4 => ⟨_, rfl, s4⟩
    · cases hx
      exact turnA (.inr (.inl ⟨rfl, rfl⟩)) a2 w1 s3 htd (by decide) (by decide) fun H4 s4 => ⟨_, rfl, s4⟩
    · cases hx
      exact turnA (.inr (.inr (.inl ⟨rfl, rfl⟩))) a3 w1 s3 htd (by decide) (by decide) fun H4 s4 => ⟨_, rfl, s4⟩
    · cases hx
      exact turnA (.inr (.inr (.inr (.inl ⟨rfl, rfl⟩)))) a4 w1 s3 htd (by decide) (by decide) fun H4 s4 => ⟨_, rfl, s4⟩
  rintro σ H2 ⟨v9, rfl, s3⟩
  have s4 : St K [(Pt, lamQ)] p H0 ρ S0 [(t, [rw_, rw_, rw_, rw_]), (d, [rw_, rw_, rw_, rw_])] [] H2 := s3.forget (by simp)
  -- the second loop
  refine ⟨szd (by simp), fun q2 hq2 => ⟨q2, rfl, ⟨_, SqT.of upd_same⟩, ?_⟩⟩
  have s5 := s4.tup (xs := [V.ref (ga K "is_length_paper"), V.ref (ga K "is_circle")]) hq2
  refine for_it (walk_tup (xs := [V.ref (ga K "is_length_paper"), V.ref (ga K "is_circle")])) (fun i σ H' => ∃ d' v9, σ = stk p (dV K ρ d1) (dV K ρ good_) (dV K ρ d3) (dV K ρ d4) (dV K ρ d5) (dV K ρ d6) t d' v9 none ∧ d' ≠ t ∧ St K [(Pt, lamQ)] p H0 ρ S0 [(t, (dueL x6).take (4 + 2 * i)), (d', (dueL x6).take (4 + 2 * i))] [(q2, [V.ref (ga K "is_length_paper"), V.ref (ga K "is_circle")])] H') ⟨d, v9, rfl, htd, s5⟩ (fun i σ H' _ hP => ?_) ?_ ?_
  · obtain ⟨_, _, _, _, s'⟩ := hP
    exact SqT.of (s'.tu _ List.mem_cons_self)
  · rintro i x σ H3 H3' hi ⟨d', v9, rfl, htd', s3⟩ ⟨rfl, hx⟩
    have hi' : i = 0 ∨ i = 1 := by
      have hi : i < 2 := hi
      omega
    rcases hi' with rfl | rfl
    · cases hx
      exact turnB (.inr (.inr (.inr (.inr (.inl ⟨rfl, rfl⟩))))) b1 e1 w1 w4 s3 htd' (lt_take _ _) (lt_take _ _) fun d2 H4 n s4 => ⟨_, _, rfl, n, s4⟩
    · cases hx
      exact turnB (.inr (.inr (.inr (.inr (.inr (.inl ⟨rfl, rfl⟩)))))) b2 e2 w1 w4 s3 htd' (lt_take _ _) (lt_take _ _) fun d2 H4 n s4 => ⟨_, _, rfl, n, s4⟩
  rintro σ H3 ⟨d', v9', rfl, htd', s6⟩
  have s7 : St K [(Pt, lamQ)] p H0 ρ S0 [(t, [rw_, rw_, rw_, rw_, rw_, tf_, rw_, tf_]), (d', [rw_, rw_, rw_, rw_, rw_, tf_, rw_, tf_])] [] H3 := s6.forget (by simp)
  -- six calls
  refine tapp_exc s7 wfS0 htd' (by decide) rfl (C := IR) (word := "rewriter") (by decide +kernel) (fun _ => c3) (callG2 rfl w1 rfl w3) fun Ha sa => ?_
  refine tapp_exc sa wfS0 htd' (by decide) rfl (C := IO) (word := "operation") (by decide +kernel) (fun _ => e4) (callG2 rfl wg rfl w3) fun Hb sb => ?_
  refine tapp_exc sb wfS0 htd' (by decide) rfl (C := IR) (word := "rewriter") (by decide +kernel) (fun _ => c4) (callG2 rfl w1 rfl w4) fun Hc sc => ?_
  refine tapp_exc sc wfS0 htd' (by decide) rfl (C := IO) (word := "operation") (by decide +kernel) (fun _ => e3) (callG2 rfl wg rfl w4) fun Hd sd => ?_
  refine tapp_exc sd wfS0 htd' (by decide) rfl (C := IR) (word := "rewriter") (by decide +kernel) (fun _ => c5) (callG2 rfl w1 rfl w6) fun He se => ?_
  refine tapp_num se wfS0 htd' (by decide) rfl w6 (fun H R => td_len hx R) (fun _ => e5) (callG2 rfl wg rfl w6) fun Hf sf => ?_
  refine ⟨_, rfl, _, rfl, szd (by simp), fun a ha => ⟨szd (by simp), fun l hl => ?_⟩⟩
  refine cat_ok (sf.add ha) (fs := [rw_, op_, rw_, op_, rw_, .tuple [.str "number", x6]]) (.cons (.str _) (.cons (.str _) (.cons (.str _) (.cons (.str _) (.cons (.str _) (.cons (.tup2 upd_same (.str _) (td_len hx (sf.add ha).rep)) .nil)))))) hl (by simp) fun d2 H4 n2 s8 => ?_
  -- the third loop
  refine ⟨szd (by simp), fun q3 hq3 => ⟨q3, rfl, ⟨_, SqT.of upd_same⟩, ?_⟩⟩
  have s9 := s8.tup (xs := [V.ref (ga K "rate"), V.ref (ga K "rate_paper")]) hq3
  refine for_it (walk_tup (xs := [V.ref (ga K "rate"), V.ref (ga K "rate_paper")])) (fun i σ H' => ∃ d' v9, σ = stk p (dV K ρ d1) (dV K ρ good_) (dV K ρ d3) (dV K ρ d4) (dV K ρ d5) (dV K ρ d6) t d' v9 none ∧ d' ≠ t ∧ St K [(Pt, lamQ)] p H0 ρ S0 [(t, (dueL x6).take (14 + 2 * i)), (d', (dueL x6).take (14 + 2 * i))] [(q3, [V.ref (ga K "rate"), V.ref (ga K "rate_paper")])] H') ⟨d2, v9', rfl, n2, s9⟩ (fun i σ H' _ hP => ?_) ?_ ?_
  · obtain ⟨_, _, _, _, s'⟩ := hP
    exact SqT.of (s'.tu _ List.mem_cons_self)
  · rintro i x σ H3 H3' hi ⟨d', v9, rfl, htd', s3⟩ ⟨rfl, hx⟩
    have hi' : i = 0 ∨ i = 1 := by
      have hi : i < 2 := hi
      omega
    rcases hi' with rfl | rfl
    · cases hx
      exact turnC (.inr (.inr (.inr (.inr (.inr (.inr (.inl ⟨rfl, rfl⟩))))))) c6 e6 w1 w5 s3 htd' (lt_take _ _) (lt_take _ _) fun d2 H4 n s4 => ⟨_, _, rfl, n, s4⟩
    · cases hx
      exact turnC (.inr (.inr (.inr (.inr (.inr (.inr (.inr ⟨rfl, rfl⟩))))))) c7 e7 w1 w5 s3 htd' (lt_take _ _) (lt_take _ _) fun d2 H4 n s4 => ⟨_, _, rfl, n, s4⟩
  rintro σ H5 ⟨d3', v9'', rfl, htd3, sg⟩
  have sh : St K [(Pt, lamQ)] p H0 ρ S0 [(t, (dueL x6).take 18), (d3', (dueL x6).take 18)] [] H5 := sg.forget (by simp)
  -- four calls
  refine tapp_exc sh wfS0 htd3 (by simp [dueL]) rfl (C := IR) (word := "rewriter") (by decide +kernel) (fun _ => c8) (callG2N rfl w1 rfl w5) fun Ha si => ?_
  refine tapp_exc si wfS0 htd3 (by simp [dueL]) rfl (C := IO) (word := "operation") (by decide +kernel) (fun _ => e8) (callG2N rfl wg rfl w5) fun Hb sj => ?_
  refine tapp_exc sj wfS0 htd3 (by simp [dueL]) rfl (C := IO) (word := "operation") (by decide +kernel) x8 (fun H1 E Q' q run R post => (te8_eq (K := K) (E := E) (dSt K ρ []) _ H1 Q').mp ((inferInstance : EvE K E (te8 K E)).ok (σ := []) run rfl R post)) fun Hc sk => ?_
  refine tapp_exc sk wfS0 htd3 (by simp [dueL]) rfl (C := IO) (word := "operation") (by decide +kernel) x9 (fun H1 E Q' q run R post => (te9_eq (K := K) (E := E) (dSt K ρ []) _ H1 Q').mp ((inferInstance : EvE K E (te9 K E)).ok (σ := []) run rfl R post)) fun Hd sl => ?_
  refine ⟨_, rfl, szd (by simp), fun l2 hl2 => ?_⟩
  refine cat_ok sl (fs := [rw_, op_, op_, op_]) (.cons (.str _) (.cons (.str _) (.cons (.str _) (.cons (.str _) .nil)))) hl2 (by simp [dueL]) fun d4' H6 n4 sm => ?_
  have sn : St K [(Pt, lamQ)] p H0 ρ S0 [(t, dueL x6), (d4', dueL x6)] [] H6 := sm
  -- repr(told) != repr(due)
  obtain ⟨f1, f2⟩ := ba (List.all_eq_true.mp due_sh _ hx)
  obtain ⟨f2, f3⟩ := ba f2
  have f2 := of_decide_eq_true f2
  have f3 := szd (of_decide_eq_true f3)
  obtain ⟨_, _, _, xs, k4, k5⟩ := sn.wt (t, dueL x6) (by simp)
  obtain ⟨_, _, _, ys, k6, k7⟩ := sn.wt (d4', dueL x6) (by simp)
  refine ⟨_, rfl, t, .list (dueL x6), rfl, .lst k4 k5.drs, f1, f2, f3, _, rfl, d4', .list (dueL x6), rfl, .lst k6 k7.drs, f1, f2, f3, rfl, ?_⟩
  rw [decide_eq_true rfl]
  refine ⟨false, rfl, ifF rfl ?_⟩
  -- the values
  show tSeq (tFor (iTup K (te7 K)) (gName 10) (bodyD K Pt)) (tRet (tC (V.bl true))) Dx _ _
  refine seq_for (vals_step (sn.perm (Wt' := []) (by simp)) rfl rfl rfl w1 w3 w4 fun m H7 so => ?_)
  have g := (so.rep.get (n := 140) (o := .tup (d1 :: d3 :: d4 :: restD)) (by rfl)).1
  have hlen : (ρ ++ m).length = 141 := so.len
  have hlr : ρ.length = S0.length := s.len
  have eg : dV K ρ good_ = dV K (ρ ++ m) good_ := (dV_app (by rw [hlr]; exact wg)).symm
  rw [eg]
  have ed : ρ ++ m = (ρ ++ m).take 140 ++ (ρ ++ m).drop 140 := (List.take_append_drop 140 (ρ ++ m)).symm
  have hl1 : ((ρ ++ m).take 140).length = S1.length := by
    rw [List.length_take, hlen]
    rfl
  have hval : ∀ v, wf S1.length v = true → dV K (ρ ++ m) v = dV K ((ρ ++ m).take 140) v := fun v hv => by
    have z := dV_app (K := K) (m := (ρ ++ m).drop 140) (v := v) (by rw [hl1]; exact hv)
    rw [← ed] at z
    exact z
  have sp' : St K [(Pt, lamQ)] p H0 ((ρ ++ m).take 140) S1 [] [] H7 := by
    rw [ed] at so
    exact so.drop hl1 (by rfl) wfS1
  rw [hval good_ (by rfl)]
  have hmem : ∀ v ∈ d1 :: d3 :: d4 :: restD, v ∈ valsD := fun v hv => by
    simp only [List.mem_cons] at hv
    simp only [valsD, List.mem_append]
    rcases hv with rfl | rfl | rfl | hv
    · exact .inl (.inl (.inl h1))
    · exact .inl (.inl (.inr h3))
    · exact .inl (.inr h4)
    · exact .inr hv
  have g2 : H7 ((ρ ++ m).getD 140 0) = some (.tup ((d1 :: d3 :: d4 :: restD).map (dV K ((ρ ++ m).take 140)))) := by
    rw [g]
    exact congrArg (fun z => some (HO.tup z)) (List.map_congr_left fun v hv => hval v (List.all_eq_true.mp wV v (hmem v hv)))
  obtain ⟨a7, ha7⟩ : ∃ a, a = (ρ ++ m).getD 140 0 := ⟨_, rfl⟩
  rw [← ha7] at g2
  have ea : dV K (ρ ++ m) (.ref 140) = .ref a7 := by
    rw [ha7]
    rfl
  generalize hρ1 : (ρ ++ m).take 140 = ρ1 at *
  refine ⟨a7, ea, ⟨_, SqT.of g2⟩, ?_⟩
  have sq := sp'.watch g2
  refine for_it (g := gName 10) (tb := bodyD K Pt) (D := { Dx with nx := tRet (tC (V.bl true)) Dx }) (walk_tup (xs := (d1 :: d3 :: d4 :: restD).map (dV K ρ1))) (fun i σ H' => ∃ v9 v10, σ = stk p (dV K ρ d1) (dV K ρ1 good_) (dV K ρ d3) (dV K ρ d4) (dV K ρ d5) (dV K ρ d6) t d4' v9 v10 ∧ St K [(Pt, lamQ)] p H0 ρ1 S1 [] [(a7, (d1 :: d3 :: d4 :: restD).map (dV K ρ1))] H') ⟨_, _, rfl, sq⟩ (fun i σ H' _ hP => ?_) ?_ ?_
  · obtain ⟨_, _, _, s'⟩ := hP
    exact SqT.of (s'.tu _ List.mem_cons_self)
  · rintro i x σ H8 H8' hi ⟨v9, v10, rfl, s3⟩ ⟨rfl, hx⟩
    rw [List.getElem?_map] at hx
    obtain ⟨dv, hdv, rfl⟩ := Option.map_eq_some_iff.mp hx
    exact turnD s3 (hmem dv (List.mem_of_getElem? hdv)) fun v9 H9 s4 => ⟨_, _, rfl, s4⟩
  · rintro σ H8 ⟨v9, v10, rfl, s3⟩
    exact kk _ _ _ _ _ s3
end
end K5
set_option maxHeartbeats 16000000
namespace K5
open PySem PySem.Spec PyProof.Rows L2 He Hx Hy PO RunX PB
abbrev drawT (K : PySem.W.Frag) (te : TE) : TE := tCall (spPick K) [] E0 (tCons (tVar 0) (tCons te tNil))
abbrev top_ (K : PySem.W.Frag) (Pt : Addr) : TS := tSeq (tAsg (drawT K (te1 K)) (gName 1)) (tSeq (tAsg (te2 K) (gName 2)) (tSeq (tAsg (drawT K (te3 K)) (gName 3)) (tSeq (tAsg (drawT K (te4 K)) (gName 4)) (tSeq (tAsg (drawT K (te5 K)) (gName 5)) (tSeq (tAsg (drawT K (te6 K)) (gName 6)) (rest_ K Pt))))))
section
variable {K : PySem.W.Frag} {Pt : Addr} {p : Addr} {H0 H : Hp} {Dx : Ends}
theorem te1_eq (σ τ : L2.St) (H : Hp) (Q : VK) : te1 K σ H Q = te1 K τ H Q := by
  simp only [te1, L2.tC, L2.tNil, L2.tLst, L2.tDNewK, L2.tDisp, L2.tPairs, L2.tTup, L2.tCons, L2.tCall, L2.tMake, L2.tUn, L2.tOp]
theorem te2_eq (σ τ : L2.St) (H : Hp) (Q : VK) : te2 K σ H Q = te2 K τ H Q := by
  simp only [te2, L2.tC, L2.tNil, L2.tLst, L2.tDNewK, L2.tDisp, L2.tPairs, L2.tTup, L2.tCons, L2.tCall, L2.tMake, L2.tUn, L2.tOp]
theorem te3_eq (σ τ : L2.St) (H : Hp) (Q : VK) : te3 K σ H Q = te3 K τ H Q := by
  simp only [te3, L2.tC, L2.tNil, L2.tLst, L2.tDNewK, L2.tDisp, L2.tPairs, L2.tTup, L2.tCons, L2.tCall, L2.tMake, L2.tUn, L2.tOp]
theorem te4_eq (σ τ : L2.St) (H : Hp) (Q : VK) : te4 K σ H Q = te4 K τ H Q := by
  simp only [te4, L2.tC, L2.tNil, L2.tLst, L2.tDNewK, L2.tDisp, L2.tPairs, L2.tTup, L2.tCons, L2.tCall, L2.tMake, L2.tUn, L2.tOp]
theorem te5_eq (σ τ : L2.St) (H : Hp) (Q : VK) : te5 K σ H Q = te5 K τ H Q := by
  simp only [te5, L2.tC, L2.tNil, L2.tLst, L2.tDNewK, L2.tDisp, L2.tPairs, L2.tTup, L2.tCons, L2.tCall, L2.tMake, L2.tUn, L2.tOp]
theorem te6_eq (σ τ : L2.St) (H : Hp) (Q : VK) : te6 K σ H Q = te6 K τ H Q := by
  simp only [te6, L2.tC, L2.tNil, L2.tLst, L2.tDNewK, L2.tDisp, L2.tPairs, L2.tTup, L2.tCons, L2.tCall, L2.tMake, L2.tUn, L2.tOp]
theorem l8 : (S0.take 8).length = 8 := by kernel_rfl
theorem l92 : (S0.take 92).length = 92 := by kernel_rfl
theorem l108 : (S0.take 108).length = 108 := by kernel_rfl
theorem l118 : (S0.take 118).length = 118 := by kernel_rfl
theorem l120 : (S0.take 120).length = 120 := by kernel_rfl
theorem wN8 : (noneD.all (wf 8)) = true := by kernel_rfl
theorem wP8 : (pathD.all (wf 108)) = true := by kernel_rfl
theorem wC8 : (circD.all (wf 118)) = true := by kernel_rfl
theorem wW8 : (wordD.all (wf 120)) = true := by kernel_rfl
theorem wle {a b : Nat} {l : Nat} {v : DV} (h : wf a v = true) (e : l = b) (c : a ≤ b) : wf l v = true := by
  subst e
  exact wf_le c h
theorem top_ok (s0 : St K [(Pt, lamQ)] p H0 [] [] [] [] H) (kk : ∀ ρ' S' Wt Tu H', St K [(Pt, lamQ)] p H0 ρ' S' Wt Tu H' → Dx.rt (.bl true) H') :
    top_ K Pt Dx [some (.ref p), none, none, none, none, none, none, none, none, none, none] H := by
  refine seq_set (draw_step s0 rfl (te := te1 K) (te1_eq _ _ _) r1 (ds := noneD) (by rfl) (by simp [noneD]) (by simp [noneD]) fun m1 H1 d1 h1 z1 => ?_)
  refine seq_set (ev_step z1 (te := te2 K) (σd := []) (te2_eq _ _ _ _) rfl r2 fun m2 H2 z2 => ?_)
  refine seq_set (draw_step z2 rfl (te := te3 K) (te3_eq _ _ _) r3 (ds := pathD) (by rfl) (by simp [pathD]) (by simp [pathD]) fun m3 H3 d3 h3 z3 => ?_)
  refine seq_set (draw_step z3 rfl (te := te4 K) (te4_eq _ _ _) r4 (ds := circD) (by rfl) (by simp [circD]) (by simp [circD]) fun m4 H4 d4 h4 z4 => ?_)
  refine seq_set (draw_step z4 rfl (te := te5 K) (te5_eq _ _ _) r5 (ds := wordD) (by rfl) (by simp [wordD]) (by simp [wordD]) fun m5 H5 d5 h5 z5 => ?_)
  refine seq_set (draw_step z5 rfl (te := te6 K) (te6_eq _ _ _) r6 (ds := lenD) (by rfl) (by simp [lenD]) (by simp [lenD]) fun m6 H6 d6 h6 z6 => ?_)
  obtain ⟨x6, hx⟩ := len_at h6
  have b1 := List.all_eq_true.mp wN8 d1 h1
  have b3 := List.all_eq_true.mp wP8 d3 h3
  have b4 := List.all_eq_true.mp wC8 d4 h4
  have b5 := List.all_eq_true.mp wW8 d5 h5
  have bg : wf 92 good_ = true := rfl
  have e1 := (z5.val (m := m6) (wle b1 l120 (by decide))).trans ((z4.val (m := m5) (wle b1 l118 (by decide))).trans ((z3.val (m := m4) (wle b1 l108 (by decide))).trans ((z2.val (m := m3) (wle b1 l92 (by decide))).trans (z1.val (m := m2) (wle b1 l8 (by decide))))))
  have eg := (z5.val (m := m6) (wle bg l120 (by decide))).trans ((z4.val (m := m5) (wle bg l118 (by decide))).trans ((z3.val (m := m4) (wle bg l108 (by decide))).trans (z2.val (m := m3) (wle bg l92 (by decide)))))
  have e3 := (z5.val (m := m6) (wle b3 l120 (by decide))).trans ((z4.val (m := m5) (wle b3 l118 (by decide))).trans (z3.val (m := m4) (wle b3 l108 (by decide))))
  have e4 := (z5.val (m := m6) (wle b4 l120 (by decide))).trans (z4.val (m := m5) (wle b4 l118 (by decide)))
  have e5 := z5.val (m := m6) (wle b5 l120 (by decide))
  have r := rest_ok z6 h1 h3 h4 h5 h6 hx kk
  rw [e1, eg, e3, e4, e5] at r
  exact r
end
end K5
set_option maxHeartbeats 16000000
namespace K5
open PySem PySem.Spec PyProof.Rows L2 He Hx Hy PO RunX PB
section
variable {P : Program} {w : World} {K : PySem.W.Frag} {mg : Str → Option Value} {base : Heap} {cd Pt : Addr}
theorem ok_right (T : Tx K mg) (TB : LamX.TabB base mg cd Pt) {fd : FuncData} (F : FunD K "_law_right" "_law_right" (defArgs s_right) (defBody s_right) (defScope s_right) [] [] (ga K "_law_right") fd) (hc : fd.code = .ref cd) : FnG P w K mg base CX0 11 (ga K "_law_right") fd ["sack"] (spRight K Pt) := by
  obtain ⟨g_lone, k_lone, fd_lone, G_lone, b_lone⟩ := ok_lone (P := P) (w := w) (base := base) T
  obtain ⟨g_difference, k_difference, fd_difference, G_difference, b_difference⟩ := ok_difference (P := P) (w := w) (base := base) T
  obtain ⟨g_rate_of, k_rate_of, fd_rate_of, G_rate_of, b_rate_of⟩ := ok_rate_of (P := P) (w := w) (base := base) T
  obtain ⟨g_result_lengths, k_result_lengths, fd_result_lengths, G_result_lengths, b_result_lengths⟩ := ok_result_lengths (P := P) (w := w) (base := base) T
  obtain ⟨g_is_rate_paper, k_is_rate_paper, fd_is_rate_paper, G_is_rate_paper, b_is_rate_paper⟩ := ok_is_rate_paper (P := P) (w := w) (base := base) T
  obtain ⟨g_rate_paper, k_rate_paper, fd_rate_paper, G_rate_paper, b_rate_paper⟩ := ok_rate_paper (P := P) (w := w) (base := base) T
  obtain ⟨g_state_differences, k_state_differences, fd_state_differences, G_state_differences, b_state_differences⟩ := ok_state_differences (P := P) (w := w) (base := base) T
  obtain ⟨k_rwInit, fd_rwInit, G_rwInit, b_rwInit⟩ := ok_rwInit (P := P) (w := w) (base := base) T
  obtain ⟨fd_t, F_t⟩ := T.fn_met
  have k_t : PySem.W.keepIn K (.ref (ga K "_law_met")) = true := F_t.kp
  have b_t : L2.Binds K fd_t ["call"] [] := F_t.bindsN (fun _ _ _ _ _ _ us hl => match us, hl with | [_], _ => rfl)
  obtain ⟨oc_t, od_t, dV_t, kV_t, doc_t, pm_t, an_t, cdv_t, ct_t, osl_t, e_t, lk_t, hcd_t, _, _⟩ := F_t.ex
  subst e_t
  refine fnG_at F hc sc_right (fun vs H Q E h => ?_) (fun A outer s H vs Q E hg hr h => ?_)
  · obtain ⟨p, rfl, _⟩ := h
    rfl
  refine ⟨top_ K Pt, PSs.nox (
    (pss_cons (ps_set (i := 1) sc_right.nd rfl (Or.inr rfl) (by exact (pe_call (E := E0) G_lone (hr.mono (by decide)) (by rfl) g_lone k_lone b_lone .nil passX0 (pa_cons (pv 0) (pa_cons (pe_lst (pa_cons pe_non (pa_cons (pe_tup pa_nil) (pa_cons pe_int (pa_cons pe_str (pa_cons (pe_tup (pa_cons pe_str (pa_cons pe_dnewK (pa_cons (pe_tup pa_nil) (pa_cons pe_dnewK pa_nil))))) (pa_cons (pe_lst (pa_cons pe_int pa_nil)) (pa_cons pe_dnewK (pa_cons pe_bl pa_nil))))))))) pa_nil)))))
    (pss_cons (ps_set (i := 2) sc_right.nd rfl (Or.inr rfl) (by exact (pe_make (E := E0) (T.c_Rewriter).2 G_rwInit (hr.mono (by decide)) (by rfl) T.g_Rewriter b_rwInit .nil passX0 (pa_cons pe_str (pa_cons (pe_disp (pps_cons pe_int pe_str pps_nil) rfl rfl (by simp) (by decide)) (pa_cons (pe_tup (pa_cons (pe_tup (pa_cons pe_int (pa_cons pe_str (pa_cons pe_str (pa_cons pe_int pa_nil))))) (pa_cons (pe_tup (pa_cons pe_int (pa_cons pe_str (pa_cons pe_str (pa_cons pe_int pa_nil))))) pa_nil))) (pa_cons (pe_disp (pps_cons pe_int pe_str (pps_cons pe_int pe_str pps_nil)) rfl rfl (by simp) (by decide)) pa_nil)))))))
    (pss_cons (ps_set (i := 3) sc_right.nd rfl (Or.inr rfl) (by exact (pe_call (E := E0) G_lone (hr.mono (by decide)) (by rfl) g_lone k_lone b_lone .nil passX0 (pa_cons (pv 0) (pa_cons (pe_lst (pa_cons pe_non (pa_cons (pe_tup pa_nil) (pa_cons (pe_tup (pa_cons pe_int (pa_cons (pe_tup pa_nil) pa_nil))) (pa_cons (pe_tup (pa_cons pe_int (pa_cons (pe_lst (pa_cons (pe_tup (pa_cons pe_int (pa_cons pe_str (pa_cons pe_str (pa_cons pe_int pa_nil))))) pa_nil)) pa_nil))) (pa_cons (pe_tup (pa_cons pe_int (pa_cons (pe_tup (pa_cons (pe_tup (pa_cons pe_int (pa_cons pe_str (pa_cons pe_str (pa_cons pe_int pa_nil))))) pa_nil)) pa_nil))) (pa_cons (pe_tup (pa_cons pe_int (pa_cons (pe_tup (pa_cons (pe_tup (pa_cons pe_int (pa_cons pe_str (pa_cons pe_str (pa_cons pe_int pa_nil))))) pa_nil)) pa_nil))) (pa_cons (pe_tup (pa_cons pe_bl (pa_cons (pe_tup pa_nil) pa_nil))) (pa_cons pe_int (pa_cons (pe_tup (pa_cons pe_int pa_nil)) pa_nil)))))))))) pa_nil)))))
    (pss_cons (ps_set (i := 4) sc_right.nd rfl (Or.inr rfl) (by exact (pe_call (E := E0) G_lone (hr.mono (by decide)) (by rfl) g_lone k_lone b_lone .nil passX0 (pa_cons (pv 0) (pa_cons (pe_lst (pa_cons pe_non (pa_cons (pe_tup pa_nil) (pa_cons (pe_tup (pa_cons (pe_tup (pa_cons pe_int (pa_cons pe_str (pa_cons pe_str (pa_cons pe_int pa_nil))))) pa_nil)) (pa_cons (pe_lst (pa_cons (pe_tup (pa_cons pe_int (pa_cons pe_str (pa_cons pe_str (pa_cons pe_int pa_nil))))) (pa_cons (pe_tup (pa_cons pe_int (pa_cons pe_str (pa_cons pe_str (pa_cons pe_int pa_nil))))) pa_nil))) (pa_cons (pe_tup (pa_cons (pe_tup (pa_cons pe_int (pa_cons pe_str (pa_cons pe_str (pa_cons pe_int pa_nil))))) (pa_cons (pe_tup (pa_cons pe_int (pa_cons pe_str (pa_cons pe_str (pa_cons pe_int pa_nil))))) pa_nil))) (pa_cons pe_int (pa_cons pe_str pa_nil)))))))) pa_nil)))))
    (pss_cons (ps_set (i := 5) sc_right.nd rfl (Or.inr rfl) (by exact (pe_call (E := E0) G_lone (hr.mono (by decide)) (by rfl) g_lone k_lone b_lone .nil passX0 (pa_cons (pv 0) (pa_cons (pe_lst (pa_cons pe_non (pa_cons pe_str (pa_cons pe_str (pa_cons pe_str (pa_cons pe_int (pa_cons (pe_tup (pa_cons pe_str pa_nil)) (pa_cons pe_bl pa_nil)))))))) pa_nil)))))
    (pss_cons (ps_set (i := 6) sc_right.nd rfl (Or.inr rfl) (by exact (pe_call (E := E0) G_lone (hr.mono (by decide)) (by rfl) g_lone k_lone b_lone .nil passX0 (pa_cons (pv 0) (pa_cons (pe_lst (pa_cons pe_non (pa_cons (pe_un un_neg pe_int) (pa_cons pe_int (pa_cons pe_bl (pa_cons pe_str (pa_cons (pe_tup (pa_cons pe_int pa_nil)) (pa_cons (pe_op op_pow pe_int pe_int) pa_nil)))))))) pa_nil)))))
    (pss_cons (ps_par (i := 7) (j := 8) (by rfl) sc_right.nd rfl rfl (by decide) rfl rfl (pa_cons (pe_lst pa_nil) (pa_cons (pe_lst pa_nil) pa_nil)) (by rfl))
    (pss_cons (ps_for PassesOwn.never rfl (pi_tup (pe_tup (pa_cons (pe_glob (v := .ref (ga K "length_paper")) (by rfl) T.g_length_paper rfl) (pa_cons (pe_glob (v := .ref (ga K "length_bounds")) (by rfl) T.g_length_bounds rfl) (pa_cons (pe_glob (v := .ref (ga K "is_even")) (by rfl) T.g_is_even rfl) (pa_cons (pe_glob (v := .ref (ga K "state_differences")) (by rfl) T.g_state_differences rfl) pa_nil)))))) (pg_name (i := 9) sc_right.nd rfl (Or.inr rfl)) (pss_cons (ps_expr (pe_bm PySem.F.plainAttrs_list PySem.F.slot_list_append PySem.F.type_list_append mt_append (pv 7) (pa_cons (LamX.pe_lamcall (T := [(Pt, lamQ)]) (TT := TTmet K) (Ng := ["call", "e"]) (a := "call") (k := 8) (by rfl) T.g_met k_t lk_t hcd_t b_t sc_met rfl (Or.inl rfl) (met_gives T rfl rfl rfl rfl) TB rfl (List.mem_singleton.mpr rfl) (fun p hp _ => by rw [List.mem_singleton.mp hp] <;> rfl) (hr.mono (by decide)) (LamX.lamS_by (sc := defScope s_right) (by decide +kernel)) rfl (fun _ _ _ _ _ => rfl) (fun A outer s H E f c' hr2 => (pe_callZ (i := 9) (E := E) (scall T) (hr2.mono (by decide)) rfl (Or.inr (Or.inr rfl)) (passes_call (takes_of rfl rfl rfl rfl) (fun _ _ _ _ h => h)) (pa_cons (pv 1) pa_nil)))) pa_nil)))
    (pss_one (ps_expr (pe_bm PySem.F.plainAttrs_list PySem.F.slot_list_append PySem.F.type_list_append mt_append (pv 8) (pa_cons pe_str pa_nil))))))
    (pss_cons (ps_for PassesOwn.never rfl (pi_tup (pe_tup (pa_cons (pe_glob (v := .ref (ga K "is_length_paper")) (by rfl) T.g_is_length_paper rfl) (pa_cons (pe_glob (v := .ref (ga K "is_circle")) (by rfl) T.g_is_circle rfl) pa_nil)))) (pg_name (i := 9) sc_right.nd rfl (Or.inr rfl)) (pss_cons (ps_expr (pe_bm PySem.F.plainAttrs_list PySem.F.slot_list_append PySem.F.type_list_append mt_append (pv 7) (pa_cons (LamX.pe_lamcall (T := [(Pt, lamQ)]) (TT := TTmet K) (Ng := ["call", "e"]) (a := "call") (k := 8) (by rfl) T.g_met k_t lk_t hcd_t b_t sc_met rfl (Or.inl rfl) (met_gives T rfl rfl rfl rfl) TB rfl (List.mem_singleton.mpr rfl) (fun p hp _ => by rw [List.mem_singleton.mp hp] <;> rfl) (hr.mono (by decide)) (LamX.lamS_by (sc := defScope s_right) (by decide +kernel)) rfl (fun _ _ _ _ _ => rfl) (fun A outer s H E f c' hr2 => (pe_callZ (i := 9) (E := E) (scall T) (hr2.mono (by decide)) rfl (Or.inr (Or.inr rfl)) (passes_call (takes_of rfl rfl rfl rfl) (fun _ _ _ _ h => h)) (pa_cons (pv 1) (pa_cons pe_non pa_nil))))) pa_nil)))
    (pss_cons (ps_expr (pe_bm PySem.F.plainAttrs_list PySem.F.slot_list_append PySem.F.type_list_append mt_append (pv 7) (pa_cons (LamX.pe_lamcall (T := [(Pt, lamQ)]) (TT := TTmet K) (Ng := ["call", "e"]) (a := "call") (k := 8) (by rfl) T.g_met k_t lk_t hcd_t b_t sc_met rfl (Or.inl rfl) (met_gives T rfl rfl rfl rfl) TB rfl (List.mem_singleton.mpr rfl) (fun p hp _ => by rw [List.mem_singleton.mp hp] <;> rfl) (hr.mono (by decide)) (LamX.lamS_by (sc := defScope s_right) (by decide +kernel)) rfl (fun _ _ _ _ _ => rfl) (fun A outer s H E f c' hr2 => (pe_callZ (i := 9) (E := E) (scall T) (hr2.mono (by decide)) rfl (Or.inr (Or.inr rfl)) (passes_call (takes_of rfl rfl rfl rfl) (fun _ _ _ _ h => h)) (pa_cons (pv 2) (pa_cons (pv 4) pa_nil))))) pa_nil)))
    (pss_one (ps_set (i := 8) sc_right.nd rfl (Or.inl rfl) (by exact (pe_op op_cat (pv 8) (pe_lst (pa_cons pe_str (pa_cons (pe_tup (pa_cons pe_str (pa_cons pe_bl pa_nil))) pa_nil))))))))))
    (pss_cons (ps_expr (pe_bm PySem.F.plainAttrs_list PySem.F.slot_list_append PySem.F.type_list_append mt_append (pv 7) (pa_cons (LamX.pe_lamcall (T := [(Pt, lamQ)]) (TT := TTmet K) (Ng := ["call", "e"]) (a := "call") (k := 8) (by rfl) T.g_met k_t lk_t hcd_t b_t sc_met rfl (Or.inl rfl) (met_gives T rfl rfl rfl rfl) TB rfl (List.mem_singleton.mpr rfl) (fun p hp _ => by rw [List.mem_singleton.mp hp] <;> rfl) (hr.mono (by decide)) (LamX.lamS_by (sc := defScope s_right) (by decide +kernel)) rfl (fun _ _ _ _ _ => rfl) (fun A outer s H E f c' hr2 => (pe_call (E := E) G_difference (hr2.mono (by decide)) (by rfl) g_difference k_difference b_difference .nil (passes_call (takes_of rfl rfl rfl rfl) (fun _ _ _ _ h => h)) (pa_cons (pv 1) (pa_cons (pv 3) pa_nil))))) pa_nil)))
    (pss_cons (ps_expr (pe_bm PySem.F.plainAttrs_list PySem.F.slot_list_append PySem.F.type_list_append mt_append (pv 7) (pa_cons (LamX.pe_lamcall (T := [(Pt, lamQ)]) (TT := TTmet K) (Ng := ["call", "e"]) (a := "call") (k := 8) (by rfl) T.g_met k_t lk_t hcd_t b_t sc_met rfl (Or.inl rfl) (met_gives T rfl rfl rfl rfl) TB rfl (List.mem_singleton.mpr rfl) (fun p hp _ => by rw [List.mem_singleton.mp hp] <;> rfl) (hr.mono (by decide)) (LamX.lamS_by (sc := defScope s_right) (by decide +kernel)) rfl (fun _ _ _ _ _ => rfl) (fun A outer s H E f c' hr2 => (pe_call (E := E) G_difference (hr2.mono (by decide)) (by rfl) g_difference k_difference b_difference .nil (passes_call (takes_of rfl rfl rfl rfl) (fun _ _ _ _ h => h)) (pa_cons (pv 2) (pa_cons (pv 3) pa_nil))))) pa_nil)))
    (pss_cons (ps_expr (pe_bm PySem.F.plainAttrs_list PySem.F.slot_list_append PySem.F.type_list_append mt_append (pv 7) (pa_cons (LamX.pe_lamcall (T := [(Pt, lamQ)]) (TT := TTmet K) (Ng := ["call", "e"]) (a := "call") (k := 8) (by rfl) T.g_met k_t lk_t hcd_t b_t sc_met rfl (Or.inl rfl) (met_gives T rfl rfl rfl rfl) TB rfl (List.mem_singleton.mpr rfl) (fun p hp _ => by rw [List.mem_singleton.mp hp] <;> rfl) (hr.mono (by decide)) (LamX.lamS_by (sc := defScope s_right) (by decide +kernel)) rfl (fun _ _ _ _ _ => rfl) (fun A outer s H E f c' hr2 => (pe_call (E := E) G_rate_of (hr2.mono (by decide)) (by rfl) g_rate_of k_rate_of b_rate_of .nil (passes_call (takes_of rfl rfl rfl rfl) (fun _ _ _ _ h => h)) (pa_cons (pv 1) (pa_cons (pv 4) pa_nil))))) pa_nil)))
    (pss_cons (ps_expr (pe_bm PySem.F.plainAttrs_list PySem.F.slot_list_append PySem.F.type_list_append mt_append (pv 7) (pa_cons (LamX.pe_lamcall (T := [(Pt, lamQ)]) (TT := TTmet K) (Ng := ["call", "e"]) (a := "call") (k := 8) (by rfl) T.g_met k_t lk_t hcd_t b_t sc_met rfl (Or.inl rfl) (met_gives T rfl rfl rfl rfl) TB rfl (List.mem_singleton.mpr rfl) (fun p hp _ => by rw [List.mem_singleton.mp hp] <;> rfl) (hr.mono (by decide)) (LamX.lamS_by (sc := defScope s_right) (by decide +kernel)) rfl (fun _ _ _ _ _ => rfl) (fun A outer s H E f c' hr2 => (pe_call (E := E) G_rate_of (hr2.mono (by decide)) (by rfl) g_rate_of k_rate_of b_rate_of .nil (passes_call (takes_of rfl rfl rfl rfl) (fun _ _ _ _ h => h)) (pa_cons (pv 2) (pa_cons (pv 4) pa_nil))))) pa_nil)))
    (pss_cons (ps_expr (pe_bm PySem.F.plainAttrs_list PySem.F.slot_list_append PySem.F.type_list_append mt_append (pv 7) (pa_cons (LamX.pe_lamcall (T := [(Pt, lamQ)]) (TT := TTmet K) (Ng := ["call", "e"]) (a := "call") (k := 8) (by rfl) T.g_met k_t lk_t hcd_t b_t sc_met rfl (Or.inl rfl) (met_gives T rfl rfl rfl rfl) TB rfl (List.mem_singleton.mpr rfl) (fun p hp _ => by rw [List.mem_singleton.mp hp] <;> rfl) (hr.mono (by decide)) (LamX.lamS_by (sc := defScope s_right) (by decide +kernel)) rfl (fun _ _ _ _ _ => rfl) (fun A outer s H E f c' hr2 => (pe_call (E := E) G_result_lengths (hr2.mono (by decide)) (by rfl) g_result_lengths k_result_lengths b_result_lengths .nil (passes_call (takes_of rfl rfl rfl rfl) (fun _ _ _ _ h => h)) (pa_cons (pv 1) (pa_cons (pv 6) pa_nil))))) pa_nil)))
    (pss_cons (ps_expr (pe_bm PySem.F.plainAttrs_list PySem.F.slot_list_append PySem.F.type_list_append mt_append (pv 7) (pa_cons (LamX.pe_lamcall (T := [(Pt, lamQ)]) (TT := TTmet K) (Ng := ["call", "e"]) (a := "call") (k := 8) (by rfl) T.g_met k_t lk_t hcd_t b_t sc_met rfl (Or.inl rfl) (met_gives T rfl rfl rfl rfl) TB rfl (List.mem_singleton.mpr rfl) (fun p hp _ => by rw [List.mem_singleton.mp hp] <;> rfl) (hr.mono (by decide)) (LamX.lamS_by (sc := defScope s_right) (by decide +kernel)) rfl (fun _ _ _ _ _ => rfl) (fun A outer s H E f c' hr2 => (pe_call (E := E) G_result_lengths (hr2.mono (by decide)) (by rfl) g_result_lengths k_result_lengths b_result_lengths .nil (passes_call (takes_of rfl rfl rfl rfl) (fun _ _ _ _ h => h)) (pa_cons (pv 2) (pa_cons (pv 6) pa_nil))))) pa_nil)))
    (pss_cons (ps_set (i := 8) sc_right.nd rfl (Or.inl rfl) (by exact (pe_op op_cat (pv 8) (pe_lst (pa_cons pe_str (pa_cons pe_str (pa_cons pe_str (pa_cons pe_str (pa_cons pe_str (pa_cons (pe_tup (pa_cons pe_str (pa_cons (pv 6) pa_nil))) pa_nil))))))))))
    (pss_cons (ps_for PassesOwn.never rfl (pi_tup (pe_tup (pa_cons (pe_glob (v := .ref (ga K "rate")) (by rfl) T.g_rate rfl) (pa_cons (pe_glob (v := .ref (ga K "rate_paper")) (by rfl) T.g_rate_paper rfl) pa_nil)))) (pg_name (i := 9) sc_right.nd rfl (Or.inr rfl)) (pss_cons (ps_expr (pe_bm PySem.F.plainAttrs_list PySem.F.slot_list_append PySem.F.type_list_append mt_append (pv 7) (pa_cons (LamX.pe_lamcall (T := [(Pt, lamQ)]) (TT := TTmet K) (Ng := ["call", "e"]) (a := "call") (k := 8) (by rfl) T.g_met k_t lk_t hcd_t b_t sc_met rfl (Or.inl rfl) (met_gives T rfl rfl rfl rfl) TB rfl (List.mem_singleton.mpr rfl) (fun p hp _ => by rw [List.mem_singleton.mp hp] <;> rfl) (hr.mono (by decide)) (LamX.lamS_by (sc := defScope s_right) (by decide +kernel)) rfl (fun _ _ _ _ _ => rfl) (fun A outer s H E f c' hr2 => (pe_callZ (i := 9) (E := E) (scall T) (hr2.mono (by decide)) rfl (Or.inr (Or.inr rfl)) (passes_call (takes_of rfl rfl rfl rfl) (fun _ _ _ _ h => h)) (pa_cons (pv 1) (pa_cons (pv 5) pa_nil))))) pa_nil)))
    (pss_cons (ps_expr (pe_bm PySem.F.plainAttrs_list PySem.F.slot_list_append PySem.F.type_list_append mt_append (pv 7) (pa_cons (LamX.pe_lamcall (T := [(Pt, lamQ)]) (TT := TTmet K) (Ng := ["call", "e"]) (a := "call") (k := 8) (by rfl) T.g_met k_t lk_t hcd_t b_t sc_met rfl (Or.inl rfl) (met_gives T rfl rfl rfl rfl) TB rfl (List.mem_singleton.mpr rfl) (fun p hp _ => by rw [List.mem_singleton.mp hp] <;> rfl) (hr.mono (by decide)) (LamX.lamS_by (sc := defScope s_right) (by decide +kernel)) rfl (fun _ _ _ _ _ => rfl) (fun A outer s H E f c' hr2 => (pe_callZ (i := 9) (E := E) (scall T) (hr2.mono (by decide)) rfl (Or.inr (Or.inr rfl)) (passes_call (takes_of rfl rfl rfl rfl) (fun _ _ _ _ h => h)) (pa_cons (pv 2) (pa_cons (pv 5) pa_nil))))) pa_nil)))
    (pss_one (ps_set (i := 8) sc_right.nd rfl (Or.inl rfl) (by exact (pe_op op_cat (pv 8) (pe_lst (pa_cons pe_str (pa_cons pe_str pa_nil))))))))))
    (pss_cons (ps_expr (pe_bm PySem.F.plainAttrs_list PySem.F.slot_list_append PySem.F.type_list_append mt_append (pv 7) (pa_cons (LamX.pe_lamcall (T := [(Pt, lamQ)]) (TT := TTmet K) (Ng := ["call", "e"]) (a := "call") (k := 8) (by rfl) T.g_met k_t lk_t hcd_t b_t sc_met rfl (Or.inl rfl) (met_gives T rfl rfl rfl rfl) TB rfl (List.mem_singleton.mpr rfl) (fun p hp _ => by rw [List.mem_singleton.mp hp] <;> rfl) (hr.mono (by decide)) (LamX.lamS_by (sc := defScope s_right) (by decide +kernel)) rfl (fun _ _ _ _ _ => rfl) (fun A outer s H E f c' hr2 => (pe_call (E := E) G_is_rate_paper (hr2.mono (by decide)) (by rfl) g_is_rate_paper k_is_rate_paper b_is_rate_paper .nil (passes_call (takes_of rfl rfl rfl rfl) (fun _ _ _ _ h => h)) (pa_cons (pv 1) (pa_cons (pv 5) (pa_cons pe_non pa_nil)))))) pa_nil)))
    (pss_cons (ps_expr (pe_bm PySem.F.plainAttrs_list PySem.F.slot_list_append PySem.F.type_list_append mt_append (pv 7) (pa_cons (LamX.pe_lamcall (T := [(Pt, lamQ)]) (TT := TTmet K) (Ng := ["call", "e"]) (a := "call") (k := 8) (by rfl) T.g_met k_t lk_t hcd_t b_t sc_met rfl (Or.inl rfl) (met_gives T rfl rfl rfl rfl) TB rfl (List.mem_singleton.mpr rfl) (fun p hp _ => by rw [List.mem_singleton.mp hp] <;> rfl) (hr.mono (by decide)) (LamX.lamS_by (sc := defScope s_right) (by decide +kernel)) rfl (fun _ _ _ _ _ => rfl) (fun A outer s H E f c' hr2 => (pe_call (E := E) G_is_rate_paper (hr2.mono (by decide)) (by rfl) g_is_rate_paper k_is_rate_paper b_is_rate_paper .nil (passes_call (takes_of rfl rfl rfl rfl) (fun _ _ _ _ h => h)) (pa_cons (pv 2) (pa_cons (pv 5) (pa_cons pe_non pa_nil)))))) pa_nil)))
    (pss_cons (ps_expr (pe_bm PySem.F.plainAttrs_list PySem.F.slot_list_append PySem.F.type_list_append mt_append (pv 7) (pa_cons (LamX.pe_lamcall (T := [(Pt, lamQ)]) (TT := TTmet K) (Ng := ["call", "e"]) (a := "call") (k := 8) (by rfl) T.g_met k_t lk_t hcd_t b_t sc_met rfl (Or.inl rfl) (met_gives T rfl rfl rfl rfl) TB rfl (List.mem_singleton.mpr rfl) (fun p hp _ => by rw [List.mem_singleton.mp hp] <;> rfl) (hr.mono (by decide)) (LamX.lamS_by (sc := defScope s_right) (by decide +kernel)) rfl (fun _ _ _ _ _ => rfl) (fun A outer s H E f c' hr2 => (pe_call (E := E) G_rate_paper (hr2.mono (by decide)) (by rfl) g_rate_paper k_rate_paper b_rate_paper .nil (passes_call (takes_of rfl rfl rfl rfl) (fun _ _ _ _ h => h)) (pa_cons (pe_make (E := E) (T.c_Rewriter).2 G_rwInit (hr2.mono (by decide)) (by rfl) T.g_Rewriter b_rwInit .nil (passes_call (takes_of rfl rfl rfl rfl) (fun _ _ _ _ h => h)) (pa_cons pe_str (pa_cons (pe_disp (pps_cons pe_int pe_str pps_nil) rfl rfl (by simp) (by decide)) (pa_cons (pe_tup pa_nil) (pa_cons (pe_disp (pps_cons pe_int pe_str pps_nil) rfl rfl (by simp) (by decide)) pa_nil))))) (pa_cons pe_str pa_nil))))) pa_nil)))
    (pss_cons (ps_expr (pe_bm PySem.F.plainAttrs_list PySem.F.slot_list_append PySem.F.type_list_append mt_append (pv 7) (pa_cons (LamX.pe_lamcall (T := [(Pt, lamQ)]) (TT := TTmet K) (Ng := ["call", "e"]) (a := "call") (k := 8) (by rfl) T.g_met k_t lk_t hcd_t b_t sc_met rfl (Or.inl rfl) (met_gives T rfl rfl rfl rfl) TB rfl (List.mem_singleton.mpr rfl) (fun p hp _ => by rw [List.mem_singleton.mp hp] <;> rfl) (hr.mono (by decide)) (LamX.lamS_by (sc := defScope s_right) (by decide +kernel)) rfl (fun _ _ _ _ _ => rfl) (fun A outer s H E f c' hr2 => (pe_call (E := E) G_state_differences (hr2.mono (by decide)) (by rfl) g_state_differences k_state_differences b_state_differences .nil (passes_call (takes_of rfl rfl rfl rfl) (fun _ _ _ _ h => h)) (pa_cons (pe_make (E := E) (T.c_Rewriter).2 G_rwInit (hr2.mono (by decide)) (by rfl) T.g_Rewriter b_rwInit .nil (passes_call (takes_of rfl rfl rfl rfl) (fun _ _ _ _ h => h)) (pa_cons pe_str (pa_cons (pe_disp (pps_cons pe_int pe_str pps_nil) rfl rfl (by simp) (by decide)) (pa_cons (pe_tup pa_nil) (pa_cons (pe_disp (pps_cons pe_int pe_str pps_nil) rfl rfl (by simp) (by decide)) pa_nil))))) pa_nil)))) pa_nil)))
    (pss_cons (ps_set (i := 8) sc_right.nd rfl (Or.inl rfl) (by exact (pe_op op_cat (pv 8) (pe_lst (pa_cons pe_str (pa_cons pe_str (pa_cons pe_str (pa_cons pe_str pa_nil))))))))
    (pss_cons (ps_if (pt_cmpR op_ne (pe_callB (r := rReprG) (call_reprG T.sys hg hr) (by rfl) T.n_repr (by decide +kernel) (pa_cons (pv 7) pa_nil)) (pe_callB (r := rReprG) (call_reprG T.sys hg hr) (by rfl) T.n_repr (by decide +kernel) (pa_cons (pv 8) pa_nil)) (nomark _)) (pss_one (ps_ret (by exact pe_bl))) pss_nil)
    (pss_cons (ps_for PassesOwn.never rfl (pi_tup (pe_tup (pa_cons (pv 1) (pa_cons (pv 3) (pa_cons (pv 4) (pa_cons pe_dnewK (pa_cons (pe_lst (pa_cons (pe_lst pa_nil) pa_nil)) (pa_cons (pe_disp (pps_cons pe_str pe_int pps_nil) rfl rfl (by simp) (by decide)) (pa_cons (pe_tup (pa_cons pe_str (pa_cons pe_dnewK (pa_cons pe_dnewK (pa_cons pe_dnewK pa_nil))))) (pa_cons (pe_tup (pa_cons pe_str (pa_cons (pe_disp (pps_cons pe_int pe_dnewK (pps_cons pe_int (pe_tup pa_nil) pps_nil)) rfl rfl (by simp) (by decide)) (pa_cons pe_non (pa_cons pe_non pa_nil))))) (pa_cons (pe_tup (pa_cons pe_str (pa_cons pe_dnewK pa_nil))) (pa_cons (pe_tup (pa_cons pe_dnewK (pa_cons pe_dnewK (pa_cons pe_dnewK pa_nil)))) pa_nil)))))))))))) (pg_name (i := 10) sc_right.nd rfl (Or.inr rfl)) (pss_cons (ps_for PassesOwn.never rfl (pi_tup (pe_tup (pa_cons (pe_glob (v := .ref (ga K "is_length_paper")) (by rfl) T.g_is_length_paper rfl) (pa_cons (pe_glob (v := .ref (ga K "is_circle")) (by rfl) T.g_is_circle rfl) pa_nil)))) (pg_name (i := 9) sc_right.nd rfl (Or.inr rfl)) (pss_one (ps_if (pt_cmpR (r := rNeD K) (op_neD hr.units) (LamX.pe_lamcall (T := [(Pt, lamQ)]) (TT := TTmet K) (Ng := ["call", "e"]) (a := "call") (k := 8) (by rfl) T.g_met k_t lk_t hcd_t b_t sc_met rfl (Or.inl rfl) (met_gives T rfl rfl rfl rfl) TB rfl (List.mem_singleton.mpr rfl) (fun p hp _ => by rw [List.mem_singleton.mp hp] <;> rfl) (hr.mono (by decide)) (LamX.lamS_by (sc := defScope s_right) (by decide +kernel)) rfl (fun _ _ _ _ _ => rfl) (fun A outer s H E f c' hr2 => (pe_callZ (i := 9) (E := E) (scall T) (hr2.mono (by decide)) rfl (Or.inr (Or.inr rfl)) (passes_call (takes_of rfl rfl rfl rfl) (fun _ _ _ _ h => h)) (pa_cons (pv 2) (pa_cons (pv 10) pa_nil))))) (pe_tup (pa_cons pe_str (pa_cons pe_bl pa_nil))) (nomark _)) (pss_one (ps_ret (by exact pe_bl))) pss_nil)))
    (pss_one (ps_if (pt_cmpR (r := rNeD K) (op_neD hr.units) (LamX.pe_lamcall (T := [(Pt, lamQ)]) (TT := TTmet K) (Ng := ["call", "e"]) (a := "call") (k := 8) (by rfl) T.g_met k_t lk_t hcd_t b_t sc_met rfl (Or.inl rfl) (met_gives T rfl rfl rfl rfl) TB rfl (List.mem_singleton.mpr rfl) (fun p hp _ => by rw [List.mem_singleton.mp hp] <;> rfl) (hr.mono (by decide)) (LamX.lamS_by (sc := defScope s_right) (by decide +kernel)) rfl (fun _ _ _ _ _ => rfl) (fun A outer s H E f c' hr2 => (pe_call (E := E) G_is_rate_paper (hr2.mono (by decide)) (by rfl) g_is_rate_paper k_is_rate_paper b_is_rate_paper .nil (passes_call (takes_of rfl rfl rfl rfl) (fun _ _ _ _ h => h)) (pa_cons (pv 2) (pa_cons pe_str (pa_cons (pv 10) pa_nil)))))) (pe_tup (pa_cons pe_str (pa_cons pe_bl pa_nil))) (nomark _)) (pss_one (ps_ret (by exact pe_bl))) pss_nil))))
    (pss_one (ps_ret (by exact pe_bl)))))))))))))))))))))))))))), ?_⟩
  obtain ⟨p, rfl, hb, hT, k⟩ := h
  have s0 : St K [(Pt, lamQ)] p H [] [] [] [] H := ⟨⟨rfl, by simp, by simp, by simp⟩, by simp, fun b o _ h _ => h, hb, by simp, hT, by simp, by simp⟩
  exact top_ok s0 fun ρ' S' Wt Tu H' s => k H' (fun b o n h nt => s.keep b o n h nt) s.bag s.tabs
def spLaw (K : PySem.W.Frag) (Pt : Addr) : Sp := fun vs H Q _ => ∃ (a : Addr) (ns : List Int), vs = [.ref a] ∧ SqL K H a (ns.map V.int) ∧ ns.length ≤ 63 ∧ LamX.Tabs [(Pt, lamQ)] H ∧ ∀ H', Q (.bl true) H'
theorem sqL_ext {H H' : Hp} {a : Addr} {xs : List V} (h : SqL K H a xs) (s : LamX.ExtN H H') : SqL K H' a xs := by
  rcases h with (h | ⟨z, h⟩) | h
  · exact .inl (.inl (s _ _ h fun _ z => nomatch z))
  · exact .inl (.inr ⟨z, s _ _ h fun _ z => nomatch z⟩)
  · exact .inr h
theorem ok_law (T : Tx K mg) (TB : LamX.TabB base mg cd Pt) {fdr : FuncData} (Fr : FunD K "_law_right" "_law_right" (defArgs s_right) (defBody s_right) (defScope s_right) [] [] (ga K "_law_right") fdr) (hc : fdr.code = .ref cd) {fd : FuncData} (F : FunD K "law" "law" (defArgs s_law) (defBody s_law) (defScope s_law) [] [] (ga K "law") fd) : FnG P w K mg base CX0 12 (ga K "law") fd ["script"] (spLaw K Pt) := by
  obtain ⟨g_sack, k_sack, fd_sack, G_sack, b_sack⟩ := ok_sack (P := P) (w := w) (base := base) T
  have G_right := ok_right (P := P) (w := w) T TB Fr hc
  have k_right : PySem.W.keepIn K (.ref (ga K "_law_right")) = true := Fr.kp
  have b_right : L2.Binds K fdr ["sack"] [] := Fr.bindsN (fun _ _ _ _ _ _ us hl => match us, hl with | [_], _ => rfl)
  refine fnG_at F rfl sc_law (fun vs H Q E h => ?_) (fun A outer s H vs Q E hg hr h => ?_)
  · obtain ⟨a, ns, rfl, _⟩ := h
    rfl
  refine ⟨_, PSs.nox (
    (pss_cons (ps_for PassesOwn.never rfl (pi_range1 (by rfl) T.n_range (pa_cons (pe_callB (call_max2 rfl) (by rfl) T.n_max (by decide +kernel) (pa_cons pe_int (pa_cons (pe_callB (call_min2 rfl) (by rfl) T.n_min (by decide +kernel) (pa_cons pe_int (pa_cons (pe_callB (r := rLen K) call_len (by rfl) T.n_len (by decide +kernel) (pa_cons (pv 0) pa_nil)) pa_nil))) pa_nil))) pa_nil)) (pg_name (i := 1) sc_law.nd rfl (Or.inl rfl)) (pss_cons (ps_set (i := 2) sc_law.nd rfl (Or.inl rfl) (by exact (pe_call (E := E0) G_sack (hr.mono (by decide)) (by rfl) g_sack k_sack b_sack .nil passX0 (pa_cons (pv 0) (pa_cons (pv 1) pa_nil)))))
    (pss_one (ps_if (PW.pt (pw_or (pt_not (pt_val (pe_callG G_right hg (hr.mono (by decide)) (by rfl) T.g_right k_right b_right pass0 (pa_cons (pv 2) pa_nil)))) (pw_or1 (pt_not (pt_val (pe_callG G_right hg (hr.mono (by decide)) (by rfl) T.g_right k_right b_right pass0 (pa_cons (pv 2) pa_nil))))))) (pss_one (ps_ret (by exact pe_bl))) pss_nil))))
    (pss_one (ps_ret (by exact pe_bl))))), ?_⟩
  obtain ⟨a, ns, rfl, hS, hn, hT, k⟩ := h
  refine ⟨_, rfl, _, (ns.map V.int).length, rfl, .inl ⟨_, hS, rfl⟩, 4, (((ns.map V.int).length : Nat) : Int), rfl, 1, _, rfl, _, rfl, ?_, ?_, ?_⟩
  · split <;> split <;> omega
  · rw [List.length_map]
    split <;> split <;> omega
  have hj : ∀ m : Int, (if (if ((((ns.map V.int).length : Nat) : Int)) < 4 then ((((ns.map V.int).length : Nat) : Int)) else 4) > 1 then (if ((((ns.map V.int).length : Nat) : Int)) < 4 then ((((ns.map V.int).length : Nat) : Int)) else 4) else 1) = m → m ≤ 4 := fun m e => by
    rw [← e]
    split <;> split <;> omega
  generalize hm : (if (if ((((ns.map V.int).length : Nat) : Int)) < 4 then ((((ns.map V.int).length : Nat) : Int)) else 4) > 1 then (if ((((ns.map V.int).length : Nat) : Int)) < 4 then ((((ns.map V.int).length : Nat) : Int)) else 4) else 1) = j
  have hj4 := hj j hm
  refine for_it walk_range (fun i σ H' => SqL K H' a (ns.map V.int) ∧ LamX.Tabs [(Pt, lamQ)] H' ∧ ∃ v1 v2, σ = [some (.ref a), v1, v2]) ⟨hS, hT, _, _, rfl⟩ (fun _ _ _ _ _ => True.intro) ?_ ?_
  · rintro i x σ H0 H0' hi ⟨hS0, hT0, v1, v2, rfl⟩ y
    obtain ⟨rfl, rfl⟩ := y
    have e0 : (0 : Int) + (i : Nat) = (i : Nat) := Int.zero_add _
    show gName 1 (V.int ((0 : Int) + ((i : Nat) : Int))) _ _ _
    rw [e0]
    refine seq_set ?_
    refine ⟨_, rfl, _, rfl, a, ns, i, rfl, hS0, by omega, by omega, fun p b0 b1 b2 hp => ?_⟩
    have s1 := (Same.refl H0').new (o := bagO b0 b1 b2) hp
    refine ⟨_, rfl, p, rfl, ⟨b0, b1, b2, upd_same⟩, hT0.ext s1, fun H2 k2 q2 t2 => ⟨true, rfl, ifF rfl ⟨_, rfl, p, rfl, q2, t2, fun H3 k3 q3 t3 => ⟨true, rfl, ifF rfl ?_⟩⟩⟩⟩
    refine ⟨sqL_ext hS0 fun b o h nt => ?_, t3, _, _, rfl⟩
    have nb : b ≠ p := fun z => by
      rw [z, hp] at h
      cases h
    exact k3 b o nb (k2 b o nb (s1 b o h) nt) nt
  · rintro σ H0 ⟨hS0, hT0, v1, v2, rfl⟩
    exact k _
end
end K5
set_option maxHeartbeats 4000000
namespace LamX
open PySem PySem.Spec PyProof.Rows L2
theorem walk_ofOwnX {l : PySem.W.OpenLaw} {n k : Nat} {q : Program} {loose : List Str} {XP : (Str → Option Value) → Heap → Prop} {YP : World → Heap → Prop} {d : DefRec} {CX : World → CXT} {x y : Str}
    (hn : l.most = some n) (hn2 : n ≤ sizeLine) (hdf : d.params.defaults = []) (hr : Room k callerA) (hrec : ((recsOf q).any fun e => e.name == y) = true)
    (F : ∀ (w : World) (mg : Str → Option Value) (fa : Addr) (h : Heap), YP w h → h.Ns mainGlobals mg → mg d.name = some (.ref fa) → ∃ K : PySem.W.Frag, K.In h ∧ ∀ fb : Addr, mg y = some (.ref fb) → OwnTab K fb h → LawG l w K (CX w) k n x mg fa h)
    (hCX : ∀ (w : World) (H : Hp) (s : Shared) (e : Value) (s' : Shared), CX w [] H s (fun _ _ _ => False) e s' → False) :
    PySem.W.WalkO q loose XP YP l.row.toRowW d [] (fun f vs => PySem.call f vs) := by
  refine Att.attach_callB hn hdf fun w s₀ s₁ mg mb fa o pm cd doc a vs ns G Y ho hd hcd hmg hobj hints hlen hbits hg => ?_
  obtain ⟨K, KX, F2⟩ := F w mg fa _ Y G.T.g hmg
  obtain ⟨dL, hm, hn1⟩ := List.any_eq_true.mp hrec
  have hny : dL.name = y := beq_iff_eq.mp hn1
  obtain ⟨a', o', fd', c', P', h1, h2, h3, h4, h5, h6⟩ := G.T.tab dL hm
  rw [hny] at h1
  have own : OwnTab K a' s₁.heap := fun c P o1 fd1 e dd vs1 sl k1 k2 k3 k4 k5 => by
    have g1 := KX _ _ k1
    rw [g1] at h2
    cases h2
    rw [k2] at h3
    cases h3
    rw [k3] at h4
    cases h4
    obtain ⟨⟨oc, vc, e1, _, e3, e4⟩, hP⟩ := h6
    have g2 := KX _ _ k4
    rw [g2] at e1
    cases e1
    cases e3
    rw [k5] at e4
    cases e4
    exact hP
  obtain ⟨fd, c1, P1, sp, hT, nT, C, hb, hsp, hF⟩ := F2 a' h1 own
  exact law_callG KX G.T.g G.T.b G.T.builtins G.T.nolimit hg hT nT C G.T.bmain hobj hints (Nat.le_trans hlen hn2) hr hF hb (fun H hH hS => hsp H a ns hlen hbits hH hS) fun H e s' => hCX w H s₁ e s'
end LamX
set_option maxHeartbeats 4000000
namespace K5
open PySem PySem.Spec PyProof.Rows L2 He Hx Hy PO RunX PB
theorem code_ref {K : PySem.W.Frag} {v : Value} {q : Str} (h : PySem.W.codeIn K v q = true) : ∃ c, v = .ref c := by
  unfold PySem.W.codeIn at h
  split at h
  · exact ⟨_, rfl⟩
  · cases h
theorem hd_shape {K : PySem.W.Frag} {c P : Addr} (h : PySem.W.codeHdIn K c P = true) : ∃ e dd vs sl, K.lookup c = some ⟨e, dd, .fields vs, sl⟩ ∧ vs[11]? = some (.ref P) := by
  unfold PySem.W.codeHdIn at h
  split at h
  · rename_i dd vs sl hk
    simp only [Bool.and_eq_true] at h
    obtain ⟨⟨⟨⟨⟨e1, _⟩, _⟩, _⟩, _⟩, _⟩ := h
    split at e1
    · rename_i P' h11
      have hP : P' = P := beq_iff_eq.mp e1
      subst hP
      exact ⟨_, _, _, _, hk, h11⟩
    · cases e1
  · cases h
theorem facts {l : PySem.W.OpenLaw} {w : World} {K : PySem.W.Frag} {h : Heap} {mg : Str → Option Value} {fa fb : Addr} (X : K.In h) (G : h.Ns mainGlobals mg) (hfa : mg ("law" : Str) = some (.ref fa)) (c : SaysY ck fn K) (hfb : mg ("_law_right" : Str) = some (.ref fb)) (own : LamX.OwnTab K fb h) :
    LamX.LawG l w K CX0 12 63 "script" mg fa h := by
  have T : Tx K mg := tx_of X G c
  have e := hfa.symm.trans T.g_law
  cases e
  have e := hfb.symm.trans T.g_right
  cases e
  obtain ⟨fd, F⟩ := T.fn_law
  obtain ⟨fdr, Fr⟩ := T.fn_right
  have ckl := c.fact 13 (f := ckLam) rfl
  obtain ⟨k1, k2⟩ := ba ckl
  obtain ⟨oc, od, dV, kV, doc, pm, an, cdv, ct, osl, hfd, lk, hcd, _, _⟩ := Fr.ex
  obtain ⟨c0, hc0⟩ := code_ref hcd
  have hcode : fdr.code = .ref c0 := by
    rw [hfd]
    exact hc0
  have e1 : lawCode "_law_right" K = c0 := by
    unfold lawCode
    have lk' : K.lookup (ga K "_law_right") = some ⟨oc, od, .func fdr, osl⟩ := lk
    rw [lk']
    simp only [hcode]
  have hT : h.get? (lawTab "_law_right" K) = some { cls := .none, data := .fields #[] } := by
    obtain ⟨e2, dd, vs, sl, q1, q2⟩ := hd_shape k2
    exact own c0 (lawTab "_law_right" K) _ fdr e2 dd vs sl lk rfl hcode (by rw [← e1]; exact q1) q2
  have hb2 : ∀ (s : Shared) (u : Value), BindsTo s fd ⟨[u], []⟩ [("script", u)] := by
    rcases F.ex with ⟨oc, od, dV, kV, doc, pm, an, cdv, ct, osl, hfd, lk, hcd, hD, hK⟩
    rcases hD with ⟨_, rfl⟩ | ⟨z, _⟩
    · subst hfd
      exact fun s u => .of_eq rfl
    · exact absurd rfl z
  refine ⟨fd, lawCode "_law_right" K, lawTab "_law_right" K, spLaw K (lawTab "_law_right" K), hT, ?_, PySem.W.codeHd_of_K X k2, hb2, fun H a ns hn _ hP hS => ⟨a, ns, rfl, hS, hn, fun p hp => ?_, fun _ => rfl⟩, fun base KB GB TB => ok_law T TB Fr (by rw [e1]; exact hcode) F⟩
  · cases q : K.lookup (lawTab "_law_right" K) with
    | none => rfl
    | some o =>
      rw [q] at k1
      cases k1
  · rw [List.mem_singleton.mp hp]
    exact LamX.TabS.nil hP
end K5
set_option maxHeartbeats 0
open PySem PySem.W PySem.Calls PyProof.Rows
theorem PySem.Challenge.cw_manymarks_k55_errors_of_lengths_holds : PySem.Challenge.rw_manymarks_k55_errors_of_lengths.Holds := by
  w_on; o_law
  refine HandSHeadRun.head_any (r := OpenLaw.row PySem.Challenge.rw_manymarks_k55_errors_of_lengths) (q := view (OpenLaw.row PySem.Challenge.rw_manymarks_k55_errors_of_lengths).prog [137, 138]) (H := K5.hk) (ob := K5.ob) (M := 8000) (loose := K5.lo) (d := HandSHeadRun.topDef (OpenLaw.row PySem.Challenge.rw_manymarks_k55_errors_of_lengths).prog 138) (kwd := []) K5.ob_eq
    (by kernel_rfl) (fun s => by kernel_rfl) K5.run (by kernel_rfl) (by kernel_rfl) (by kernel_rfl) (by rfl) (by first | assumption | decide +kernel) (by decide +kernel) ⟨rfl, rfl, rfl, rfl, rfl, by decide +kernel⟩ ?hw ?hc
  case hw => w_witness2
  case hc =>
    refine LamX.walk_ofOwnX (l := PySem.Challenge.rw_manymarks_k55_errors_of_lengths) (n := 63) (k := 12) (x := "script") (y := "_law_right") (CX := fun _ => L2.CX0) rfl (by decide) (by kernel_rfl) ⟨rfl, by decide, by decide⟩ (by decide +kernel) ?F (fun _ _ _ _ _ z => z)
    intro w mg fa h Y G hmg0
    obtain ⟨K, KX, c⟩ := Y
    have hmg : mg ("law" : PySem.Str) = some (.ref fa) := by
      have e : (HandSHeadRun.topDef (OpenLaw.row PySem.Challenge.rw_manymarks_k55_errors_of_lengths).prog 138).name = ("law" : PySem.Str) := by kernel_rfl
      rw [← e]
      exact hmg0
    exact ⟨K, KX, fun fb hfb own => K5.facts KX G hmg c hfb own⟩
