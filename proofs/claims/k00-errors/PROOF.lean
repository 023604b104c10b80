import PyProof.Rows.All
import Wide.All
import OpenK.AllK
import Wide.FinOn
import HandS.Base
import HandS.Call
import HandS.Ends
import HandS.More
import HandS.Words
import HandS.WordsExc
import HandS.Defaults
import HandS.Head0
import HandS.Head1
import HandS.Head2
import HandS.HeadEnd
import HandS.HeadHook1
import HandS.HeadHook2
import HandS.EndBits
import HandS.EndTab
import HandS.EndOwn
import HandS.List
import HandS.Exc
import HandS.ExcOwn
import HandS.ExcValue
import HandS.ExcInit
import HandS.ExcIs
import HandS.CallLocal
import KE.KExcIs
import HandS.ForMost
import KE.KDictDisplayH
import PyProof.ReprRoads
import PyProof.RowDictHeap
import HandS.TupMul
import HandS.Lambda
import HandS.HotCalls
import HandS.Iter
import KE.KTurns
import PyProof.Draws
import PySem.Challenge.RW_manymarks_k00_errors
import HandS.Star
import HandS.Steps
import HandS.Walk
import HandS.IsInst
import HandS.DictTup
set_option Elab.async false
set_option linter.all false
set_option maxRecDepth 100000
set_option maxHeartbeats 4000000
namespace Hx
open PySem PySem.Spec PyProof.Rows L2 He
/-! ### a Hook over any checks of the written part -/
abbrev Chk := PySem.W.Frag → Bool
def obsX (ck : List Chk) (fn : List DefD) (K : PySem.W.Frag) : AlD := ((ck.all fun f => f K) && fn.all fun d => d.ok K, fn.map fun d => fnW K d.at_)
def SaysX (ck : List Chk) (fn : List DefD) (K : PySem.W.Frag) : Prop := obsX ck fn K = valD fn
def obsXG (n : Nat) (ck : List Chk) (fn : List DefD) (g : Addr → Option Obj) : AlD := obsX ck fn (frG g (asD g n))
def hookX (n : Nat) (ck : List Chk) (fn : List DefD) : PySem.W.Hook where
  α := AlD
  obs := fun s => obsXG n ck fn s.heap.get?
  val := fun _ => valD fn
  says := fun _ h => ∃ K : PySem.W.Frag, K.In h ∧ SaysX ck fn K
  of := fun _ _ e => ⟨_, frG_in, e⟩
  keeps := fun _ _ _ ⟨K, hK, c⟩ k => ⟨K, PySem.W.Frag.In.keeps hK k, c⟩
theorem obsXG_eq {n : Nat} {ck : List Chk} {fn : List DefD} {g : Addr → Option Obj} {s : Shared} (h : ∀ a, g a = s.heap.get? a) : obsXG n ck fn g = (hookX n ck fn).obs s := by
  have e : g = s.heap.get? := funext h
  rw [e] <;> rfl
section
variable {ck : List Chk} {fn : List DefD} {K : PySem.W.Frag}
theorem SaysX.fact (c : SaysX ck fn K) (i : Nat) {f : Chk} (h : ck[i]? = some f := by rfl) : f K = true := by
  have c1 := (ba (show ((ck.all fun f => f K) && fn.all fun d => d.ok K) = true from congrArg (fun z : AlD => z.1) c)).1
  exact List.all_eq_true.mp c1 f (List.mem_of_getElem? h)
theorem SaysX.def_ (c : SaysX ck fn K) (i : Nat) {d : DefD} (h : fn[i]? = some d := by rfl) : ∃ fd, FunD K d.name d.qual d.params d.body d.scope (d.dvs K) (d.kws K) (fAd K d.at_) fd := by
  have c2 := (ba (show ((ck.all fun f => f K) && fn.all fun d => d.ok K) = true from congrArg (fun z : AlD => z.1) c)).2
  have e : fn.map (fun d => fnW K d.at_) = fn.map DefD.val := congrArg (fun z : AlD => z.2) c
  have e2 : (fn.map fun d => fnW K d.at_)[i]? = (fn.map DefD.val)[i]? := by rw [e]
  rw [List.getElem?_map, List.getElem?_map, h] at e2
  exact DefD.funD (Option.some.inj e2) (List.all_eq_true.mp c2 d (List.mem_of_getElem? h))
end

/-! ### the same, the law's own table of code objects left out of the written part -/
def lawCode (x : Str) (K : PySem.W.Frag) : Addr := match K.lookup (ga K x) with
  | some ⟨_, _, .func fd, _⟩ => (match fd.code with
    | .ref c => c
    | _ => 0)
  | _ => 0
def lawTab (x : Str) (K : PySem.W.Frag) : Addr := match K.lookup (lawCode x K) with
  | some ⟨_, _, .fields vs, _⟩ => (match (vs[11]? : Option Value) with
    | some (.ref P) => P
    | _ => 0)
  | _ => 0
def kidsF (g : Addr → Option Obj) (a : Addr) : List Addr := match g a with
  | some ⟨_, _, .func fd, _⟩ => refV fd.code ++ refV fd.defaults
  | some ⟨_, _, .cls cd, _⟩ => [cd.ns]
  | some ⟨_, _, .dict es _, _⟩ => es.toList.flatMap fun e => refV e.val
  | _ => []
/-- the module's names xs, their code objects, their classes' methods, these ones' code objects -/
def pickF (xs : List Str) (g : Addr → Option Obj) : List Addr :=
  let A1 := xs.map (ga (frG g [mainGlobals]))
  let A2 := A1.flatMap (kidsF g)
  let A3 := A2.flatMap (kidsF g)
  mainGlobals :: sysModules :: (A1 ++ (A2 ++ (A3 ++ A3.flatMap (kidsF g))))
/-- .. without the table of the def x -/
def pickT (x : Str) (xs : List Str) (g : Addr → Option Obj) : List Addr := let as := pickF xs g; let P := lawTab x (frG g as); as.filter fun a => a != P
def obsPG (pick : (Addr → Option Obj) → List Addr) (ck : List Chk) (fn : List DefD) (g : Addr → Option Obj) : AlD := obsX ck fn (frG g (pick g))
def hookP (pick : (Addr → Option Obj) → List Addr) (ck : List Chk) (fn : List DefD) : PySem.W.Hook where
  α := AlD
  obs := fun s => obsPG pick ck fn s.heap.get?
  val := fun _ => valD fn
  says := fun _ h => ∃ K : PySem.W.Frag, K.In h ∧ SaysX ck fn K
  of := fun _ _ e => ⟨_, frG_in, e⟩
  keeps := fun _ _ _ ⟨K, hK, c⟩ k => ⟨K, PySem.W.Frag.In.keeps hK k, c⟩
theorem obsPG_eq {pick : (Addr → Option Obj) → List Addr} {ck : List Chk} {fn : List DefD} {g : Addr → Option Obj} {s : Shared} (h : ∀ a, g a = s.heap.get? a) : obsPG pick ck fn g = (hookP pick ck fn).obs s := by
  have e : g = s.heap.get? := funext h
  rw [e] <;> rfl
/-- a def's body, its code object known -/
theorem okC {P : Program} {w : World} {K : PySem.W.Frag} {mg : Str → Option Value} {base : Heap} {x qual : Str} {params : Arguments} {body : List Stmt} {scope : Scope} {dvs : List V} {kws : List (Str × V)} {f : Addr} {fd : FuncData} {CX : CXT} {N ps : List Str} {k : Nat} {sp : Sp} {cdv : Value}
    (F : FunD K x qual params body scope dvs kws f fd) (hcd : fd.code = cdv) (S : FnScope N ps scope) (len : ∀ vs H Q E, sp vs H Q E → vs.length = ps.length)
    (hbody : ∀ (A : Around) (outer : List Env) (s : Shared) (H : Hp) (vs : List V) (Q : VK) (E : XK), Room k (A.deeper (envOfC qual scope s.heap.objs.size f cdv)) → sp vs H Q E →
      ∃ t, PSs (cxOf CX P w K mg base N qual scope f cdv A outer s H E) body t ∧ t { nx := fun _ H' => Q .non H', rt := Q } (start N vs) H) : FnOk P w K mg base CX (k + 1) f fd ps sp := by
  obtain ⟨oc, od, dV, kV, doc, pm, an, cdv', ct, osl, rfl, lk, hcd', _, _⟩ := F.ex
  have e : cdv' = cdv := hcd
  subst e
  exact fn_of lk hcd' S len fun A outer s H vs Q E hr hsp => hbody A outer s H vs Q E hr hsp
end Hx
namespace LamX
open PySem PySem.Spec PyProof.Rows L2
theorem walk_ofOwnE {l : PySem.W.OpenLaw} {n k : Nat} {q : Program} {loose : List Str} {XP : (Str → Option Value) → Heap → Prop} {YP : World → Heap → Prop} {d : DefRec} {CX : World → CXT} {x : Str}
    (hn : l.most = some n) (hn2 : n ≤ sizeLine) (hdf : d.params.defaults = []) (hr : Room k callerA) (hrec : ((recsOf q).any fun e => e.name == d.name) = true)
    (F : ∀ (w : World) (mg : Str → Option Value) (fa : Addr) (h : Heap), YP w h → h.Ns mainGlobals mg → mg d.name = some (.ref fa) → ∃ K : PySem.W.Frag, K.In h ∧ (OwnTab K fa h → LawAtS l w K (CX w) k n x mg fa h))
    (hCX : ∀ (w : World) (H : Hp) (s : Shared) (e : Value) (s' : Shared), CX w [] H s (fun _ _ _ => False) e s' → False) :
    PySem.W.WalkO q loose XP YP l.row.toRowW d [] (fun f vs => PySem.call f vs) := by
  refine Att.attach_callB hn hdf fun w s₀ s₁ mg mb fa o pm cd doc a vs ns G Y ho hd hcd hmg hobj hints hlen hbits hg => ?_
  obtain ⟨K, KX, F2⟩ := F w mg fa _ Y G.T.g hmg
  have own : OwnTab K fa s₁.heap := fun c P o1 fd1 e dd vs1 sl k1 k2 k3 k4 k5 => by
    obtain ⟨dL, hm, hn1⟩ := List.any_eq_true.mp hrec
    have hn2 : dL.name = d.name := beq_iff_eq.mp hn1
    obtain ⟨a', o', fd', c', P', h1, h2, h3, h4, h5, h6⟩ := G.T.tab dL hm
    rw [hn2, hmg] at h1
    cases h1
    have g1 := KX _ _ k1
    rw [g1] at h2
    cases h2
    rw [k2] at h3
    cases h3
    rw [k3] at h4
    cases h4
    obtain ⟨⟨oc, vc, e1, _, e3, e4⟩, hP⟩ := h6
    have g2 := KX _ _ k4
    rw [g2] at e1
    cases e1
    cases e3
    rw [k5] at e4
    cases e4
    exact hP
  obtain ⟨fd, cs, sp, hT, nT, C, hb, hsp, hF⟩ := F2 own
  exact law_callTs KX G.T.g G.T.b G.T.builtins G.T.nolimit hg hT nT C G.T.bmain hobj hints (Nat.le_trans hlen hn2) hr hF hb (fun H hH hS => hsp H a ns hlen hbits hH hS) fun H e s' => hCX w H s₁ e s'
end LamX
set_option maxHeartbeats 4000000
/-! own exception classes over any built-in base whose __init__ stores its one argument: made as values, read, asked for their class -/
namespace PySem
namespace XT
open PySem.W PySem.Calls PyProof.Rows PySem.HandSPX Builtin Builtin.ObjectAttr
/-- what the tail bm of a class's mro must have: the base B that makes it, no AttributeError, no NameError; stores are let through -/
structure TailT (B : String) (bm : List Value) : Prop where
  base : bm.contains (.type B) = true
  attr : bm.contains (.type "AttributeError") = false
  nam : bm.contains (.type "NameError") = false
  ob : bm.contains (.type "object") = true
  pass : ∀ self : Value, refuseLoop self "__setattr__" bm = pure ()
section
variable {M : Model} {A : Around} {E : Value → Shared → Prop} {h : Heap} {g : Array GenState} {d : Drawn} {t : Nat} {os : OsState}
variable {nm q : Str} {C N : Addr} {bs bm bmB : List Value} {hdct : Bool} {sn : List Str} {sub : List Value} {ab : Bool} {col : Option Bool} {dd : Option Addr} {k0 k1 k2 k3 k5 : Option Value} {B newId initId : String}
theorem own_base (T : TailT B bm) : (Value.ref C :: bm).contains (.type B) = true := by rw [List.contains_cons, T.base]; exact Bool.or_true _
theorem own_attr (T : TailT B bm) : (Value.ref C :: bm).contains (.type "AttributeError") = false := by rw [List.contains_cons, T.attr]; rfl
theorem own_nam (T : TailT B bm) : (Value.ref C :: bm).contains (.type "NameError") = false := by rw [List.contains_cons, T.nam]; rfl
theorem look_new (F : ExcBaseFacts B newId initId bmB) (T : TailT B bm) {rest : List Value} {Q : Unit → Shared → Prop}
    (hC : h.get? C = some (excClassObj nm q C N bs bm hdct sn sub ab col dd k0 k1 k2 k3 k5 newId)) (hq : Q () ⟨h, g, d, t, os⟩) : wpAny M A (checkBuiltinCall newId ⟨.ref C :: rest, []⟩) Q E ⟨h, g, d, t, os⟩ := by
  have b1 := own_base (C := C) T
  have b2 := F.noStar
  simp only [checkBuiltinCall, F.newSplit, F.newKind, F.newRow]
  repeat (first | (refine wpAny_isSubtype_exc hC ?_; rw [b1]) | refine wpAny_madeBy_exc hC ?_ | refine wpAny_staticBase_exc hC ?_ | refine wpAny_loadPart_at hC ?_ | simp only [bne_self_eq_false, Bool.false_eq_true, if_false] | wp_step)
  exact hq
end
section
variable {prog : Program} {w : World} {A : Around} {E : Value → Shared → Prop} {R : Result → Shared → Prop} {h : Heap} {g : Array GenState} {d : Drawn} {t : Nat} {os : OsState}
variable {nm q : Str} {C N : Addr} {bs bm bmB : List Value} {hdct : Bool} {sn : List Str} {sub : List Value} {ab : Bool} {col : Option Bool} {dd : Option Addr} {k0 k1 k2 k3 k5 : Option Value} {B newId initId : String}
theorem run_new (F : ExcBaseFacts B newId initId bmB) (T : TailT B bm) {rest : List Value} (hl : rest.length ≤ sizeLine)
    (hC : h.get? C = some (excClassObj nm q C N bs bm hdct sn sub ab col dd k0 k1 k2 k3 k5 newId))
    (hq : R (.ok (.ret (.ref (h.objs.size + 1)))) ⟨(h.push (W.kdv_tup rest)).push (excO C h.objs.size), g, d, t, os⟩) :
    codeAny (model prog w) A (.builtin newId ⟨.ref C :: rest, []⟩) R ⟨h, g, d, t, os⟩ := by
  have e0 := F.ends
  have e1 := own_base (C := C) T
  have e2 := own_attr (C := C) T
  have e3 := own_nam (C := C) T
  refine codeAny_builtinAt F.entry ?_
  unfold Builtin.«BaseException.__new__»
  refine wpAt_bind ?_
  show wpAt _ _ _ (stack >>= _) _ _ _
  refine wpAt_bind (wpAt_stack fun p below => wpAt_of_wpAny ?_)
  wp_walk
  refine wpAt_of_wpAny ?_
  rw [F.owner]
  repeat (first | with_reducible refine wpAny_loadPart_at hC ?_ | with_reducible refine wpAny_madeHere_exc F.canon hC ?_ | (with_reducible refine wpAny_isSubtype_exc hC ?_; first | rw [e1] | rw [e2] | rw [e3]) | wp_step)
  show R _ _
  rw [Heap.size_push]
  exact hq
theorem run_type (F : ExcBaseFacts B newId initId bmB) (T : TailT B bm) {rest : List Value} {fI : Addr} {Q : Fin → Shared → Prop}
    (hC : h.get? C = some (excClassObj nm q C N bs bm hdct sn sub ab col dd k0 k1 k2 k3 k5 newId))
    (hi : W.Looks (model prog w) h (typeLookup (.ref C) "__init__") (some (.ref fI))) (hb : ∀ self, W.Looks (model prog w) h (bindSpecial (.ref fI) self) (.ref fI, [self])) (hl : rest.length ≤ sizeLine)
    (hq : codeAny (model prog w) A (.call (.ref fI) ⟨.ref (h.objs.size + 1) :: rest, []⟩)
      (fun r s' => match r with | .ok (.ret v) => v = .none ∧ Q (.done (.ret (.ref (h.objs.size + 1)))) s' | .ok _ => False | .error e => E e s')
      ⟨(h.push (W.kdv_tup rest)).push (excO C h.objs.size), g, d, t, os⟩) :
    wpAny (model prog w) A (Builtin.«type.__call__» ⟨.ref C :: rest, []⟩) Q E ⟨h, g, d, t, os⟩ := by
  repeat (first | with_reducible refine wpAny_madeBy_exc hC ?_ | with_reducible refine wpAny_loadPart_at hC ?_ | wp_step)
  refine codeAny_call_builtin_code (Code.quiet_builtin _ F.quiet) (look_new F T hC ?_)
  refine run_new F T hl hC ?_
  show wpAny _ _ _ _ _ _
  have kp : ∀ b o, h.get? b = some o → ((h.push (W.kdv_tup rest)).push (excO C h.objs.size)).get? b = some o := fun b o z => Heap.get?_push_of_some _ (Heap.get?_push_of_some _ z)
  have hx : ((h.push (W.kdv_tup rest)).push (excO C h.objs.size)).get? (h.objs.size + 1) = some (excO C h.objs.size) := by heap_get
  have hC' := kp _ _ hC
  have c1 : (Value.ref C :: bm).contains (.ref C) = true := by simp
  have i1 := hi.keeps kp
  have b1 := (hb (.ref (h.objs.size + 1))).keeps kp
  unfold isInstance
  repeat (first | with_reducible refine wpAny_loadPart_at hx ?_ | (with_reducible refine wpAny_isSubtype_exc hC' ?_; rw [c1]) | wp_step)
  show wpAny _ _ (typeLookup (.ref C) _) _ _ _
  refine i1.at (wpAny_holding (wpAny_bind (b1.at (wpAny_bind (wpAny_call (codeAny_mono hq fun r s' z => ?_))))))
  rcases r with e | (v | _ | _ | _) <;> first | exact z | exact z.elim | skip
  obtain ⟨rfl, z⟩ := z
  first
    | exact wpAny_pure (wpAny_pure z)
    | (wp_walk; exact z)
theorem run_call (F : ExcBaseFacts B newId initId bmB) (T : TailT B bm) {rest : List Value} {fI : Addr}
    (hC : h.get? C = some (excClassObj nm q C N bs bm hdct sn sub ab col dd k0 k1 k2 k3 k5 newId))
    (hi : W.Looks (model prog w) h (typeLookup (.ref C) "__init__") (some (.ref fI))) (hb : ∀ self, W.Looks (model prog w) h (bindSpecial (.ref fI) self) (.ref fI, [self])) (hl : rest.length ≤ sizeLine)
    (hq : codeAny (model prog w) (A.under (.builtin "type.__call__" ⟨.ref C :: rest, []⟩)) (.call (.ref fI) ⟨.ref (h.objs.size + 1) :: rest, []⟩) (W.InitBack (h.objs.size + 1) R)
      ⟨(h.push (W.kdv_tup rest)).push (excO C h.objs.size), g, d, t, os⟩) :
    codeAny (model prog w) A (.call (.ref C) ⟨rest, []⟩) R ⟨h, g, d, t, os⟩ := by
  have f1 := tc_lookup
  have f2 := tc_bind (.ref C)
  have ty : (⟨h, g, d, t, os⟩ : Shared).TypeIs (.ref C) "type" := ⟨_, hC, rfl⟩
  refine codeAny_of_tree ?_
  show wpAny _ _ (callAny (.ref C) _) _ _ _
  repeat (any_goals (first | assumption | with_reducible refine wpAny_loadPart_at hC ?_ | wp_step))
  refine ⟨rfl, codeAny_call_builtin_at (Code.quiet_builtin _ (by decide +kernel)) entry_typeCall (wpAny_check_type_call_sub hC (run_type F T hC hi hb hl ?_))⟩
  refine codeAny_mono hq fun r s' z => ?_
  rcases r with e | (v | _ | _ | _) <;> exact z
end
section
variable {prog : Program} {w : World} {A : Around} {R : Result → Shared → Prop} {hp : Heap} {g : Array GenState} {d : Drawn} {t : Nat} {os : OsState}
/-- self.name = v, the exception at x has no dict yet -/
theorem run_store {K : W.Frag} {name : Str} {tk : Tok} {v : Value} {x C : Addr} {fv : Array Value} {cd : ClassData} {bm : List Value} {B : String} (T : TailT B bm)
    (X : K.In hp) (hx : hp.get? x = some { cls := .ref C, data := .fields fv }) (hcd : W.clsIn K C = some cd) (hm : cd.mro = .ref C :: bm) (hh : cd.hasDict = true) (ha : W.findIn K (.ref C) name = some none)
    (hq : ∀ h' tk' dx, (∀ b o, b ≠ x → hp.get? b = some o → h'.get? b = some o) → hp.objs.size ≤ dx → dx ≠ x → h'.get? x = some { cls := .ref C, dict := some dx, data := .fields fv } →
      h'.Ns1 dx (fun y => if y = name then some v else none) → R (.ok (.ret .none)) ⟨h', g, d, tk', os⟩) :
    codeAny (model prog w) A (.call (.builtin "object.__setattr__") ⟨[.ref x, .str name tk, v], []⟩) R ⟨hp, g, d, t, os⟩ := by
  have I : W.InstAt hp x { cls := .ref C, data := .fields fv } C none := ⟨hx, rfl, rfl, trivial⟩
  have SF := F.store_object
  have ne : cd.mro.isEmpty = false := by rw [hm]; rfl
  have hob : cd.mro.contains (.type "object") = true := by rw [hm, List.contains_cons, T.ob]; exact Bool.or_true _
  have hxs : x ≠ hp.objs.size := Nat.ne_of_lt (Heap.lt_size hx)
  have io : W.Looks (model prog w) hp (isInstance (.ref x) (.type "object")) true := I.type.andThen (W.looks_mroIn X (by unfold W.mroIn; rw [hcd, Option.bind_some, if_neg (by rw [ne]; decide), hob]))
  refine codeAny_call_builtin SF.slot.plain SF.entry (@W.check_slot (model prog w) _ _ ⟨hp, g, d, t, os⟩ "object.__setattr__" "object" "__setattr__" (.ref x) [.str name tk, v] [] _ SF.kind SF.split io (SF.args (.ref x) (.str name tk) v) ?_)
  have lm : W.Looks (model prog w) hp (mroOf (.ref C)) cd.mro := (W.looks_clsIn X hcd).andThen .now
  have lc : W.Looks (model prog w) hp (classData C) cd := W.looks_clsIn X hcd
  have ln : W.Looks (model prog w) hp (storeTaker? none) none := .now
  rw [W.osa_eq, refuse_eq]
  refine wpAny_bind (wpAny_bind (I.type.at (wpAny_bind (lm.at ?_))))
  rw [hm, refuseLoop_ref, T.pass]
  refine wpAny_pure (wpAny_bind (I.type.at (wpAny_bind ((W.looks_findIn X ha).at (wpAny_bind (ln.at ?_))))))
  show wpAny _ _ (storeInOwnDict (.ref x) (.ref C) (.str name tk) name v false) _ _ _
  obtain ⟨nm, bs, mro, ns, qn, hd, sn, sb, ab, col, del⟩ := cd
  dsimp only at hh
  subst hh
  unfold storeInOwnDict ownDictForStores
  repeat (first | with_reducible refine store_in_new ?_ ?_ | with_reducible refine lc.at ?_ | with_reducible refine wpAny_loadPart_at hx ?_ | wp_step)
  · exact ⟨_, #[], _, (Heap.get?_update_ne _ _ _ _ hxs.symm).trans (Heap.get?_push_at rfl rfl), rfl, fun e he => absurd he (by simp), fun _ => rfl⟩
  · intro h' tk' hn' hs
    have hx' : (hp.push { cls := .type "dict", data := .dict #[] }).get? x = some { cls := .ref C, data := .fields fv } := Heap.get?_push_of_some _ hx
    refine hq h' tk' hp.objs.size (fun b o hb ho => ?_) (Nat.le_refl _) hxs.symm ((hs.2 x hxs).trans (Heap.get?_update_self _ hx' rfl)) hn'
    exact (hs.2 b (Nat.ne_of_lt (Heap.lt_size ho))).trans ((Heap.get?_update_ne _ _ _ _ hb).trans (Heap.get?_push_of_some _ ho))
end
end XT
end PySem
set_option maxHeartbeats 4000000
namespace PySem
namespace XT
open PySem.W PySem.Calls PyProof.Rows PySem.HandSPX
/-! ### the text of such an __init__(self, f): self.f = f -/
def iA (f : String) (p1 p2 : Pos) : Arguments := { posonlyargs := [], args := [{ arg := "self", annotation := none, pos := p1 }, { arg := f, annotation := none, pos := p2 }], vararg := none, kwonlyargs := [], kw_defaults := [], kwarg := none, defaults := [] }
def iB (f : String) (q1 q2 q3 q4 : Pos) : List Stmt := [.Assign [.Attribute (.Name "self" q1) f q2] (.Name f q3) q4]
def iS (f : String) : Scope := { kind := .function, names := [(PySem.Str.ofString "self", .local), (PySem.Str.ofString f, .local)], isGenerator := false, isCoroutine := false, more := [] }
/-- what the written part says of the class at C, whose __init__ stands at fI -/
structure ClsT (K : Frag) (x f : String) (B newId initId : String) (bm bmB : List Value) (C fI : Addr) : Prop where
  F : ExcBaseFacts B newId initId bmB
  T : TailT B bm
  cls : ∃ nm q N bs sn sub ab col dd k0 k1 k2 k3 k5, K.lookup C = some (excClassObj nm q C N bs bm true sn sub ab col dd k0 k1 k2 k3 k5 newId)
  sa : findIn K (.ref C) "__setattr__" = some (some (.builtin "object.__setattr__"))
  ga : findIn K (.ref C) "__getattribute__" = some (some (.builtin "BaseException.__getattribute__"))
  gg : findIn K (.ref C) "__getattr__" = some none
  noN : findIn K (.ref C) f = some none
  iC : findIn K (.ref C) "__init__" = some (some (.ref fI))
  tC : typeIn K (.ref fI) = some (.type "function")
  kC : keepIn K (.ref C) = true
  exC : subIn K (.ref C) (.type "BaseException") = some true
  hdC : hasDictIn K C = true
  fn : ∃ (oc : Value) (od : Option Addr) (kV doc pm : Value) (an : Option Addr) (cdv ct : Value) (osl : Array (Option Value)) (p1 p2 q1 q2 q3 q4 : Pos) (q : Str),
    K.lookup fI = some ⟨oc, od, .func (fnOf "__init__" q (iA f p1 p2) (iB f q1 q2 q3 q4) (iS f) .none kV doc pm an cdv ct), osl⟩ ∧ codeIn K cdv q = true
/-- what is true of each written name f -/
structure NameT (f : String) : Prop where
  bind : ∀ (q : Str) (p1 p2 q1 q2 q3 q4 : Pos) (kV doc pm : Value) (an : Option Addr) (cdv ct u v : Value),
    bindArgs (fnOf "__init__" q (iA f p1 p2) (iB f q1 q2 q3 q4) (iS f) .none kV doc pm an cdv ct) ⟨[u, v], []⟩ = pure [(("self" : Str), u), ((PySem.Str.ofString f : Str), v)]
  kind : ∀ u v : Value, (([(("self" : Str), u), ((PySem.Str.ofString f : Str), v)] : List (Str × Value)).all fun y => (iS f).names.lookup y.1 == some .local || (iS f).names.lookup y.1 == some .cell) = true
  lself : ∀ (q : Str) (L a : Addr) (cd u v : Value), bindL (envOfC q (iS f) L a cd).kindOf [(("self" : Str), u), ((PySem.Str.ofString f : Str), v)] (fun _ => none) ("self" : Str) = some u
  lf : ∀ (q : Str) (L a : Addr) (cd u v : Value), bindL (envOfC q (iS f) L a cd).kindOf [(("self" : Str), u), ((PySem.Str.ofString f : Str), v)] (fun _ => none) (PySem.Str.ofString f : Str) = some v
  kf : (iS f).names.lookup (PySem.Str.ofString f) = some .local
  db : (PySem.Str.ofString f == ("__debug__" : Str)) = false
theorem one_size (v : Value) : [v].length ≤ sizeLine := by
  rw [sizeLine_eq]
  exact (by decide : 1 ≤ 16777216)
theorem ldC {M : Model} {s : Shared} {name : Str} {scope : Scope} {L a : Addr} {cd : Value} {m : Str → Option Value} {x : Str} {pos : Pos} {v : Value} {Q : Value → Shared → Prop} {A : Around} {E : Value → Shared → Prop} (hn : s.heap.Ns L m) (hv : m x = some v) (h : Q v s)
    (hk : scope.kind = .function) (hl : (envOfC name scope L a cd).kindOf x = some .local) (hd : (x == ("__debug__" : Str)) = false) :
    wpAny M A (eval (.Name x pos) (envOfC name scope L a cd)) Q E s := wpAny_Name (wpAny_loadName_local hk hl hn hv h) hd
/-- what __init__ leaves of a fresh exception at x -/
structure InitEnd (f : Str) (h h' : Heap) (x C dx t1 : Addr) (v : Value) : Prop where
  keep : ∀ b o, b ≠ x → h.get? b = some o → h'.get? b = some o
  obj : h'.get? x = some { cls := .ref C, dict := some dx, data := .fields #[.ref t1, .none, .none, .none, .bool false, .none] }
  dbig : h.objs.size ≤ dx
  dne : dx ≠ x
  ns : h'.Ns1 dx (fun y => if y = f then some v else none)
/-- a made one -/
structure OwnMade (f : Str) (h h' : Heap) (e C d t1 : Addr) (v : Value) : Prop where
  keep : ∀ b o, h.get? b = some o → h'.get? b = some o
  new : h.objs.size ≤ e
  obj : h'.get? e = some { cls := .ref C, dict := some d, data := .fields #[.ref t1, .none, .none, .none, .bool false, .none] }
  dbig : h.objs.size ≤ d
  dne : d ≠ e
  ns : h'.Ns1 d (fun y => if y = f then some v else none)
section
variable {prog : Program} {w : World} {A : Around} {E : Value → Shared → Prop} {R : Result → Shared → Prop} {s : Shared} {K : Frag} {C fI : Addr} {x f B newId initId : String} {bm bmB : List Value}
theorem t_init (T : ClsT K x f B newId initId bm bmB C fI) (NT : NameT f) {e t0 : Addr} {v : Value} (X : K.In s.heap) (hlim : s.heap.NoLimit) (hx : s.heap.get? e = some (excO C t0)) (hroom : A.depth < recursionLimit)
    (hq : ∀ h' tk dx, InitEnd (PySem.Str.ofString f) s.heap h' e C dx t0 v → R (.ok (.ret .none)) { s with heap := h', toks := tk }) :
    codeAny (model prog w) A (.call (.ref fI) ⟨[.ref e, v], []⟩) R s := by
  obtain ⟨oc, od, kV, doc, pm, an, cdv, ct, osl, p1, p2, q1, q2, q3, q4, qq, ho, hcd⟩ := T.fn
  obtain ⟨nm, q, N, bs, sn, sub, ab, col, dd, k0, k1, k2, k3, k5, hC⟩ := T.cls
  have hcl : clsIn K C = some { name := nm, bases := bs, mro := .ref C :: bm, ns := N, qualname := q, hasDict := true, slotNames := sn, subclasses := sub, abstract := ab, collection := col, hasDel := false } := by unfold clsIn; rw [hC] <;> rfl
  refine Att.call_fn (binds := [(("self" : Str), .ref e), ((PySem.Str.ofString f : Str), v)]) X hlim ho hcd hroom (BindsTo.of_eq (NT.bind _ _ _ _ _ _ _ _ _ _ _ _ _ _ _)) (NT.kind _ _) (fun s₁ IC => ?_) rfl rfl rfl
  obtain ⟨h₁, tk₁, rfl⟩ := IC.toInCall.same
  have k : ∀ b o, s.heap.get? b = some o → h₁.get? b = some o := IC.toInCall.keep
  have hn := IC.toInCall.ns
  have hxL : s.heap.objs.size ≠ e := Nat.ne_of_gt (Heap.lt_size hx)
  have X₁ : K.In h₁ := X.keeps k
  have hx₁ := k _ _ hx
  show wpAny _ _ (execs _ _) _ _ _
  refine wpAny_execs_cons (plainObj_wpAny_Assign_Attribute ?_)
  refine ldC (v := v) hn (NT.lf _ _ _ _ _ _) (ldC (v := .ref e) hn (NT.lself _ _ _ _ _ _) ?_ rfl rfl (by decide)) rfl NT.kf NT.db
  refine set_plain X₁ (ox := excO C t0) (od := none) ⟨hx₁, rfl, rfl, trivial⟩ T.sa ?_
  refine run_store T.T X₁ hx₁ hcl rfl rfl T.noN (fun h₃ tk₃ dx k₃ dn dne hx₃ hn₃ => ?_)
  show wpAny _ _ (execs _ _) _ _ _
  have z : s.heap.objs.size < h₁.objs.size := hn.lt
  exact wpAny_execs_nil (hq h₃ tk₃ dx ⟨fun b o hb q => k₃ b o hb (k b o q), hx₃, Nat.le_of_lt (Nat.lt_of_lt_of_le z dn), dne, hn₃⟩)
theorem t_made (T : ClsT K x f B newId initId bm bmB C fI) (NT : NameT f) {v : Value} (X : K.In s.heap) (hlim : s.heap.NoLimit) (hroom : A.depth + 1 < recursionLimit)
    (hq : ∀ h' tk e d t1, OwnMade (PySem.Str.ofString f) s.heap h' e C d t1 v → R (.ok (.ret (.ref e))) { s with heap := h', toks := tk }) :
    codeAny (model prog w) A (.call (.ref C) ⟨[v], []⟩) R s := by
  obtain ⟨nm, q, N, bs, sn, sub, ab, col, dd, k0, k1, k2, k3, k5, hC⟩ := T.cls
  obtain ⟨hp, g, dr, tk, os⟩ := s
  have k : ∀ b o, hp.get? b = some o → ((hp.push (kdv_tup [v])).push (excO C hp.objs.size)).get? b = some o := fun b o z => Heap.get?_push_of_some _ (Heap.get?_push_of_some _ z)
  have hget : ((hp.push (kdv_tup [v])).push (excO C hp.objs.size)).get? (hp.objs.size + 1) = some (excO C hp.objs.size) := by heap_get
  refine run_call T.F T.T (X _ _ hC) (looks_findIn X T.iC) (fun self => bind_fn X self T.tC) (one_size v) ?_
  refine t_init (s := ⟨(hp.push (kdv_tup [v])).push (excO C hp.objs.size), g, dr, tk, os⟩) T NT (X.keeps k) (hlim.keeps k) hget ?_ fun h' tk' dx ⟨k', hx, dn, dne, hns⟩ => ?_
  · show A.depth + 1 < recursionLimit
    exact hroom
  · have old : ∀ b o, hp.get? b = some o → h'.get? b = some o := fun b o z => k' b o (Nat.ne_of_lt (Nat.lt_succ_of_lt (Heap.lt_size z))) (k b o z)
    have z : hp.objs.size + 1 + 1 ≤ dx := by
      first
        | (simpa only [Heap.size_push] using dn)
        | exact dn
        | (have q := dn; rw [Heap.size_push, Heap.size_push] at q; exact q)
    exact ⟨rfl, hq h' tk' (hp.objs.size + 1) dx _ ⟨old, Nat.le_succ _, hx, Nat.le_trans (Nat.le_trans (Nat.le_succ _) (Nat.le_succ _)) z, dne, hns⟩⟩
end
end XT
end PySem

namespace PySem.XT
theorem nt_value : NameT "value" := ⟨fun _ _ _ _ _ _ _ _ _ _ _ _ _ _ _ => rfl, fun _ _ => rfl, fun _ _ _ _ _ _ => rfl, fun _ _ _ _ _ _ => rfl, rfl, by decide⟩
theorem nt_name : NameT "name" := ⟨fun _ _ _ _ _ _ _ _ _ _ _ _ _ _ _ => rfl, fun _ _ => rfl, fun _ _ _ _ _ _ => rfl, fun _ _ _ _ _ _ => rfl, rfl, by decide⟩
theorem nt_limit : NameT "limit" := ⟨fun _ _ _ _ _ _ _ _ _ _ _ _ _ _ _ => rfl, fun _ _ => rfl, fun _ _ _ _ _ _ => rfl, fun _ _ _ _ _ _ => rfl, rfl, by decide⟩
theorem nt_paper : NameT "paper" := ⟨fun _ _ _ _ _ _ _ _ _ _ _ _ _ _ _ => rfl, fun _ _ => rfl, fun _ _ _ _ _ _ => rfl, fun _ _ _ _ _ _ => rfl, rfl, by decide⟩
theorem nt_fork : NameT "fork" := ⟨fun _ _ _ _ _ _ _ _ _ _ _ _ _ _ _ => rfl, fun _ _ => rfl, fun _ _ _ _ _ _ => rfl, fun _ _ _ _ _ _ => rfl, rfl, by decide⟩
theorem nt_many : NameT "many" := ⟨fun _ _ _ _ _ _ _ _ _ _ _ _ _ _ _ => rfl, fun _ _ => rfl, fun _ _ _ _ _ _ => rfl, fun _ _ _ _ _ _ => rfl, rfl, by decide⟩
end PySem.XT
set_option maxHeartbeats 4000000
namespace L2
open PySem PySem.Spec PyProof.Rows
theorem relO_one {v : V} {v' : Value} {g : Str} (r : RelV v v') (f : Str) : RelO (List.lookup f [(g, v)]) (if f = g then some v' else none) := by
  by_cases hw : f = g
  · subst hw
    rw [if_pos rfl]
    have q : List.lookup f [(f, v)] = some v := by simp [List.lookup]
    rw [q]
    exact r
  · rw [if_neg hw]
    have qw : (f == g) = false := by simpa using hw
    have q2 : List.lookup f [(g, v)] = none := by simp [List.lookup, qw]
    rw [q2]
    trivial
/-- C(e), the own class with an __init__ that stores its argument: a new exception object with its own dict -/
def tExcI (C : Addr) (f : Str) (ta : TA) : TE := fun σ H Q => ta σ H fun vs H1 => ∃ v, vs = [v] ∧ ∀ a d, H1 a = none → H1 d = none → d ≠ a → Q (.ref a) (upd (upd H1 d (.xd [(f, v)])) a (exo a C (some d)))
section
variable {X : Cx} {C fI : Addr} {x f B newId initId : String} {bm bmB : List Value}
theorem pe_excI {a : Expr} {ta : TA} {p pos : Pos} {k : Nat} (T : PySem.XT.ClsT X.K x f B newId initId bm bmB C fI) (NT : PySem.XT.NameT f) (gC : X.mg x = some (.ref C)) (hr : Room k X.A) (ha : PA X [a] ta) (hg : Gl X x)
    (hdb : ((PySem.Str.ofString x : Str) == ("__debug__" : Str)) = false := by decide)
    (he : starEach (a :: []) X.env = (false, eval a X.env) :: starEach [] X.env := by rfl) (hpl : (backTo pos (starEach [] X.env)).any (·.1) = false := by rfl) :
    PE X (.Call (.Name x p) [a] [] pos) (tExcI C f ta) := by
  refine ⟨fun pins s σ H Q I h => ?_⟩
  refine wpAny_Call_Name_kw (ld_glob I hg gC ?_ hdb)
  refine PySem.W.callWith_K (h₀ := X.base) I.ok.mod.kin T.kC (thn (ha.run pos pins s σ H _ I h) fun us s1 hh => ?_) he hpl
  obtain ⟨vs, H1, I1, r1, v, ev, q1⟩ := hh
  subst ev
  refine ⟨I1.kIn, ?_⟩
  cases r1 with
  | cons rv rn =>
    rename_i v' us'
    cases rn
    show wpAny _ _ (call (.ref C) [v']) _ _ _
    have hlim := I1.nolimit
    obtain ⟨hp, g, dr, tk, os⟩ := s1
    refine wpAny_call (PySem.XT.t_made T NT I1.kIn hlim (by have := hr.dp; omega) fun h' tk' e d t1 M => ?_)
    obtain ⟨G', g1, g2⟩ := restrict h' fun b => decide (b ≠ e)
    have gk : ∀ b, b ≠ e → G'.get? b = h'.get? b := fun b hb => g1 b (decide_eq_true hb)
    have ge : G'.get? e = none := g2 e (by simp)
    have old : ∀ b o, hp.get? b = some o → G'.get? b = some o := fun b o q => (gk b (Nat.ne_of_lt (Nat.lt_of_lt_of_le (Heap.lt_size q) M.new))).trans (M.keep b o q)
    have ob : ObjOk X.prog X.w (upd H1 d (.xd [((f : Str), v)])) G' d (.xd [((f : Str), v)]) :=
      ⟨_, M.ns.at (fun o q => (gk d M.dne).trans q), fun f => relO_one rv f⟩
    have J : Inv X pins σ (upd H1 d (.xd [((f : Str), v)])) ⟨G', g, dr, tk', os⟩ := I1.laid (t' := tk') old M.dbig ob
    have ke : ∀ b o, G'.get? b = some o → h'.get? b = some o := fun b o q => by
      by_cases hb : b = e
      · rw [hb, ge] at q
        cases q
      · exact (gk b hb).symm.trans q
    have n1 : H1 e = none := I1.hok.fresh M.new
    have nd : H1 d = none := I1.hok.fresh M.dbig
    have n2 : (upd H1 d (.xd [((f : Str), v)])) e = none := by
      rw [upd_ne (Ne.symm M.dne)]
      exact n1
    have J2 : Inv X pins σ (upd (upd H1 d (.xd [((f : Str), v)])) e (exo e C (some d))) ⟨h', g, dr, tk', os⟩ := J.laidN (t' := tk') (a := e) ke ge n2 (exo_ok M.obj)
    exact ⟨.ref e, _, J2, rfl, q1 e d n1 nd M.dne⟩
/-- e.f of such an exception -/
def tExF (K : PySem.W.Frag) (f : Str) (te : TE) : TE := fun σ H Q => te σ H fun x H1 => ∃ (a C d : Addr) (v : V) (fs : List (Str × V)), x = .ref a ∧ H1 a = some (exo a C (some d)) ∧ H1 d = some (.xd fs) ∧ fs.lookup f = some v ∧
  (PySem.W.findIn K (.ref C) "__getattribute__" = some (some (.builtin "BaseException.__getattribute__")) ∧ PySem.W.findIn K (.ref C) "__getattr__" = some none ∧ PySem.W.subIn K (.ref C) (.type "BaseException") = some true ∧ PySem.W.hasDictIn K C = true ∧ PySem.W.findIn K (.ref C) f = some none) ∧ Q v H1
theorem pe_exF {e : Expr} {te : TE} {f : String} {pos : Pos} (he : PE X e te) (hb : attributeBase e f X.env (eval e X.env) = eval e X.env := by rfl) : PE X (.Attribute e f pos) (tExF X.K f te) := by
  refine ⟨fun pins s σ H Q I h => ?_⟩
  refine attr_of hb (thn (he.run pins s σ H _ I h) fun u s1 hh => ?_)
  obtain ⟨x, H1, I1, rx, a, C, d, v, fs, ex, ha, hd, hl, ⟨ga, gg, exC, hdC, noN⟩, q⟩ := hh
  subst ex
  obtain rfl : u = Value.ref a := rx
  obtain ⟨t1, hget⟩ := exo_at I1.hok ha
  have hx : ObjOk X.prog X.w H1 s1.heap d (.xd fs) := I1.hok d _ hd
  obtain ⟨mA, hns, hr⟩ := hx
  obtain ⟨od, ho, hlo⟩ := lookIn_ns hns
  obtain ⟨u, hu, ru⟩ := RelO.some_of (v := v) (o := mA f) (by rw [← hl]; exact hr f)
  have J : PySem.W.InstAt s1.heap a _ C (some od) := ⟨hget, rfl, rfl, ho⟩
  exact HandSPX.exc_get I1.kIn J ga gg exC (PySem.W.findObj_own hdC noN rfl (by rw [hlo, hu])) (handed_of ru) ⟨v, H1, I1.tok _, ru, q⟩
/-- an exception object of the class at C: made (with or without a dict), or pinned -/
def IsEx (pn : List (Addr × Obj)) (H : Hp) (a C : Addr) : Prop := H a = some (ExO (.ref C) a) ∨ (∃ d u, H a = some (exo a C (some d)) ∧ H d = some u) ∨ ∃ oe vs, (a, oe) ∈ pn ∧ Zc (.ref C) none oe ∧ oe.data = .fields vs
theorem IsEx.inst {pins : List (Addr × Obj)} {σ : St} {H : Hp} {s : Shared} {a C : Addr} (e : IsEx X.pn H a C) (I : Inv X pins σ H s) : ∃ ox od, PySem.W.InstAt s.heap a ox C od := by
  rcases e with e | ⟨d, u, e, ed⟩ | ⟨oe, vs, hm, hz, hd⟩
  · have x : ObjOk X.prog X.w H s.heap a (.ext fun h => ∃ (oe : Obj) (vs : Array Value), h.get? a = some oe ∧ Zc (.ref C) none oe ∧ oe.data = .fields vs ∧ vs[1]? = some .none ∧ vs[2]? = some .none ∧ 4 < vs.size) := I.hok a _ e
    obtain ⟨⟨oe, vs, hget, hz, hd, _⟩, _, _⟩ := x
    obtain ⟨oc, od, oda, osl⟩ := oe
    obtain ⟨h1, h2⟩ := hz
    dsimp only at h1 h2 hd
    subst h1 h2 hd
    exact ⟨_, none, hget, rfl, rfl, trivial⟩
  · obtain ⟨t1, hget⟩ := exo_at I.hok e
    obtain ⟨o, ho⟩ := objOk_get (I.hok d u ed)
    exact ⟨_, some o, hget, rfl, rfl, ho⟩
  · obtain ⟨hget, _⟩ := I.pin (a, oe) (List.mem_append.mpr (.inl hm))
    obtain ⟨oc, od, oda, osl⟩ := oe
    obtain ⟨h1, h2⟩ := hz
    dsimp only at h1 h2 hd
    subst h1 h2 hd
    exact ⟨_, none, hget, rfl, rfl, trivial⟩
theorem IsEx.mono {pn : List (Addr × Obj)} {H H' : Hp} {a C : Addr} (e : IsEx pn H a C) (k : ∀ b o, H b = some o → H' b = some o) : IsEx pn H' a C := by
  rcases e with e | ⟨d, u, e, ed⟩ | e
  · exact .inl (k _ _ e)
  · exact .inr (.inl ⟨d, u, k _ _ e, k _ _ ed⟩)
  · exact .inr (.inr e)
/-- isinstance(e, c), e any exception object of an own class -/
def rIsV (K : PySem.W.Frag) (pn : List (Addr × Obj)) : List V → Hp → VK → Prop := fun xs H Q => ∃ (a C : Addr) (c : V) (cv : Value) (b : Bool), xs = [.ref a, c] ∧ ExcC K C ∧ IsEx pn H a C ∧ (∀ u, RelV c u → u = cv) ∧ PySem.W.kitOne K (.ref C) cv = some b ∧ Q (.bl b) H
theorem call_isV : CallR X (.builtin "isinstance") (rIsV X.K X.pn) := by
  intro pins s σ H xs us Q I r h
  obtain ⟨a, C, c, cv, b, rfl, F, ie, hcv, e, q⟩ := h
  cases r with
  | cons rx rr =>
    cases rr with
    | cons rt rr =>
      cases rr
      cases rx
      have ec := hcv _ rt
      subst ec
      obtain ⟨ox, od, J⟩ := ie.inst I
      have hcl : (PySem.W.clsIn X.K C).isSome = true := by
        obtain ⟨cd, hc, _⟩ := PySem.W.any_some F.hd
        rw [hc]
        rfl
      exact PySem.W.kia_one (PySem.W.kitx_exc hcl F.hg F.hk F.hs F.ha F.hn F.ht F.hm) I.kIn J e (fun z => nomatch z) fun tk => ⟨.bl b, H, I.kept (t' := tk) fun _ _ z => z, rfl, q⟩
end
end L2
set_option maxHeartbeats 4000000
namespace L2
open PySem PySem.Spec PyProof.Rows
theorem szd1 : (1 : Nat) ≤ sizeLine := by decide
section
variable {X : Cx} {pins : List (Addr × Obj)} {σ : L2.St} {H : Hp} {s : Shared}
/-- {k: v}, k a tuple of numbers and texts: a dict of one entry -/
def tDisp1T (tk tv : TE) : TE := fun σ H Q => ∀ d, H d = none → tk σ (upd H d (.dT [])) fun x H1 => tv σ H1 fun y H2 => H2 d = some (.dT []) ∧ ∃ t ks, x = .ref t ∧ H2 t = some (.tup (ks.map kV)) ∧ Q (.ref d) (upd H2 d (.dT [(ks, y)]))
theorem pe_disp1T {pos : Pos} {k v : Expr} {tk tv : TE} {n : Nat} (hr : Room n X.A) (hk : PE X k tk) (hv : PE X v tv) : PE X (.Dict [some k] [v] pos) (tDisp1T tk tv) := by
  refine ⟨fun pins s σ H Q I q => ?_⟩
  have hn := I.hok.fresh (Nat.le_refl s.heap.objs.size)
  have I1 := I.laid (a := s.heap.objs.size) (o := .dT []) (h' := s.heap.push { cls := .type "dict", data := .dict #[] }) (t' := s.toks) (fun _ _ q => Heap.get?_push_of_some _ q) (Nat.le_refl _) (dt_empty s.heap I.big)
  have hP : PPs X pos [some k] [v] [(tk, tv)] := pps_cons hk hv pps_nil
  rw [arm_eval_Dict]
  have sh : (evalEachOpt [some k] X.env).zip ((evalEach [v] X.env).map fun v => do let x ← v; standAt pos; pure x) = (pairTrees [some k] [v] X.env pos).map fun p => (some p.1, p.2) := rfl
  rw [sh, dictDisplay_pairs (pairTrees [some k] [v] X.env pos) (by simp [pairTrees]) (by simp [pairTrees])]
  refine wpAny_bind (wpAny_standAt (wpAny_bind (wpAny_subDictH (knd := tupleKind (mixKind X.prog X.w)) (Q := fun d s' => wpAny (model X.prog X.w) X.A (pure (Value.ref d)) (EP X pins σ Q) X.xe s') ?_ (by simp [pairTrees]) ?_)))
  · show X.A.units < cLine
    exact hr.units0
  refine thn (hP.run pins _ σ _ (fun ps H2 => match ps with
    | [(x, y)] => H2 s.heap.objs.size = some (.dT []) ∧ ∃ t ks, x = .ref t ∧ H2 t = some (.tup (ks.map kV)) ∧ Q (.ref s.heap.objs.size) (upd H2 s.heap.objs.size (.dT [(ks, y)]))
    | _ => False) I1 (q _ hn)) fun ws s2 ⟨ps, H2, I2, rel, q2⟩ => ?_
  match ps, q2 with
  | [(x, y)], q3 =>
    obtain ⟨e, t, ks, ex, et, q4⟩ := q3
    subst ex
    cases rel with
    | @cons p0 p ps0 qs0 h1 h2 =>
      cases h2
      obtain ⟨u, u2⟩ := p
      obtain ⟨ru, rv⟩ := h1
      obtain rfl : u = Value.ref t := ru
      obtain ⟨z, hd, xs, r0, dd⟩ := dt_of I2.hok e
      cases r0
      have kis := key_of I2.hok et
      refine ⟨[(ks, t, u2)], ⟨rfl, rfl, kis, trivial⟩, dd, fun h' tk' dd' hs => wpAny_pure ⟨.ref s.heap.objs.size, _, ?_, rfl, q4⟩⟩
      obtain ⟨o, es, ep, g1, g2, g3, g4, g5, g6⟩ := dd'
      refine d_write I2 (by rw [e]; exact True.intro) hs ⟨_, g1⟩ ?_
      have hne : t ≠ s.heap.objs.size := fun z => by
        rw [z, e] at et
        cases et
      exact ⟨szd1, hd, [(ks, t, u2)], .cons ⟨rfl, by rw [upd_ne hne]; exact et, rv⟩ .nil, o, es, ep, g1, g2, g3, g4, g6⟩
end
end L2
set_option maxHeartbeats 4000000
namespace L2
open PySem PySem.Spec PyProof.Rows
mutual
/-- a value and the data that it shows: lists, tuples, dicts of one entry are tracked -/
inductive DR (H : Hp) : V → PyData → Prop
  | non : DR H .non .none
  | bl (b : Bool) : DR H (.bl b) (.bool b)
  | int (i : Int) : DR H (.int i) (.int i)
  | str (x : Str) : DR H (.str x) (.str x)
  | lst {a : Addr} {xs : List V} {ds : List PyData} : H a = some (.lst xs) → DRs H xs ds → DR H (.ref a) (.list ds)
  | tup {a : Addr} {xs : List V} {ds : List PyData} : H a = some (.tup xs) → DRs H xs ds → DR H (.ref a) (.tuple ds)
  | d0 {a : Addr} : H a = some (.dK []) → DR H (.ref a) (.dict [])
  | dk {a : Addr} {k : Str} {v : V} {d : PyData} : H a = some (.dK [(.inr k, v)]) → DR H v d → DR H (.ref a) (.dict [(.str k, d)])
  | dt {a : Addr} {i j : Int} {v : V} {d : PyData} : H a = some (.dT [([.inl i, .inl j], v)]) → DR H v d → DR H (.ref a) (.dict [(.tuple [.int i, .int j], d)])
inductive DRs (H : Hp) : List V → List PyData → Prop
  | nil : DRs H [] []
  | cons {v : V} {vs : List V} {d : PyData} {ds : List PyData} : DR H v d → DRs H vs ds → DRs H (v :: vs) (d :: ds)
end
section
variable {H H' : Hp}
mutual
theorem DR.mono (s : Same H H') : ∀ (d : PyData) (v : V), DR H v d → DR H' v d
  | .none, _, h => by cases h; exact .non
  | .bool b, _, h => by cases h; exact .bl b
  | .int i, _, h => by cases h; exact .int i
  | .str x, _, h => by cases h; exact .str x
  | .list ds, _, h => by
    cases h with
    | lst e t => exact .lst (s _ _ e) (DRs.mono s ds _ t)
  | .tuple ds, _, h => by
    cases h with
    | tup e t => exact .tup (s _ _ e) (DRs.mono s ds _ t)
  | .dict [(k, d)], _, h => by
    cases h with
    | dk e t => exact .dk (s _ _ e) (DR.mono s d _ t)
    | dt e t => exact .dt (s _ _ e) (DR.mono s d _ t)
  | .dict [], _, h => by
    cases h with
    | d0 e => exact .d0 (s _ _ e)
  | .dict (_ :: _ :: _), _, h => by cases h
theorem DRs.mono (s : Same H H') : ∀ (ds : List PyData) (vs : List V), DRs H vs ds → DRs H' vs ds
  | [], _, h => by cases h; exact .nil
  | d :: ds, _, h => by
    cases h with
    | cons a b => exact .cons (DR.mono s d _ a) (DRs.mono s ds _ b)
end
end
section
variable {X : Cx} {pins : List (Addr × Obj)} {σ : L2.St} {H : Hp} {s : Shared}
theorem not_sys (I : Inv X pins σ H s) (hs : (X.K.lookup sysModules).isSome = true) {a : Addr} {o : HO} (e : H a = some o) : a ≠ sysModules := fun z => by
  obtain ⟨ob, hk⟩ := Option.isSome_iff_exists.mp hs
  have b := I.mod.kin _ _ hk
  have n := (I.bs _ _ b).2
  rw [z, n] at e
  cases e
theorem nin_cons {a : Addr} {as : List Addr} (h : a ≠ sysModules) (t : sysModules ∉ as) : sysModules ∉ a :: as := fun z => by
  rcases List.mem_cons.mp z with e | e
  · exact h e.symm
  · exact t e
theorem nin_app {as bs : List Addr} (h : sysModules ∉ as) (t : sysModules ∉ bs) : sysModules ∉ as ++ bs := fun z => by
  rcases List.mem_append.mp z with e | e
  · exact h e
  · exact t e
mutual
theorem DR.reads (I : Inv X pins σ H s) (hs : (X.K.lookup sysModules).isSome = true) : ∀ (d : PyData) (v : V) (u : Value), DR H v d → RelV v u → ∃ as, Reads s.heap u d as ∧ sysModules ∉ as
  | .none, _, _, h, r => by
    cases h
    cases r
    exact ⟨_, .none, by simp⟩
  | .bool b, _, _, h, r => by
    cases h
    cases r
    exact ⟨_, .bool b, by simp⟩
  | .int i, _, _, h, r => by
    cases h
    obtain ⟨t, rfl⟩ := r
    exact ⟨_, .int i t, by simp⟩
  | .str x, _, _, h, r => by
    cases h
    obtain ⟨t, rfl⟩ := r
    exact ⟨_, .str x t, by simp⟩
  | .list ds, _, _, h, r => by
    cases h with
    | lst e t =>
      cases r
      obtain ⟨_, its, n, rv, ho⟩ := (show ObjOk X.prog X.w H s.heap _ (.lst _) from I.hok _ _ e)
      obtain ⟨as, hr, ns⟩ := DRs.reads I hs ds _ its t rv
      exact ⟨_, .list ho rfl rfl (by simpa using hr), nin_cons (not_sys I hs e) ns⟩
  | .tuple ds, _, _, h, r => by
    cases h with
    | tup e t =>
      cases r
      obtain ⟨_, its, rv, o, ho, hc, n, hd⟩ := (show ObjOk X.prog X.w H s.heap _ (.tup _) from I.hok _ _ e)
      obtain ⟨as, hr, ns⟩ := DRs.reads I hs ds _ its t rv
      exact ⟨_, .tuple ho hc hd (by simpa using hr), ns⟩
  | .dict [], _, _, h, r => by
    cases h with
    | d0 e =>
      cases r
      obtain ⟨_, _, vs, rk, dd⟩ := dk_of I.hok e
      cases rk
      have pr : PyProof.V.PairsRead s.heap (fun k : Key => match k with | .inl i => PyData.int i | .inr x => PyData.str x) [] [] [] := .nil
      have rd := PyProof.V.reads_dictOf (knd := mixKind X.prog X.w) (enc := fun k : Key => match k with | .inl i => PyData.int i | .inr x => PyData.str x) (fun k key hk => by
        rcases keyIs_shape hk with ⟨i, t, rfl, rfl⟩ | ⟨x, t, rfl, rfl⟩
        · exact .int i t
        · exact .str x t) dd pr
      exact ⟨_, rd, nin_cons (not_sys I hs e) (by simp)⟩
  | .dict [(k, d)], _, _, h, r => by
    cases h with
    | dk e t =>
      rename_i a0 k0 v0
      cases r
      obtain ⟨_, _, vs, rk, dd⟩ := dk_of I.hok e
      cases rk with
      | @cons p q ps qs h1 h2 =>
        cases h2
        obtain ⟨qk, qv⟩ := q
        obtain ⟨e1, rv⟩ := h1
        obtain rfl : _ = qk := e1
        obtain ⟨bs, hr, ns⟩ := DR.reads I hs d _ qv t rv
        have pr : PyProof.V.PairsRead s.heap (fun k : Key => match k with | .inl i => PyData.int i | .inr x => PyData.str x) [(Sum.inr k0, qv)] [(.str k0, d)] (bs ++ []) := .cons hr .nil
        have rd := PyProof.V.reads_dictOf (knd := mixKind X.prog X.w) (enc := fun k : Key => match k with | .inl i => PyData.int i | .inr x => PyData.str x) (fun k key hk => by
          rcases keyIs_shape hk with ⟨i, t, rfl, rfl⟩ | ⟨x, t, rfl, rfl⟩
          · exact .int i t
          · exact .str x t) dd pr
        exact ⟨_, rd, nin_cons (not_sys I hs e) (by simpa using ns)⟩
    | dt e t =>
      rename_i a0 i0 j0 v0
      cases r
      obtain ⟨_, _, xs, rk, o, es, ep, ho, hc, hd, he, _⟩ := (show ObjOk X.prog X.w H s.heap _ (.dT _) from I.hok _ _ e)
      cases rk with
      | @cons p q ps qs h1 h2 =>
        cases h2
        obtain ⟨qk, qa, qv⟩ := q
        obtain ⟨e1, e2, rv⟩ := h1
        obtain rfl : _ = qk := e1
        obtain ⟨bs, hr, ns⟩ := DR.reads I hs d _ qv t rv
        obtain ⟨_, its, ri, o2, ho2, hc2, n2, hd2⟩ := (show ObjOk X.prog X.w H s.heap _ (.tup _) from I.hok _ _ e2)
        have rt : ∃ as, Reads s.heap (.ref qa) (.tuple [.int i0, .int j0]) as ∧ sysModules ∉ as := by
          cases ri with
          | cons r1 r2 =>
            cases r2 with
            | cons r3 r4 =>
              cases r4
              obtain ⟨t1, rfl⟩ := r1
              obtain ⟨t2, rfl⟩ := r3
              exact ⟨_, .tuple ho2 hc2 hd2 (.cons (.int i0 _) (.cons (.int j0 _) .nil)), by simp⟩
        obtain ⟨as, hr2, ns2⟩ := rt
        refine ⟨_, .dict ho hc.1 hd (as := as ++ []) (bs := bs ++ []) ?_ ?_, nin_app (nin_cons (not_sys I hs e) (by simpa using ns2)) (by simpa using ns)⟩
        · rw [he]
          exact .cons hr2 .nil
        · rw [he]
          exact .cons hr .nil
  | .dict (_ :: _ :: _), _, _, h, _ => by cases h
theorem DRs.reads (I : Inv X pins σ H s) (hs : (X.K.lookup sysModules).isSome = true) : ∀ (ds : List PyData) (vs : List V) (us : List Value), DRs H vs ds → Vals vs us → ∃ as, ReadsAll s.heap us ds as ∧ sysModules ∉ as
  | [], _, _, h, r => by
    cases h
    cases r
    exact ⟨_, .nil, by simp⟩
  | d :: ds, _, _, h, r => by
    cases h with
    | cons h1 h2 =>
      cases r with
      | cons r1 r2 =>
        obtain ⟨as, q1, n1⟩ := DR.reads I hs d _ _ h1 r1
        obtain ⟨bs, q2, n2⟩ := DRs.reads I hs ds _ _ h2 r2
        exact ⟨_, .cons q1 q2, nin_app n1 n2⟩
end
/-- repr(x), x a list | tuple | dict of data; nothing is being shown around (hg) -/
def rReprG : List V → Hp → VK → Prop := fun xs H Q => ∃ (a : Addr) (d : PyData), xs = [.ref a] ∧ DR H (.ref a) d ∧ d.showable = true ∧ d.depth ≤ 50 ∧ d.shown.length ≤ sizeLine ∧ Q (.str d.shown) H
theorem call_reprG (hs : (X.K.lookup sysModules).isSome = true) (hg : X.A.guards = some []) {n : Nat} (hr : Room n X.A) : CallR X (.builtin "repr") rReprG := by
  intro pins s σ H xs us Q I r h
  obtain ⟨a, d, rfl, hd, h1, h2, h3, q⟩ := h
  cases r with
  | cons ra rr =>
    cases rr
    obtain ⟨as, hr2, ns⟩ := DR.reads I hs d _ _ hd ra
    cases ra
    have hu := hr.un
    refine repr_of_reads' hr2 h1 (fun _ => ns) hg (by omega) (fun _ _ e => e) (fun h' u tk hk => ?_) h3
    exact ⟨.str d.shown, H, I.kept (t' := tk) hk, ⟨_, rfl⟩, q⟩
end
end L2
set_option maxHeartbeats 4000000
namespace L2
open PySem PySem.Spec PyProof.Rows
/-- the heap without the objects at hs (they may change) -/
def hidL (hs : List Addr) (H : Hp) : Hp := fun b => if b ∈ hs then none else H b
theorem hid_at {hs : List Addr} {H : Hp} {b : Addr} {o : HO} (h : hidL hs H b = some o) : H b = some o := by
  unfold hidL at h
  by_cases c : b ∈ hs
  · rw [if_pos c] at h
    cases h
  · rw [if_neg c] at h
    exact h
theorem hid_of {hs : List Addr} {H : Hp} {b : Addr} {o : HO} (n : b ∉ hs) (h : H b = some o) : hidL hs H b = some o := by
  unfold hidL
  rw [if_neg n]
  exact h
theorem hid_new {hs : List Addr} {H : Hp} {q : Addr} {o : HO} (hq : H q = none) (hh : ∀ b ∈ hs, H b ≠ none) : hidL hs (upd H q o) = upd (hidL hs H) q o := by
  funext b
  unfold hidL upd
  by_cases c : b ∈ hs
  · rw [if_pos c]
    by_cases e : b = q
    · subst e
      exact absurd hq (hh b c)
    · refine Eq.trans ?_ (if_neg e).symm
      exact (if_pos c).symm
  · rw [if_neg c]
    by_cases e : b = q
    · rw [if_pos e]
      exact (if_pos e).symm
    · rw [if_neg e]
      refine Eq.trans ?_ (if_neg e).symm
      exact (if_neg c).symm
theorem hid_none {hs : List Addr} {H : Hp} {q : Addr} (h : H q = none) : hidL hs H q = none := by
  unfold hidL
  by_cases c : q ∈ hs
  · rw [if_pos c]
  · rw [if_neg c]
    exact h
theorem hid_upd {hs : List Addr} {H : Hp} {q : Addr} {o : HO} (h : q ∈ hs) : hidL hs (upd H q o) = hidL hs H := by
  funext b
  unfold hidL upd
  by_cases c : b ∈ hs
  · rw [if_pos c, if_pos c]
  · rw [if_neg c, if_neg c]
    by_cases e : b = q
    · subst e
      exact absurd h c
    · rw [if_neg e]
theorem hid_cons {hs : List Addr} {G H : Hp} {q : Addr} (s : Same G (hidL hs H)) (hq : G q = none) : Same G (hidL (q :: hs) H) := fun b o e => by
  have z := s b o e
  unfold hidL at z ⊢
  by_cases c : b ∈ hs
  · rw [if_pos c] at z
    cases z
  · rw [if_neg c] at z
    have n : b ∉ q :: hs := fun m => by
      rcases List.mem_cons.mp m with m | m
      · rw [m, hq] at e
        cases e
      · exact c m
    rw [if_neg n]
    exact z
theorem drs_len {H : Hp} : ∀ {vs : List V} {ds : List PyData}, DRs H vs ds → vs.length = ds.length
  | _, _, .nil => rfl
  | _, _, .cons _ t => by rw [List.length_cons, List.length_cons, drs_len t]
theorem drs_at {H : Hp} : ∀ {vs : List V} {ds : List PyData} {i : Nat} {v : V}, DRs H vs ds → vs[i]? = some v → ∃ d, ds[i]? = some d ∧ DR H v d
  | _, _, _, _, .nil, h => by simp at h
  | _, _, 0, _, .cons r _, h => by
    simp at h
    subst h
    exact ⟨_, rfl, r⟩
  | _, _, i + 1, _, .cons _ t, h => by
    obtain ⟨d, h1, h2⟩ := drs_at (i := i) t (by simpa using h)
    exact ⟨d, by simpa using h1, h2⟩
theorem drs_at' {H : Hp} : ∀ {vs : List V} {ds : List PyData} {i : Nat} {d : PyData}, DRs H vs ds → ds[i]? = some d → ∃ v, vs[i]? = some v ∧ DR H v d
  | _, _, _, _, .nil, h => by simp at h
  | _, _, 0, _, .cons r _, h => by
    simp at h
    subst h
    exact ⟨_, rfl, r⟩
  | _, _, i + 1, _, .cons _ t, h => by
    obtain ⟨d, h1, h2⟩ := drs_at' (i := i) t (by simpa using h)
    exact ⟨d, by simpa using h1, h2⟩
theorem drs_app {H : Hp} : ∀ {vs ws : List V} {ds es : List PyData}, DRs H vs ds → DRs H ws es → DRs H (vs ++ ws) (ds ++ es)
  | _, _, _, _, .nil, h => h
  | _, _, _, _, .cons r t, h => .cons r (drs_app t h)
def Alive (hs : List Addr) (H : Hp) : Prop := ∀ b ∈ hs, H b ≠ none
/-- te gives a value that shows d; what stands behind hs stays; all else is new -/
def EvR (hs : List Addr) (te : TE) (σ : L2.St) (G : Hp) (d : PyData) : Prop := ∀ H1, Same G (hidL hs H1) → Alive hs H1 → ∀ Q : VK, (∀ v H2, Same (hidL hs H1) (hidL hs H2) → (∀ b ∈ hs, H2 b = H1 b) → DR (hidL hs H2) v d → Q v H2) → te σ H1 Q
def EvRs (hs : List Addr) (ta : TA) (σ : L2.St) (G : Hp) (ds : List PyData) : Prop := ∀ H1, Same G (hidL hs H1) → Alive hs H1 → ∀ Q : List V → Hp → Prop, (∀ vs H2, Same (hidL hs H1) (hidL hs H2) → (∀ b ∈ hs, H2 b = H1 b) → DRs (hidL hs H2) vs ds → Q vs H2) → ta σ H1 Q
section
variable {hs : List Addr} {σ : L2.St} {G : Hp} {te : TE} {ta : TA} {d : PyData} {ds : List PyData} {K : PySem.W.Frag}
theorem alive_eq {H1 H2 : Hp} (a : Alive hs H1) (e : ∀ b ∈ hs, H2 b = H1 b) : Alive hs H2 := fun b hb => by
  rw [e b hb]
  exact a b hb
theorem evr_non : EvR hs (tC .non) σ G .none := fun H1 s a Q q => q _ H1 (Same.refl _) (fun _ _ => rfl) .non
theorem evr_bl {b : Bool} : EvR hs (tC (.bl b)) σ G (.bool b) := fun H1 s a Q q => q _ H1 (Same.refl _) (fun _ _ => rfl) (.bl b)
theorem evr_int {i : Int} : EvR hs (tC (.int i)) σ G (.int i) := fun H1 s a Q q => q _ H1 (Same.refl _) (fun _ _ => rfl) (.int i)
theorem evr_str {x : Str} : EvR hs (tC (.str x)) σ G (.str x) := fun H1 s a Q q => q _ H1 (Same.refl _) (fun _ _ => rfl) (.str x)
theorem evr_neg {i : Int} : EvR hs (tUn (rU fun i => .int (-i)) (tC (.int i))) σ G (.int (-i)) := fun H1 s a Q q => ⟨i, rfl, q _ H1 (Same.refl _) (fun _ _ => rfl) (.int (-i))⟩
theorem evr_pow {i j : Int} (h : CPow i j) : EvR hs (tOp (rI CPow fun i j => .int (i ^ j.toNat)) (tC (.int i)) (tC (.int j))) σ G (.int (i ^ j.toNat)) := fun H1 s a Q q => ⟨i, j, rfl, rfl, h, q _ H1 (Same.refl _) (fun _ _ => rfl) (.int _)⟩
theorem evr_var {i : Nat} {v : V} (h : σ[i]? = some (some v)) (r : DR G v d) : EvR hs (tVar i) σ G d := fun H1 s a Q q => ⟨v, h, q _ H1 (Same.refl _) (fun _ _ => rfl) (DR.mono s _ _ r)⟩
theorem evrs_nil : EvRs hs tNil σ G [] := fun H1 s a Q q => q _ H1 (Same.refl _) (fun _ _ => rfl) .nil
theorem evrs_cons (h : EvR hs te σ G d) (t : EvRs hs ta σ G ds) : EvRs hs (tCons te ta) σ G (d :: ds) := fun H1 s a Q q =>
  h H1 s a _ fun v H2 s2 e2 r2 => t H2 (s.trans s2) (alive_eq a e2) _ fun vs H3 s3 e3 r3 => q _ H3 (s2.trans s3) (fun b hb => (e3 b hb).trans (e2 b hb)) (.cons (DR.mono s3 _ _ r2) r3)
theorem Same.new {G H : Hp} {q : Addr} {o : HO} (s : Same G H) (h : H q = none) : Same G (upd H q o) := fun b o' e => by
  by_cases c : b = q
  · subst c
    rw [s _ _ e] at h
    cases h
  · rw [upd_ne c]
    exact s _ _ e
theorem evr_new {H1 H2 : Hp} {Q : VK} {o : HO} {p : Addr} (a : Alive hs H1) (s2 : Same (hidL hs H1) (hidL hs H2)) (e2 : ∀ b ∈ hs, H2 b = H1 b) (hp : H2 p = none) (q : ∀ v H3, Same (hidL hs H1) (hidL hs H3) → (∀ b ∈ hs, H3 b = H1 b) → DR (hidL hs H3) v d → Q v H3)
    (r : Same (hidL hs H2) (hidL hs (upd H2 p o)) → hidL hs (upd H2 p o) p = some o → DR (hidL hs (upd H2 p o)) (.ref p) d) : Q (.ref p) (upd H2 p o) := by
  have a2 := alive_eq a e2
  have z := hid_new (o := o) hp a2
  have s3 : Same (hidL hs H2) (hidL hs (upd H2 p o)) := by
    rw [z]
    exact (Same.refl _).new (hid_none hp)
  refine q _ _ (s2.trans s3) (fun b hb => ?_) (r s3 (by rw [z]; exact upd_same))
  rw [upd_ne (fun e => a2 b hb (by rw [e]; exact hp))]
  exact e2 b hb
theorem evr_tup (h : EvRs hs ta σ G ds) (hl : ds.length ≤ 1000) : EvR hs (tTup ta) σ G (.tuple ds) := fun H1 s a Q q =>
  h H1 s a _ fun vs H2 s2 e2 r2 => ⟨by rw [drs_len r2]; exact Nat.le_trans hl (by decide), fun p hp => evr_new a s2 e2 hp q fun s3 e => .tup e (DRs.mono s3 _ _ r2)⟩
theorem evr_lst (h : EvRs hs ta σ G ds) (hl : ds.length ≤ 1000) : EvR hs (tLst ta) σ G (.list ds) := fun H1 s a Q q =>
  h H1 s a _ fun vs H2 s2 e2 r2 => ⟨by rw [drs_len r2]; exact Nat.le_trans hl (by decide), fun p hp => evr_new a s2 e2 hp q fun s3 e => .lst e (DRs.mono s3 _ _ r2)⟩
/-- {'a': 1} -/
theorem evr_dk {k : Str} {i : Int} : EvR hs (tDisp [(tC (.str k), tC (.int i))]) σ G (.dict [(.str k, .int i)]) := fun H1 s a Q q p hp => by
  refine ⟨upd_same, [(.inr k, .int i)], rfl, (by show 1 ≤ 15; decide), ?_⟩
  rw [upd_upd]
  exact evr_new a (Same.refl _) (fun _ _ => rfl) hp q fun s3 e => .dk e (.int i)
/-- {} -/
theorem evr_d0 : EvR hs tDNewK σ G (.dict []) := fun H1 s a Q q p hp => evr_new a (Same.refl _) (fun _ _ => rfl) hp q fun s3 e => .d0 e
/-- {(i, j): (x, y)} -/
theorem evr_dt {i j : Int} {x y : Str} : EvR hs (tDisp1T (tTup (tCons (tC (.int i)) (tCons (tC (.int j)) tNil))) (tTup (tCons (tC (.str x)) (tCons (tC (.str y)) tNil)))) σ G (.dict [(.tuple [.int i, .int j], .tuple [.str x, .str y])]) := fun H1 s a Q q p hp => by
  refine ⟨(by show 2 ≤ sizeLine; decide), fun t ht => ⟨(by show 2 ≤ sizeLine; decide), fun u hu => ?_⟩⟩
  have n1 : p ≠ t := ne_of_none upd_same ht
  have n2 : p ≠ u := ne_of_none (by rw [upd_ne n1]; exact upd_same) hu
  have n3 : t ≠ u := ne_of_none upd_same hu
  refine ⟨by rw [upd_ne n2, upd_ne n1]; exact upd_same, t, [.inl i, .inl j], rfl, by rw [upd_ne n3]; exact upd_same, ?_⟩
  have ht' : H1 t = none := by
    rw [upd_ne (Ne.symm n1)] at ht
    exact ht
  have hu' : H1 u = none := by
    rw [upd_ne (Ne.symm n3), upd_ne (Ne.symm n2)] at hu
    exact hu
  have eq : upd (upd (upd (upd H1 p (.dT [])) t (.tup [.int i, .int j])) u (.tup [.str x, .str y])) p (.dT [([.inl i, .inl j], .ref u)]) = upd (upd (upd H1 t (.tup [.int i, .int j])) u (.tup [.str x, .str y])) p (.dT [([.inl i, .inl j], .ref u)]) := by
    funext b
    unfold upd
    by_cases c : b = p
    · rw [if_pos c, if_pos c]
    · rw [if_neg c, if_neg c]
      by_cases c2 : b = u
      · rw [if_pos c2, if_neg c]
      · rw [if_neg c2, if_neg c]
  rw [eq]
  have at_ : ∀ {q : Addr}, H1 q = none → ∀ b ∈ hs, b ≠ q := fun hq b hb e => a b hb (by rw [e]; exact hq)
  have a1 : Alive hs (upd H1 t (.tup [.int i, .int j])) := fun b hb => by
    rw [upd_ne (at_ ht' b hb)]
    exact a b hb
  have hu2 : (upd H1 t (.tup [.int i, .int j])) u = none := by
    rw [upd_ne (Ne.symm n3)]
    exact hu'
  have a2 : Alive hs (upd (upd H1 t (.tup [.int i, .int j])) u (.tup [.str x, .str y])) := fun b hb => by
    rw [upd_ne (at_ hu' b hb)]
    exact a1 b hb
  have hp2 : (upd (upd H1 t (.tup [.int i, .int j])) u (.tup [.str x, .str y])) p = none := by
    rw [upd_ne n2, upd_ne n1]
    exact hp
  have s1 : Same (hidL hs H1) (hidL hs (upd (upd H1 t (.tup [.int i, .int j])) u (.tup [.str x, .str y]))) := by
    rw [hid_new hu2 a1, hid_new ht' a]
    exact ((Same.refl _).new (hid_none ht')).new (by rw [upd_ne (Ne.symm n3)]; exact hid_none hu')
  have e1 : ∀ b ∈ hs, (upd (upd H1 t (.tup [.int i, .int j])) u (.tup [.str x, .str y])) b = H1 b := fun b hb => by
    rw [upd_ne (at_ hu' b hb), upd_ne (at_ ht' b hb)]
  refine evr_new (H2 := upd (upd H1 t (.tup [.int i, .int j])) u (.tup [.str x, .str y])) a s1 e1 hp2 q fun s3 e => .dt e (.tup (s3 _ _ ?_) (.cons (.str x) (.cons (.str y) .nil)))
  rw [hid_new hu2 a1]
  exact upd_same
theorem dr_tup {H : Hp} {v : V} (r : DR H v (.tuple ds)) : ∃ a xs, v = .ref a ∧ H a = some (.tup xs) ∧ DRs H xs ds := by
  cases r with
  | tup e t => exact ⟨_, _, rfl, e, t⟩
theorem dr_lst {H : Hp} {v : V} (r : DR H v (.list ds)) : ∃ a xs, v = .ref a ∧ H a = some (.lst xs) ∧ DRs H xs ds := by
  cases r with
  | lst e t => exact ⟨_, _, rfl, e, t⟩
/-- t[j] -/
theorem evr_ixT {j : Nat} (h : EvR hs te σ G (.tuple ds)) (hj : ds[j]? = some d) : EvR hs (tOp (rIxT K) te (tC (.int (j : Nat)))) σ G d := fun H1 s a Q q =>
  h H1 s a _ fun v H2 s2 e2 r2 => by
    obtain ⟨b, xs, rfl, e, t⟩ := dr_tup r2
    obtain ⟨x, hx, rx⟩ := drs_at' t hj
    exact ⟨b, xs, (j : Nat), x, rfl, rfl, SqT.of (hid_at e), atI_nat hx, q x H2 s2 e2 rx⟩
/-- t * 2 -/
theorem evr_rep2 (h : EvR hs te σ G (.tuple ds)) (hn : ds ≠ []) (hl : ds.length ≤ 100) : EvR hs (tOp (rRepT K) te (tC (.int 2))) σ G (.tuple (ds ++ ds)) := fun H1 s a Q q =>
  h H1 s a _ fun v H2 s2 e2 r2 => by
    obtain ⟨b, xs, rfl, e, t⟩ := dr_tup r2
    have ln := drs_len t
    refine ⟨b, 2, xs, rfl, rfl, SqT.of (hid_at e), fun z => hn ?_, by decide, by decide, by omega, fun p hp => ?_⟩
    · rw [z] at ln
      exact List.eq_nil_of_length_eq_zero ln.symm
    · have z : (List.replicate (2 : Int).toNat xs).flatten = xs ++ xs := by
        show (List.replicate 2 xs).flatten = _
        simp [List.replicate]
      rw [z]
      refine evr_new a s2 e2 hp q fun s3 e3 => .tup e3 ?_
      exact drs_app (DRs.mono s3 _ _ t) (DRs.mono s3 _ _ t)
end
end L2
set_option maxHeartbeats 4000000
namespace L2
open PySem PySem.Spec PyProof.Rows
/-- a def that is called where nothing is being shown (repr) -/
structure FnG (P : Program) (w : World) (K : PySem.W.Frag) (mg : Str → Option Value) (base : Heap) (CX : CXT) (k : Nat) (f : Addr) (fd : FuncData) (ps : List Str) (sp : Sp) : Prop where
  len : ∀ vs H Q E, sp vs H Q E → vs.length = ps.length
  run : ∀ (A : Around) (outer : List Env) (s : Shared) (H : Hp) (args : Args) (us : List Value) (vs : List V) (Q : VK) (E : XK), A.guards = some [] → Room k A → Env0 P w K mg base A outer s H → BindsTo s fd args (ps.zip us) → Vals vs us → sp vs H Q E →
    codeAny (model P w) A (.call (.ref f) args) (CR CX outer P w H s Q E) s
def HasG (P : Program) (w : World) (K : PySem.W.Frag) (mg : Str → Option Value) (base : Heap) (CX : CXT) (k : Nat) (x : Str) (ps : List Str) (sp : Sp) : Prop :=
  mg x = some (.ref (He.ga K x)) ∧ PySem.W.keepIn K (.ref (He.ga K x)) = true ∧ ∃ fd, FnG P w K mg base CX k (He.ga K x) fd ps sp ∧ Binds K fd ps []
theorem hasG_of {P : Program} {w : World} {K : PySem.W.Frag} {mg : Str → Option Value} {base : Heap} {CX : CXT} {k : Nat} {x : Str} {params : Arguments} {body : List Stmt} {scope : Scope} {fd : FuncData} {N ps : List Str} {sp : Sp}
    (g : mg x = some (.ref (He.ga K x))) (F : FunD K x x params body scope [] [] (He.ga K x) fd) (S : FnScope N ps scope)
    (hb : ∀ (kV doc pm : Value) (an : Option Addr) (cdv ct : Value) (us : List Value), us.length = ps.length → bindArgs (PySem.W.fnOf x x params body scope .none kV doc pm an cdv ct) ⟨us, []⟩ = pure (ps.zip us))
    (len : ∀ vs H Q E, sp vs H Q E → vs.length = ps.length)
    (hbody : ∀ (cdv : Value) (A : Around) (outer : List Env) (s : Shared) (H : Hp) (vs : List V) (Q : VK) (E : XK), A.guards = some [] → Room k (A.deeper (envOfC x scope s.heap.objs.size (He.ga K x) cdv)) → sp vs H Q E →
      ∃ t, PSs (cxOf CX P w K mg base N x scope (He.ga K x) cdv A outer s H E) body t ∧ t { nx := fun _ H' => Q .non H', rt := Q } (start N vs) H) : HasG P w K mg base CX (k + 1) x ps sp := by
  refine ⟨g, F.kp, fd, ⟨len, fun A outer s H args us vs Q E hg hr e0 hbd r h => ?_⟩, F.bindsN hb⟩
  obtain ⟨oc, od, dV, kV, doc, pm, an, cdv, ct, osl, rfl, lk, hcd, _, _⟩ := F.ex
  exact LamX.run_ofS lk hcd S hr e0 hbd r (len _ _ _ _ h) fun hr' => hbody _ A outer s H vs Q E hg hr' h
section
variable {X : Cx} {CX : CXT} {k : Nat} {f : Addr} {fd : FuncData} {ps : List Str} {sp : Sp} {E : XK} {x : Str} {p pos : Pos} {e : Expr} {es : List Expr} {t : TA}
theorem pe_callG (F : FnG X.prog X.w X.K X.mg X.base CX k f fd ps sp) (gd : X.A.guards = some []) (hr : Room k X.A) (hg : Gl X x) (hm : X.mg x = some (.ref f)) (hk : PySem.W.keepIn X.K (.ref f) = true) (hb : Binds X.K fd ps []) (hx : Passes CX X E)
    (ha : PA X (e :: es) t) (hdb : (x == ("__debug__" : Str)) = false := by decide) (he : starEach (e :: es) X.env = (false, eval e X.env) :: starEach es X.env := by rfl) (hpl : (backTo pos (starEach es X.env)).any (·.1) = false := by rfl) :
    PE X (.Call (.Name x p) (e :: es) [] pos) (tCall sp [] E t) := by
  refine ⟨fun pins s σ H Q I h => ?_⟩
  refine wpAny_Call_Name_kw (ld_glob I hg hm ?_ hdb)
  refine PySem.W.callWith_K (h₀ := X.base) I.ok.mod.kin hk (thn (ha.run pos pins s σ H _ I h) fun us s1 ⟨vs, H1, J, r, q⟩ => ⟨J.kIn, ?_⟩) he hpl
  have q' : sp vs H1 Q E := by
    have z : sp (vs ++ []) H1 Q E := q
    rw [List.append_nil] at z
    exact z
  have ln : us.length = ps.length := by
    rw [← r.length]
    exact F.len _ _ _ _ q'
  have bd := hb s1 us J.kIn (by rw [List.append_nil]; exact ln)
  rw [List.append_nil] at bd
  refine wpAny_call (codeAny_mono (F.run X.A X.stack s1 H1 ⟨us, []⟩ us vs Q E gd hr J.env0 bd r q') fun r s' hq => ?_)
  match r, hq with
  | .error e, hq => exact hx pins σ H1 s1 e s' J hq
  | .ok (.ret u), hq => exact J.after hq
  | .ok .next, hq => exact hq.elim
  | .ok .brk, hq => exact hq.elim
  | .ok .cont, hq => exact hq.elim
end
end L2
set_option maxHeartbeats 4000000
namespace L2
open PySem PySem.Spec PyProof.Rows
/-- from the head's heap: the law is called, nothing is being shown, one table of codes (of the def itself) -/
theorem law_callG {P : Program} {w : World} {K : PySem.W.Frag} {mg mb : Str → Option Value} {CX : CXT} {k : Nat} {fa a cd Pt : Addr} {fd : FuncData} {x : Str} {sp : Sp} {s : Shared} {us : List Value} {ns : List Int}
    (KX : K.In s.heap) (gl : s.heap.Ns mainGlobals mg) (bl : s.heap.Ns builtinsNs mb) (bo : ∀ x : Str, x ≠ "__name__" → mb x = bootBuiltins x) (lim : s.heap.NoLimit) (gens : s.gens = #[])
    (hT : s.heap.get? Pt = some { cls := .none, data := .fields #[] }) (nT : K.lookup Pt = none) (C : PySem.W.CodeHd s.heap cd Pt)
    (hbm : ∃ (bm : Addr) (ob : Obj), mg "__builtins__" = some (.ref bm) ∧ bm ≠ builtinsNs ∧ s.heap.get? bm = some ob ∧ ob.cls = .type "module" ∧ ob.dict = some builtinsNs ∧ ob.data = .plain)
    (ha : s.heap.get? a = some { cls := .type "list", data := .seq us.toArray }) (hi : IntsAre us ns) (hl : ns.length ≤ sizeLine) (hr : Room k callerA)
    (F : ∀ base : Heap, K.In base → base.Ns mainGlobals mg → LamX.TabB base mg cd Pt → FnG P w K mg base CX k fa fd [x] sp) (hbind : ∀ (s : Shared) (u : Value), BindsTo s fd ⟨[u], []⟩ [(x, u)])
    (hsp : ∀ H : Hp, H Pt = some (.tbl #[]) → SqL K H a (ns.map V.int) → sp [.ref a] H (fun v _ => v = .bl true) fun _ _ _ => False)
    (hCX : ∀ H e s', CX [] H s (fun _ _ _ => False) e s' → False) :
    codeAny (model P w) callerA (.call (.ref fa) ⟨[.ref a], []⟩) (fun r s' => r = .ok (.ret (.bool true)) ∧ OldK s.heap s'.heap ∧ s'.os = s.os ∧ AllBare s'.gens) s := by
  have rv := vals_ints hi
  have lenV := hi.length
  have naP : a ≠ Pt := fun z => by
    rw [z, hT] at ha
    have z' : Data.fields #[] = Data.seq us.toArray _ := congrArg Obj.data (Option.some.inj ha)
    cases z'
  have go : ∀ H : Hp, H Pt = some (.tbl #[]) → (∀ b, b ≠ Pt → H b ≠ none → b = a ∧ K.lookup a = none ∧ ∃ xs, H b = some (.frz { cls := .type "list", data := .seq us.toArray } (.lst xs))) → SqL K H a (ns.map V.int) → HOk P w H s.heap →
      codeAny (model P w) callerA (.call (.ref fa) ⟨[.ref a], []⟩) (fun r s' => r = .ok (.ret (.bool true)) ∧ OldK s.heap s'.heap ∧ s'.os = s.os ∧ AllBare s'.gens) s := by
    intro H hP hO hS hok
    have clear : ∀ {b : Addr} {o : Obj}, s.heap.get? b = some o → b ≠ Pt → (b = a → K.lookup a = none → False) → (hidT s.heap H).get? b = some o := fun {b o} e n1 n2 => by
      refine hidT_get e ?_
      cases q : H b with
      | none => rfl
      | some u =>
        obtain ⟨z1, z2, _⟩ := hO b n1 (by rw [q]; simp)
        exact (n2 z1 z2).elim
    have notP : ∀ {b : Addr} {o : Obj}, s.heap.get? b = some o → o.data ≠ .fields #[] → b ≠ Pt := fun {b o} e n z => by
      rw [z, hT] at e
      cases e
      exact n rfl
    have notA : ∀ {b : Addr} {o : Obj}, s.heap.get? b = some o → (∀ vs n, o.data ≠ .seq vs n) → b = a → K.lookup a = none → False := fun {b o} e n z _ => by
      rw [z, ha] at e
      cases e
      exact n _ _ rfl
    have nsB : ∀ {b : Addr} {m : Str → Option Value}, s.heap.Ns b m → (hidT s.heap H).Ns b m := fun {b m} ⟨o, es, ep, e, d, r⟩ =>
      ⟨o, es, ep, clear e (notP e (by rw [d]; exact fun z => nomatch z)) (notA e fun vs n => by rw [d]; exact fun z => nomatch z), d, r⟩
    have KB : K.In (hidT s.heap H) := fun b o e => clear (KX b o e) (fun z => by rw [z, nT] at e; cases e) (fun z1 z2 => by rw [z1, z2] at e; cases e)
    have M : L2.Mod K mg (hidT s.heap H) := ⟨KB, nsB gl, ⟨mb, nsB bl, bo⟩, let ⟨mc, h1, h2⟩ := lim; ⟨mc, nsB h1, h2⟩⟩
    have TB : LamX.TabB (hidT s.heap H) mg cd Pt := by
      refine ⟨?_, ?_, fun z => ?_⟩
      · obtain ⟨o, vs, file, tf, flags, tg, inF, text, tt, e1, r1, r2, r3, rest⟩ := C
        refine ⟨o, vs, file, tf, flags, tg, inF, text, tt, clear e1 (notP e1 fun z => ?_) (notA e1 fun vs' n => by rw [r2]; exact fun z => nomatch z), r1, r2, r3, rest⟩
        rw [r2] at z
        cases z
        simp at r3
      · obtain ⟨bm, ob, b1, b2, b3, b4, b5, b6⟩ := hbm
        have nG : bm ≠ mainGlobals := fun q => by
          obtain ⟨o, es, ep, e, d, _⟩ := gl
          rw [q, e] at b3
          cases b3
          rw [d] at b6
          cases b6
        have nP := notP b3 (by rw [b6]; exact fun z => nomatch z)
        exact ⟨bm, ob, b1, b2, nG, nP, clear b3 nP (notA b3 fun vs n => by rw [b6]; exact fun z => nomatch z), b4, b5, b6⟩
      · obtain ⟨o, es, ep, e, d, _⟩ := gl
        exact notP e (by rw [d]; exact fun z => nomatch z) z
    have e0 : Env0 P w K mg (hidT s.heap H) callerA [] s H := ⟨rfl, M, fun b o e => of_hidT e, Nat.le_of_eq (hidT_size _ _), trivial, fun b hb => absurd (show b ∈ ([] : List Addr) from hb) (by simp), hok, .of_eq gens⟩
    refine codeAny_mono ((F _ KB (nsB gl) TB).run callerA [] s H ⟨[.ref a], []⟩ [.ref a] [.ref a] _ _ rfl hr e0 (hbind s (.ref a)) (.cons rfl .nil) (hsp H hP hS)) fun r s' h => ?_
    match r, h with
    | .error e, h => exact (hCX H e s' h).elim
    | .ok .next, h => exact h.elim
    | .ok .brk, h => exact h.elim
    | .ok .cont, h => exact h.elim
    | .ok (.ret u), h =>
      obtain ⟨v, H', os, bare, un, hok', r', q⟩ := h
      have q' : v = .bl true := q
      subst q'
      obtain rfl : u = Value.bool true := r'
      have kept : ∀ b o, b ≠ Pt → s.heap.get? b = some o → s'.heap.get? b = some o := fun b o nb e => by
        cases q : H b with
        | none => exact un.keep b o e q (by intro z; exact absurd (show b ∈ ([] : List Addr) from z) (by simp)) (by simp)
        | some u =>
          obtain ⟨_, _, xs, z⟩ := hO b nb (by rw [q]; simp)
          obtain ⟨e1, _⟩ := hok b _ z
          obtain ⟨e2, _⟩ := hok' b _ (un.frzs b _ _ z)
          rw [e] at e1
          cases e1
          exact e2
      obtain ⟨more, grew⟩ := un.tbls Pt #[] hP
      have tab' : s'.heap.get? Pt = some { cls := .none, data := .fields (#[] ++ more) } := hok' Pt _ grew
      refine ⟨rfl, ⟨fun b o e => ?_, fun b o e => ?_⟩, os, bare⟩
      · by_cases hb : b = Pt
        · subst hb
          rw [hT] at e
          cases e
          exact .inr (.inl ⟨(C.tab hT).isCodeTable, rfl, #[], more, rfl, tab'⟩)
        · exact .inl (kept b o hb e)
      · by_cases hb : b = Pt
        · subst hb
          exact ⟨_, tab'⟩
        · exact ⟨o, kept b o hb e⟩
  cases hk : K.lookup a with
  | some o =>
    have e := KX a o hk
    rw [ha] at e
    cases e
    refine go (fun b => if b = Pt then some (.tbl #[]) else none) (if_pos rfl) (fun b n z => absurd (if_neg n) z) (.inr ⟨_, us.toArray, _, hk, rfl, rfl, rfl, by rw [List.size_toArray, lenV]; exact hl, by simpa using rv⟩) (fun b u z => ?_)
    by_cases hb : b = Pt
    · have z' := (if_pos hb).symm.trans z
      cases z'
      subst hb
      exact hT
    · have z' := (if_neg hb).symm.trans z
      cases z'
  | none =>
    refine go (fun b => if b = Pt then some (.tbl #[]) else if b = a then some (.frz { cls := .type "list", data := .seq us.toArray } (.lst (ns.map V.int))) else none) (if_pos rfl) (fun b n z => ?_) (.inl (.inr ⟨{ cls := .type "list", data := .seq us.toArray }, (if_neg naP).trans (if_pos rfl)⟩)) (fun b u z => ?_)
    · by_cases hb : b = a
      · exact ⟨hb, hk, _, (if_neg n).trans (if_pos hb)⟩
      · exact absurd ((if_neg n).trans (if_neg hb)) z
    · by_cases hb : b = Pt
      · have z' := (if_pos hb).symm.trans z
        cases z'
        subst hb
        exact hT
      · have z1 := (if_neg hb).symm.trans z
        by_cases hb2 : b = a
        · have z' := (if_pos hb2).symm.trans z1
          cases z'
          subst hb2
          exact ⟨ha, by rw [List.length_map]; exact hl, us, _, rv, ha⟩
        · have z' := (if_neg hb2).symm.trans z1
          cases z'
end L2
namespace LamX
open PySem PySem.Spec PyProof.Rows L2
/-- what is known of the law at the head's heap h, its table Pt still empty -/
def LawG (l : PySem.W.OpenLaw) (w : World) (K : PySem.W.Frag) (CX : CXT) (k n : Nat) (x : Str) (mg : Str → Option Value) (fa : Addr) (h : Heap) : Prop :=
  ∃ (fd : FuncData) (cd Pt : Addr) (sp : Sp), h.get? Pt = some { cls := .none, data := .fields #[] } ∧ K.lookup Pt = none ∧ PySem.W.CodeHd h cd Pt ∧ (∀ (s : Shared) (u : Value), BindsTo s fd ⟨[u], []⟩ [(x, u)]) ∧
    (∀ (H : Hp) (a : Addr) (ns : List Int), ns.length ≤ n → (∀ z ∈ ns, Builtin.Int.intBits z ≤ 1048576) → H Pt = some (.tbl #[]) → SqL K H a (ns.map V.int) → sp [.ref a] H (fun v _ => v = .bl true) fun _ _ _ => False) ∧
    ∀ base : Heap, K.In base → base.Ns mainGlobals mg → TabB base mg cd Pt → FnG l.prog w K mg base CX k fa fd [x] sp
theorem walk_ofOwnG {l : PySem.W.OpenLaw} {n k : Nat} {q : Program} {loose : List Str} {XP : (Str → Option Value) → Heap → Prop} {YP : World → Heap → Prop} {d : DefRec} {CX : World → CXT} {x : Str}
    (hn : l.most = some n) (hn2 : n ≤ sizeLine) (hdf : d.params.defaults = []) (hr : Room k callerA) (hrec : ((recsOf q).any fun e => e.name == d.name) = true)
    (F : ∀ (w : World) (mg : Str → Option Value) (fa : Addr) (h : Heap), YP w h → h.Ns mainGlobals mg → mg d.name = some (.ref fa) → ∃ K : PySem.W.Frag, K.In h ∧ (OwnTab K fa h → LawG l w K (CX w) k n x mg fa h))
    (hCX : ∀ (w : World) (H : Hp) (s : Shared) (e : Value) (s' : Shared), CX w [] H s (fun _ _ _ => False) e s' → False) :
    PySem.W.WalkO q loose XP YP l.row.toRowW d [] (fun f vs => PySem.call f vs) := by
  refine Att.attach_callB hn hdf fun w s₀ s₁ mg mb fa o pm cd doc a vs ns G Y ho hd hcd hmg hobj hints hlen hbits hg => ?_
  obtain ⟨K, KX, F2⟩ := F w mg fa _ Y G.T.g hmg
  have own : OwnTab K fa s₁.heap := fun c P o1 fd1 e dd vs1 sl k1 k2 k3 k4 k5 => by
    obtain ⟨dL, hm, hn1⟩ := List.any_eq_true.mp hrec
    have hn2 : dL.name = d.name := beq_iff_eq.mp hn1
    obtain ⟨a', o', fd', c', P', h1, h2, h3, h4, h5, h6⟩ := G.T.tab dL hm
    rw [hn2, hmg] at h1
    cases h1
    have g1 := KX _ _ k1
    rw [g1] at h2
    cases h2
    rw [k2] at h3
    cases h3
    rw [k3] at h4
    cases h4
    obtain ⟨⟨oc, vc, e1, _, e3, e4⟩, hP⟩ := h6
    have g2 := KX _ _ k4
    rw [g2] at e1
    cases e1
    cases e3
    rw [k5] at e4
    cases e4
    exact hP
  obtain ⟨fd, c1, P1, sp, hT, nT, C, hb, hsp, hF⟩ := F2 own
  exact law_callG KX G.T.g G.T.b G.T.builtins G.T.nolimit hg hT nT C G.T.bmain hobj hints (Nat.le_trans hlen hn2) hr hF hb (fun H hH hS => hsp H a ns hlen hbits hH hS) fun H e s' => hCX w H s₁ e s'
end LamX
set_option maxHeartbeats 4000000
namespace L2
open PySem PySem.Spec PyProof.Rows
/-- a def that raises nothing, called where an exception p is handled; p may be asked for its class -/
structure FnP (P : Program) (w : World) (K : PySem.W.Frag) (mg : Str → Option Value) (base : Heap) (CX : CXT) (k : Nat) (f : Addr) (fd : FuncData) (ps : List Str) (sp : Addr × Obj → Sp) : Prop where
  len : ∀ p vs H Q E, sp p vs H Q E → vs.length = ps.length
  run : ∀ (A : Around) (outer : List Env) (s : Shared) (H : Hp) (args : Args) (us : List Value) (vs : List V) (Q : VK) (E : XK) (p : Addr × Obj), L2H.RoomH k A → L2H.PinOk outer H s p → Env0 P w K mg base A outer s H → BindsTo s fd args (ps.zip us) → Vals vs us → sp p vs H Q E →
    codeAny (model P w) A (.call (.ref f) args) (CR CX outer P w H s Q E) s
theorem fnP_of {CX : CXT} {P : Program} {w : World} {K : PySem.W.Frag} {mg : Str → Option Value} {base : Heap} {k : Nat} {f : Addr} {name qual : Str} {params : Arguments} {body : List Stmt} {scope : Scope} {fd : FuncData} {N ps : List Str} {sp : Addr × Obj → Sp}
    (F : FunD K name qual params body scope [] [] f fd) (hq : name = qual) (S : FnScope N ps scope) (len : ∀ p vs H Q E, sp p vs H Q E → vs.length = ps.length)
    (hbody : ∀ (cdv : Value) (A : Around) (outer : List Env) (s : Shared) (H : Hp) (vs : List V) (Q : VK) (E : XK) (p : Addr × Obj), L2H.RoomH k (A.deeper (envOfC qual scope s.heap.objs.size f cdv)) → sp p vs H Q E →
      ∃ t, PSs (L2H.cxH CX P w K mg base N qual scope f cdv A outer s H E p) body t ∧ t { nx := fun _ H' => Q .non H', rt := Q } (L2.start N vs) H) : FnP P w K mg base CX (k + 1) f fd ps sp := by
  obtain ⟨oc, od, dV, kV, doc, pm, an, cdv, ct, osl, rfl, lk, hcd, _, _⟩ := F.ex
  refine ⟨len, fun A outer s H args us vs Q E p hr hpin e0 hb r hsp => ?_⟩
  have ln := len _ _ _ _ _ hsp
  have KX : K.In s.heap := e0.mod.kin.keeps fun b o e => (e0.bs b o e).1
  have lim : s.heap.NoLimit := e0.mod.nolimit.keeps fun b o e => (e0.bs b o e).1
  refine codeAny_call_function hr.depth (KX _ _ lk) rfl S.co S.gen rfl (PySem.W.codeRec_of KX hcd) (hb _ _ _ _ ?_)
  refine wpAny_newFunctionEnv_cells S.kind (fun y hy => ?_) fun env he s1 x => ?_
  · rcases S.par y.1 (List.of_mem_zip hy).1 with q | q
    · exact .inl q
    · exact .inr ⟨q, PySem.W.cellsFrom_some _ _ _ (.inl q)⟩
  subst he
  refine ⟨lim.keeps x.toInCall.keep, codeAny_func ?_⟩
  obtain ⟨t, ht, tq⟩ := hbody cdv A outer s H vs Q E p (hr.deeper _) hsp
  have J := L2H.inv_startH (CX := CX) (E := E) (cd := cdv) S hpin e0 ln r x
  refine wpAny_mono (ht.run [] s1 (L2.start N vs) H _ J tq) (fun fl s' hs => ?_) fun e s' hs => hs
  have fin : ∀ {σ' : St} {H' : Hp} {v : V} {u : Value}, Inv (L2H.cxH CX P w K mg base N qual scope f cdv A outer s H E p) [] σ' H' s' → RelV v u → Q v H' → CE outer P w H s Q u s' := fun {σ' H' v u} I rv q => ⟨v, H', I.os, I.bare, I.base, I.hok, rv, q⟩
  match fl, hs with
  | .ret u, ⟨v, σ', H', I, rv, q⟩ => exact fin I rv q
  | .next, ⟨σ', H', I, q⟩ => exact fin (v := V.non) (u := Value.none) I rfl q
  | .brk, ⟨_, _, _, q⟩ => exact q.elim
  | .cont, ⟨_, _, _, q⟩ => exact q.elim
section
variable {X : Cx} {CX : CXT} {k : Nat} {f : Addr} {fd : FuncData} {ps : List Str} {sp : Addr × Obj → Sp} {E : XK} {x : Str} {q pos : Pos} {e : Expr} {es : List Expr} {t : TA} {p : Addr × Obj}
theorem pe_callP (F : FnP X.prog X.w X.K X.mg X.base CX k f fd ps sp) (hr : L2H.RoomH k X.A) (hp : p ∈ X.pn) (hg : Gl X x) (hm : X.mg x = some (.ref f)) (hk : PySem.W.keepIn X.K (.ref f) = true) (hb : Binds X.K fd ps []) (hx : Passes CX X E)
    (ha : PA X (e :: es) t) (hdb : (x == ("__debug__" : Str)) = false := by decide) (he : starEach (e :: es) X.env = (false, eval e X.env) :: starEach es X.env := by rfl) (hpl : (backTo pos (starEach es X.env)).any (·.1) = false := by rfl) :
    PE X (.Call (.Name x q) (e :: es) [] pos) (tCall (sp p) [] E t) := by
  refine ⟨fun pins s σ H Q I h => ?_⟩
  refine wpAny_Call_Name_kw (ld_glob I hg hm ?_ hdb)
  refine PySem.W.callWith_K (h₀ := X.base) I.ok.mod.kin hk (thn (ha.run pos pins s σ H _ I h) fun us s1 ⟨vs, H1, J, r, q⟩ => ⟨J.kIn, ?_⟩) he hpl
  have q' : sp p vs H1 Q E := by
    have z : sp p (vs ++ []) H1 Q E := q
    rw [List.append_nil] at z
    exact z
  have ln : us.length = ps.length := by
    rw [← r.length]
    exact F.len _ _ _ _ _ q'
  have bd := hb s1 us J.kIn (by rw [List.append_nil]; exact ln)
  rw [List.append_nil] at bd
  have P1 := J.pin p (List.mem_append_left _ hp)
  have hpin : L2H.PinOk X.stack H1 s1 p := ⟨P1.1, P1.2.1, fun hm => (List.mem_cons.mp (J.stkSub p.1 hm)).elim P1.2.2.1 P1.2.2.2.1, P1.2.2.2.2⟩
  refine wpAny_call (codeAny_mono (F.run X.A X.stack s1 H1 ⟨us, []⟩ us vs Q E p hr hpin J.env0 bd r q') fun r s' hq => ?_)
  match r, hq with
  | .error e, hq => exact hx pins σ H1 s1 e s' J hq
  | .ok (.ret u), hq => exact J.after hq
  | .ok .next, hq => exact hq.elim
  | .ok .brk, hq => exact hq.elim
  | .ok .cont, hq => exact hq.elim
end
end L2
set_option maxHeartbeats 4000000
namespace PySem
namespace ZE
open PySem PyProof.Rows
section
variable {prog : Program} {w : World} {A : Around} {E : Value → Shared → Prop} {s : Shared}
/-- zip's next over two empty texts: at its end at once -/
theorem zip0_next {z TI TO i1 i2 : Addr} {t1 : Tok} {a b : Value} {Q : Fin → Shared → Prop} (hh : A.handled = none) (n1 : i1 ≠ z)
    (hz : IsZip s.heap z TI TO .none) (hTI : IsPair s.heap TI (.ref i1) (.ref i2)) (hTO : IsPair s.heap TO a b) (h1 : s.heap.IsStrIter i1 "str_ascii_iterator" "" t1 0)
    (hE : ∀ h' e, (∀ c o, c ≠ z → c ≠ i1 → s.heap.get? c = some o → h'.get? c = some o) → (∃ o, h'.get? e = some o ∧ o.cls = .type "StopIteration") → E (.ref e) { s with heap := h' }) :
    wpAny (model prog w) A (Builtin.«zip.__next__» ⟨[.ref z], []⟩) Q E s := by
  show wpAny _ _ (field (.ref z) 2 >>= _) _ _ _
  refine wpAny_bind (wpAny_field hz rfl (x := .bool false) rfl ?_)
  show wpAny _ _ (field (.ref z) 3 >>= _) _ _ _
  refine wpAny_bind (wpAny_field hz rfl (x := .ref TI) rfl ?_)
  refine wpAny_bind (wpAny_seqItems hTI rfl ?_)
  show wpAny _ _ (Builtin.SmallTypes.ownedTupleIsFree (.ref z) >>= _) _ _ _
  refine wpAny_bind ?_
  unfold Builtin.SmallTypes.ownedTupleIsFree
  refine wpAny_bind (wpAny_field hz rfl (x := .none) rfl (wpAny_pure ?_))
  simp only [if_true]
  refine wpAny_bind (wpAny_rule ?_)
  refine wpAny_bind (wpAny_field hz rfl (x := .ref TO) rfl ?_)
  refine wpAny_bind (wpAny_setField_rec hz (by simp) fun h₁ hz₁ hs₁ => ?_)
  replace hz₁ : IsZip h₁ z TI TO .ellipsis := hz₁
  refine wpAny_bind ?_
  simp only [List.zipIdx_cons, List.zipIdx_nil, List.forIn_cons, List.forIn_nil]
  refine wpAny_bind (wpAny_bind (wpAny_onRaise ?_))
  show wpAny _ _ (Builtin.SmallTypes.nextOf (.ref i1) >>= _) _ _ _
  have h1' : h₁.IsStrIter i1 "str_ascii_iterator" "" t1 0 := let ⟨o, ho, r⟩ := h1; ⟨o, hs₁.extBut _ _ n1 ho, r⟩
  refine wpAny_bind (wpAny_nextOf_ascii_end hh h1' rfl fun h₂ e hs₂ he => ?_)
  obtain ⟨oe, hoe, hce⟩ := he
  have hz₂ : IsZip h₂ z TI TO .ellipsis := hs₂ _ _ n1.symm hz₁
  have hez : e ≠ z := fun x => by
    rw [x, hz₂] at hoe
    cases hoe
    simp at hce
  exact wpAny_setField_rec hz₂ (by simp) fun h₃ _ hs₃ => hE h₃ e (fun c o c1 c3 x => hs₃.extBut _ _ c1 (hs₂ _ _ c3 (hs₁.extBut _ _ c1 x))) ⟨oe, hs₃.extBut _ _ hez hoe, hce⟩
theorem zip0_done {z TI TO i1 i2 : Addr} {t1 : Tok} {a b : Value} {Q : Option Value → Shared → Prop} (hh : A.handled = none) (n1 : i1 ≠ z)
    (hz : IsZip s.heap z TI TO .none) (hTI : IsPair s.heap TI (.ref i1) (.ref i2)) (hTO : IsPair s.heap TO a b) (h1 : s.heap.IsStrIter i1 "str_ascii_iterator" "" t1 0)
    (hQ : ∀ h', (∀ c o, c ≠ z → c ≠ i1 → s.heap.get? c = some o → h'.get? c = some o) → Q none { s with heap := h' }) : wpAny (model prog w) A (pyNext (.ref z)) Q E s := by
  have hT : s.TypeIs (.ref z) "zip" := ⟨_, hz, rfl⟩
  unfold pyNext
  refine wpAny_bind (wpAny_attempt (wpAny_callSpecial?_slot (name := Str.ofString "__next__") hT F.slot_zip_next
    (wpAny_call_entry F.slot_zip_next hT F.entry_zip_next (zip0_next hh n1 hz hTI hTO h1 fun h' e hk he => ?_) (F.args_zip_next_1 _))))
  obtain ⟨o, ho, hc⟩ := he
  refine wpAny_bind (wpAny_isInstance (T := "StopIteration") (b := true) ⟨o, ho, hc⟩ isSubtype_stop ?_)
  exact wpAny_pure (hQ _ hk)
end
abbrev g1 (h : Heap) (t : Tok) : Heap := h.push { cls := .type "str_ascii_iterator", data := .fields #[.str "" t, .int 0 0] }
abbrev g3 (h : Heap) (t u : Tok) : Heap := (g1 (g1 h t) u).push { cls := .type "tuple", data := .seq #[.ref h.objs.size, .ref (g1 h t).objs.size] }
abbrev g4 (h : Heap) (t u : Tok) : Heap := (g3 h t u).push { cls := .type "tuple", data := .seq #[.none, .none] }
abbrev g5 (h : Heap) (t u : Tok) : Heap := (g4 h t u).push { cls := .type "zip", data := .fields #[.none, .bool false, .bool false, .ref (g1 (g1 h t) u).objs.size, .ref (g3 h t u).objs.size] }
theorem meets_zip0 (t u : Tok) : Meets (Builtin.«zip.__new__» ⟨[.type "zip", .str "" t, .str "" u], []⟩) (fun _ R s => R (.ok (.ret (.ref (g4 s.heap t u).objs.size))) { s with heap := g5 s.heap t u }) :=
  .of_wp fun prog w A R s h => by
    obtain ⟨hp, g, d, tk, os⟩ := s
    have hsub := sub_zip
    have e1 : (Str.ofString "").cps.all (· < 128) = true := by decide +kernel
    wp_walk using (wpAny_pyIter_ascii (x := "") (t := t) e1), (wpAny_pyIter_ascii (x := "") (t := u) e1)
    exact ⟨_, rfl, h⟩
section
variable {prog : Program} {w : World} {A : Around} {E : Value → Shared → Prop} {s : Shared}
theorem call_zip0 {t u : Tok} {Q : Value → Shared → Prop}
    (h : ∀ h', IsZip h' (s.heap.objs.size + 4) (s.heap.objs.size + 2) (s.heap.objs.size + 3) .none → IsPair h' (s.heap.objs.size + 2) (.ref s.heap.objs.size) (.ref (s.heap.objs.size + 1)) →
      IsPair h' (s.heap.objs.size + 3) .none .none → h'.IsStrIter s.heap.objs.size "str_ascii_iterator" "" t 0 → h'.IsStrIter (s.heap.objs.size + 1) "str_ascii_iterator" "" u 0 →
      (∀ c o, s.heap.get? c = some o → h'.get? c = some o) → Q (.ref (s.heap.objs.size + 4)) { s with heap := h' }) :
    wpAny (model prog w) A (call (.type "zip") [.str "" t, .str "" u]) Q E s := by
  refine callType_new F.called_zip (by decide) (F.typeCall_zip_2 _ _) (F.newCall_zip_2 _ _) (fun obj => F.args_object_init_3 obj _ _) F.entry_zip_new (meets_zip0 t u) ?_
  have z1 : (g1 s.heap t).objs.size = s.heap.objs.size + 1 := Heap.size_push ..
  have z2 : (g1 (g1 s.heap t) u).objs.size = s.heap.objs.size + 2 := by rw [Heap.size_push, z1]
  have z3 : (g3 s.heap t u).objs.size = s.heap.objs.size + 3 := by rw [Heap.size_push, z2]
  have z4 : (g4 s.heap t u).objs.size = s.heap.objs.size + 4 := by rw [Heap.size_push, z3]
  have q5 : (g5 s.heap t u).get? (g4 s.heap t u).objs.size = some _ := Heap.get?_push_size _ rfl
  have q4 : (g5 s.heap t u).get? (g3 s.heap t u).objs.size = some _ := Heap.get?_push_of_some _ (Heap.get?_push_size _ rfl)
  have q3 : (g5 s.heap t u).get? (g1 (g1 s.heap t) u).objs.size = some _ := Heap.get?_push_of_some _ (Heap.get?_push_of_some _ (Heap.get?_push_size _ rfl))
  have q2 : (g5 s.heap t u).get? (g1 s.heap t).objs.size = some _ := Heap.get?_push_of_some _ (Heap.get?_push_of_some _ (Heap.get?_push_of_some _ (Heap.get?_push_size _ rfl)))
  have q1 : (g5 s.heap t u).get? s.heap.objs.size = some _ := Heap.get?_push_of_some _ (Heap.get?_push_of_some _ (Heap.get?_push_of_some _ (Heap.get?_push_of_some _ (Heap.get?_push_size _ rfl))))
  show _ ∧ _
  rw [z2, z3, z4] at q5
  rw [z1, z2] at q3
  rw [z3] at q4
  rw [z1] at q2
  rw [z4]
  exact ⟨⟨_, q5, rfl⟩, h _ q5 q3 q4 ⟨_, q1, rfl, rfl⟩ ⟨_, q2, rfl, rfl⟩ fun c o x =>
    Heap.get?_push_of_some _ (Heap.get?_push_of_some _ (Heap.get?_push_of_some _ (Heap.get?_push_of_some _ (Heap.get?_push_of_some _ x))))⟩
end
end ZE
end PySem
namespace L2
open PySem PySem.Spec PyProof.Rows
/-- nothing to go over -/
def It0 : It := ⟨fun _ _ => False, fun _ _ _ _ => False, fun _ _ => True⟩
theorem turn_zip0 {P : Program} {w : World} {K : PySem.W.Frag} {tg : Expr} {z TI TO i1 i2 : Addr} {t u : Tok} (n1 : i1 ≠ z) :
    Turn P w K tg It0 [z, TI, TO, i1, i2] z (fun _ h => IsZip h z TI TO .none ∧ IsPair h TI (.ref i1) (.ref i2) ∧ (∃ x y, IsPair h TO x y) ∧ h.IsStrIter i1 "str_ascii_iterator" "" t 0 ∧ h.IsStrIter i2 "str_ascii_iterator" "" u 0) where
  mem := by simp
  obj := fun i h st c hc => by
    obtain ⟨hz, hTI, ⟨x, y, hTO⟩, ⟨o1, e1, _, d1⟩, ⟨o2, e2, _, d2⟩⟩ := st
    have e' : c = z ∨ c = TI ∨ c = TO ∨ c = i1 ∨ c = i2 := by simpa using hc
    rcases e' with q | q | q | q | q
    · rw [q]; exact ⟨_, hz, fun v q => nomatch q⟩
    · rw [q]; exact ⟨_, hTI, fun v q => nomatch q⟩
    · rw [q]; exact ⟨_, hTO, fun v q => nomatch q⟩
    · rw [q]; exact ⟨o1, e1, fun v q => by rw [d1] at q; cases q⟩
    · rw [q]; exact ⟨o2, e2, fun v q => by rw [d2] at q; cases q⟩
  keep := fun i h h' st k => by
    obtain ⟨hz, hTI, ⟨x, y, hTO⟩, ⟨o1, e1, r1⟩, ⟨o2, e2, r2⟩⟩ := st
    exact ⟨k z (by simp) _ hz, k TI (by simp) _ hTI, ⟨x, y, k TO (by simp) _ hTO⟩, ⟨o1, k i1 (by simp) _ e1, r1⟩, ⟨o2, k i2 (by simp) _ e2, r2⟩⟩
  item := by
    intro X hP hw hK hc i pins s σ H E I hf st hg
    exact (show False from hg).elim
  done := by
    intro X hP hw hK hc i pins s σ H E I hf st hg
    subst hP hw hK
    obtain ⟨hz, hTI, ⟨x0, y0, hTO⟩, h1, h2⟩ := st
    exact ZE.zip0_done (I.ok.hd hc) n1 hz hTI hTO h1 fun h' hk => ⟨rfl, I.turnedL (t' := s.toks) (ch := [z, TI, TO, i1, i2]) (fun c o hb q => hk c o (fun q' => hb (by simp [q'])) (fun q' => hb (by simp [q'])) q) hf⟩
  self := fun A i s Q E st h => wpAny_pyIter_zip st.1 h
/-- for .. in zip(x, y), both texts empty -/
def iZip0 (ta : TA) : TI := fun σ H R => ta σ H fun vs H1 => vs = [.str "", .str ""] ∧ R It0 H1
theorem pi_zip0 {X : Cx} {e e2 : Expr} {ta : TA} {p pos : Pos} {tg : Expr} (hg : Gl X "zip") (hm : X.mg "zip" = none) (ha : PA X [e, e2] ta)
    (hs : starEach [e, e2] X.env = (false, eval e X.env) :: starEach [e2] X.env := by rfl) (hpl : (backTo pos (starEach [e2] X.env)).any (·.1) = false := by rfl) :
    PI X tg (.Call (.Name "zip" p) [e, e2] [] pos) (iZip0 ta) := by
  refine ⟨fun pins s σ H R I h => ?_⟩
  refine Call_ (ld_blt I hg hm PyProof.Rows.boot_zip (PyProof.Rows.callWith_type1 (thn (ha.run pos pins s σ H _ I h) fun us s1 ⟨vs, H1, I1, r1, q1⟩ => ?_) hs hpl))
  obtain ⟨ex, q⟩ := q1
  subst ex
  cases r1 with
  | cons r rr =>
    cases rr with
    | cons r' rr =>
      cases rr
      obtain ⟨t, rfl⟩ := r
      obtain ⟨u, rfl⟩ := r'
      refine ZE.call_zip0 fun h' hz hTI hTO h1 h2 hk => wpAny_pyIter_zip hz ?_
      have I2 : Inv X pins σ H1 { s1 with heap := h' } := I1.kept (t' := s1.toks) hk
      refine ⟨s1.heap.objs.size + 4, [s1.heap.objs.size + 4, s1.heap.objs.size + 2, s1.heap.objs.size + 3, s1.heap.objs.size, s1.heap.objs.size + 1], _, _, H1, rfl, I2, turn_zip0 (Nat.ne_of_lt (Nat.lt_add_of_pos_right (by decide))), ⟨hz, hTI, ⟨_, _, hTO⟩, h1, h2⟩, fun c hcm => ?_, q⟩
      have e' : c = s1.heap.objs.size + 4 ∨ c = s1.heap.objs.size + 2 ∨ c = s1.heap.objs.size + 3 ∨ c = s1.heap.objs.size ∨ c = s1.heap.objs.size + 1 := by simpa using hcm
      have hle : s1.heap.objs.size ≤ c := by
        rcases e' with z | z | z | z | z
        · rw [z]; exact Nat.le_add_right _ _
        · rw [z]; exact Nat.le_add_right _ _
        · rw [z]; exact Nat.le_add_right _ _
        · rw [z]; exact Nat.le_refl _
        · rw [z]; exact Nat.le_add_right _ _
      exact I1.fpOk hle (I1.hok.fresh hle)
end L2
set_option maxHeartbeats 0
namespace K0
open PySem PySem.Spec PyProof.Rows L2
def top (i : Nat) : Stmt := PySem.Challenge.pw_manymarks_k00_errors.main.body.getD i (.Pass ⟨0, 0, 0, 0⟩)
abbrev s_isWord : Stmt := top 23
def d_isWord : He.DefD := ⟨("is_word", none), "is_word", "is_word", defArgs s_isWord, defBody s_isWord, defScope s_isWord, [], []⟩
abbrev s_areLetters : Stmt := top 26
def d_areLetters : He.DefD := ⟨("are_letters", none), "are_letters", "are_letters", defArgs s_areLetters, defBody s_areLetters, defScope s_areLetters, [], []⟩
abbrev s_isDelay : Stmt := top 27
def d_isDelay : He.DefD := ⟨("is_delay", none), "is_delay", "is_delay", defArgs s_isDelay, defBody s_isDelay, defScope s_isDelay, [], []⟩
abbrev s_reqWord : Stmt := top 28
def d_reqWord : He.DefD := ⟨("require_word", none), "require_word", "require_word", defArgs s_reqWord, defBody s_reqWord, defScope s_reqWord, [], []⟩
abbrev s_shared : Stmt := top 29
def d_shared : He.DefD := ⟨("shared_letters", none), "shared_letters", "shared_letters", defArgs s_shared, defBody s_shared, defScope s_shared, [], []⟩
abbrev s_delayIn : Stmt := top 30
def d_delayIn : He.DefD := ⟨("delay_in", none), "delay_in", "delay_in", defArgs s_delayIn, defBody s_delayIn, defScope s_delayIn, [], []⟩
abbrev s_delay : Stmt := top 34
def d_delay : He.DefD := ⟨("delay", none), "delay", "delay", defArgs s_delay, defBody s_delay, defScope s_delay, [], []⟩
abbrev s_reqDelay : Stmt := top 35
def d_reqDelay : He.DefD := ⟨("require_delay", none), "require_delay", "require_delay", defArgs s_reqDelay, defBody s_reqDelay, defScope s_reqDelay, [], []⟩
abbrev s_ledOn : Stmt := top 36
def d_ledOn : He.DefD := ⟨("led_on", none), "led_on", "led_on", defArgs s_ledOn, defBody s_ledOn, defScope s_ledOn, [], []⟩
abbrev s_rwInit : Stmt := inClass (top 89) 0
def d_rwInit : He.DefD := ⟨("Rewriter", some "__init__"), "__init__", "Rewriter.__init__", defArgs s_rwInit, defBody s_rwInit, defScope s_rwInit, [], []⟩
abbrev s_iNumber : Stmt := inClass (top 11) 0
def d_iNumber : He.DefD := ⟨("InvalidNumber", some "__init__"), "__init__", "InvalidNumber.__init__", defArgs s_iNumber, defBody s_iNumber, defScope s_iNumber, [], []⟩
abbrev s_iName : Stmt := inClass (top 12) 0
def d_iName : He.DefD := ⟨("UnknownName", some "__init__"), "__init__", "UnknownName.__init__", defArgs s_iName, defBody s_iName, defScope s_iName, [], []⟩
abbrev s_iMany : Stmt := inClass (top 13) 0
def d_iMany : He.DefD := ⟨("TooMany", some "__init__"), "__init__", "TooMany.__init__", defArgs s_iMany, defBody s_iMany, defScope s_iMany, [], []⟩
abbrev s_iSingle : Stmt := inClass (top 14) 0
def d_iSingle : He.DefD := ⟨("NotSingle", some "__init__"), "__init__", "NotSingle.__init__", defArgs s_iSingle, defBody s_iSingle, defScope s_iSingle, [], []⟩
abbrev s_iMarks : Stmt := inClass (top 15) 0
def d_iMarks : He.DefD := ⟨("NeedsMarks", some "__init__"), "__init__", "NeedsMarks.__init__", defArgs s_iMarks, defBody s_iMarks, defScope s_iMarks, [], []⟩
abbrev s_iUndo : Stmt := inClass (top 16) 0
def d_iUndo : He.DefD := ⟨("NothingToUndo", some "__init__"), "__init__", "NothingToUndo.__init__", defArgs s_iUndo, defBody s_iUndo, defScope s_iUndo, [], []⟩
abbrev s_start : Stmt := top 95
def d_start : He.DefD := ⟨("_law_start", none), "_law_start", "_law_start", defArgs s_start, defBody s_start, defScope s_start, [], []⟩
abbrev s_throw : Stmt := top 96
def d_throw : He.DefD := ⟨("_law_throw", none), "_law_throw", "_law_throw", defArgs s_throw, defBody s_throw, defScope s_throw, [], []⟩
abbrev s_pick : Stmt := top 97
def d_pick : He.DefD := ⟨("_law_pick", none), "_law_pick", "_law_pick", defArgs s_pick, defBody s_pick, defScope s_pick, [], []⟩
abbrev s_told : Stmt := top 98
def d_told : He.DefD := ⟨("_law_told", none), "_law_told", "_law_told", defArgs s_told, defBody s_told, defScope s_told, [], []⟩
abbrev s_flags : Stmt := top 99
def d_flags : He.DefD := ⟨("_law_flags", none), "_law_flags", "_law_flags", defArgs s_flags, defBody s_flags, defScope s_flags, [], []⟩
abbrev s_bases : Stmt := top 100
def d_bases : He.DefD := ⟨("_law_bases", none), "_law_bases", "_law_bases", defArgs s_bases, defBody s_bases, defScope s_bases, [], []⟩
abbrev s_only : Stmt := top 101
def d_only : He.DefD := ⟨("_law_only", none), "_law_only", "_law_only", defArgs s_only, defBody s_only, defScope s_only, [], []⟩
abbrev s_messages : Stmt := top 102
def d_messages : He.DefD := ⟨("_law_messages_right", none), "_law_messages_right", "_law_messages_right", defArgs s_messages, defBody s_messages, defScope s_messages, [], []⟩
abbrev s_drawn : Stmt := top 103
def d_drawn : He.DefD := ⟨("_law_drawn_values", none), "_law_drawn_values", "_law_drawn_values", defArgs s_drawn, defBody s_drawn, defScope s_drawn, [], []⟩
abbrev s_values : Stmt := top 104
def d_values : He.DefD := ⟨("_law_values_right", none), "_law_values_right", "_law_values_right", defArgs s_values, defBody s_values, defScope s_values, [], []⟩
abbrev s_taken : Stmt := top 105
def d_taken : He.DefD := ⟨("_law_taken", none), "_law_taken", "_law_taken", defArgs s_taken, defBody s_taken, defScope s_taken, [], []⟩
abbrev s_law : Stmt := top 106
def d_law : He.DefD := ⟨("law", none), "law", "law", defArgs s_law, defBody s_law, defScope s_law, [], []⟩
def fn : List He.DefD := [d_isWord, d_areLetters, d_isDelay, d_reqWord, d_shared, d_delayIn, d_delay, d_reqDelay, d_ledOn, d_rwInit, d_iNumber, d_iName, d_iMany, d_iSingle, d_iMarks, d_iUndo, d_start, d_throw, d_pick, d_told, d_flags, d_bases, d_only, d_messages, d_drawn, d_values, d_taken, d_law]
theorem sc_isWord : FnScope ["value", "sign"] ["value"] (defScope s_isWord) := ⟨rfl, rfl, rfl, by decide +kernel, rfl, by decide +kernel, by decide +kernel⟩
theorem sc_areLetters : FnScope ["value"] ["value"] (defScope s_areLetters) := ⟨rfl, rfl, rfl, by decide +kernel, rfl, by decide +kernel, by decide +kernel⟩
theorem sc_isDelay : FnScope ["value", "word"] ["value"] (defScope s_isDelay) := ⟨rfl, rfl, rfl, by decide +kernel, rfl, by decide +kernel, by decide +kernel⟩
theorem sc_reqWord : FnScope ["value"] ["value"] (defScope s_reqWord) := ⟨rfl, rfl, rfl, by decide +kernel, rfl, by decide +kernel, by decide +kernel⟩
theorem sc_shared : FnScope ["word", "other", "many", "one", "two"] ["word", "other"] (defScope s_shared) := ⟨rfl, rfl, rfl, by decide +kernel, rfl, by decide +kernel, by decide +kernel⟩
theorem sc_delayIn : FnScope ["word", "other", "many"] ["word", "other"] (defScope s_delayIn) := ⟨rfl, rfl, rfl, by decide +kernel, rfl, by decide +kernel, by decide +kernel⟩
theorem sc_delay : FnScope ["word", "other"] ["word", "other"] (defScope s_delay) := ⟨rfl, rfl, rfl, by decide +kernel, rfl, by decide +kernel, by decide +kernel⟩
theorem sc_reqDelay : FnScope ["value"] ["value"] (defScope s_reqDelay) := ⟨rfl, rfl, rfl, by decide +kernel, rfl, by decide +kernel, by decide +kernel⟩
theorem sc_ledOn : FnScope ["delay", "word", "other"] ["delay", "word", "other"] (defScope s_ledOn) := ⟨rfl, rfl, rfl, by decide +kernel, rfl, by decide +kernel, by decide +kernel⟩
theorem sc_rwInit : FnScope ["self", "letters", "starts", "edges", "ends", "states", "edge", "useful"] ["self", "letters", "starts", "edges", "ends"] (defScope s_rwInit) := ⟨rfl, rfl, rfl, by decide +kernel, rfl, by decide +kernel, by decide +kernel⟩
theorem sc_iNumber : FnScope ["self", "value"] ["self", "value"] (defScope s_iNumber) := ⟨rfl, rfl, rfl, by decide +kernel, rfl, by decide +kernel, by decide +kernel⟩
theorem sc_iName : FnScope ["self", "name"] ["self", "name"] (defScope s_iName) := ⟨rfl, rfl, rfl, by decide +kernel, rfl, by decide +kernel, by decide +kernel⟩
theorem sc_iMany : FnScope ["self", "limit"] ["self", "limit"] (defScope s_iMany) := ⟨rfl, rfl, rfl, by decide +kernel, rfl, by decide +kernel, by decide +kernel⟩
theorem sc_iSingle : FnScope ["self", "paper"] ["self", "paper"] (defScope s_iSingle) := ⟨rfl, rfl, rfl, by decide +kernel, rfl, by decide +kernel, by decide +kernel⟩
theorem sc_iMarks : FnScope ["self", "fork"] ["self", "fork"] (defScope s_iMarks) := ⟨rfl, rfl, rfl, by decide +kernel, rfl, by decide +kernel, by decide +kernel⟩
theorem sc_iUndo : FnScope ["self", "many"] ["self", "many"] (defScope s_iUndo) := ⟨rfl, rfl, rfl, by decide +kernel, rfl, by decide +kernel, by decide +kernel⟩
theorem sc_start : FnScope ["script", "at", "cell", "great", "mixed"] ["script", "at"] (defScope s_start) := ⟨rfl, rfl, rfl, by decide +kernel, rfl, by decide +kernel, by decide +kernel⟩
theorem sc_throw : FnScope ["bag", "total", "found", "one", "two"] ["bag", "total"] (defScope s_throw) := ⟨rfl, rfl, rfl, by decide +kernel, rfl, by decide +kernel, by decide +kernel⟩
theorem sc_pick : FnScope ["bag", "items"] ["bag", "items"] (defScope s_pick) := ⟨rfl, rfl, rfl, by decide +kernel, rfl, by decide +kernel, by decide +kernel⟩
theorem sc_told : FnScope ["message", "found"] ["message"] (defScope s_told) := ⟨rfl, rfl, rfl, by decide +kernel, rfl, by decide +kernel, by decide +kernel⟩
theorem sc_flags : FnScope ["one", "found"] ["one"] (defScope s_flags) := ⟨rfl, rfl, rfl, by decide +kernel, rfl, by decide +kernel, by decide +kernel⟩
theorem sc_bases : FnScope ["one", "found"] ["one"] (defScope s_bases) := ⟨rfl, rfl, rfl, by decide +kernel, rfl, by decide +kernel, by decide +kernel⟩
theorem sc_only : FnScope ["spots", "total", "at"] ["spots", "total"] (defScope s_only) := ⟨rfl, rfl, rfl, by decide +kernel, rfl, by decide +kernel, by decide +kernel⟩
theorem sc_messages : FnScope ["message", "at", "one"] ["message"] (defScope s_messages) := ⟨rfl, rfl, rfl, by decide +kernel, rfl, by decide +kernel, by decide +kernel⟩
theorem sc_drawn : FnScope ["bag", "some", "one", "two", "papers", "forks", "found"] ["bag"] (defScope s_drawn) := ⟨rfl, rfl, rfl, by decide +kernel, rfl, by decide +kernel, by decide +kernel⟩
theorem sc_values : FnScope ["bag", "odd", "made", "bases", "at", "one", "told"] ["bag"] (defScope s_values) := ⟨rfl, rfl, rfl, by decide +kernel, rfl, by decide +kernel, by decide +kernel⟩
theorem sc_taken : FnScope ["call", "e"] ["call"] (defScope s_taken) := ⟨rfl, rfl, rfl, by decide +kernel, rfl, by decide +kernel, by decide +kernel⟩
theorem sc_law : FnScope ["script", "at", "bag", "odd", "found", "due"] ["script"] (defScope s_law) := ⟨rfl, rfl, rfl, by decide +kernel, rfl, by decide +kernel, by decide +kernel⟩
def lo1 : List PySem.Str := ["_wall", "MarkError", "InvalidText", "InvalidRewriter", "InvalidMachine", "InvalidBook", "InvalidOperation", "InvalidEdit", "ParseError", "InvalidCommand", "InvalidNumber", "UnknownName", "TooMany", "NotSingle", "NeedsMarks", "NothingToUndo", "MAX_TEXT", "MOST_LETTERS_words", "LETTERS", "is_integer"]
def lo2 : List PySem.Str := ["is_between", "is_word", "is_text", "are_ascending", "are_letters", "is_delay", "require_word", "shared_letters", "delay_in", "led_on_in", "place_in_order", "ordered", "delay", "require_delay", "led_on", "MOST_RESULTS", "sources_in", "lefts_in", "has_result_in", "words_behind"]
def lo3 : List PySem.Str := ["some_results_in", "results_in", "MOST_STATES", "MOST_EDGES", "MOST_LETTERS_joining", "met_from", "linked", "useful_in", "numbered_in", "turned_in", "moved_by", "chosen_in", "ways_in", "behind_in", "steps_in", "reached_in", "leading_in", "end_pairs", "two_path_in", "way_in"]
def lo4 : List PySem.Str := ["row_to", "edges_of", "SINGLE_single_inner", "TWO", "whole_word", "further_paths", "two_paper", "start_delays", "unlike_ends", "single_paper_in", "MAX_STATES", "MAX_EDGES", "MAX_WORD", "SINGLE_rewriters", "is_short", "is_number", "are_worded", "is_edge", "are_edges", "edges_after"]
def lo5 : List PySem.Str := ["edges_before", "kept_words", "Rewriter", "require_rewriter", "require_one_result", "require_text", "require_rest", "_law_start", "_law_throw", "_law_pick", "_law_told", "_law_flags", "_law_bases", "_law_only", "_law_messages_right", "_law_drawn_values", "_law_values_right", "_law_taken"]
def lo : List PySem.Str := lo1 ++ lo2 ++ lo3 ++ lo4 ++ lo5
end K0
set_option maxHeartbeats 0
namespace K0
open PySem PySem.Spec PyProof.Rows L2 He Hx
def gloN1 : List Str := ["is_word", "are_letters", "is_delay", "require_word", "shared_letters", "delay_in", "delay", "require_delay", "led_on", "Rewriter", "MarkError", "InvalidText", "InvalidRewriter", "InvalidMachine", "InvalidBook", "InvalidOperation", "InvalidEdit", "ParseError"]
def gloN2 : List Str := ["InvalidCommand", "InvalidNumber", "UnknownName", "TooMany", "NotSingle", "NeedsMarks", "NothingToUndo", "_law_start", "_law_throw", "_law_pick", "_law_told", "_law_flags", "_law_bases", "_law_only", "_law_messages_right", "_law_drawn_values", "_law_values_right", "_law_taken", "law"]
def gloN : List Str := gloN1 ++ gloN2
def freeN : List Str := ["isinstance", "str", "all", "len", "zip", "tuple", "int", "abs", "max", "min", "enumerate", "range", "repr", "ValueError", "IndexError", "KeyError", "OverflowError", "LookupError", "ArithmeticError", "RuntimeError"]
/-! ### the errors' classes -/
def own8 : List Str := ["InvalidText", "InvalidRewriter", "InvalidMachine", "InvalidBook", "InvalidOperation", "InvalidEdit", "ParseError", "InvalidCommand"]
def own6 : List Str := ["InvalidNumber", "UnknownName", "TooMany", "NotSingle", "NeedsMarks", "NothingToUndo"]
def own14 : List Str := own8 ++ own6
def excN : List Str := "MarkError" :: own14
def blt7 : List String := ["ValueError", "IndexError", "KeyError", "OverflowError", "LookupError", "ArithmeticError", "RuntimeError"]
/-- which own class is one of which -/
def subT (x y : Str) : Bool := decide (x = y) || (decide (y = "MarkError") && decide (x ∈ own8))
/-- which own class is one of which built-in one -/
def subB (x : Str) (y : String) : Bool :=
  if x = "MarkError" ∨ x ∈ own8 then decide (y = "ValueError")
  else if x = "InvalidNumber" then decide (y = "IndexError" ∨ y = "LookupError")
  else if x = "UnknownName" then decide (y = "KeyError" ∨ y = "LookupError")
  else if x = "TooMany" then decide (y = "OverflowError" ∨ y = "ArithmeticError")
  else if x = "NotSingle" then decide (y = "ArithmeticError")
  else if x = "NeedsMarks" then decide (y = "RuntimeError")
  else decide (y = "LookupError")
def excCB (K : PySem.W.Frag) (C : Addr) : Bool := eqO (PySem.W.findIn K (.ref C) "__getattribute__") (some (some (.builtin "BaseException.__getattribute__"))) && (eqO (PySem.W.findIn K (.ref C) "__getattr__") (some none) && (decide (PySem.W.subIn K (.ref C) (.type "BaseException") = some true) &&
  (PySem.W.hasDictIn K C && (eqO (PySem.W.findIn K (.ref C) "__class__") (some (some (.builtin "object.__class__"))) && (eqO (PySem.W.specialIn K (.builtin "object.__class__") "__get__") (some (some (.builtin "getset_descriptor.__get__"))) &&
  (decide (PySem.W.takesIn K (.builtin "object.__class__") = some true) && decide (PySem.W.mroIn K C (.type "object") = some true)))))))
theorem excC_ok {K : PySem.W.Frag} {C : Addr} (h : excCB K C = true) : ExcC K C := by
  obtain ⟨h1, h⟩ := ba h
  obtain ⟨h2, h⟩ := ba h
  obtain ⟨h3, h⟩ := ba h
  obtain ⟨h4, h⟩ := ba h
  obtain ⟨h5, h⟩ := ba h
  obtain ⟨h6, h⟩ := ba h
  obtain ⟨h7, h8⟩ := ba h
  exact ⟨eqO_ok h1, eqO_ok h2, of_decide_eq_true h3, h4, eqO_ok h5, eqO_ok h6, of_decide_eq_true h7, of_decide_eq_true h8⟩
/-- the class object, its base's chain and its maker -/
def clsB (K : PySem.W.Frag) (C : Addr) (bm : List Value) (newId : String) : Bool := match K.lookup C with
  | some ⟨.type "type", _, .cls cd, sl⟩ => (match sl.toList with
    | [_, _, _, _, some (.builtin n), _] => decide (n = newId) && (decide (cd.mro = .ref C :: bm) && (cd.hasDict && !cd.hasDel))
    | _ => false)
  | _ => false
theorem clsB_ok {K : PySem.W.Frag} {C : Addr} {bm : List Value} {newId : String} (h : clsB K C bm newId = true) :
    ∃ nm q N bs sn sub ab col dd k0 k1 k2 k3 k5, K.lookup C = some (excClassObj nm q C N bs bm true sn sub ab col dd k0 k1 k2 k3 k5 newId) := by
  unfold clsB at h
  split at h
  · rename_i dd cd sl hk
    split at h
    · rename_i k0 k1 k2 k3 n k5 hs
      obtain ⟨h1, h⟩ := ba h
      obtain ⟨h2, h⟩ := ba h
      obtain ⟨h3, h4⟩ := ba h
      have e1 := of_decide_eq_true h1
      have e2 := of_decide_eq_true h2
      have e4 : cd.hasDel = false := by simpa using h4
      obtain ⟨nm, bs, mro, ns, qn, hd, sn, sub, ab, col, del⟩ := cd
      dsimp only at e2 h3 e4
      subst e1 e2 h3 e4
      have hsl : sl = #[k0, k1, k2, k3, some (.builtin n), k5] := by
        obtain ⟨l⟩ := sl
        simp only at hs
        rw [hs]
      subst hsl
      exact ⟨nm, qn, ns, bs, sn, sub, ab, col, dd, k0, k1, k2, k3, k5, hk⟩
    · cases h
  · cases h
def initB (K : PySem.W.Frag) (x f : Str) (bm : List Value) (newId : String) : Bool := clsB K (ga K x) bm newId && (eqO (PySem.W.findIn K (.ref (ga K x)) "__setattr__") (some (some (.builtin "object.__setattr__"))) && (eqO (PySem.W.findIn K (.ref (ga K x)) f) (some none) &&
  (eqO (PySem.W.findIn K (.ref (ga K x)) "__init__") (some (some (.ref (ma K (ga K x) "__init__")))) && (decide (PySem.W.typeIn K (.ref (ma K (ga K x) "__init__")) = some (.type "function")) && PySem.W.keepIn K (.ref (ga K x))))))
def tlIndex : List Value := [.type "IndexError", .type "LookupError", .type "Exception", .type "BaseException", .type "object"]
def tlKey : List Value := [.type "KeyError", .type "LookupError", .type "Exception", .type "BaseException", .type "object"]
def tlOver : List Value := [.type "OverflowError", .type "ArithmeticError", .type "Exception", .type "BaseException", .type "object"]
def tlArith : List Value := [.type "ArithmeticError", .type "Exception", .type "BaseException", .type "object"]
def tlRun : List Value := [.type "RuntimeError", .type "Exception", .type "BaseException", .type "object"]
def tlLook : List Value := [.type "LookupError", .type "Exception", .type "BaseException", .type "object"]
def ckKit : Chk := fun K => excN.all fun x => (own14.all fun y => decide (PySem.W.kitOne K (.ref (ga K x)) (.ref (ga K y)) = some (subT x y))) && decide (PySem.W.kitOne K (.ref (ga K x)) (.ref (ga K "MarkError")) = some (subT x "MarkError"))
def ckKitB : Chk := fun K => excN.all fun x => blt7.all fun y => decide (PySem.W.kitOne K (.ref (ga K x)) (.type y) = some (subB x y))
def ckExcC : Chk := fun K => excN.all fun x => excCB K (ga K x)
def own9 : List Str := "MarkError" :: own8
def ckPlain : Chk := fun K => own9.all fun x => (Fa.exc x).ok K
def ckInit : Chk := fun K => initB K "InvalidNumber" "value" tlIndex "IndexError.__new__" && (initB K "UnknownName" "name" tlKey "LookupError.__new__" && (initB K "TooMany" "limit" tlOver "OverflowError.__new__" && (initB K "NotSingle" "paper" tlArith "ArithmeticError.__new__" &&
  (initB K "NeedsMarks" "fork" tlRun "RuntimeError.__new__" && initB K "NothingToUndo" "many" tlLook "LookupError.__new__"))))
def ckExm : Chk := fun K => own8.all fun x => (Fa.exm x "MarkError" true).ok K
def ckLam : Chk := fun K => (K.lookup (lawTab "law" K)).isNone && PySem.W.codeHdIn K (lawCode "law" K) (lawTab "law" K)
def ckRw : Chk := fun K => (Fa.cls "Rewriter").ok K && (Fa.mkr "Rewriter").ok K
def ckSys : Chk := fun K => (K.lookup sysModules).isSome
def ck : List Chk := [fun K => gloN.all fun x => (Fa.glo x).ok K, fun K => freeN.all fun x => (Fa.free x).ok K, fun K => (Fa.str "LETTERS" "abcdefghijklmnopqrstuvwxyz").ok K, ckKit, ckKitB, ckExcC, ckPlain, ckInit, ckExm, ckLam, ckRw, ckSys]
end K0
set_option maxHeartbeats 4000000
namespace L2
open PySem PySem.Spec PyProof.Rows
/-! ### small rules -/
def CPowW : Int → Int → Prop := fun i j => 0 ≤ j ∧ (Builtin.Int.intBits i : Int) * j ≤ 2 ^ 27
theorem op_powW {X : Cx} : OpR X (binaryOp .Pow) (rI CPowW fun i j => .int (i ^ j.toNat)) := opI fun _ _ _ _ _ _ _ hc q => pow_int hc.1 hc.2 q
theorem pe_never {X : Cx} {e : Expr} : PE X e (fun _ _ _ => False) := ⟨fun _ _ _ _ _ _ h => h.elim⟩
theorem Rd.updL {H : Hp} {a p : Addr} {o u : HO} (h : Rd H a u) (hne : a ≠ p) : Rd (upd H p o) a u := by
  rcases h with h | ⟨z, h⟩
  · exact .inl (by rw [upd_ne hne]; exact h)
  · exact .inr ⟨z, by rw [upd_ne hne]; exact h⟩
theorem SqL.updL {K : PySem.W.Frag} {H : Hp} {a p : Addr} {o : HO} {xs : List V} (h : SqL K H a xs) (hne : a ≠ p) : SqL K (upd H p o) a xs := by
  rcases h with h | h
  · exact .inl (h.updL hne)
  · exact .inr h
theorem SqT.updT {K : PySem.W.Frag} {H : Hp} {a p : Addr} {o : HO} {xs : List V} (h : SqT K H a xs) (hne : a ≠ p) : SqT K (upd H p o) a xs := by
  rcases h with h | h
  · exact .inl (h.updL hne)
  · exact .inr h
theorem SqT.updT' {K : PySem.W.Frag} {H : Hp} {a p : Addr} {o : HO} {xs : List V} (h : SqT K H a xs) (hp : H p = none) : SqT K (upd H p o) a xs := by
  rcases h with (h | ⟨z, h⟩) | h
  · exact .inl (.inl (by rw [upd_ne (ne_of_none h hp)]; exact h))
  · exact .inl (.inr ⟨z, by rw [upd_ne (ne_of_none h hp)]; exact h⟩)
  · exact .inr h
theorem SqL.updL' {K : PySem.W.Frag} {H : Hp} {a p : Addr} {o : HO} {xs : List V} (h : SqL K H a xs) (hp : H p = none) : SqL K (upd H p o) a xs := by
  rcases h with (h | ⟨z, h⟩) | h
  · exact .inl (.inl (by rw [upd_ne (ne_of_none h hp)]; exact h))
  · exact .inl (.inr ⟨z, by rw [upd_ne (ne_of_none h hp)]; exact h⟩)
  · exact .inr h
theorem all_flat_ints (ks : List Int) : (ks.map V.int).all flatV = true := by
  rw [List.all_eq_true]
  intro x hx
  obtain ⟨i, _, rfl⟩ := List.mem_map.mp hx
  rfl
theorem iteF_of {α : Sort _} {a b : α} : (if false = true then a else b) = b := if_neg Bool.false_ne_true
abbrev rListOf (K : PySem.W.Frag) : List V → Hp → VK → Prop := fun xs H Q => ∃ p ys, xs = [.ref p] ∧ (SqL K H p ys ∨ SqT K H p ys) ∧ ∀ l, H l = none → Q (.ref l) (upd H l (.lst ys))
abbrev rTupleOf (K : PySem.W.Frag) : List V → Hp → VK → Prop := fun xs H Q => ∃ p ys, xs = [.ref p] ∧ ((SqL K H p ys ∧ ∀ l, H l = none → Q (.ref l) (upd H l (.tup ys))) ∨ (SqT K H p ys ∧ Q (.ref p) H))
theorem seq_set {te : TE} {i : Nat} {u : TS} {D : Ends} {σ : L2.St} {H : Hp} (h : te σ H fun x H1 => u D (σ.set i (some x)) H1) : tSeq (tAsg te (gName i)) u D σ H := h
theorem one_ret {te : TE} {D : Ends} {σ : L2.St} {H : Hp} (h : te σ H D.rt) : tRet te D σ H := h
theorem seq_drop {te : TE} {u : TS} {D : Ends} {σ : L2.St} {H : Hp} (h : te σ H fun _ H1 => u D σ H1) : tSeq (tDrop te) u D σ H := h
theorem szd {n : Nat} (h : n ≤ 100000) : n ≤ sizeLine := Nat.le_trans h (by decide)
/-! ### what is worth what, the heap as it stands -/
def ValA (ta : TA) (σ : L2.St) (H : Hp) (vs : List V) : Prop := ∀ Q : List V → Hp → Prop, Q vs H → ta σ H Q
theorem va_nil {σ : L2.St} {H : Hp} : ValA tNil σ H [] := fun _ q => q
theorem va_cons {te : TE} {ta : TA} {σ : L2.St} {H : Hp} {v : V} {vs : List V} (h : Val te σ H v) (ht : ValA ta σ H vs) : ValA (tCons te ta) σ H (v :: vs) := fun Q q => h _ (ht _ q)
/-- [..]: a new list -/
theorem lst_step {ta : TA} {σ : L2.St} {H : Hp} {vs : List V} {Q : VK} (h : ValA ta σ H vs) (hl : vs.length ≤ sizeLine) (k : ∀ p H', Same H H' → H p = none → H' p = some (.lst vs) → Q (.ref p) H') : tLst ta σ H Q :=
  h _ ⟨hl, fun p hp => k p _ ((Same.refl H).new hp) hp upd_same⟩
/-- xs + [..], xs at hand -/
theorem cat_step {te : TE} {ta : TA} {σ : L2.St} {H : Hp} {p : Addr} {xs vs : List V} {Q : VK} (hx : Val te σ H (.ref p)) (hp : H p = some (.lst xs)) (h : ValA ta σ H vs) (hl : xs.length + vs.length ≤ 100000)
    (k : ∀ q H', Same H H' → H q = none → H' q = some (.lst (xs ++ vs)) → Q (.ref q) H') : tOp rCat te (tLst ta) σ H Q := by
  refine hx _ (h _ ⟨Nat.le_trans (Nat.le_trans (Nat.le_add_left _ _) hl) (by decide), fun q hq => ?_⟩)
  refine ⟨p, q, xs, vs, rfl, rfl, ?_, upd_same, Nat.le_trans hl (by decide), fun r hr => ?_⟩
  · rw [upd_ne (ne_of_none hp hq)]
    exact hp
  · have s1 := ((Same.refl H).new (o := .lst vs) hq).new (o := .lst (xs ++ vs)) hr
    exact k r _ s1 (((Same.refl H).new (o := .lst vs) hq).free hr) upd_same
/-- a def of the text, its promise, its binding -/
def Has (P : Program) (w : World) (K : PySem.W.Frag) (mg : Str → Option Value) (base : Heap) (CX : CXT) (k : Nat) (x : Str) (ps : List Str) (sp : Sp) : Prop :=
  mg x = some (.ref (He.ga K x)) ∧ PySem.W.keepIn K (.ref (He.ga K x)) = true ∧ ∃ fd, FnOk P w K mg base CX k (He.ga K x) fd ps sp ∧ Binds K fd ps []
theorem has_of {P : Program} {w : World} {K : PySem.W.Frag} {mg : Str → Option Value} {base : Heap} {CX : CXT} {k : Nat} {x : Str} {params : Arguments} {body : List Stmt} {scope : Scope} {fd : FuncData} {N ps : List Str} {sp : Sp}
    (g : mg x = some (.ref (He.ga K x))) (F : FunD K x x params body scope [] [] (He.ga K x) fd) (S : FnScope N ps scope)
    (hb : ∀ (kV doc pm : Value) (an : Option Addr) (cdv ct : Value) (us : List Value), us.length = ps.length → bindArgs (PySem.W.fnOf x x params body scope .none kV doc pm an cdv ct) ⟨us, []⟩ = pure (ps.zip us))
    (len : ∀ vs H Q E, sp vs H Q E → vs.length = ps.length)
    (hbody : ∀ (cdv : Value) (A : Around) (outer : List Env) (s : Shared) (H : Hp) (vs : List V) (Q : VK) (E : XK), Room k (A.deeper (envOfC x scope s.heap.objs.size (He.ga K x) cdv)) → sp vs H Q E →
      ∃ t, PSs (cxOf CX P w K mg base N x scope (He.ga K x) cdv A outer s H E) body t ∧ t { nx := fun _ H' => Q .non H', rt := Q } (start N vs) H) : Has P w K mg base CX (k + 1) x ps sp :=
  ⟨g, F.kp, fd, F.ok S len hbody, F.bindsN hb⟩
end L2
namespace K0
open PySem PySem.Spec PyProof.Rows L2 He Hx
structure Tx (K : PySem.W.Frag) (mg : Str → Option Value) : Prop where
  c : SaysX ck fn K
  glo : ∀ x ∈ gloN, mg x = some (.ref (ga K x))
  free : ∀ x ∈ freeN, mg x = none
  let_ : ∃ t, mg "LETTERS" = some (.str "abcdefghijklmnopqrstuvwxyz" t)
  kit : ∀ x ∈ excN, ∀ y ∈ excN, PySem.W.kitOne K (.ref (ga K x)) (.ref (ga K y)) = some (subT x y)
  kitB : ∀ x ∈ excN, ∀ y ∈ blt7, PySem.W.kitOne K (.ref (ga K x)) (.type y) = some (subB x y)
  exC : ∀ x ∈ excN, ExcC K (ga K x)
  plain : ∀ x ∈ own9, (Fa.exc x).ok K = true
  exm : ∀ x ∈ own8, PySem.W.exmOne K (.ref (ga K x)) (.ref (ga K "MarkError")) = some true
  sys : (K.lookup sysModules).isSome = true
theorem tx_of {K : PySem.W.Frag} {h : Heap} {mg : Str → Option Value} (X : K.In h) (G : h.Ns mainGlobals mg) (c : SaysX ck fn K) : Tx K mg where
  c := c
  glo := fun x hx => glo_ok X G (List.all_eq_true.mp (c.fact 0 (f := fun K => gloN.all fun x => (Fa.glo x).ok K) rfl) x hx)
  free := fun x hx => free_ok X G (List.all_eq_true.mp (c.fact 1 (f := fun K => freeN.all fun x => (Fa.free x).ok K) rfl) x hx)
  kit := fun x hx y hy => by
    have c1 := ba (List.all_eq_true.mp (c.fact 3 (f := ckKit) rfl) x hx)
    rcases List.mem_cons.mp hy with e | hy
    · rw [e]
      exact of_decide_eq_true c1.2
    · exact of_decide_eq_true (List.all_eq_true.mp c1.1 y hy)
  kitB := fun x hx y hy => of_decide_eq_true (List.all_eq_true.mp (List.all_eq_true.mp (c.fact 4 (f := ckKitB) rfl) x hx) y hy)
  exC := fun x hx => excC_ok (List.all_eq_true.mp (c.fact 5 (f := ckExcC) rfl) x hx)
  plain := fun x hx => List.all_eq_true.mp (c.fact 6 (f := ckPlain) rfl) x hx
  exm := fun x hx => exm_ok (List.all_eq_true.mp (c.fact 8 (f := ckExm) rfl) x hx)
  sys := c.fact 11 (f := ckSys) rfl
  let_ := str_ok X G (c.fact 2 (f := fun K => (Fa.str "LETTERS" "abcdefghijklmnopqrstuvwxyz").ok K) rfl)
theorem memb {x : Str} {l : List Str} (h : (l.any fun y => decide (y = x)) = true) : x ∈ l := by
  obtain ⟨y, hy, e⟩ := List.any_eq_true.mp h
  have e2 := of_decide_eq_true e
  rw [← e2]
  exact hy
theorem Tx.n_isinstance {K : PySem.W.Frag} {mg : Str → Option Value} (T : Tx K mg) : mg "isinstance" = none := T.free _ (memb (by decide +kernel))
theorem Tx.n_str {K : PySem.W.Frag} {mg : Str → Option Value} (T : Tx K mg) : mg "str" = none := T.free _ (memb (by decide +kernel))
theorem Tx.n_all {K : PySem.W.Frag} {mg : Str → Option Value} (T : Tx K mg) : mg "all" = none := T.free _ (memb (by decide +kernel))
theorem Tx.n_len {K : PySem.W.Frag} {mg : Str → Option Value} (T : Tx K mg) : mg "len" = none := T.free _ (memb (by decide +kernel))
theorem Tx.n_zip {K : PySem.W.Frag} {mg : Str → Option Value} (T : Tx K mg) : mg "zip" = none := T.free _ (memb (by decide +kernel))
theorem Tx.n_tuple {K : PySem.W.Frag} {mg : Str → Option Value} (T : Tx K mg) : mg "tuple" = none := T.free _ (memb (by decide +kernel))
theorem Tx.n_int {K : PySem.W.Frag} {mg : Str → Option Value} (T : Tx K mg) : mg "int" = none := T.free _ (memb (by decide +kernel))
theorem Tx.n_abs {K : PySem.W.Frag} {mg : Str → Option Value} (T : Tx K mg) : mg "abs" = none := T.free _ (memb (by decide +kernel))
theorem Tx.n_max {K : PySem.W.Frag} {mg : Str → Option Value} (T : Tx K mg) : mg "max" = none := T.free _ (memb (by decide +kernel))
theorem Tx.n_min {K : PySem.W.Frag} {mg : Str → Option Value} (T : Tx K mg) : mg "min" = none := T.free _ (memb (by decide +kernel))
theorem Tx.n_enumerate {K : PySem.W.Frag} {mg : Str → Option Value} (T : Tx K mg) : mg "enumerate" = none := T.free _ (memb (by decide +kernel))
theorem Tx.n_range {K : PySem.W.Frag} {mg : Str → Option Value} (T : Tx K mg) : mg "range" = none := T.free _ (memb (by decide +kernel))
theorem Tx.n_repr {K : PySem.W.Frag} {mg : Str → Option Value} (T : Tx K mg) : mg "repr" = none := T.free _ (memb (by decide +kernel))
theorem Tx.n_ValueError {K : PySem.W.Frag} {mg : Str → Option Value} (T : Tx K mg) : mg "ValueError" = none := T.free _ (memb (by decide +kernel))
theorem Tx.n_IndexError {K : PySem.W.Frag} {mg : Str → Option Value} (T : Tx K mg) : mg "IndexError" = none := T.free _ (memb (by decide +kernel))
theorem Tx.n_KeyError {K : PySem.W.Frag} {mg : Str → Option Value} (T : Tx K mg) : mg "KeyError" = none := T.free _ (memb (by decide +kernel))
theorem Tx.n_OverflowError {K : PySem.W.Frag} {mg : Str → Option Value} (T : Tx K mg) : mg "OverflowError" = none := T.free _ (memb (by decide +kernel))
theorem Tx.n_LookupError {K : PySem.W.Frag} {mg : Str → Option Value} (T : Tx K mg) : mg "LookupError" = none := T.free _ (memb (by decide +kernel))
theorem Tx.n_ArithmeticError {K : PySem.W.Frag} {mg : Str → Option Value} (T : Tx K mg) : mg "ArithmeticError" = none := T.free _ (memb (by decide +kernel))
theorem Tx.n_RuntimeError {K : PySem.W.Frag} {mg : Str → Option Value} (T : Tx K mg) : mg "RuntimeError" = none := T.free _ (memb (by decide +kernel))
theorem Tx.g_isWord {K : PySem.W.Frag} {mg : Str → Option Value} (T : Tx K mg) : mg "is_word" = some (.ref (ga K "is_word")) := T.glo _ (memb (by decide +kernel))
theorem Tx.g_areLetters {K : PySem.W.Frag} {mg : Str → Option Value} (T : Tx K mg) : mg "are_letters" = some (.ref (ga K "are_letters")) := T.glo _ (memb (by decide +kernel))
theorem Tx.g_isDelay {K : PySem.W.Frag} {mg : Str → Option Value} (T : Tx K mg) : mg "is_delay" = some (.ref (ga K "is_delay")) := T.glo _ (memb (by decide +kernel))
theorem Tx.g_reqWord {K : PySem.W.Frag} {mg : Str → Option Value} (T : Tx K mg) : mg "require_word" = some (.ref (ga K "require_word")) := T.glo _ (memb (by decide +kernel))
theorem Tx.g_shared {K : PySem.W.Frag} {mg : Str → Option Value} (T : Tx K mg) : mg "shared_letters" = some (.ref (ga K "shared_letters")) := T.glo _ (memb (by decide +kernel))
theorem Tx.g_delayIn {K : PySem.W.Frag} {mg : Str → Option Value} (T : Tx K mg) : mg "delay_in" = some (.ref (ga K "delay_in")) := T.glo _ (memb (by decide +kernel))
theorem Tx.g_delay {K : PySem.W.Frag} {mg : Str → Option Value} (T : Tx K mg) : mg "delay" = some (.ref (ga K "delay")) := T.glo _ (memb (by decide +kernel))
theorem Tx.g_reqDelay {K : PySem.W.Frag} {mg : Str → Option Value} (T : Tx K mg) : mg "require_delay" = some (.ref (ga K "require_delay")) := T.glo _ (memb (by decide +kernel))
theorem Tx.g_ledOn {K : PySem.W.Frag} {mg : Str → Option Value} (T : Tx K mg) : mg "led_on" = some (.ref (ga K "led_on")) := T.glo _ (memb (by decide +kernel))
theorem Tx.g_Rewriter {K : PySem.W.Frag} {mg : Str → Option Value} (T : Tx K mg) : mg "Rewriter" = some (.ref (ga K "Rewriter")) := T.glo _ (memb (by decide +kernel))
theorem Tx.g_MarkError {K : PySem.W.Frag} {mg : Str → Option Value} (T : Tx K mg) : mg "MarkError" = some (.ref (ga K "MarkError")) := T.glo _ (memb (by decide +kernel))
theorem Tx.g_InvalidText {K : PySem.W.Frag} {mg : Str → Option Value} (T : Tx K mg) : mg "InvalidText" = some (.ref (ga K "InvalidText")) := T.glo _ (memb (by decide +kernel))
theorem Tx.g_InvalidRewriter {K : PySem.W.Frag} {mg : Str → Option Value} (T : Tx K mg) : mg "InvalidRewriter" = some (.ref (ga K "InvalidRewriter")) := T.glo _ (memb (by decide +kernel))
theorem Tx.g_InvalidMachine {K : PySem.W.Frag} {mg : Str → Option Value} (T : Tx K mg) : mg "InvalidMachine" = some (.ref (ga K "InvalidMachine")) := T.glo _ (memb (by decide +kernel))
theorem Tx.g_InvalidBook {K : PySem.W.Frag} {mg : Str → Option Value} (T : Tx K mg) : mg "InvalidBook" = some (.ref (ga K "InvalidBook")) := T.glo _ (memb (by decide +kernel))
theorem Tx.g_InvalidOperation {K : PySem.W.Frag} {mg : Str → Option Value} (T : Tx K mg) : mg "InvalidOperation" = some (.ref (ga K "InvalidOperation")) := T.glo _ (memb (by decide +kernel))
theorem Tx.g_InvalidEdit {K : PySem.W.Frag} {mg : Str → Option Value} (T : Tx K mg) : mg "InvalidEdit" = some (.ref (ga K "InvalidEdit")) := T.glo _ (memb (by decide +kernel))
theorem Tx.g_ParseError {K : PySem.W.Frag} {mg : Str → Option Value} (T : Tx K mg) : mg "ParseError" = some (.ref (ga K "ParseError")) := T.glo _ (memb (by decide +kernel))
theorem Tx.g_InvalidCommand {K : PySem.W.Frag} {mg : Str → Option Value} (T : Tx K mg) : mg "InvalidCommand" = some (.ref (ga K "InvalidCommand")) := T.glo _ (memb (by decide +kernel))
theorem Tx.g_InvalidNumber {K : PySem.W.Frag} {mg : Str → Option Value} (T : Tx K mg) : mg "InvalidNumber" = some (.ref (ga K "InvalidNumber")) := T.glo _ (memb (by decide +kernel))
theorem Tx.g_UnknownName {K : PySem.W.Frag} {mg : Str → Option Value} (T : Tx K mg) : mg "UnknownName" = some (.ref (ga K "UnknownName")) := T.glo _ (memb (by decide +kernel))
theorem Tx.g_TooMany {K : PySem.W.Frag} {mg : Str → Option Value} (T : Tx K mg) : mg "TooMany" = some (.ref (ga K "TooMany")) := T.glo _ (memb (by decide +kernel))
theorem Tx.g_NotSingle {K : PySem.W.Frag} {mg : Str → Option Value} (T : Tx K mg) : mg "NotSingle" = some (.ref (ga K "NotSingle")) := T.glo _ (memb (by decide +kernel))
theorem Tx.g_NeedsMarks {K : PySem.W.Frag} {mg : Str → Option Value} (T : Tx K mg) : mg "NeedsMarks" = some (.ref (ga K "NeedsMarks")) := T.glo _ (memb (by decide +kernel))
theorem Tx.g_NothingToUndo {K : PySem.W.Frag} {mg : Str → Option Value} (T : Tx K mg) : mg "NothingToUndo" = some (.ref (ga K "NothingToUndo")) := T.glo _ (memb (by decide +kernel))
theorem Tx.g_start {K : PySem.W.Frag} {mg : Str → Option Value} (T : Tx K mg) : mg "_law_start" = some (.ref (ga K "_law_start")) := T.glo _ (memb (by decide +kernel))
theorem Tx.g_throw {K : PySem.W.Frag} {mg : Str → Option Value} (T : Tx K mg) : mg "_law_throw" = some (.ref (ga K "_law_throw")) := T.glo _ (memb (by decide +kernel))
theorem Tx.g_pick {K : PySem.W.Frag} {mg : Str → Option Value} (T : Tx K mg) : mg "_law_pick" = some (.ref (ga K "_law_pick")) := T.glo _ (memb (by decide +kernel))
theorem Tx.g_told {K : PySem.W.Frag} {mg : Str → Option Value} (T : Tx K mg) : mg "_law_told" = some (.ref (ga K "_law_told")) := T.glo _ (memb (by decide +kernel))
theorem Tx.g_flags {K : PySem.W.Frag} {mg : Str → Option Value} (T : Tx K mg) : mg "_law_flags" = some (.ref (ga K "_law_flags")) := T.glo _ (memb (by decide +kernel))
theorem Tx.g_bases {K : PySem.W.Frag} {mg : Str → Option Value} (T : Tx K mg) : mg "_law_bases" = some (.ref (ga K "_law_bases")) := T.glo _ (memb (by decide +kernel))
theorem Tx.g_only {K : PySem.W.Frag} {mg : Str → Option Value} (T : Tx K mg) : mg "_law_only" = some (.ref (ga K "_law_only")) := T.glo _ (memb (by decide +kernel))
theorem Tx.g_messages {K : PySem.W.Frag} {mg : Str → Option Value} (T : Tx K mg) : mg "_law_messages_right" = some (.ref (ga K "_law_messages_right")) := T.glo _ (memb (by decide +kernel))
theorem Tx.g_drawn {K : PySem.W.Frag} {mg : Str → Option Value} (T : Tx K mg) : mg "_law_drawn_values" = some (.ref (ga K "_law_drawn_values")) := T.glo _ (memb (by decide +kernel))
theorem Tx.g_values {K : PySem.W.Frag} {mg : Str → Option Value} (T : Tx K mg) : mg "_law_values_right" = some (.ref (ga K "_law_values_right")) := T.glo _ (memb (by decide +kernel))
theorem Tx.g_taken {K : PySem.W.Frag} {mg : Str → Option Value} (T : Tx K mg) : mg "_law_taken" = some (.ref (ga K "_law_taken")) := T.glo _ (memb (by decide +kernel))
theorem Tx.g_law {K : PySem.W.Frag} {mg : Str → Option Value} (T : Tx K mg) : mg "law" = some (.ref (ga K "law")) := T.glo _ (memb (by decide +kernel))
theorem Tx.fn_isWord {K : PySem.W.Frag} {mg : Str → Option Value} (T : Tx K mg) : ∃ fd, FunD K "is_word" "is_word" (defArgs s_isWord) (defBody s_isWord) (defScope s_isWord) [] [] (fAd K ("is_word", none)) fd := T.c.def_ 0 (d := d_isWord) rfl
theorem Tx.fn_areLetters {K : PySem.W.Frag} {mg : Str → Option Value} (T : Tx K mg) : ∃ fd, FunD K "are_letters" "are_letters" (defArgs s_areLetters) (defBody s_areLetters) (defScope s_areLetters) [] [] (fAd K ("are_letters", none)) fd := T.c.def_ 1 (d := d_areLetters) rfl
theorem Tx.fn_isDelay {K : PySem.W.Frag} {mg : Str → Option Value} (T : Tx K mg) : ∃ fd, FunD K "is_delay" "is_delay" (defArgs s_isDelay) (defBody s_isDelay) (defScope s_isDelay) [] [] (fAd K ("is_delay", none)) fd := T.c.def_ 2 (d := d_isDelay) rfl
theorem Tx.fn_reqWord {K : PySem.W.Frag} {mg : Str → Option Value} (T : Tx K mg) : ∃ fd, FunD K "require_word" "require_word" (defArgs s_reqWord) (defBody s_reqWord) (defScope s_reqWord) [] [] (fAd K ("require_word", none)) fd := T.c.def_ 3 (d := d_reqWord) rfl
theorem Tx.fn_shared {K : PySem.W.Frag} {mg : Str → Option Value} (T : Tx K mg) : ∃ fd, FunD K "shared_letters" "shared_letters" (defArgs s_shared) (defBody s_shared) (defScope s_shared) [] [] (fAd K ("shared_letters", none)) fd := T.c.def_ 4 (d := d_shared) rfl
theorem Tx.fn_delayIn {K : PySem.W.Frag} {mg : Str → Option Value} (T : Tx K mg) : ∃ fd, FunD K "delay_in" "delay_in" (defArgs s_delayIn) (defBody s_delayIn) (defScope s_delayIn) [] [] (fAd K ("delay_in", none)) fd := T.c.def_ 5 (d := d_delayIn) rfl
theorem Tx.fn_delay {K : PySem.W.Frag} {mg : Str → Option Value} (T : Tx K mg) : ∃ fd, FunD K "delay" "delay" (defArgs s_delay) (defBody s_delay) (defScope s_delay) [] [] (fAd K ("delay", none)) fd := T.c.def_ 6 (d := d_delay) rfl
theorem Tx.fn_reqDelay {K : PySem.W.Frag} {mg : Str → Option Value} (T : Tx K mg) : ∃ fd, FunD K "require_delay" "require_delay" (defArgs s_reqDelay) (defBody s_reqDelay) (defScope s_reqDelay) [] [] (fAd K ("require_delay", none)) fd := T.c.def_ 7 (d := d_reqDelay) rfl
theorem Tx.fn_ledOn {K : PySem.W.Frag} {mg : Str → Option Value} (T : Tx K mg) : ∃ fd, FunD K "led_on" "led_on" (defArgs s_ledOn) (defBody s_ledOn) (defScope s_ledOn) [] [] (fAd K ("led_on", none)) fd := T.c.def_ 8 (d := d_ledOn) rfl
theorem Tx.fn_rwInit {K : PySem.W.Frag} {mg : Str → Option Value} (T : Tx K mg) : ∃ fd, FunD K "__init__" "Rewriter.__init__" (defArgs s_rwInit) (defBody s_rwInit) (defScope s_rwInit) [] [] (fAd K ("Rewriter", some "__init__")) fd := T.c.def_ 9 (d := d_rwInit) rfl
theorem Tx.fn_iNumber {K : PySem.W.Frag} {mg : Str → Option Value} (T : Tx K mg) : ∃ fd, FunD K "__init__" "InvalidNumber.__init__" (defArgs s_iNumber) (defBody s_iNumber) (defScope s_iNumber) [] [] (fAd K ("InvalidNumber", some "__init__")) fd := T.c.def_ 10 (d := d_iNumber) rfl
theorem Tx.fn_iName {K : PySem.W.Frag} {mg : Str → Option Value} (T : Tx K mg) : ∃ fd, FunD K "__init__" "UnknownName.__init__" (defArgs s_iName) (defBody s_iName) (defScope s_iName) [] [] (fAd K ("UnknownName", some "__init__")) fd := T.c.def_ 11 (d := d_iName) rfl
theorem Tx.fn_iMany {K : PySem.W.Frag} {mg : Str → Option Value} (T : Tx K mg) : ∃ fd, FunD K "__init__" "TooMany.__init__" (defArgs s_iMany) (defBody s_iMany) (defScope s_iMany) [] [] (fAd K ("TooMany", some "__init__")) fd := T.c.def_ 12 (d := d_iMany) rfl
theorem Tx.fn_iSingle {K : PySem.W.Frag} {mg : Str → Option Value} (T : Tx K mg) : ∃ fd, FunD K "__init__" "NotSingle.__init__" (defArgs s_iSingle) (defBody s_iSingle) (defScope s_iSingle) [] [] (fAd K ("NotSingle", some "__init__")) fd := T.c.def_ 13 (d := d_iSingle) rfl
theorem Tx.fn_iMarks {K : PySem.W.Frag} {mg : Str → Option Value} (T : Tx K mg) : ∃ fd, FunD K "__init__" "NeedsMarks.__init__" (defArgs s_iMarks) (defBody s_iMarks) (defScope s_iMarks) [] [] (fAd K ("NeedsMarks", some "__init__")) fd := T.c.def_ 14 (d := d_iMarks) rfl
theorem Tx.fn_iUndo {K : PySem.W.Frag} {mg : Str → Option Value} (T : Tx K mg) : ∃ fd, FunD K "__init__" "NothingToUndo.__init__" (defArgs s_iUndo) (defBody s_iUndo) (defScope s_iUndo) [] [] (fAd K ("NothingToUndo", some "__init__")) fd := T.c.def_ 15 (d := d_iUndo) rfl
theorem Tx.fn_start {K : PySem.W.Frag} {mg : Str → Option Value} (T : Tx K mg) : ∃ fd, FunD K "_law_start" "_law_start" (defArgs s_start) (defBody s_start) (defScope s_start) [] [] (fAd K ("_law_start", none)) fd := T.c.def_ 16 (d := d_start) rfl
theorem Tx.fn_throw {K : PySem.W.Frag} {mg : Str → Option Value} (T : Tx K mg) : ∃ fd, FunD K "_law_throw" "_law_throw" (defArgs s_throw) (defBody s_throw) (defScope s_throw) [] [] (fAd K ("_law_throw", none)) fd := T.c.def_ 17 (d := d_throw) rfl
theorem Tx.fn_pick {K : PySem.W.Frag} {mg : Str → Option Value} (T : Tx K mg) : ∃ fd, FunD K "_law_pick" "_law_pick" (defArgs s_pick) (defBody s_pick) (defScope s_pick) [] [] (fAd K ("_law_pick", none)) fd := T.c.def_ 18 (d := d_pick) rfl
theorem Tx.fn_told {K : PySem.W.Frag} {mg : Str → Option Value} (T : Tx K mg) : ∃ fd, FunD K "_law_told" "_law_told" (defArgs s_told) (defBody s_told) (defScope s_told) [] [] (fAd K ("_law_told", none)) fd := T.c.def_ 19 (d := d_told) rfl
theorem Tx.fn_flags {K : PySem.W.Frag} {mg : Str → Option Value} (T : Tx K mg) : ∃ fd, FunD K "_law_flags" "_law_flags" (defArgs s_flags) (defBody s_flags) (defScope s_flags) [] [] (fAd K ("_law_flags", none)) fd := T.c.def_ 20 (d := d_flags) rfl
theorem Tx.fn_bases {K : PySem.W.Frag} {mg : Str → Option Value} (T : Tx K mg) : ∃ fd, FunD K "_law_bases" "_law_bases" (defArgs s_bases) (defBody s_bases) (defScope s_bases) [] [] (fAd K ("_law_bases", none)) fd := T.c.def_ 21 (d := d_bases) rfl
theorem Tx.fn_only {K : PySem.W.Frag} {mg : Str → Option Value} (T : Tx K mg) : ∃ fd, FunD K "_law_only" "_law_only" (defArgs s_only) (defBody s_only) (defScope s_only) [] [] (fAd K ("_law_only", none)) fd := T.c.def_ 22 (d := d_only) rfl
theorem Tx.fn_messages {K : PySem.W.Frag} {mg : Str → Option Value} (T : Tx K mg) : ∃ fd, FunD K "_law_messages_right" "_law_messages_right" (defArgs s_messages) (defBody s_messages) (defScope s_messages) [] [] (fAd K ("_law_messages_right", none)) fd := T.c.def_ 23 (d := d_messages) rfl
theorem Tx.fn_drawn {K : PySem.W.Frag} {mg : Str → Option Value} (T : Tx K mg) : ∃ fd, FunD K "_law_drawn_values" "_law_drawn_values" (defArgs s_drawn) (defBody s_drawn) (defScope s_drawn) [] [] (fAd K ("_law_drawn_values", none)) fd := T.c.def_ 24 (d := d_drawn) rfl
theorem Tx.fn_values {K : PySem.W.Frag} {mg : Str → Option Value} (T : Tx K mg) : ∃ fd, FunD K "_law_values_right" "_law_values_right" (defArgs s_values) (defBody s_values) (defScope s_values) [] [] (fAd K ("_law_values_right", none)) fd := T.c.def_ 25 (d := d_values) rfl
theorem Tx.fn_taken {K : PySem.W.Frag} {mg : Str → Option Value} (T : Tx K mg) : ∃ fd, FunD K "_law_taken" "_law_taken" (defArgs s_taken) (defBody s_taken) (defScope s_taken) [] [] (fAd K ("_law_taken", none)) fd := T.c.def_ 26 (d := d_taken) rfl
theorem Tx.fn_law {K : PySem.W.Frag} {mg : Str → Option Value} (T : Tx K mg) : ∃ fd, FunD K "law" "law" (defArgs s_law) (defBody s_law) (defScope s_law) [] [] (fAd K ("law", none)) fd := T.c.def_ 27 (d := d_law) rfl
end K0
set_option maxHeartbeats 4000000
namespace K0
open PySem PySem.Spec PyProof.Rows L2 He Hx
section
variable {P : Program} {w : World} {K : PySem.W.Frag} {mg : Str → Option Value} {base : Heap}
def bagO (b0 b1 b2 : Int) : HO := .lst [.int b0, .int b1, .int b2]
def IsBag (H : Hp) (p : Addr) : Prop := ∃ b0 b1 b2, H p = some (bagO b0 b1 b2)
def spStart (K : PySem.W.Frag) : Sp := fun vs H Q _ => ∃ (l : Addr) (ns : List Int) (i : Nat), vs = [.ref l, .int i] ∧ SqL K H l (ns.map V.int) ∧ ns.length ≤ 1000 ∧ i < 1000 ∧ ∀ p b0 b1 b2, H p = none → Q (.ref p) (upd H p (bagO b0 b1 b2))
theorem ok_start (T : Tx K mg) : Has P w K mg base CX0 1 "_law_start" ["script", "at"] (spStart K) := by
  obtain ⟨fd, F⟩ := T.fn_start
  refine has_of T.g_start F sc_start (fun _ _ _ _ _ _ us hl => match us, hl with | [_, _], _ => rfl) (fun vs H Q E h => ?_) (fun cdv A outer s H vs Q E hr h => ⟨_, PSs.nox (
    (pss_cons (ps_set (i := 2) sc_start.nd rfl (Or.inl rfl) (by exact (pe_ifExp (pt_cmpR op_lt (pv 1) (pe_callB call_len (by rfl) T.n_len (by decide +kernel) (pa_cons (pv 0) pa_nil)) (nomark _)) (pe_ix ix_list (pv 0) (pv 1) (fun _ _ => rfl)) (pe_op op_add (pe_op op_mul pe_int (pv 1)) pe_int))))
    (pss_cons (ps_set (i := 3) sc_start.nd rfl (Or.inl rfl) (by exact (pe_op op_modN (pe_callTy call_int1 (by rfl) T.n_int (by decide +kernel) (pa_cons (pe_callB call_abs (by rfl) T.n_abs (by decide +kernel) (pa_cons (pv 2) pa_nil)) pa_nil)) (pe_op op_powW (pe_op op_pow pe_int pe_int) pe_int))))
    (pss_cons (ps_set (i := 4) sc_start.nd rfl (Or.inl rfl) (by exact (pe_op op_add (pe_op op_add (pe_op op_add (pe_op op_mul (pe_op op_modN (pe_callTy call_int1 (by rfl) T.n_int (by decide +kernel) (pa_cons (pv 3) pa_nil)) pe_int) pe_int) (pe_op op_mul pe_int (pv 1))) (pe_op op_mul pe_int (pe_callTy call_int1 (by rfl) T.n_int (by decide +kernel) (pa_cons (pe_cmpR op_lt (pv 2) pe_int (nomark _)) pa_nil)))) pe_int)))
    (pss_one (ps_ret (by exact (pe_lst (pa_cons (pe_callB (call_max2 rfl) (by rfl) T.n_max (by decide +kernel) (pa_cons pe_int (pa_cons (pe_op op_sub (pv 3) (pe_op op_pow pe_int pe_int)) pa_nil))) (pa_cons (pe_op op_modN (pe_callTy call_int1 (by rfl) T.n_int (by decide +kernel) (pa_cons (pv 4) pa_nil)) pe_int) (pa_cons pe_int pa_nil))))))))))), ?_⟩)
  · obtain ⟨l, ns, i, rfl, _⟩ := h
    rfl
  · obtain ⟨l, ns, i, rfl, hS, hl, hi, k⟩ := h
    refine ⟨_, rfl, _, rfl, _, _, rfl, Or.inl ⟨_, hS, rfl⟩, _, _, rfl, rfl, _, rfl, ite2 (fun c => ?_) (fun c => ?_)⟩
    · have c2 := of_decide_eq_true c
      have hlt : i < (ns.map V.int).length := by
        have z : ((i : Nat) : Int) < (((ns.map V.int).length : Nat) : Int) := c2
        omega
      have hn : i < ns.length := by simpa using hlt
      refine ⟨_, rfl, _, rfl, l, _, (i : Int), .int (ns[i]), rfl, rfl, hS, atI_nat (by simp [hn]), ?_⟩
      refine ⟨_, rfl, _, rfl, .inl ⟨_, rfl, ?_⟩⟩
      refine ⟨_, _, rfl, rfl, ⟨by decide, by decide, by decide⟩, _, _, rfl, rfl, ⟨by decide, by decide +kernel⟩, _, _, rfl, rfl, id (α := ((10 : Int) ^ Int.toNat 58) ^ Int.toNat 12 ≠ 0) (by decide +kernel), ?_⟩
      refine ⟨_, rfl, .inl ⟨_, rfl, _, _, rfl, rfl, id (α := (2147483497 : Int) ≠ 0) (by decide), _, _, rfl, rfl, .inr ⟨by decide, by decide⟩, ?_⟩⟩
      refine ⟨_, rfl, _, _, rfl, rfl, .inl ⟨by decide, by decide⟩, _, _, rfl, rfl, ?_⟩
      refine ⟨_, rfl, _, _, rfl, rfl, .inr ⟨_, rfl, _, _, rfl, rfl, .inl ⟨by decide, by decide⟩, _, _, rfl, rfl, _, _, rfl, rfl, ?_⟩⟩
      refine ⟨_, rfl, _, _, rfl, rfl, ⟨by decide, by decide, by decide⟩, _, _, rfl, rfl, _, _, rfl, ?_⟩
      exact ⟨_, rfl, .inl ⟨_, rfl, _, _, rfl, rfl, id (α := (2147483353 : Int) ≠ 0) (by decide), (by show 3 ≤ sizeLine; decide), fun p hp => k p _ _ _ hp⟩⟩
    · refine ⟨_, rfl, _, _, rfl, rfl, .inl ⟨by decide, by decide⟩, _, _, rfl, rfl, ?_⟩
      refine ⟨_, rfl, _, rfl, .inl ⟨_, rfl, ?_⟩⟩
      refine ⟨_, _, rfl, rfl, ⟨by decide, by decide, by decide⟩, _, _, rfl, rfl, ⟨by decide, by decide +kernel⟩, _, _, rfl, rfl, id (α := ((10 : Int) ^ Int.toNat 58) ^ Int.toNat 12 ≠ 0) (by decide +kernel), ?_⟩
      refine ⟨_, rfl, .inl ⟨_, rfl, _, _, rfl, rfl, id (α := (2147483497 : Int) ≠ 0) (by decide), _, _, rfl, rfl, .inr ⟨by decide, by decide⟩, ?_⟩⟩
      refine ⟨_, rfl, _, _, rfl, rfl, .inl ⟨by decide, by decide⟩, _, _, rfl, rfl, ?_⟩
      refine ⟨_, rfl, _, _, rfl, rfl, .inr ⟨_, rfl, _, _, rfl, rfl, .inl ⟨by decide, by decide⟩, _, _, rfl, rfl, _, _, rfl, rfl, ?_⟩⟩
      refine ⟨_, rfl, _, _, rfl, rfl, ⟨by decide, by decide, by decide⟩, _, _, rfl, rfl, _, _, rfl, ?_⟩
      exact ⟨_, rfl, .inl ⟨_, rfl, _, _, rfl, rfl, id (α := (2147483353 : Int) ≠ 0) (by decide), (by show 3 ≤ sizeLine; decide), fun p hp => k p _ _ _ hp⟩⟩
/-! the draws -/
def spThrow : Sp := fun vs H Q _ => ∃ (p : Addr) (n : Int) (b0 b1 b2 : Int), vs = [.ref p, .int n] ∧ H p = some (bagO b0 b1 b2) ∧ 0 < n ∧ n < 1000000000 ∧ ∀ r c0 c1 c2, 0 ≤ r → r < n → Q (.int r) (upd H p (bagO c0 c1 c2))
theorem ok_throw (T : Tx K mg) : Has P w K mg base CX0 1 "_law_throw" ["bag", "total"] spThrow := by
  obtain ⟨fd, F⟩ := T.fn_throw
  refine has_of T.g_throw F sc_throw (fun _ _ _ _ _ _ us hl => match us, hl with | [_, _], _ => rfl) (fun vs H Q E h => ?_) (fun cdv A outer s H vs Q E hr h => ⟨_, PSs.nox (
    (pss_cons (ps_if (pt_cmpR op_gt (pe_ix ix_list (pv 0) pe_int (fun _ _ => rfl)) pe_int (nomark _)) (pss_cons (ps_set (i := 2) sc_throw.nd rfl (Or.inl rfl) (by exact (pe_op op_modN (pe_callTy call_int1 (by rfl) T.n_int (by decide +kernel) (pa_cons (pe_ix ix_list (pv 0) pe_int (fun _ _ => rfl)) pa_nil)) (pv 1))))
    (pss_cons (ps_asg (pe_op op_fdivN (pe_ix ix_list (pv 0) pe_int (fun _ _ => rfl)) (pv 1)) (pg_sub (pv 0) pe_int set_list))
    (pss_one (ps_ret (by exact (pv 2)))))) pss_nil)
    (pss_cons (ps_asg (pe_op op_add (pe_ix ix_list (pv 0) pe_int (fun _ _ => rfl)) pe_int) (pg_sub (pv 0) pe_int set_list))
    (pss_cons (ps_set (i := 3) sc_throw.nd rfl (Or.inl rfl) (by exact (pe_op op_modN (pe_callTy call_int1 (by rfl) T.n_int (by decide +kernel) (pa_cons (pe_op op_add (pe_ix ix_list (pv 0) pe_int (fun _ _ => rfl)) (pe_op op_mul pe_int (pe_ix ix_list (pv 0) pe_int (fun _ _ => rfl)))) pa_nil)) pe_int)))
    (pss_cons (ps_set (i := 4) sc_throw.nd rfl (Or.inl rfl) (by exact (pe_op op_add (pe_op op_mul (pe_op op_modN (pe_callTy call_int1 (by rfl) T.n_int (by decide +kernel) (pa_cons (pe_op op_mul (pv 3) (pv 3)) pa_nil)) pe_int) (pv 3)) (pe_op op_mul pe_int (pe_ix ix_list (pv 0) pe_int (fun _ _ => rfl))))))
    (pss_cons (ps_set (i := 4) sc_throw.nd rfl (Or.inl rfl) (by exact (pe_op op_modN (pe_callTy call_int1 (by rfl) T.n_int (by decide +kernel) (pa_cons (pv 4) pa_nil)) pe_int)))
    (pss_one (ps_ret (by exact (pe_op op_modN (pe_callTy call_int1 (by rfl) T.n_int (by decide +kernel) (pa_cons (pe_op op_fdivN (pv 4) pe_int) pa_nil)) (pv 1))))))))))), ?_⟩)
  · obtain ⟨p, n, b0, b1, b2, rfl, _⟩ := h
    rfl
  · obtain ⟨p, n, b0, b1, b2, rfl, hb, hn, hn2, k⟩ := h
    have nz : n ≠ 0 := by omega
    have na : n.natAbs < 1073741824 := by omega
    have hS : SqL K H p [.int b0, .int b1, .int b2] := SqL.of hb
    refine ⟨_, rfl, p, _, _, _, rfl, rfl, hS, rfl, _, _, rfl, rfl, _, rfl, ite2 (fun c => ?_) (fun c => ?_)⟩
    · refine ⟨_, rfl, p, _, _, _, rfl, rfl, hS, rfl, .inl ⟨_, rfl, _, rfl, _, _, rfl, rfl, nz, ?_⟩⟩
      refine ⟨_, rfl, p, _, _, _, rfl, rfl, hS, rfl, _, rfl, _, _, rfl, rfl, ⟨nz, na⟩, ?_⟩
      exact ⟨_, rfl, p, _, _, _, rfl, rfl, hb, rfl, _, rfl, k _ _ _ _ (Int.fmod_nonneg_of_pos _ hn) (Int.fmod_lt_of_pos _ hn)⟩
    · refine ⟨_, rfl, p, _, _, _, rfl, rfl, hS, rfl, _, _, rfl, rfl, _, rfl, p, _, _, _, rfl, rfl, hb, rfl, ?_⟩
      have hb2 : upd H p (.lst [.int b0, .int b1, .int (b2 + 1)]) p = some (.lst [.int b0, .int b1, .int (b2 + 1)]) := upd_same
      have hS2 : SqL K (upd H p (.lst [.int b0, .int b1, .int (b2 + 1)])) p [.int b0, .int b1, .int (b2 + 1)] := SqL.of hb2
      refine ⟨_, rfl, p, _, _, _, rfl, rfl, hS2, rfl, _, rfl, p, _, _, _, rfl, rfl, hS2, rfl, _, _, rfl, rfl, .inl ⟨by decide, by decide⟩, _, _, rfl, rfl, .inl ⟨_, rfl, _, _, rfl, rfl, id (α := (2305843009213693951 : Int) ≠ 0) (by decide), ?_⟩⟩
      have hM : ∀ x : Int, -(2 ^ 64) < x.fmod 2305843009213693951 ∧ x.fmod 2305843009213693951 < 2 ^ 64 := fun x => by
        have a1 := Int.fmod_nonneg_of_pos x (b := 2305843009213693951) (by decide)
        have a2 := Int.fmod_lt_of_pos x (b := 2305843009213693951) (by decide)
        omega
      refine ⟨_, rfl, _, rfl, _, _, rfl, rfl, .inl (hM _), .inl ⟨_, rfl, _, _, rfl, rfl, id (α := (2305843009213693951 : Int) ≠ 0) (by decide), _, rfl, _, _, rfl, rfl, .inl (hM _), ?_⟩⟩
      refine ⟨_, rfl, p, _, _, _, rfl, rfl, hS2, rfl, _, _, rfl, rfl, .inl ⟨by decide, by decide⟩, _, _, rfl, rfl, ?_⟩
      refine ⟨_, rfl, .inl ⟨_, rfl, _, _, rfl, rfl, id (α := (2305843009213693907 : Int) ≠ 0) (by decide), ?_⟩⟩
      refine ⟨_, rfl, _, _, rfl, rfl, ⟨by decide, by decide⟩, .inl ⟨_, rfl, _, rfl, _, _, rfl, rfl, nz, ?_⟩⟩
      exact k _ _ _ _ (Int.fmod_nonneg_of_pos _ hn) (Int.fmod_lt_of_pos _ hn)
def spPick (K : PySem.W.Frag) : Sp := fun vs H Q _ => ∃ (p l : Addr) (xs : List V) (b0 b1 b2 : Int), vs = [.ref p, .ref l] ∧ H p = some (bagO b0 b1 b2) ∧ l ≠ p ∧ SqL K H l xs ∧ xs ≠ [] ∧ xs.length < 1000 ∧ ∀ (j : Nat) v c0 c1 c2, xs[j]? = some v → Q v (upd H p (bagO c0 c1 c2))
theorem ok_pick (T : Tx K mg) : Has P w K mg base CX0 2 "_law_pick" ["bag", "items"] (spPick K) := by
  obtain ⟨g_throw, k_throw, fd_throw, G_throw, b_throw⟩ := ok_throw (P := P) (w := w) (base := base) T
  obtain ⟨fd, F⟩ := T.fn_pick
  refine has_of T.g_pick F sc_pick (fun _ _ _ _ _ _ us hl => match us, hl with | [_, _], _ => rfl) (fun vs H Q E h => ?_) (fun cdv A outer s H vs Q E hr h => ⟨_, PSs.nox (
    (pss_one (ps_ret (by exact (pe_ix ix_list (pv 1) (pe_call G_throw (hr.mono (by decide)) (by rfl) g_throw k_throw b_throw .nil pass0 (pa_cons (pv 0) (pa_cons (pe_callB call_len (by rfl) T.n_len (by decide +kernel) (pa_cons (pv 1) pa_nil)) pa_nil))) (fun _ _ => rfl)))))), ?_⟩)
  · obtain ⟨p, l, xs, b0, b1, b2, rfl, _⟩ := h
    rfl
  · obtain ⟨p, l, xs, b0, b1, b2, rfl, hb, hlp, hS, hne, hl, k⟩ := h
    have hpos : 0 < xs.length := List.length_pos_iff.mpr hne
    refine ⟨_, rfl, _, rfl, _, rfl, _, _, rfl, Or.inl ⟨_, hS, rfl⟩, p, _, b0, b1, b2, rfl, hb, by omega, by omega, fun r c0 c1 c2 h0 h1 => ?_⟩
    have hS2 : SqL K (upd H p (bagO c0 c1 c2)) l xs := SqL.updL hS hlp
    obtain ⟨j, rfl⟩ : ∃ j : Nat, r = j := ⟨r.toNat, by omega⟩
    have hj : j < xs.length := by omega
    exact ⟨l, xs, (j : Int), xs[j], rfl, rfl, hS2, atI_nat (by simp [hj]), k j _ _ _ _ (by simp [hj])⟩
end
end K0
set_option maxHeartbeats 4000000
namespace K0
open PySem PySem.Spec PyProof.Rows L2 He Hx
section
variable {P : Program} {w : World} {K : PySem.W.Frag} {mg : Str → Option Value} {base : Heap}
def onlyL (ks : List Int) (n : Nat) : List V := (List.range n).map fun (i : Nat) => V.bl (inV (.int (i : Int)) (ks.map V.int))
def spOnly (K : PySem.W.Frag) : Sp := fun vs H Q _ => ∃ (t : Addr) (ks : List Int) (n : Nat), vs = [.ref t, .int n] ∧ SqT K H t (ks.map V.int) ∧ n ≤ 100 ∧ ∀ p, H p = none → Q (.ref p) (upd H p (.lst (onlyL ks n)))
theorem ok_only (T : Tx K mg) : Has P w K mg base CX0 1 "_law_only" ["spots", "total"] (spOnly K) := by
  obtain ⟨fd, F⟩ := T.fn_only
  refine has_of T.g_only F sc_only (fun _ _ _ _ _ _ us hl => match us, hl with | [_, _], _ => rfl) (fun vs H Q E h => ?_) (fun cdv A outer s H vs Q E hr h => ⟨_, PSs.nox (
    (pss_one (ps_ret (by exact (pe_lc (own := [("at", 2)]) (g := gName 2) (by rfl) sc_only.nd (pi_range1 (by rfl) T.n_range (pa_cons (pv 1) pa_nil)) (blkOk_by (own := [("at", 2)]) (N := ["spots", "total", "at"]) (sc := defScope s_only) (by decide +kernel)) (fun _ _ _ _ _ => (pg_name (i := 2) sc_only.nd rfl (Or.inl rfl))) (fun _ _ _ _ _ => pts_nil) (fun _ _ _ _ _ => (pe_cmpR (r := rIn K false) op_in_seq (pv 2) (pv 0) (by rfl)))))))), ?_⟩)
  · obtain ⟨t, ks, n, rfl, _⟩ := h
    rfl
  · obtain ⟨t, ks, n, rfl, hT, hn, k⟩ := h
    refine ⟨_, rfl, _, rfl, by omega, by omega, fun D hD => ?_⟩
    have hne : t ≠ D ∨ True := .inr trivial
    refine lc_range (lo := 0) (n := n) (fun i H' => H' = upd H D (.lst (onlyL ks i))) rfl (fun i H' hi e => ?_) (fun H' e => ?_)
    · subst e
      have hT2 : SqT K (upd H D (.lst (onlyL ks i))) t (ks.map V.int) := hT.updT' hD
      refine ⟨rfl, _, rfl, _, rfl, t, _, rfl, .inr hT2, rfl, all_flat_ints ks, onlyL ks i, upd_same, ?_, ?_⟩
      · unfold onlyL
        rw [List.length_map, List.length_range]
        exact Nat.lt_of_lt_of_le hi (Nat.le_trans hn (by decide))
      · rw [upd_upd, iteF_of]
        unfold onlyL
        rw [List.range_succ, List.map_append]
        show upd H D _ = upd H D _
        simp
    · subst e
      exact k D hD
end
end K0
set_option maxHeartbeats 4000000
namespace K0
open PySem PySem.Spec PyProof.Rows L2 He Hx
theorem initB_ok {K : PySem.W.Frag} {x f : String} {bm : List Value} {newId : String} (h : initB K x f bm newId = true) :
    (∃ nm q N bs sn sub ab col dd k0 k1 k2 k3 k5, K.lookup (ga K x) = some (excClassObj nm q (ga K x) N bs bm true sn sub ab col dd k0 k1 k2 k3 k5 newId)) ∧ PySem.W.findIn K (.ref (ga K x)) "__setattr__" = some (some (.builtin "object.__setattr__")) ∧
    PySem.W.findIn K (.ref (ga K x)) f = some none ∧ PySem.W.findIn K (.ref (ga K x)) "__init__" = some (some (.ref (ma K (ga K x) "__init__"))) ∧ PySem.W.typeIn K (.ref (ma K (ga K x) "__init__")) = some (.type "function") ∧ PySem.W.keepIn K (.ref (ga K x)) = true := by
  obtain ⟨h1, h⟩ := ba h
  obtain ⟨h2, h⟩ := ba h
  obtain ⟨h3, h⟩ := ba h
  obtain ⟨h4, h⟩ := ba h
  obtain ⟨h5, h6⟩ := ba h
  exact ⟨clsB_ok h1, eqO_ok h2, eqO_ok h3, eqO_ok h4, of_decide_eq_true h5, h6⟩
section
variable {K : PySem.W.Frag} {mg : Str → Option Value}
theorem tail_value : PySem.XT.TailT "IndexError" tlIndex := ⟨by decide +kernel, by decide +kernel, by decide +kernel, by decide +kernel, fun self => by kernel_rfl⟩
theorem Tx.i_value (T : Tx K mg) : PySem.XT.ClsT K "InvalidNumber" "value" "IndexError" "IndexError.__new__" "IndexError.__init__" tlIndex tlIndex (ga K "InvalidNumber") (ma K (ga K "InvalidNumber") "__init__") := by
  have c0 := T.c.fact 7 (f := ckInit) rfl
  obtain ⟨h1, h2, h3, h4, h5, h6⟩ := initB_ok (K := K) (x := "InvalidNumber") (f := "value") (bm := tlIndex) (newId := "IndexError.__new__") ((ba (c0)).1)
  have e := T.exC "InvalidNumber" (memb (by decide +kernel))
  obtain ⟨fd, F⟩ := T.fn_iNumber
  obtain ⟨oc, od, dV, kV, doc, pm, an, cdv, ct, osl, rfl, lk, hcd, hD, hK⟩ := F.ex
  rcases hD with ⟨_, rfl⟩ | ⟨z, _⟩
  · exact ⟨PySem.F.excBase_IndexError, tail_value, h1, h2, e.hg, e.hk, h3, h4, h5, h6, e.hs, e.hd, oc, od, kV, doc, pm, an, cdv, ct, osl, _, _, _, _, _, _, _, lk, hcd⟩
  · exact absurd rfl z
theorem tail_name : PySem.XT.TailT "LookupError" tlKey := ⟨by decide +kernel, by decide +kernel, by decide +kernel, by decide +kernel, fun self => by kernel_rfl⟩
theorem Tx.i_name (T : Tx K mg) : PySem.XT.ClsT K "UnknownName" "name" "LookupError" "LookupError.__new__" "LookupError.__init__" tlKey tlLook (ga K "UnknownName") (ma K (ga K "UnknownName") "__init__") := by
  have c0 := T.c.fact 7 (f := ckInit) rfl
  obtain ⟨h1, h2, h3, h4, h5, h6⟩ := initB_ok (K := K) (x := "UnknownName") (f := "name") (bm := tlKey) (newId := "LookupError.__new__") ((ba (ba (c0)).2).1)
  have e := T.exC "UnknownName" (memb (by decide +kernel))
  obtain ⟨fd, F⟩ := T.fn_iName
  obtain ⟨oc, od, dV, kV, doc, pm, an, cdv, ct, osl, rfl, lk, hcd, hD, hK⟩ := F.ex
  rcases hD with ⟨_, rfl⟩ | ⟨z, _⟩
  · exact ⟨PySem.F.excBase_LookupError, tail_name, h1, h2, e.hg, e.hk, h3, h4, h5, h6, e.hs, e.hd, oc, od, kV, doc, pm, an, cdv, ct, osl, _, _, _, _, _, _, _, lk, hcd⟩
  · exact absurd rfl z
theorem tail_limit : PySem.XT.TailT "OverflowError" tlOver := ⟨by decide +kernel, by decide +kernel, by decide +kernel, by decide +kernel, fun self => by kernel_rfl⟩
theorem Tx.i_limit (T : Tx K mg) : PySem.XT.ClsT K "TooMany" "limit" "OverflowError" "OverflowError.__new__" "OverflowError.__init__" tlOver tlOver (ga K "TooMany") (ma K (ga K "TooMany") "__init__") := by
  have c0 := T.c.fact 7 (f := ckInit) rfl
  obtain ⟨h1, h2, h3, h4, h5, h6⟩ := initB_ok (K := K) (x := "TooMany") (f := "limit") (bm := tlOver) (newId := "OverflowError.__new__") ((ba (ba (ba (c0)).2).2).1)
  have e := T.exC "TooMany" (memb (by decide +kernel))
  obtain ⟨fd, F⟩ := T.fn_iMany
  obtain ⟨oc, od, dV, kV, doc, pm, an, cdv, ct, osl, rfl, lk, hcd, hD, hK⟩ := F.ex
  rcases hD with ⟨_, rfl⟩ | ⟨z, _⟩
  · exact ⟨PySem.F.excBase_OverflowError, tail_limit, h1, h2, e.hg, e.hk, h3, h4, h5, h6, e.hs, e.hd, oc, od, kV, doc, pm, an, cdv, ct, osl, _, _, _, _, _, _, _, lk, hcd⟩
  · exact absurd rfl z
theorem tail_paper : PySem.XT.TailT "ArithmeticError" tlArith := ⟨by decide +kernel, by decide +kernel, by decide +kernel, by decide +kernel, fun self => by kernel_rfl⟩
theorem Tx.i_paper (T : Tx K mg) : PySem.XT.ClsT K "NotSingle" "paper" "ArithmeticError" "ArithmeticError.__new__" "ArithmeticError.__init__" tlArith tlArith (ga K "NotSingle") (ma K (ga K "NotSingle") "__init__") := by
  have c0 := T.c.fact 7 (f := ckInit) rfl
  obtain ⟨h1, h2, h3, h4, h5, h6⟩ := initB_ok (K := K) (x := "NotSingle") (f := "paper") (bm := tlArith) (newId := "ArithmeticError.__new__") ((ba (ba (ba (ba (c0)).2).2).2).1)
  have e := T.exC "NotSingle" (memb (by decide +kernel))
  obtain ⟨fd, F⟩ := T.fn_iSingle
  obtain ⟨oc, od, dV, kV, doc, pm, an, cdv, ct, osl, rfl, lk, hcd, hD, hK⟩ := F.ex
  rcases hD with ⟨_, rfl⟩ | ⟨z, _⟩
  · exact ⟨PySem.F.excBase_ArithmeticError, tail_paper, h1, h2, e.hg, e.hk, h3, h4, h5, h6, e.hs, e.hd, oc, od, kV, doc, pm, an, cdv, ct, osl, _, _, _, _, _, _, _, lk, hcd⟩
  · exact absurd rfl z
theorem tail_fork : PySem.XT.TailT "RuntimeError" tlRun := ⟨by decide +kernel, by decide +kernel, by decide +kernel, by decide +kernel, fun self => by kernel_rfl⟩
theorem Tx.i_fork (T : Tx K mg) : PySem.XT.ClsT K "NeedsMarks" "fork" "RuntimeError" "RuntimeError.__new__" "RuntimeError.__init__" tlRun tlRun (ga K "NeedsMarks") (ma K (ga K "NeedsMarks") "__init__") := by
  have c0 := T.c.fact 7 (f := ckInit) rfl
  obtain ⟨h1, h2, h3, h4, h5, h6⟩ := initB_ok (K := K) (x := "NeedsMarks") (f := "fork") (bm := tlRun) (newId := "RuntimeError.__new__") ((ba (ba (ba (ba (ba (c0)).2).2).2).2).1)
  have e := T.exC "NeedsMarks" (memb (by decide +kernel))
  obtain ⟨fd, F⟩ := T.fn_iMarks
  obtain ⟨oc, od, dV, kV, doc, pm, an, cdv, ct, osl, rfl, lk, hcd, hD, hK⟩ := F.ex
  rcases hD with ⟨_, rfl⟩ | ⟨z, _⟩
  · exact ⟨PySem.F.excBase_RuntimeError, tail_fork, h1, h2, e.hg, e.hk, h3, h4, h5, h6, e.hs, e.hd, oc, od, kV, doc, pm, an, cdv, ct, osl, _, _, _, _, _, _, _, lk, hcd⟩
  · exact absurd rfl z
theorem tail_many : PySem.XT.TailT "LookupError" tlLook := ⟨by decide +kernel, by decide +kernel, by decide +kernel, by decide +kernel, fun self => by kernel_rfl⟩
theorem Tx.i_many (T : Tx K mg) : PySem.XT.ClsT K "NothingToUndo" "many" "LookupError" "LookupError.__new__" "LookupError.__init__" tlLook tlLook (ga K "NothingToUndo") (ma K (ga K "NothingToUndo") "__init__") := by
  have c0 := T.c.fact 7 (f := ckInit) rfl
  obtain ⟨h1, h2, h3, h4, h5, h6⟩ := initB_ok (K := K) (x := "NothingToUndo") (f := "many") (bm := tlLook) (newId := "LookupError.__new__") ((ba (ba (ba (ba (ba (c0)).2).2).2).2).2)
  have e := T.exC "NothingToUndo" (memb (by decide +kernel))
  obtain ⟨fd, F⟩ := T.fn_iUndo
  obtain ⟨oc, od, dV, kV, doc, pm, an, cdv, ct, osl, rfl, lk, hcd, hD, hK⟩ := F.ex
  rcases hD with ⟨_, rfl⟩ | ⟨z, _⟩
  · exact ⟨PySem.F.excBase_LookupError, tail_many, h1, h2, e.hg, e.hk, h3, h4, h5, h6, e.hs, e.hd, oc, od, kV, doc, pm, an, cdv, ct, osl, _, _, _, _, _, _, _, lk, hcd⟩
  · exact absurd rfl z
theorem Tx.e_MarkError (T : Tx K mg) : PySem.W.excIn K (ga K "MarkError") veBase "ValueError.__new__" = true ∧ PySem.W.keepIn K (.ref (ga K "MarkError")) = true ∧ PySem.W.subIn K (.ref (ga K "MarkError")) (.type "BaseException") = some true ∧ PySem.W.typeIn K (.ref (ga K "MarkError")) = some (.type "type") := exc_ok (T.plain _ (memb (by decide +kernel)))
theorem Tx.e_InvalidText (T : Tx K mg) : PySem.W.excIn K (ga K "InvalidText") veBase "ValueError.__new__" = true ∧ PySem.W.keepIn K (.ref (ga K "InvalidText")) = true ∧ PySem.W.subIn K (.ref (ga K "InvalidText")) (.type "BaseException") = some true ∧ PySem.W.typeIn K (.ref (ga K "InvalidText")) = some (.type "type") := exc_ok (T.plain _ (memb (by decide +kernel)))
theorem Tx.e_InvalidRewriter (T : Tx K mg) : PySem.W.excIn K (ga K "InvalidRewriter") veBase "ValueError.__new__" = true ∧ PySem.W.keepIn K (.ref (ga K "InvalidRewriter")) = true ∧ PySem.W.subIn K (.ref (ga K "InvalidRewriter")) (.type "BaseException") = some true ∧ PySem.W.typeIn K (.ref (ga K "InvalidRewriter")) = some (.type "type") := exc_ok (T.plain _ (memb (by decide +kernel)))
theorem Tx.e_InvalidMachine (T : Tx K mg) : PySem.W.excIn K (ga K "InvalidMachine") veBase "ValueError.__new__" = true ∧ PySem.W.keepIn K (.ref (ga K "InvalidMachine")) = true ∧ PySem.W.subIn K (.ref (ga K "InvalidMachine")) (.type "BaseException") = some true ∧ PySem.W.typeIn K (.ref (ga K "InvalidMachine")) = some (.type "type") := exc_ok (T.plain _ (memb (by decide +kernel)))
theorem Tx.e_InvalidBook (T : Tx K mg) : PySem.W.excIn K (ga K "InvalidBook") veBase "ValueError.__new__" = true ∧ PySem.W.keepIn K (.ref (ga K "InvalidBook")) = true ∧ PySem.W.subIn K (.ref (ga K "InvalidBook")) (.type "BaseException") = some true ∧ PySem.W.typeIn K (.ref (ga K "InvalidBook")) = some (.type "type") := exc_ok (T.plain _ (memb (by decide +kernel)))
theorem Tx.e_InvalidOperation (T : Tx K mg) : PySem.W.excIn K (ga K "InvalidOperation") veBase "ValueError.__new__" = true ∧ PySem.W.keepIn K (.ref (ga K "InvalidOperation")) = true ∧ PySem.W.subIn K (.ref (ga K "InvalidOperation")) (.type "BaseException") = some true ∧ PySem.W.typeIn K (.ref (ga K "InvalidOperation")) = some (.type "type") := exc_ok (T.plain _ (memb (by decide +kernel)))
theorem Tx.e_InvalidEdit (T : Tx K mg) : PySem.W.excIn K (ga K "InvalidEdit") veBase "ValueError.__new__" = true ∧ PySem.W.keepIn K (.ref (ga K "InvalidEdit")) = true ∧ PySem.W.subIn K (.ref (ga K "InvalidEdit")) (.type "BaseException") = some true ∧ PySem.W.typeIn K (.ref (ga K "InvalidEdit")) = some (.type "type") := exc_ok (T.plain _ (memb (by decide +kernel)))
theorem Tx.e_ParseError (T : Tx K mg) : PySem.W.excIn K (ga K "ParseError") veBase "ValueError.__new__" = true ∧ PySem.W.keepIn K (.ref (ga K "ParseError")) = true ∧ PySem.W.subIn K (.ref (ga K "ParseError")) (.type "BaseException") = some true ∧ PySem.W.typeIn K (.ref (ga K "ParseError")) = some (.type "type") := exc_ok (T.plain _ (memb (by decide +kernel)))
theorem Tx.e_InvalidCommand (T : Tx K mg) : PySem.W.excIn K (ga K "InvalidCommand") veBase "ValueError.__new__" = true ∧ PySem.W.keepIn K (.ref (ga K "InvalidCommand")) = true ∧ PySem.W.subIn K (.ref (ga K "InvalidCommand")) (.type "BaseException") = some true ∧ PySem.W.typeIn K (.ref (ga K "InvalidCommand")) = some (.type "type") := exc_ok (T.plain _ (memb (by decide +kernel)))
end
end K0
set_option maxHeartbeats 4000000
namespace K0
open PySem PySem.Spec PyProof.Rows L2 He Hx
section
variable {P : Program} {w : World} {K : PySem.W.Frag} {mg : Str → Option Value} {base : Heap}
theorem is_val {pn : List (Addr × Obj)} {σ : L2.St} {H : Hp} {a : Addr} {x y : Str} (T : Tx K mg) (hx : x ∈ excN) (hI : IsEx pn H a (ga K x)) (hσ : σ[0]? = some (some (.ref a))) (hy : y ∈ excN) :
    Val (tCB (rIsV K pn) (tCons (tVar 0) (tCons (tC (.ref (ga K y))) tNil))) σ H (.bl (subT x y)) := fun Q q =>
  ⟨_, hσ, a, ga K x, _, .ref (ga K y), _, rfl, T.exC x hx, hI, fun u h => h, T.kit x hx y hy, q⟩
theorem is_valB {pn : List (Addr × Obj)} {σ : L2.St} {H : Hp} {a : Addr} {x : Str} {y : String} (T : Tx K mg) (hx : x ∈ excN) (hI : IsEx pn H a (ga K x)) (hσ : σ[0]? = some (some (.ref a))) (hy : y ∈ blt7) :
    Val (tCB (rIsV K pn) (tCons (tVar 0) (tCons (tC (.ty y)) tNil))) σ H (.bl (subB x y)) := fun Q q =>
  ⟨_, hσ, a, ga K x, _, .type y, _, rfl, T.exC x hx, hI, fun u h => h, T.kitB x hx y hy, q⟩
def flagsL (x : Str) : List V := own14.map fun y => .bl (subT x y)
def basesL (x : Str) : List V := .bl (subT x "MarkError") :: blt7.map fun y => .bl (subB x y)
def spFlags (K : PySem.W.Frag) (pn : List (Addr × Obj)) : Sp := fun vs H Q _ => ∃ (a : Addr) (x : Str), vs = [.ref a] ∧ x ∈ excN ∧ IsEx pn H a (ga K x) ∧ ∀ p H', Same H H' → H p = none → H' p = some (.lst (flagsL x)) → Q (.ref p) H'
def spBases (K : PySem.W.Frag) (pn : List (Addr × Obj)) : Sp := fun vs H Q _ => ∃ (a : Addr) (x : Str), vs = [.ref a] ∧ x ∈ excN ∧ IsEx pn H a (ga K x) ∧ ∀ p H', Same H H' → H p = none → H' p = some (.lst (basesL x)) → Q (.ref p) H'
theorem ok_flags (T : Tx K mg) : Has P w K mg base CX0 1 "_law_flags" ["one"] (spFlags K []) := by
  obtain ⟨fd, F⟩ := T.fn_flags
  refine has_of T.g_flags F sc_flags (fun _ _ _ _ _ _ us hl => match us, hl with | [_], _ => rfl) (fun vs H Q E h => ?_) (fun cdv A outer s H vs Q E hr h => ⟨_, PSs.nox (
    (pss_cons (ps_set (i := 1) sc_flags.nd rfl (Or.inl rfl) (by exact (pe_lst (pa_cons (pe_callB (r := rIsV K []) call_isV (by rfl) T.n_isinstance (by decide +kernel) (pa_cons (pv 0) (pa_cons (pe_glob (v := .ref (ga K "InvalidText")) (by rfl) T.g_InvalidText rfl) pa_nil))) (pa_cons (pe_callB (r := rIsV K []) call_isV (by rfl) T.n_isinstance (by decide +kernel) (pa_cons (pv 0) (pa_cons (pe_glob (v := .ref (ga K "InvalidRewriter")) (by rfl) T.g_InvalidRewriter rfl) pa_nil))) (pa_cons (pe_callB (r := rIsV K []) call_isV (by rfl) T.n_isinstance (by decide +kernel) (pa_cons (pv 0) (pa_cons (pe_glob (v := .ref (ga K "InvalidMachine")) (by rfl) T.g_InvalidMachine rfl) pa_nil))) pa_nil))))))
    (pss_cons (ps_set (i := 1) sc_flags.nd rfl (Or.inl rfl) (by exact (pe_op op_cat (pv 1) (pe_lst (pa_cons (pe_callB (r := rIsV K []) call_isV (by rfl) T.n_isinstance (by decide +kernel) (pa_cons (pv 0) (pa_cons (pe_glob (v := .ref (ga K "InvalidBook")) (by rfl) T.g_InvalidBook rfl) pa_nil))) (pa_cons (pe_callB (r := rIsV K []) call_isV (by rfl) T.n_isinstance (by decide +kernel) (pa_cons (pv 0) (pa_cons (pe_glob (v := .ref (ga K "InvalidOperation")) (by rfl) T.g_InvalidOperation rfl) pa_nil))) (pa_cons (pe_callB (r := rIsV K []) call_isV (by rfl) T.n_isinstance (by decide +kernel) (pa_cons (pv 0) (pa_cons (pe_glob (v := .ref (ga K "InvalidEdit")) (by rfl) T.g_InvalidEdit rfl) pa_nil))) pa_nil)))))))
    (pss_cons (ps_set (i := 1) sc_flags.nd rfl (Or.inl rfl) (by exact (pe_op op_cat (pv 1) (pe_lst (pa_cons (pe_callB (r := rIsV K []) call_isV (by rfl) T.n_isinstance (by decide +kernel) (pa_cons (pv 0) (pa_cons (pe_glob (v := .ref (ga K "ParseError")) (by rfl) T.g_ParseError rfl) pa_nil))) (pa_cons (pe_callB (r := rIsV K []) call_isV (by rfl) T.n_isinstance (by decide +kernel) (pa_cons (pv 0) (pa_cons (pe_glob (v := .ref (ga K "InvalidCommand")) (by rfl) T.g_InvalidCommand rfl) pa_nil))) (pa_cons (pe_callB (r := rIsV K []) call_isV (by rfl) T.n_isinstance (by decide +kernel) (pa_cons (pv 0) (pa_cons (pe_glob (v := .ref (ga K "InvalidNumber")) (by rfl) T.g_InvalidNumber rfl) pa_nil))) pa_nil)))))))
    (pss_cons (ps_set (i := 1) sc_flags.nd rfl (Or.inl rfl) (by exact (pe_op op_cat (pv 1) (pe_lst (pa_cons (pe_callB (r := rIsV K []) call_isV (by rfl) T.n_isinstance (by decide +kernel) (pa_cons (pv 0) (pa_cons (pe_glob (v := .ref (ga K "UnknownName")) (by rfl) T.g_UnknownName rfl) pa_nil))) (pa_cons (pe_callB (r := rIsV K []) call_isV (by rfl) T.n_isinstance (by decide +kernel) (pa_cons (pv 0) (pa_cons (pe_glob (v := .ref (ga K "TooMany")) (by rfl) T.g_TooMany rfl) pa_nil))) (pa_cons (pe_callB (r := rIsV K []) call_isV (by rfl) T.n_isinstance (by decide +kernel) (pa_cons (pv 0) (pa_cons (pe_glob (v := .ref (ga K "NotSingle")) (by rfl) T.g_NotSingle rfl) pa_nil))) pa_nil)))))))
    (pss_one (ps_ret (by exact (pe_op op_cat (pv 1) (pe_lst (pa_cons (pe_callB (r := rIsV K []) call_isV (by rfl) T.n_isinstance (by decide +kernel) (pa_cons (pv 0) (pa_cons (pe_glob (v := .ref (ga K "NeedsMarks")) (by rfl) T.g_NeedsMarks rfl) pa_nil))) (pa_cons (pe_callB (r := rIsV K []) call_isV (by rfl) T.n_isinstance (by decide +kernel) (pa_cons (pv 0) (pa_cons (pe_glob (v := .ref (ga K "NothingToUndo")) (by rfl) T.g_NothingToUndo rfl) pa_nil))) pa_nil)))))))))))), ?_⟩)
  · obtain ⟨a, x, rfl, _⟩ := h
    rfl
  · obtain ⟨a, x, rfl, hx, hI, k⟩ := h
    refine seq_set ?_
    refine lst_step (va_cons (is_val (y := "InvalidText") T hx hI (by rfl) (memb (by decide +kernel))) (va_cons (is_val (y := "InvalidRewriter") T hx hI (by rfl) (memb (by decide +kernel))) (va_cons (is_val (y := "InvalidMachine") T hx hI (by rfl) (memb (by decide +kernel))) va_nil))) (szd (by simp)) fun p0 H0 s0 n0 e0 => ?_
    have t0 : Same H H0 := s0
    refine seq_set ?_
    refine cat_step (fun _ q => ⟨_, rfl, q⟩) e0 (va_cons (is_val (y := "InvalidBook") T hx (hI.mono t0) (by rfl) (memb (by decide +kernel))) (va_cons (is_val (y := "InvalidOperation") T hx (hI.mono t0) (by rfl) (memb (by decide +kernel))) (va_cons (is_val (y := "InvalidEdit") T hx (hI.mono t0) (by rfl) (memb (by decide +kernel))) va_nil))) (by simp) fun p1 H1 s1 n1 e1 => ?_
    have t1 : Same H H1 := t0.trans s1
    refine seq_set ?_
    refine cat_step (fun _ q => ⟨_, rfl, q⟩) e1 (va_cons (is_val (y := "ParseError") T hx (hI.mono t1) (by rfl) (memb (by decide +kernel))) (va_cons (is_val (y := "InvalidCommand") T hx (hI.mono t1) (by rfl) (memb (by decide +kernel))) (va_cons (is_val (y := "InvalidNumber") T hx (hI.mono t1) (by rfl) (memb (by decide +kernel))) va_nil))) (by simp) fun p2 H2 s2 n2 e2 => ?_
    have t2 : Same H H2 := t1.trans s2
    refine seq_set ?_
    refine cat_step (fun _ q => ⟨_, rfl, q⟩) e2 (va_cons (is_val (y := "UnknownName") T hx (hI.mono t2) (by rfl) (memb (by decide +kernel))) (va_cons (is_val (y := "TooMany") T hx (hI.mono t2) (by rfl) (memb (by decide +kernel))) (va_cons (is_val (y := "NotSingle") T hx (hI.mono t2) (by rfl) (memb (by decide +kernel))) va_nil))) (by simp) fun p3 H3 s3 n3 e3 => ?_
    have t3 : Same H H3 := t2.trans s3
    refine one_ret ?_
    refine cat_step (fun _ q => ⟨_, rfl, q⟩) e3 (va_cons (is_val (y := "NeedsMarks") T hx (hI.mono t3) (by rfl) (memb (by decide +kernel))) (va_cons (is_val (y := "NothingToUndo") T hx (hI.mono t3) (by rfl) (memb (by decide +kernel))) va_nil)) (by simp) fun p4 H4 s4 n4 e4 => ?_
    exact k p4 H4 (t3.trans s4) (t3.free n4) e4
theorem ok_bases (T : Tx K mg) : Has P w K mg base CX0 1 "_law_bases" ["one"] (spBases K []) := by
  obtain ⟨fd, F⟩ := T.fn_bases
  refine has_of T.g_bases F sc_bases (fun _ _ _ _ _ _ us hl => match us, hl with | [_], _ => rfl) (fun vs H Q E h => ?_) (fun cdv A outer s H vs Q E hr h => ⟨_, PSs.nox (
    (pss_cons (ps_set (i := 1) sc_bases.nd rfl (Or.inl rfl) (by exact (pe_lst (pa_cons (pe_callB (r := rIsV K []) call_isV (by rfl) T.n_isinstance (by decide +kernel) (pa_cons (pv 0) (pa_cons (pe_glob (v := .ref (ga K "MarkError")) (by rfl) T.g_MarkError rfl) pa_nil))) (pa_cons (pe_callB (r := rIsV K []) call_isV (by rfl) T.n_isinstance (by decide +kernel) (pa_cons (pv 0) (pa_cons (pe_bltn (v := .ty "ValueError") (by rfl) T.n_ValueError (by decide +kernel) rfl) pa_nil))) (pa_cons (pe_callB (r := rIsV K []) call_isV (by rfl) T.n_isinstance (by decide +kernel) (pa_cons (pv 0) (pa_cons (pe_bltn (v := .ty "IndexError") (by rfl) T.n_IndexError (by decide +kernel) rfl) pa_nil))) pa_nil))))))
    (pss_cons (ps_set (i := 1) sc_bases.nd rfl (Or.inl rfl) (by exact (pe_op op_cat (pv 1) (pe_lst (pa_cons (pe_callB (r := rIsV K []) call_isV (by rfl) T.n_isinstance (by decide +kernel) (pa_cons (pv 0) (pa_cons (pe_bltn (v := .ty "KeyError") (by rfl) T.n_KeyError (by decide +kernel) rfl) pa_nil))) (pa_cons (pe_callB (r := rIsV K []) call_isV (by rfl) T.n_isinstance (by decide +kernel) (pa_cons (pv 0) (pa_cons (pe_bltn (v := .ty "OverflowError") (by rfl) T.n_OverflowError (by decide +kernel) rfl) pa_nil))) (pa_cons (pe_callB (r := rIsV K []) call_isV (by rfl) T.n_isinstance (by decide +kernel) (pa_cons (pv 0) (pa_cons (pe_bltn (v := .ty "LookupError") (by rfl) T.n_LookupError (by decide +kernel) rfl) pa_nil))) pa_nil)))))))
    (pss_one (ps_ret (by exact (pe_op op_cat (pv 1) (pe_lst (pa_cons (pe_callB (r := rIsV K []) call_isV (by rfl) T.n_isinstance (by decide +kernel) (pa_cons (pv 0) (pa_cons (pe_bltn (v := .ty "ArithmeticError") (by rfl) T.n_ArithmeticError (by decide +kernel) rfl) pa_nil))) (pa_cons (pe_callB (r := rIsV K []) call_isV (by rfl) T.n_isinstance (by decide +kernel) (pa_cons (pv 0) (pa_cons (pe_bltn (v := .ty "RuntimeError") (by rfl) T.n_RuntimeError (by decide +kernel) rfl) pa_nil))) pa_nil)))))))))), ?_⟩)
  · obtain ⟨a, x, rfl, _⟩ := h
    rfl
  · obtain ⟨a, x, rfl, hx, hI, k⟩ := h
    refine seq_set ?_
    refine lst_step (va_cons (is_val (y := "MarkError") T hx hI (by rfl) (memb (by decide +kernel))) (va_cons (is_valB (y := "ValueError") T hx hI (by rfl) (by decide +kernel)) (va_cons (is_valB (y := "IndexError") T hx hI (by rfl) (by decide +kernel)) va_nil))) (szd (by simp)) fun p0 H0 s0 n0 e0 => ?_
    have t0 : Same H H0 := s0
    refine seq_set ?_
    refine cat_step (fun _ q => ⟨_, rfl, q⟩) e0 (va_cons (is_valB (y := "KeyError") T hx (hI.mono t0) (by rfl) (by decide +kernel)) (va_cons (is_valB (y := "OverflowError") T hx (hI.mono t0) (by rfl) (by decide +kernel)) (va_cons (is_valB (y := "LookupError") T hx (hI.mono t0) (by rfl) (by decide +kernel)) va_nil))) (by simp) fun p1 H1 s1 n1 e1 => ?_
    have t1 : Same H H1 := t0.trans s1
    refine one_ret ?_
    refine cat_step (fun _ q => ⟨_, rfl, q⟩) e1 (va_cons (is_valB (y := "ArithmeticError") T hx (hI.mono t1) (by rfl) (by decide +kernel)) (va_cons (is_valB (y := "RuntimeError") T hx (hI.mono t1) (by rfl) (by decide +kernel)) va_nil)) (by simp) fun p2 H2 s2 n2 e2 => ?_
    exact k p2 H2 (t1.trans s2) (t1.free n2) e2
end
end K0
set_option maxHeartbeats 4000000
namespace K0
open PySem PySem.Spec PyProof.Rows L2 He Hx
section
variable {P : Program} {w : World} {K : PySem.W.Frag} {mg : Str → Option Value} {base : Heap}
/-- the exceptions at as are of the classes xs -/
def Exs (K : PySem.W.Frag) (H : Hp) (as : List Addr) (xs : List Str) : Prop := Paired (fun a x => IsEx [] H a (ga K x)) as xs
theorem Exs.mono {H H' : Hp} : ∀ {as : List Addr} {xs : List Str}, Exs K H as xs → Same H H' → Exs K H' as xs
  | _, _, .nil, _ => .nil
  | _, _, .cons h t, s => .cons (h.mono s) (Exs.mono t s)
theorem exs_new {H : Hp} {a C : Addr} : IsEx [] (upd H a (ExO (.ref C) a)) a C := .inl upd_same
def spTold (K : PySem.W.Frag) : Sp := fun vs H Q _ => ∃ v : V, vs = [v] ∧ ∀ p H' as, Same H H' → H' p = some (.lst (as.map V.ref)) → Exs K H' as own8 → Q (.ref p) H'
theorem ok_told (T : Tx K mg) : Has P w K mg base CX0 1 "_law_told" ["message"] (spTold K) := by
  obtain ⟨fd, F⟩ := T.fn_told
  refine has_of T.g_told F sc_told (fun _ _ _ _ _ _ us hl => match us, hl with | [_], _ => rfl) (fun vs H Q E h => ?_) (fun cdv A outer s H vs Q E hr h => ⟨_, PSs.nox (
    (pss_cons (ps_set (i := 1) sc_told.nd rfl (Or.inl rfl) (by exact (pe_lst (pa_cons (pe_exc1 PySem.F.excBase_ValueError (T.e_InvalidText).1 T.g_InvalidText (T.e_InvalidText).2.1 (by rfl) (pv 0)) (pa_cons (pe_exc1 PySem.F.excBase_ValueError (T.e_InvalidRewriter).1 T.g_InvalidRewriter (T.e_InvalidRewriter).2.1 (by rfl) (pv 0)) (pa_cons (pe_exc1 PySem.F.excBase_ValueError (T.e_InvalidMachine).1 T.g_InvalidMachine (T.e_InvalidMachine).2.1 (by rfl) (pv 0)) (pa_cons (pe_exc1 PySem.F.excBase_ValueError (T.e_InvalidBook).1 T.g_InvalidBook (T.e_InvalidBook).2.1 (by rfl) (pv 0)) pa_nil)))))))
    (pss_one (ps_ret (by exact (pe_op op_cat (pv 1) (pe_lst (pa_cons (pe_exc1 PySem.F.excBase_ValueError (T.e_InvalidOperation).1 T.g_InvalidOperation (T.e_InvalidOperation).2.1 (by rfl) (pv 0)) (pa_cons (pe_exc1 PySem.F.excBase_ValueError (T.e_InvalidEdit).1 T.g_InvalidEdit (T.e_InvalidEdit).2.1 (by rfl) (pv 0)) (pa_cons (pe_exc1 PySem.F.excBase_ValueError (T.e_ParseError).1 T.g_ParseError (T.e_ParseError).2.1 (by rfl) (pv 0)) (pa_cons (pe_exc1 PySem.F.excBase_ValueError (T.e_InvalidCommand).1 T.g_InvalidCommand (T.e_InvalidCommand).2.1 (by rfl) (pv 0)) pa_nil))))))))))), ?_⟩)
  · obtain ⟨v, rfl, _⟩ := h
    rfl
  · obtain ⟨v, rfl, k⟩ := h
    refine seq_set ?_
    refine ⟨_, rfl, fun a1 h1 => ⟨_, rfl, fun a2 h2 => ⟨_, rfl, fun a3 h3 => ⟨_, rfl, fun a4 h4 => ⟨szd (by simp), fun p hp => ?_⟩⟩⟩⟩⟩
    refine one_ret ?_
    refine ⟨_, rfl, _, rfl, fun a5 h5 => ⟨_, rfl, fun a6 h6 => ⟨_, rfl, fun a7 h7 => ⟨_, rfl, fun a8 h8 => ⟨szd (by simp), fun q hq => ?_⟩⟩⟩⟩⟩
    have z1 := (Same.refl H).new (o := ExO (.ref (ga K "InvalidText")) a1) h1
    have z2 := (Same.refl _).new (o := ExO (.ref (ga K "InvalidRewriter")) a2) h2
    have z3 := (Same.refl _).new (o := ExO (.ref (ga K "InvalidMachine")) a3) h3
    have z4 := (Same.refl _).new (o := ExO (.ref (ga K "InvalidBook")) a4) h4
    have zp := (Same.refl _).new (o := .lst [.ref a1, .ref a2, .ref a3, .ref a4]) hp
    have z5 := (Same.refl _).new (o := ExO (.ref (ga K "InvalidOperation")) a5) h5
    have z6 := (Same.refl _).new (o := ExO (.ref (ga K "InvalidEdit")) a6) h6
    have z7 := (Same.refl _).new (o := ExO (.ref (ga K "ParseError")) a7) h7
    have z8 := (Same.refl _).new (o := ExO (.ref (ga K "InvalidCommand")) a8) h8
    have zq := (Same.refl _).new (o := .lst [.ref a5, .ref a6, .ref a7, .ref a8]) hq
    refine ⟨p, q, _, _, rfl, rfl, (z5.trans (z6.trans (z7.trans (z8.trans zq)))) _ _ upd_same, upd_same, szd (by simp), fun r hr => ?_⟩
    have zr := (Same.refl _).new (o := .lst ([.ref a1, .ref a2, .ref a3, .ref a4] ++ [.ref a5, .ref a6, .ref a7, .ref a8])) hr
    have t8 := zq.trans zr
    have t7 := z8.trans t8
    have t6 := z7.trans t7
    have t5 := z6.trans t6
    have t4 := zp.trans (z5.trans t5)
    have t3 := z4.trans t4
    have t2 := z3.trans t3
    have t1 := z2.trans t2
    refine k r _ [a1, a2, a3, a4, a5, a6, a7, a8] (z1.trans t1) upd_same ?_
    exact .cons (exs_new.mono t1) (.cons (exs_new.mono t2) (.cons (exs_new.mono t3) (.cons (exs_new.mono t4) (.cons (exs_new.mono t5) (.cons (exs_new.mono t6) (.cons (exs_new.mono t7) (.cons (exs_new.mono t8) .nil)))))))
end
end K0
set_option maxHeartbeats 4000000
namespace K0
open PySem PySem.Spec PyProof.Rows L2 He Hx
theorem ifF {c : Bool} {A B : Prop} (hc : c = false) (h : B) : if c = true then A else B := by
  rw [hc]
  exact h
theorem ifT {c : Bool} {A B : Prop} (hc : c = true) (h : A) : if c = true then A else B := by
  rw [hc]
  exact h
theorem canLay_bools : ∀ bs : List Bool, PyData.canLayAll0 (bs.map PyData.bool) = true
  | [] => rfl
  | b :: r => by simp only [List.map, PyData.canLayAll0, PyData.canLay0, canLay_bools r, Bool.and_self]
theorem depth_bools : ∀ bs : List Bool, PyData.depthAll (bs.map PyData.bool) = 0
  | [] => rfl
  | b :: r => by simp [PyData.depthAll, PyData.depth, depth_bools r]
theorem shaped_bools (bs : List Bool) : SeqAt.shaped (.list (bs.map PyData.bool)) = true := by
  unfold SeqAt.shaped
  simp [PyData.canLay0, canLay_bools, PyData.depth, depth_bools]
theorem eqv_bools (bs : List Bool) : PyData.eqv (.list (bs.map PyData.bool)) (.list (bs.map PyData.bool)) = true :=
  SeqAt.eqv_refl _ (by simp [PyData.canLay0, canLay_bools])
theorem dpAll_bools {K : PySem.W.Frag} {H : Hp} : ∀ bs : List Bool, DpAll K H (bs.map V.bl) (bs.map PyData.bool)
  | [] => .nil
  | b :: r => .cons (.bl b) (dpAll_bools r)
theorem dp_bools {K : PySem.W.Frag} {H : Hp} {p : Addr} {bs : List Bool} (h : H p = some (.lst (bs.map V.bl))) : Dp K H (.ref p) (.list (bs.map PyData.bool)) := .lst (SqL.of h) (dpAll_bools bs)
def flagsB (x : Str) : List Bool := own14.map fun y => subT x y
def basesB (x : Str) : List Bool := subT x "MarkError" :: blt7.map fun y => subB x y
theorem flagsL_eq (x : Str) : flagsL x = (flagsB x).map V.bl := by unfold flagsL flagsB; rw [List.map_map]; rfl
theorem basesL_eq (x : Str) : basesL x = (basesB x).map V.bl := by unfold basesL basesB; rw [List.map_cons, List.map_map]; rfl
def onlyB (ks : List Int) (n : Nat) : List Bool := (List.range n).map fun (i : Nat) => inV (.int (i : Int)) (ks.map V.int)
theorem onlyL_eq (ks : List Int) (n : Nat) : onlyL ks n = (onlyB ks n).map V.bl := by unfold onlyL onlyB; rw [List.map_map]; rfl
theorem told_flags : (((List.range 8).zip own8).all fun p => decide (flagsB p.2 = onlyB [(p.1 : Int)] 14 ∧ basesB p.2 = onlyB [0, 1] 8)) = true := by decide +kernel
theorem flags_at {i : Nat} {x : Str} (h : own8[i]? = some x) : flagsB x = onlyB [(i : Int)] 14 ∧ basesB x = onlyB [0, 1] 8 := by
  have hi : i < 8 := by
    have := (List.getElem?_eq_some_iff.mp h).1
    exact this
  have hz : (i, x) ∈ (List.range 8).zip own8 := by
    refine List.mem_of_getElem? (i := i) ?_
    rw [List.getElem?_zip_eq_some]
    exact ⟨by simp [hi], h⟩
  exact of_decide_eq_true (List.all_eq_true.mp told_flags _ hz)
theorem mark_flags : flagsB "MarkError" = List.replicate 14 false ∧ basesB "MarkError" = onlyB [0, 1] 8 := by decide +kernel
theorem Paired.at {α β : Type} {F : α → β → Prop} : ∀ {l₁ : List α} {l₂ : List β} {i : Nat} {a : α} {b : β}, Paired F l₁ l₂ → l₁[i]? = some a → l₂[i]? = some b → F a b
  | _, _, _, _, _, .nil, h, _ => by simp at h
  | _, _, 0, _, _, .cons r _, h, g => by
    simp at h g
    subst h g
    exact r
  | _, _, i + 1, _, _, .cons _ t, h, g => Paired.at (i := i) t (by simpa using h) (by simpa using g)
/-- two lists of truths, equal: != says no -/
theorem ne_bools {K : PySem.W.Frag} {H : Hp} {p q : Addr} {as bs : List Bool} {Q : VK} (hp : H p = some (.lst (as.map V.bl))) (hq : H q = some (.lst (bs.map V.bl))) (e : as = bs) (k : Q (.bl false) H) : rNeD K (.ref p) (.ref q) H Q := by
  subst e
  refine ⟨_, _, dp_bools hp, dp_bools hq, shaped_bools _, shaped_bools _, ?_⟩
  rw [eqv_bools]
  exact k
section
variable {P : Program} {w : World} {K : PySem.W.Frag} {mg : Str → Option Value} {base : Heap}
def spMess : Sp := fun vs H Q _ => ∃ v : V, vs = [v] ∧ ∀ H', Same H H' → Q (.bl true) H'
theorem ok_mess (T : Tx K mg) : Has P w K mg base CX0 3 "_law_messages_right" ["message"] spMess := by
  obtain ⟨g_flags, k_flags, fd_flags, G_flags, b_flags⟩ := ok_flags (P := P) (w := w) (base := base) T
  obtain ⟨g_bases, k_bases, fd_bases, G_bases, b_bases⟩ := ok_bases (P := P) (w := w) (base := base) T
  obtain ⟨g_only, k_only, fd_only, G_only, b_only⟩ := ok_only (P := P) (w := w) (base := base) T
  obtain ⟨g_told, k_told, fd_told, G_told, b_told⟩ := ok_told (P := P) (w := w) (base := base) T
  obtain ⟨fd, F⟩ := T.fn_messages
  refine has_of T.g_messages F sc_messages (fun _ _ _ _ _ _ us hl => match us, hl with | [_], _ => rfl) (fun vs H Q E h => ?_) (fun cdv A outer s H vs Q E hr h => ⟨_, PSs.nox (
    (pss_cons (ps_if (PW.pt (pw_or (pt_cmpR (r := rNeD K) (op_neD hr.units) (pe_call G_flags (hr.mono (by decide)) (by rfl) g_flags k_flags b_flags .nil pass0 (pa_cons (pe_exc1 PySem.F.excBase_ValueError (T.e_MarkError).1 T.g_MarkError (T.e_MarkError).2.1 (by rfl) (pv 0)) pa_nil)) (pe_op op_rep (pe_lst (pa_cons pe_bl pa_nil)) pe_int) (nomark _)) (pw_or1 (pt_cmpR (r := rNeD K) (op_neD hr.units) (pe_call G_bases (hr.mono (by decide)) (by rfl) g_bases k_bases b_bases .nil pass0 (pa_cons (pe_exc1 PySem.F.excBase_ValueError (T.e_MarkError).1 T.g_MarkError (T.e_MarkError).2.1 (by rfl) (pv 0)) pa_nil)) (pe_call G_only (hr.mono (by decide)) (by rfl) g_only k_only b_only .nil pass0 (pa_cons (pe_tup (pa_cons pe_int (pa_cons pe_int pa_nil))) (pa_cons pe_int pa_nil))) (nomark _))))) (pss_one (ps_ret (by exact pe_bl))) pss_nil)
    (pss_cons (ps_for PassesOwn.never rfl (pi_enum (by rfl) T.n_enumerate (pa_cons (pe_call G_told (hr.mono (by decide)) (by rfl) g_told k_told b_told .nil pass0 (pa_cons (pv 0) pa_nil)) pa_nil)) (pg_tup (by rfl) (pgs_cons (pg_name (i := 1) sc_messages.nd rfl (Or.inl rfl)) (pgs_cons (pg_name (i := 2) sc_messages.nd rfl (Or.inl rfl)) pgs_nil))) (pss_one (ps_if (PW.pt (pw_or (pt_cmpR (r := rNeD K) (op_neD hr.units) (pe_call G_flags (hr.mono (by decide)) (by rfl) g_flags k_flags b_flags .nil pass0 (pa_cons (pv 2) pa_nil)) (pe_call G_only (hr.mono (by decide)) (by rfl) g_only k_only b_only .nil pass0 (pa_cons (pe_tup (pa_cons (pv 1) pa_nil)) (pa_cons pe_int pa_nil))) (nomark _)) (pw_or1 (pt_cmpR (r := rNeD K) (op_neD hr.units) (pe_call G_bases (hr.mono (by decide)) (by rfl) g_bases k_bases b_bases .nil pass0 (pa_cons (pv 2) pa_nil)) (pe_call G_only (hr.mono (by decide)) (by rfl) g_only k_only b_only .nil pass0 (pa_cons (pe_tup (pa_cons pe_int (pa_cons pe_int pa_nil))) (pa_cons pe_int pa_nil))) (nomark _))))) (pss_one (ps_ret (by exact pe_bl))) pss_nil)))
    (pss_one (ps_ret (by exact pe_bl)))))), ?_⟩)
  · obtain ⟨v, rfl, _⟩ := h
    rfl
  · obtain ⟨v, rfl, k⟩ := h
    -- MarkError(message): its flags, its bases
    refine ⟨_, rfl, fun a ha => ⟨a, "MarkError", rfl, memb (by decide +kernel), exs_new, fun p1 H1 s1 n1 e1 => ⟨szd (by simp), fun l hl => ⟨l, 14, _, rfl, rfl, upd_same, by decide, by decide, szd (by decide), fun r hr => ?_⟩⟩⟩⟩
    have z0 := (Same.refl H).new (o := ExO (.ref (ga K "MarkError")) a) ha
    have z1 := (Same.refl H1).new (o := .lst [.bl false]) hl
    have z2 := (Same.refl _).new (o := .lst (List.replicate (14 : Int).toNat [V.bl false]).flatten) hr
    refine ne_bools (as := flagsB "MarkError") (bs := List.replicate 14 false) ((z1.trans z2) _ _ (by rw [← flagsL_eq]; exact e1)) upd_same mark_flags.1 ⟨_, rfl, ?_⟩
    refine ⟨_, rfl, fun a' ha' => ⟨a', "MarkError", rfl, memb (by decide +kernel), exs_new, fun p2 H2 s2 n2 e2 => ⟨szd (by simp), fun t ht => ⟨t, [0, 1], 8, rfl, SqT.of upd_same, by decide, fun r2 hr2 => ?_⟩⟩⟩⟩
    have z3 := (Same.refl _).new (o := ExO (.ref (ga K "MarkError")) a') ha'
    have z4 := (Same.refl H2).new (o := .tup [.int 0, .int 1]) ht
    have z5 := (Same.refl _).new (o := .lst (onlyL [0, 1] 8)) hr2
    refine ne_bools (as := basesB "MarkError") (bs := onlyB [0, 1] 8) ((z4.trans z5) _ _ (by rw [← basesL_eq]; exact e2)) (by rw [← onlyL_eq]; exact upd_same) mark_flags.2 ⟨_, rfl, ?_⟩
    have sA := z0.trans (s1.trans (z1.trans (z2.trans (z3.trans (s2.trans (z4.trans z5))))))
    -- the eight others
    refine ⟨_, rfl, v, rfl, fun pl H3 as s3 e3 ex3 => ⟨pl, _, rfl, SqL.of e3, ?_⟩⟩
    have lenA : as.length = 8 := Paired.length ex3
    refine for_it (walk_enum (K := K) (a := pl) (xs := as.map V.ref)) (fun i σ H' => Same H3 H' ∧ ∃ x y, σ = [some v, x, y]) ⟨Same.refl _, _, _, rfl⟩ (fun i σ H' _ q => SqL.of (q.1 _ _ e3)) ?_ ?_
    · rintro i x σ H4 H5 hi ⟨s4, o1, o2, rfl⟩ ⟨tt, x1, y1, rfl, ht, rfl, hx1, hy1⟩
      have hi8 : i < 8 := by
        have hi' : i < (as.map V.ref).length := hi
        rw [List.length_map, lenA] at hi'
        exact hi'
      have ha : as[i]? = some (as[i]'(by omega)) := List.getElem?_eq_getElem (by omega)
      have hx1' : (as.map V.ref)[i]? = some y1 := hy1
      rw [List.getElem?_map, ha] at hx1'
      have ey : V.ref (as[i]'(by omega)) = y1 := Option.some.inj hx1'
      subst ey
      have ex : V.int (i : Nat) = x1 := Option.some.inj hx1
      subst ex
      have l8 : own8.length = 8 := rfl
      have ho : own8[i]? = some (own8[i]'(by omega)) := List.getElem?_eq_getElem (by omega)
      have iex : IsEx [] H3 (as[i]'(by omega)) (ga K (own8[i]'(by omega))) := Paired.at (F := fun a x => IsEx [] H3 a (ga K x)) ex3 ha ho
      have z6 := (Same.refl H4).new (o := .tup [.int (i : Nat), .ref (as[i]'(by omega))]) ht
      have hm : own8[i]'(by omega) ∈ excN := List.mem_cons_of_mem _ (List.mem_append_left _ (List.getElem_mem _))
      have fa := flags_at ho
      refine ⟨tt, _, rfl, SqT.of upd_same, rfl, _, _, rfl, _, _, rfl, rfl, ?_⟩
      refine ⟨_, rfl, _, _, rfl, hm, (iex.mono s4).mono z6, fun p5 H6 s6 n6 e6 => ⟨_, rfl, szd (by simp), fun t5 ht5 => ⟨t5, [(i : Int)], 14, rfl, SqT.of upd_same, by decide, fun r5 hr5 => ?_⟩⟩⟩
      have z7 := (Same.refl H6).new (o := .tup [.int (i : Nat)]) ht5
      have z8 := (Same.refl _).new (o := .lst (onlyL [(i : Int)] 14)) hr5
      refine ne_bools (as := flagsB (own8[i]'(by omega))) (bs := onlyB [(i : Int)] 14) ((z7.trans z8) _ _ (by rw [← flagsL_eq]; exact e6)) (by rw [← onlyL_eq]; exact upd_same) fa.1 ⟨_, rfl, ?_⟩
      refine ⟨_, rfl, _, _, rfl, hm, (((iex.mono s4).mono z6).mono s6).mono (z7.trans z8), fun p6 H7 s7 n7 e7 => ⟨szd (by simp), fun t6 ht6 => ⟨t6, [0, 1], 8, rfl, SqT.of upd_same, by decide, fun r6 hr6 => ?_⟩⟩⟩
      have z9 := (Same.refl H7).new (o := .tup [.int 0, .int 1]) ht6
      have zA := (Same.refl _).new (o := .lst (onlyL [0, 1] 8)) hr6
      refine ne_bools (as := basesB (own8[i]'(by omega))) (bs := onlyB [0, 1] 8) ((z9.trans zA) _ _ (by rw [← basesL_eq]; exact e7)) (by rw [← onlyL_eq]; exact upd_same) fa.2 ⟨_, rfl, ?_⟩
      exact ⟨s4.trans (z6.trans (s6.trans (z7.trans (z8.trans (s7.trans (z9.trans zA)))))), _, _, rfl⟩
    · rintro σ H4 ⟨s4, o1, o2, rfl⟩
      exact k _ (sA.trans (s3.trans s4))
end
end K0
set_option maxHeartbeats 4000000
namespace K0
open PySem PySem.Spec PyProof.Rows L2 He Hx
theorem hid_sub {hs : List Addr} {q : Addr} {H : Hp} : Same (hidL (q :: hs) H) (hidL hs H) := fun b o e => by
  unfold hidL at e ⊢
  by_cases c : b ∈ q :: hs
  · rw [if_pos c] at e
    cases e
  · rw [if_neg c] at e
    rw [if_neg fun m => c (List.mem_cons_of_mem _ m)]
    exact e
theorem ev_at {hs : List Addr} {te : TE} {σ : L2.St} {G : Hp} {d : PyData} {H1 : Hp} {Q : VK} (h : EvR hs te σ G d) (s : Same G (hidL hs H1)) (a : Alive hs H1) (q : ∀ v H2, Same (hidL hs H1) (hidL hs H2) → (∀ b ∈ hs, H2 b = H1 b) → DR (hidL hs H2) v d → Q v H2) : te σ H1 Q := h H1 s a Q q
/-- _law_pick(bag, [..]) -/
theorem pick_lit {K : PySem.W.Frag} {hs : List Addr} {te : TE} {σ : L2.St} {G : Hp} {ds : List PyData} {H1 : Hp} {Q : VK} {p : Addr} {b0 b1 b2 : Int} {E : XK} (hσ : σ[0]? = some (some (.ref p))) (hp : p ∈ hs) (h : EvR hs te σ G (.list ds)) (hn : ds ≠ []) (hl : ds.length < 1000)
    (s : Same G (hidL hs H1)) (a : Alive hs H1) (hb : H1 p = some (bagO b0 b1 b2)) (q : ∀ v H2 c0 c1 c2 d, d ∈ ds → Same (hidL hs H1) (hidL hs H2) → (∀ b ∈ hs, b ≠ p → H2 b = H1 b) → H2 p = some (bagO c0 c1 c2) → DR (hidL hs H2) v d → Q v H2) :
    tCall (spPick K) [] E (tCons (tVar 0) (tCons te tNil)) σ H1 Q := by
  refine ⟨_, hσ, ev_at h s a fun v H2 s2 e2 r2 => ?_⟩
  obtain ⟨l, xs, rfl, el, rx⟩ := dr_lst r2
  have hln := drs_len rx
  have hb2 : H2 p = some (bagO b0 b1 b2) := (e2 p hp).trans hb
  have hne : l ≠ p := fun z => by
    unfold hidL at el
    rw [z, if_pos hp] at el
    cases el
  refine ⟨p, l, xs, b0, b1, b2, rfl, hb2, hne, SqL.of (hid_at el), fun z => hn ?_, by omega, fun j v c0 c1 c2 hj => ?_⟩
  · rw [z] at hln
    exact List.eq_nil_of_length_eq_zero hln.symm
  · obtain ⟨d, hd, rd⟩ := drs_at rx hj
    have hu : hidL hs (upd H2 p (bagO c0 c1 c2)) = hidL hs H2 := hid_upd hp
    refine q v _ c0 c1 c2 d (List.mem_of_getElem? hd) (by rw [hu]; exact s2) (fun b hb' hn' => ?_) upd_same (by rw [hu]; exact rd)
    rw [upd_ne hn']
    exact e2 b hb'
theorem snap_new {hs : List Addr} {H : Hp} {l : Addr} {o : HO} (hl : H l = none) : Same (hidL hs H) (hidL (l :: hs) (upd H l o)) := by
  rw [hid_upd (List.mem_cons_self ..)]
  exact hid_cons (Same.refl _) (hid_none hl)
theorem seq_asg {te : TE} {g : TG} {u : TS} {D : Ends} {σ : L2.St} {H : Hp} (h : te σ H fun x H1 => g x σ H1 fun σ1 H2 => u D σ1 H2) : tSeq (tAsg te g) u D σ H := h
theorem drs2 {H : Hp} {vs : List V} {a b : PyData} (h : DRs H vs [a, b]) : ∃ v w, vs = [v, w] ∧ DR H v a ∧ DR H w b := by
  cases h with
  | cons h1 t => cases t with
    | cons h2 t => cases t; exact ⟨_, _, rfl, h1, h2⟩
/-- found.append(v) -/
theorem app_at {l : Addr} {xs : List V} {v : V} {H : Hp} {Q : VK} (h : H l = some (.lst xs)) (hl : xs.length < 1000) (q : Q .non (upd H l (.lst (xs ++ [v])))) : rAppend (.ref l) [v] H Q :=
  ⟨l, xs, v, rfl, rfl, h, Nat.lt_of_lt_of_le hl (by decide), q⟩
theorem lst2 {a b : TE} {σ : L2.St} {H : Hp} {Q : VK} (h : a σ H fun v H1 => b σ H1 fun w H2 => [v, w].length ≤ sizeLine ∧ ∀ l, H2 l = none → Q (.ref l) (upd H2 l (.lst [v, w]))) : tLst (tCons a (tCons b tNil)) σ H Q := h
theorem one_arg {a : TE} {σ : L2.St} {H : Hp} {Q : List V → Hp → Prop} (h : a σ H fun v H1 => Q [v] H1) : tCons a tNil σ H Q := h
theorem drs1 {H : Hp} {vs : List V} {a : PyData} (h : DRs H vs [a]) : ∃ v, vs = [v] ∧ DR H v a := by
  cases h with
  | cons h1 t => cases t; exact ⟨_, rfl, h1⟩
theorem alive2 {H : Hp} {f p : Addr} (h1 : H f ≠ none) (h2 : H p ≠ none) : Alive [f, p] H := fun b m => by
  rcases List.mem_cons.mp m with m | m
  · rw [m]; exact h1
  · rw [List.mem_singleton.mp m]; exact h2
def mSome : List PyData := [.int (-1), .int 9, .none, .bool true, .str "no", .tuple [], .list [.int 1], .dict [(.str "a", .int 1)], .int (10 ^ 39), .tuple [.str "two", .str "ab"], .dict [(.tuple [.int 0, .int 0], .tuple [.str "", .str ""])]]
def dOne : PyData := .tuple [.int 0, .tuple [.tuple [.int 0, .str "a", .str "a", .int 0]]]
def dTwo : PyData := .tuple [.int 2, .tuple [.tuple [.int 2, .str "a", .str "aa", .int 2]]]
def mPap : List PyData := [.tuple [.str "two", .str "", .tuple [.int 0, .tuple []], .tuple [.int 1, .tuple []]], .tuple [.str "two", .str "a", dOne, dTwo], .tuple [.str "two", .str "a", dTwo, dOne]]
def fk0 : PyData := .tuple [.str "", .str "a", .str "", dOne, dTwo]
def fk1 : PyData := .tuple [.str "", .str "a", .str "", dTwo, dOne]
def fk2 : PyData := .tuple [.str "a", .str "a", .str "", .tuple [.int 0, .tuple ([.tuple [.int 0, .str "a", .str "a", .int 0]] ++ [.tuple [.int 0, .str "a", .str "a", .int 0]])], .tuple [.int 2, .tuple ([.tuple [.int 2, .str "a", .str "aa", .int 2]] ++ [.tuple [.int 2, .str "a", .str "aa", .int 2]])]]
def mNam : List PyData := [.str "no", .str "a", .str "names", .str "zzzzzzzz"]
def mLim : List PyData := [.int 8, .int 12, .int 64, .int 256, .int 1000]
def mMan : List PyData := [.int 1, .int 2, .int 7, .int 61, .int (10 ^ 39)]
section
variable {P : Program} {w : World} {K : PySem.W.Frag} {mg : Str → Option Value} {base : Heap}
def spDrawn (K : PySem.W.Frag) : Sp := fun vs H Q _ => ∃ (p : Addr) (b0 b1 b2 : Int), vs = [.ref p] ∧ H p = some (bagO b0 b1 b2) ∧ ∀ a H' c0 c1 c2 d0 d1 d2 d3 d4 d5, Same (hidL [p] H) (hidL [p] H') → H' p = some (bagO c0 c1 c2) → DR (hidL [p] H') (.ref a) (.list [d0, d1, d2, d3, d4, d5]) →
  d0 ∈ mSome → d1 ∈ mNam → d2 ∈ mLim → d3 ∈ mPap → d4 ∈ [fk0, fk1, fk2] → d5 ∈ mMan → Q (.ref a) H'
theorem ok_drawn (T : Tx K mg) : Has P w K mg base CX0 3 "_law_drawn_values" ["bag"] (spDrawn K) := by
  obtain ⟨g_pick, k_pick, fd_pick, G_pick, b_pick⟩ := ok_pick (P := P) (w := w) (base := base) T
  obtain ⟨fd, F⟩ := T.fn_drawn
  refine has_of T.g_drawn F sc_drawn (fun _ _ _ _ _ _ us hl => match us, hl with | [_], _ => rfl) (fun vs H Q E h => ?_) (fun cdv A outer s H vs Q E hr h => ⟨_, PSs.nox (
    (pss_cons (ps_set (i := 1) sc_drawn.nd rfl (Or.inl rfl) (by exact (pe_lst (pa_cons (pe_un un_neg pe_int) (pa_cons pe_int (pa_cons pe_non (pa_cons pe_bl (pa_cons pe_str (pa_cons (pe_tup pa_nil) (pa_cons (pe_lst (pa_cons pe_int pa_nil)) (pa_cons (pe_disp (pps_cons pe_str pe_int pps_nil) rfl rfl (by simp) (by decide)) (pa_cons (pe_op op_pow pe_int pe_int) (pa_cons (pe_tup (pa_cons pe_str (pa_cons pe_str pa_nil))) (pa_cons (pe_disp1T hr (pe_tup (pa_cons pe_int (pa_cons pe_int pa_nil))) (pe_tup (pa_cons pe_str (pa_cons pe_str pa_nil)))) pa_nil))))))))))))))
    (pss_cons (ps_asg (pe_tup (pa_cons (pe_tup (pa_cons pe_int (pa_cons (pe_tup (pa_cons (pe_tup (pa_cons pe_int (pa_cons pe_str (pa_cons pe_str (pa_cons pe_int pa_nil))))) pa_nil)) pa_nil))) (pa_cons (pe_tup (pa_cons pe_int (pa_cons (pe_tup (pa_cons (pe_tup (pa_cons pe_int (pa_cons pe_str (pa_cons pe_str (pa_cons pe_int pa_nil))))) pa_nil)) pa_nil))) pa_nil))) (pg_tup (by rfl) (pgs_cons (pg_name (i := 2) sc_drawn.nd rfl (Or.inl rfl)) (pgs_cons (pg_name (i := 3) sc_drawn.nd rfl (Or.inl rfl)) pgs_nil))))
    (pss_cons (ps_set (i := 4) sc_drawn.nd rfl (Or.inl rfl) (by exact (pe_lst (pa_cons (pe_tup (pa_cons pe_str (pa_cons pe_str (pa_cons (pe_tup (pa_cons pe_int (pa_cons (pe_tup pa_nil) pa_nil))) (pa_cons (pe_tup (pa_cons pe_int (pa_cons (pe_tup pa_nil) pa_nil))) pa_nil))))) (pa_cons (pe_tup (pa_cons pe_str (pa_cons pe_str (pa_cons (pv 2) (pa_cons (pv 3) pa_nil))))) (pa_cons (pe_tup (pa_cons pe_str (pa_cons pe_str (pa_cons (pv 3) (pa_cons (pv 2) pa_nil))))) pa_nil))))))
    (pss_cons (ps_set (i := 5) sc_drawn.nd rfl (Or.inl rfl) (by exact (pe_lst (pa_cons (pe_tup (pa_cons pe_str (pa_cons pe_str (pa_cons pe_str (pa_cons (pv 2) (pa_cons (pv 3) pa_nil)))))) (pa_cons (pe_tup (pa_cons pe_str (pa_cons pe_str (pa_cons pe_str (pa_cons (pv 3) (pa_cons (pv 2) pa_nil)))))) pa_nil)))))
    (pss_cons (ps_expr (pe_bm PySem.F.plainAttrs_list PySem.F.slot_list_append PySem.F.type_list_append mt_append (pv 5) (pa_cons (pe_tup (pa_cons pe_str (pa_cons pe_str (pa_cons pe_str (pa_cons (pe_tup (pa_cons pe_int (pa_cons (pe_op op_repT (pe_ix (r := rIxT K) ix_tup (pv 2) pe_int (fun _ _ => rfl)) pe_int) pa_nil))) (pa_cons (pe_tup (pa_cons pe_int (pa_cons (pe_op op_repT (pe_ix (r := rIxT K) ix_tup (pv 3) pe_int (fun _ _ => rfl)) pe_int) pa_nil))) pa_nil)))))) pa_nil)))
    (pss_cons (ps_set (i := 6) sc_drawn.nd rfl (Or.inl rfl) (by exact (pe_lst (pa_cons (pe_call G_pick (hr.mono (by decide)) (by rfl) g_pick k_pick b_pick .nil pass0 (pa_cons (pv 0) (pa_cons (pv 1) pa_nil))) (pa_cons (pe_call G_pick (hr.mono (by decide)) (by rfl) g_pick k_pick b_pick .nil pass0 (pa_cons (pv 0) (pa_cons (pe_lst (pa_cons pe_str (pa_cons pe_str (pa_cons pe_str (pa_cons pe_str pa_nil))))) pa_nil))) pa_nil)))))
    (pss_cons (ps_expr (pe_bm PySem.F.plainAttrs_list PySem.F.slot_list_append PySem.F.type_list_append mt_append (pv 6) (pa_cons (pe_call G_pick (hr.mono (by decide)) (by rfl) g_pick k_pick b_pick .nil pass0 (pa_cons (pv 0) (pa_cons (pe_lst (pa_cons pe_int (pa_cons pe_int (pa_cons pe_int (pa_cons pe_int (pa_cons pe_int pa_nil)))))) pa_nil))) pa_nil)))
    (pss_cons (ps_set (i := 6) sc_drawn.nd rfl (Or.inl rfl) (by exact (pe_op op_cat (pv 6) (pe_lst (pa_cons (pe_call G_pick (hr.mono (by decide)) (by rfl) g_pick k_pick b_pick .nil pass0 (pa_cons (pv 0) (pa_cons (pv 4) pa_nil))) (pa_cons (pe_call G_pick (hr.mono (by decide)) (by rfl) g_pick k_pick b_pick .nil pass0 (pa_cons (pv 0) (pa_cons (pv 5) pa_nil))) pa_nil))))))
    (pss_cons (ps_expr (pe_bm PySem.F.plainAttrs_list PySem.F.slot_list_append PySem.F.type_list_append mt_append (pv 6) (pa_cons (pe_call G_pick (hr.mono (by decide)) (by rfl) g_pick k_pick b_pick .nil pass0 (pa_cons (pv 0) (pa_cons (pe_lst (pa_cons pe_int (pa_cons pe_int (pa_cons pe_int (pa_cons pe_int (pa_cons (pe_op op_pow pe_int pe_int) pa_nil)))))) pa_nil))) pa_nil)))
    (pss_one (ps_ret (by exact (pv 6)))))))))))))), ?_⟩)
  · obtain ⟨p, b0, b1, b2, rfl, _⟩ := h
    rfl
  · obtain ⟨p, b0, b1, b2, rfl, hb, k⟩ := h
    have al : ∀ {H' : Hp} {c0 c1 c2 : Int}, H' p = some (bagO c0 c1 c2) → Alive [p] H' := fun e b m => by
      rw [List.mem_singleton.mp m, e]
      simp
    -- some
    refine seq_set ?_
    refine ev_at (G := hidL [p] H) (hs := [p]) (d := .list mSome) (evr_lst (evrs_cons evr_neg (evrs_cons evr_int (evrs_cons evr_non (evrs_cons evr_bl (evrs_cons evr_str (evrs_cons (evr_tup evrs_nil (by decide)) (evrs_cons (evr_lst (evrs_cons evr_int evrs_nil) (by decide)) (evrs_cons evr_dk (evrs_cons (evr_pow ⟨by decide, by decide, by decide⟩) (evrs_cons (evr_tup (evrs_cons evr_str (evrs_cons evr_str evrs_nil)) (by decide)) (evrs_cons evr_dt evrs_nil))))))))))) (by decide)) (Same.refl _) (al hb) fun v1 H1 s1 e1 r1 => ?_
    have hb1 : H1 p = some (bagO b0 b1 b2) := (e1 p (List.mem_singleton.mpr rfl)).trans hb
    -- one, two
    refine seq_asg ?_
    refine ev_at (G := hidL [p] H1) (hs := [p]) (d := .tuple [dOne, dTwo]) (evr_tup (evrs_cons (evr_tup (evrs_cons evr_int (evrs_cons (evr_tup (evrs_cons (evr_tup (evrs_cons evr_int (evrs_cons evr_str (evrs_cons evr_str (evrs_cons evr_int evrs_nil)))) (by decide)) evrs_nil) (by decide)) evrs_nil)) (by decide))
      (evrs_cons (evr_tup (evrs_cons evr_int (evrs_cons (evr_tup (evrs_cons (evr_tup (evrs_cons evr_int (evrs_cons evr_str (evrs_cons evr_str (evrs_cons evr_int evrs_nil)))) (by decide)) evrs_nil) (by decide)) evrs_nil)) (by decide)) evrs_nil)) (by decide)) (Same.refl _) (al hb1) fun v2 H2 s2 e2 r2 => ?_
    have hb2 : H2 p = some (bagO b0 b1 b2) := (e2 p (List.mem_singleton.mpr rfl)).trans hb1
    obtain ⟨t2, x2, rfl, et2, rx2⟩ := dr_tup r2
    obtain ⟨vo, vt, rfl, ro, rt⟩ := drs2 rx2
    refine ⟨t2, _, rfl, SqT.of (hid_at et2), rfl, vo, [vt], rfl, vt, [], rfl, rfl, ?_⟩
    -- papers
    refine seq_set ?_
    refine ev_at (G := hidL [p] H2) (hs := [p]) (d := .list mPap) (evr_lst (evrs_cons (evr_tup (evrs_cons evr_str (evrs_cons evr_str (evrs_cons (evr_tup (evrs_cons evr_int (evrs_cons (evr_tup evrs_nil (by decide)) evrs_nil)) (by decide)) (evrs_cons (evr_tup (evrs_cons evr_int (evrs_cons (evr_tup evrs_nil (by decide)) evrs_nil)) (by decide)) evrs_nil)))) (by decide))
      (evrs_cons (evr_tup (evrs_cons evr_str (evrs_cons evr_str (evrs_cons (evr_var rfl ro) (evrs_cons (evr_var rfl rt) evrs_nil)))) (by decide)) (evrs_cons (evr_tup (evrs_cons evr_str (evrs_cons evr_str (evrs_cons (evr_var rfl rt) (evrs_cons (evr_var rfl ro) evrs_nil)))) (by decide)) evrs_nil))) (by decide)) (Same.refl _) (al hb2) fun v3 H3 s3 e3 r3 => ?_
    have hb3 : H3 p = some (bagO b0 b1 b2) := (e3 p (List.mem_singleton.mpr rfl)).trans hb2
    have ro3 := DR.mono s3 _ _ ro
    have rt3 := DR.mono s3 _ _ rt
    -- forks
    refine seq_set ?_
    refine (evrs_cons (hs := [p]) (G := hidL [p] H3) (d := fk0) (ds := [fk1]) (evr_tup (evrs_cons evr_str (evrs_cons evr_str (evrs_cons evr_str (evrs_cons (evr_var rfl ro3) (evrs_cons (evr_var rfl rt3) evrs_nil))))) (by decide)) (evrs_cons (evr_tup (evrs_cons evr_str (evrs_cons evr_str (evrs_cons evr_str (evrs_cons (evr_var rfl rt3) (evrs_cons (evr_var rfl ro3) evrs_nil))))) (by decide)) evrs_nil)) H3 (Same.refl _) (al hb3) _ fun xf H4 s4 e4 rf => ⟨by rw [drs_len rf]; decide, fun f hf => ?_⟩
    have hb4 : H4 p = some (bagO b0 b1 b2) := (e4 p (List.mem_singleton.mpr rfl)).trans hb3
    have nfp : p ≠ f := ne_of_none hb4 hf
    have z5 : Same (hidL [p] H4) (hidL [f, p] (upd H4 f (.lst xf))) := snap_new hf
    have a5 : Alive [f, p] (upd H4 f (.lst xf)) := alive2 (by rw [upd_same]; simp) (by rw [upd_ne nfp, hb4]; simp)
    have ro5 := DR.mono (s4.trans z5) _ _ ro3
    have rt5 := DR.mono (s4.trans z5) _ _ rt3
    -- forks.append
    refine seq_drop ?_
    refine ⟨_, rfl, .inl ⟨rfl, xf, SqL.of upd_same⟩, ?_⟩
    refine (evrs_cons (hs := [f, p]) (G := hidL [f, p] (upd H4 f (.lst xf))) (d := fk2) (ds := []) (evr_tup (evrs_cons evr_str (evrs_cons evr_str (evrs_cons evr_str (evrs_cons
      (evr_tup (evrs_cons evr_int (evrs_cons (evr_rep2 (evr_ixT (j := 1) (evr_var rfl ro5) rfl) (by simp) (by decide)) evrs_nil)) (by decide)) (evrs_cons
      (evr_tup (evrs_cons evr_int (evrs_cons (evr_rep2 (evr_ixT (j := 1) (evr_var rfl rt5) rfl) (by simp) (by decide)) evrs_nil)) (by decide)) evrs_nil))))) (by decide)) evrs_nil) _ (Same.refl _) a5 _ fun vs5 H5 s5 e5 r5 => ?_
    obtain ⟨x5, rfl, rx5⟩ := drs1 r5
    have hf5 : H5 f = some (.lst xf) := (e5 f (List.mem_cons_self ..)).trans upd_same
    refine app_at hf5 (by rw [drs_len rf]; decide) ?_
    have z6 : Same (hidL [f, p] (upd H4 f (.lst xf))) (hidL [f, p] (upd H5 f (.lst (xf ++ [x5])))) := by
      rw [hid_upd (H := H5) (List.mem_cons_self ..)]
      exact s5
    have rf6 : DRs (hidL [f, p] (upd H5 f (.lst (xf ++ [x5])))) (xf ++ [x5]) ([fk0, fk1] ++ [fk2]) := drs_app (DRs.mono (z5.trans z6) _ _ rf) (.cons (by rw [hid_upd (List.mem_cons_self ..)]; exact rx5) .nil)
    have t6 : Same (hidL [p] H4) (hidL [p] (upd H5 f (.lst (xf ++ [x5])))) := (z5.trans z6).trans hid_sub
    have hb6 : (upd H5 f (.lst (xf ++ [x5]))) p = some (bagO b0 b1 b2) := by
      rw [upd_ne nfp, e5 p (List.mem_cons_of_mem _ (List.mem_singleton.mpr rfl)), upd_ne nfp]
      exact hb4
    have dF : DR (hidL [p] (upd H5 f (.lst (xf ++ [x5])))) (.ref f) (.list [fk0, fk1, fk2]) := .lst (hid_of (fun m => nfp (List.mem_singleton.mp m).symm) upd_same) (DRs.mono hid_sub _ _ rf6)
    generalize hH6 : upd H5 f (.lst (xf ++ [x5])) = H6 at *
    have dS := DR.mono ((s2.trans s3).trans (s4.trans t6)) _ _ r1
    have dP := DR.mono (s4.trans t6) _ _ r3
    have s06 : Same (hidL [p] H) (hidL [p] H6) := (s1.trans (s2.trans s3)).trans (s4.trans t6)
    -- found
    refine seq_set ?_
    refine lst2 ?_
    refine pick_lit (G := hidL [p] H6) (hs := [p]) (ds := mSome) rfl (List.mem_singleton.mpr rfl) (evr_var rfl dS) (by simp [mSome]) (by decide) (Same.refl _) (al hb6) hb6 fun w0 H7 c0 c1 c2 d0 m0 s7 _ hb7 rw0 => ?_
    refine pick_lit (G := hidL [p] H7) (hs := [p]) (ds := mNam) rfl (List.mem_singleton.mpr rfl) (evr_lst (evrs_cons evr_str (evrs_cons evr_str (evrs_cons evr_str (evrs_cons evr_str evrs_nil)))) (by decide)) (by simp [mNam]) (by decide) (Same.refl _) (al hb7) hb7 fun w1 H8 c3 c4 c5 d1 m1 s8 _ hb8 rw1 => ?_
    refine ⟨by simp [sizeLine], fun l hl => ?_⟩
    have nlp : p ≠ l := ne_of_none hb8 hl
    have z9 : Same (hidL [p] H8) (hidL [l, p] (upd H8 l (.lst [w0, w1]))) := snap_new hl
    have hb9 : (upd H8 l (.lst [w0, w1])) p = some (bagO c3 c4 c5) := by
      rw [upd_ne nlp]
      exact hb8
    have hl9 : (upd H8 l (.lst [w0, w1])) l = some (.lst [w0, w1]) := upd_same
    generalize upd H8 l (.lst [w0, w1]) = H9 at *
    have w09 := DR.mono (s8.trans z9) _ _ rw0
    have w19 := DR.mono z9 _ _ rw1
    have s69 := s7.trans (s8.trans z9)
    -- found.append
    refine seq_drop ?_
    refine ⟨_, rfl, .inl ⟨rfl, _, SqL.of hl9⟩, ?_⟩
    refine one_arg ?_
    refine pick_lit (G := hidL [l, p] H9) (hs := [l, p]) (ds := mLim) rfl (List.mem_cons_of_mem _ (List.mem_singleton.mpr rfl)) (evr_lst (evrs_cons evr_int (evrs_cons evr_int (evrs_cons evr_int (evrs_cons evr_int (evrs_cons evr_int evrs_nil))))) (by decide)) (by simp [mLim]) (by decide) (Same.refl _) (alive2 (by rw [hl9]; simp) (by rw [hb9]; simp)) hb9 fun w2 Ha c6 c7 c8 d2 m2 sa ea hba rw2 => ?_
    have hla : Ha l = some (.lst [w0, w1]) := (ea l (List.mem_cons_self ..) (Ne.symm nlp)).trans hl9
    refine app_at hla (by simp) ?_
    have zb : Same (hidL [l, p] H9) (hidL [l, p] (upd Ha l (.lst ([w0, w1] ++ [w2])))) := by
      rw [hid_upd (H := Ha) (List.mem_cons_self ..)]
      exact sa
    have hbb : (upd Ha l (.lst ([w0, w1] ++ [w2]))) p = some (bagO c6 c7 c8) := by
      rw [upd_ne nlp]
      exact hba
    have hlb : (upd Ha l (.lst ([w0, w1] ++ [w2]))) l = some (.lst [w0, w1, w2]) := upd_same
    have w2b : DR (hidL [l, p] (upd Ha l (.lst ([w0, w1] ++ [w2])))) w2 d2 := by
      rw [hid_upd (List.mem_cons_self ..)]
      exact rw2
    generalize upd Ha l (.lst ([w0, w1] ++ [w2])) = Hb at *
    have w0b := DR.mono zb _ _ w09
    have w1b := DR.mono zb _ _ w19
    have s6b := s69.trans zb
    -- found + [..]
    refine seq_set ?_
    refine ⟨_, rfl, ?_⟩
    refine lst2 ?_
    refine pick_lit (G := hidL [l, p] Hb) (hs := [l, p]) (ds := mPap) rfl (List.mem_cons_of_mem _ (List.mem_singleton.mpr rfl)) (evr_var rfl (DR.mono s6b _ _ dP)) (by simp [mPap]) (by decide) (Same.refl _) (alive2 (by rw [hlb]; simp) (by rw [hbb]; simp)) hbb fun w3 Hc e0 e1 e2 d3 m3 sc ec hbc rw3 => ?_
    have hlc : Hc l = some (.lst [w0, w1, w2]) := (ec l (List.mem_cons_self ..) (Ne.symm nlp)).trans hlb
    refine pick_lit (G := hidL [l, p] Hc) (hs := [l, p]) (ds := [fk0, fk1, fk2]) rfl (List.mem_cons_of_mem _ (List.mem_singleton.mpr rfl)) (evr_var rfl (DR.mono (s6b.trans sc) _ _ dF)) (by simp) (by decide) (Same.refl _) (alive2 (by rw [hlc]; simp) (by rw [hbc]; simp)) hbc fun w4 Hd e3 e4 e5 d4 m4 sd ed hbd rw4 => ?_
    have hld : Hd l = some (.lst [w0, w1, w2]) := (ed l (List.mem_cons_self ..) (Ne.symm nlp)).trans hlc
    refine ⟨by simp [sizeLine], fun m hm => ?_⟩
    have nlm : l ≠ m := ne_of_none hld hm
    have npm : p ≠ m := ne_of_none hbd hm
    refine ⟨l, m, [w0, w1, w2], [w3, w4], rfl, rfl, by rw [upd_ne nlm]; exact hld, upd_same, by simp [sizeLine], fun n hn => ?_⟩
    have ze : Same (hidL [p] Hd) (hidL [p] (upd Hd m (.lst [w3, w4]))) := by
      rw [hid_new hm (al hbd)]
      exact (Same.refl _).new (hid_none hm)
    have hbe : (upd Hd m (.lst [w3, w4])) p = some (bagO e3 e4 e5) := by
      rw [upd_ne npm]
      exact hbd
    have npn : p ≠ n := ne_of_none hbe hn
    have zf : Same (hidL [p] (upd Hd m (.lst [w3, w4]))) (hidL [n, p] (upd (upd Hd m (.lst [w3, w4])) n (.lst ([w0, w1, w2] ++ [w3, w4])))) := snap_new hn
    have hbf : (upd (upd Hd m (.lst [w3, w4])) n (.lst ([w0, w1, w2] ++ [w3, w4]))) p = some (bagO e3 e4 e5) := by
      rw [upd_ne npn]
      exact hbe
    have hnf : (upd (upd Hd m (.lst [w3, w4])) n (.lst ([w0, w1, w2] ++ [w3, w4]))) n = some (.lst [w0, w1, w2, w3, w4]) := upd_same
    generalize upd (upd Hd m (.lst [w3, w4])) n (.lst ([w0, w1, w2] ++ [w3, w4])) = Hf at *
    have sdf : Same (hidL [l, p] Hd) (hidL [n, p] Hf) := hid_sub.trans (ze.trans zf)
    have w0f := DR.mono (sc.trans (sd.trans sdf)) _ _ w0b
    have w1f := DR.mono (sc.trans (sd.trans sdf)) _ _ w1b
    have w2f := DR.mono (sc.trans (sd.trans sdf)) _ _ w2b
    have w3f := DR.mono (sd.trans sdf) _ _ rw3
    have w4f := DR.mono sdf _ _ rw4
    -- found.append
    refine seq_drop ?_
    refine ⟨_, rfl, .inl ⟨rfl, _, SqL.of hnf⟩, ?_⟩
    refine one_arg ?_
    refine pick_lit (G := hidL [n, p] Hf) (hs := [n, p]) (ds := mMan) rfl (List.mem_cons_of_mem _ (List.mem_singleton.mpr rfl)) (evr_lst (evrs_cons evr_int (evrs_cons evr_int (evrs_cons evr_int (evrs_cons evr_int (evrs_cons (evr_pow ⟨by decide, by decide, by decide⟩) evrs_nil))))) (by decide)) (by simp [mMan]) (by decide) (Same.refl _) (alive2 (by rw [hnf]; simp) (by rw [hbf]; simp)) hbf fun w5 Hg e6 e7 e8 d5 m5 sg eg hbg rw5 => ?_
    have hng : Hg n = some (.lst [w0, w1, w2, w3, w4]) := (eg n (List.mem_cons_self ..) (Ne.symm npn)).trans hnf
    refine app_at hng (by simp) ?_
    have zh : Same (hidL [n, p] Hf) (hidL [n, p] (upd Hg n (.lst ([w0, w1, w2, w3, w4] ++ [w5])))) := by
      rw [hid_upd (H := Hg) (List.mem_cons_self ..)]
      exact sg
    have w5h : DR (hidL [n, p] (upd Hg n (.lst ([w0, w1, w2, w3, w4] ++ [w5])))) w5 d5 := by
      rw [hid_upd (List.mem_cons_self ..)]
      exact rw5
    refine one_ret ?_
    refine ⟨_, rfl, ?_⟩
    have hall : DRs (hidL [n, p] (upd Hg n (.lst ([w0, w1, w2, w3, w4] ++ [w5])))) [w0, w1, w2, w3, w4, w5] [d0, d1, d2, d3, d4, d5] :=
      .cons (DR.mono zh _ _ w0f) (.cons (DR.mono zh _ _ w1f) (.cons (DR.mono zh _ _ w2f) (.cons (DR.mono zh _ _ w3f) (.cons (DR.mono zh _ _ w4f) (.cons w5h .nil)))))
    refine k n _ e6 e7 e8 d0 d1 d2 d3 d4 d5 (s06.trans (s6b.trans (sc.trans (sd.trans (sdf.trans (zh.trans hid_sub)))))) (by rw [upd_ne npn]; exact hbg) (.lst (hid_of (fun m => npn (List.mem_singleton.mp m).symm) upd_same) (DRs.mono hid_sub _ _ hall)) m0 m1 m2 m3 m4 m5
end
end K0
set_option maxHeartbeats 4000000
namespace K0
open PySem PySem.Spec PyProof.Rows L2 He Hx
/-! ### what is shown is short -/
def OkD (d : PyData) : Bool := d.showable && (decide (d.depth ≤ 40) && decide (d.shown.length ≤ 1000))
theorem ok_some : mSome.all OkD = true := by decide +kernel
theorem ok_nam : mNam.all OkD = true := by decide +kernel
theorem ok_lim : mLim.all OkD = true := by decide +kernel
theorem ok_pap : mPap.all OkD = true := by decide +kernel
theorem ok_frk : [fk0, fk1, fk2].all OkD = true := by decide +kernel
theorem ok_man : mMan.all OkD = true := by decide +kernel
theorem okD {d : PyData} {m : List PyData} (h : m.all OkD = true) (hm : d ∈ m) : d.showable = true ∧ d.depth ≤ 40 ∧ d.shown.length ≤ 1000 := by
  obtain ⟨h1, h2⟩ := ba (List.all_eq_true.mp h d hm)
  obtain ⟨h2, h3⟩ := ba h2
  exact ⟨h1, of_decide_eq_true h2, of_decide_eq_true h3⟩
theorem ok6 {d0 d1 d2 d3 d4 d5 : PyData} (m0 : d0 ∈ mSome) (m1 : d1 ∈ mNam) (m2 : d2 ∈ mLim) (m3 : d3 ∈ mPap) (m4 : d4 ∈ [fk0, fk1, fk2]) (m5 : d5 ∈ mMan) :
    (PyData.list [d0, d1, d2, d3, d4, d5]).showable = true ∧ (PyData.list [d0, d1, d2, d3, d4, d5]).depth ≤ 50 ∧ (PyData.list [d0, d1, d2, d3, d4, d5]).shown.length ≤ sizeLine := by
  obtain ⟨a0, b0, c0⟩ := okD ok_some m0
  obtain ⟨a1, b1, c1⟩ := okD ok_nam m1
  obtain ⟨a2, b2, c2⟩ := okD ok_lim m2
  obtain ⟨a3, b3, c3⟩ := okD ok_pap m3
  obtain ⟨a4, b4, c4⟩ := okD ok_frk m4
  obtain ⟨a5, b5, c5⟩ := okD ok_man m5
  refine ⟨?_, ?_, ?_⟩
  · simp only [PyData.showable, PyData.showableAll, a0, a1, a2, a3, a4, a5, Bool.and_self]
  · simp only [PyData.depth, PyData.depthAll]
    omega
  · simp only [PyData.shown, PyData.shownAll]
    have z := listText_len_le [d0.shown, d1.shown, d2.shown, d3.shown, d4.shown, d5.shown]
    simp only [List.map_cons, List.map_nil, List.sum_cons, List.sum_nil, List.length_cons, List.length_nil] at z
    have : (20000 : Nat) ≤ sizeLine := by decide
    omega
theorem hid_full {hs : List Addr} {H : Hp} : Same (hidL hs H) H := fun b o e => hid_at e
theorem hid_mono {hs : List Addr} {H H' : Hp} (s : Same H H') : Same (hidL hs H) (hidL hs H') := fun b o e => by
  have n : b ∉ hs := fun m => by
    unfold hidL at e
    rw [if_pos m] at e
    cases e
  exact hid_of n (s b o (hid_at e))
theorem hid_nil {H H' : Hp} (s : Same (hidL [] H) (hidL [] H')) : Same H H' := fun b o e => hid_at (s b o (hid_of (by simp) e))
/-- the exception at x, of the class at C, its own dict holds v under f -/
def ExV (H : Hp) (x C : Addr) (f : Str) (v : V) : Prop := ∃ y, H x = some (exo x C (some y)) ∧ H y = some (.xd [(f, v)])
theorem ExV.mono {H H' : Hp} {x C : Addr} {f : Str} {v : V} (e : ExV H x C f v) (s : Same H H') : ExV H' x C f v := let ⟨y, h1, h2⟩ := e; ⟨y, s _ _ h1, s _ _ h2⟩
theorem ExV.is {H : Hp} {x C : Addr} {f : Str} {v : V} (e : ExV H x C f v) : IsEx [] H x C := let ⟨y, h1, h2⟩ := e; .inr (.inl ⟨y, _, h1, h2⟩)
section
variable {P : Program} {w : World} {K : PySem.W.Frag} {mg : Str → Option Value} {base : Heap}
theorem excI_step {C : Addr} {f : Str} {σ : L2.St} {H : Hp} {Q : VK} {a : Addr} {xs : List V} {i : Int} {v : V} (hσ : σ[1]? = some (some (.ref a))) (ha : H a = some (.lst xs)) (hv : atI xs i = some v) (k : ∀ x H2, Same H H2 → H x = none → ExV H2 x C f v → Q (.ref x) H2) :
    tExcI C f (tCons (tOp (rIxL K) (tVar 1) (tC (.int i))) tNil) σ H Q := by
  refine ⟨_, hσ, a, xs, i, v, rfl, rfl, SqL.of ha, hv, v, rfl, fun x y hx hy n => ?_⟩
  have hx2 : (upd H y (.xd [(f, v)])) x = none := by
    rw [upd_ne (Ne.symm n)]
    exact hx
  exact k x _ (((Same.refl H).new hy).new hx2) hx ⟨y, upd_same, by rw [upd_ne n]; exact upd_same⟩
theorem exF_step {C : Addr} {f : String} {σ : L2.St} {H : Hp} {Q : VK} {m x : Addr} {xs : List V} {i : Int} {v : V} {B newId initId g : String} {bm bmB : List Value} {fI : Addr} (hσ : σ[2]? = some (some (.ref m))) (hm : H m = some (.lst xs)) (hx : atI xs i = some (.ref x)) (e : ExV H x C (f : Str) v)
    (c : PySem.XT.ClsT K g f B newId initId bm bmB C fI) (q : Q v H) : tExF K (f : Str) (tOp (rIxL K) (tVar 2) (tC (.int i))) σ H Q := by
  obtain ⟨y, h1, h2⟩ := e
  exact ⟨_, hσ, m, xs, i, .ref x, rfl, rfl, SqL.of hm, hx, x, C, y, v, _, rfl, h1, h2, by simp [List.lookup], ⟨c.ga, c.gg, c.exC, c.hdC, c.noN⟩, q⟩
theorem lst5 {a b c d e : TE} {σ : L2.St} {H : Hp} {Q : VK} (h : a σ H fun v1 H1 => b σ H1 fun v2 H2 => c σ H2 fun v3 H3 => d σ H3 fun v4 H4 => e σ H4 fun v5 H5 => [v1, v2, v3, v4, v5].length ≤ sizeLine ∧ ∀ l, H5 l = none → Q (.ref l) (upd H5 l (.lst [v1, v2, v3, v4, v5]))) :
    tLst (tCons a (tCons b (tCons c (tCons d (tCons e tNil))))) σ H Q := h
theorem drs6 {H : Hp} {vs : List V} {a b c d e f : PyData} (h : DRs H vs [a, b, c, d, e, f]) : ∃ v0 v1 v2 v3 v4 v5, vs = [v0, v1, v2, v3, v4, v5] ∧ DR H v0 a ∧ DR H v1 b ∧ DR H v2 c ∧ DR H v3 d ∧ DR H v4 e ∧ DR H v5 f := by
  obtain _ | ⟨h0, h⟩ := h
  obtain _ | ⟨h1, h⟩ := h
  obtain _ | ⟨h2, h⟩ := h
  obtain _ | ⟨h3, h⟩ := h
  obtain _ | ⟨h4, h⟩ := h
  obtain _ | ⟨h5, h⟩ := h
  cases h
  exact ⟨_, _, _, _, _, _, rfl, h0, h1, h2, h3, h4, h5⟩
theorem drs_ints {H : Hp} : ∀ {ks : List Int} {vs : List V}, DRs H vs (ks.map PyData.int) → vs = ks.map V.int
  | [], _, h => by cases h; rfl
  | k :: ks, _, h => by
    obtain _ | ⟨h0, h⟩ := h
    cases h0
    rw [drs_ints h]
    rfl
theorem same_upd {G H : Hp} {m : Addr} {o : HO} (s : Same G H) (hn : G m = none) : Same G (upd H m o) := fun b u e => by
  by_cases c : b = m
  · subst c
    rw [hn] at e
    cases e
  · rw [upd_ne c]
    exact s _ _ e
def basesK : List (List Int) := [[2, 5], [3, 5], [4, 6], [6], [7], [5]]
theorem told6 : (((List.range 6).zip (own6.zip basesK)).all fun p => decide (flagsB p.2.1 = onlyB [8 + (p.1 : Int)] 14 ∧ basesB p.2.1 = onlyB p.2.2 8)) = true := by decide +kernel
theorem flags6 {i : Nat} {x : Str} {ks : List Int} (h : own6[i]? = some x) (h2 : basesK[i]? = some ks) : flagsB x = onlyB [8 + (i : Int)] 14 ∧ basesB x = onlyB ks 8 := by
  have hi : i < 6 := (List.getElem?_eq_some_iff.mp h).1
  have hz : (i, x, ks) ∈ (List.range 6).zip (own6.zip basesK) := by
    refine List.mem_of_getElem? (i := i) ?_
    rw [List.getElem?_zip_eq_some]
    exact ⟨by simp [hi], by rw [List.getElem?_zip_eq_some]; exact ⟨h, h2⟩⟩
  exact of_decide_eq_true (List.all_eq_true.mp told6 _ hz)
def Exs6 (K : PySem.W.Frag) (H : Hp) (as : List Addr) (xs : List Str) : Prop := Paired (fun a x => IsEx [] H a (ga K x)) as xs
def spVals : Sp := fun vs H Q _ => ∃ (p : Addr) (b0 b1 b2 : Int), vs = [.ref p] ∧ H p = some (bagO b0 b1 b2) ∧ ∀ H' c0 c1 c2, Same (hidL [p] H) (hidL [p] H') → H' p = some (bagO c0 c1 c2) → Q (.bl true) H'
theorem ok_vals (T : Tx K mg) : HasG P w K mg base CX0 4 "_law_values_right" ["bag"] spVals := by
  obtain ⟨g_flags, k_flags, fd_flags, G_flags, b_flags⟩ := ok_flags (P := P) (w := w) (base := base) T
  obtain ⟨g_bases, k_bases, fd_bases, G_bases, b_bases⟩ := ok_bases (P := P) (w := w) (base := base) T
  obtain ⟨g_only, k_only, fd_only, G_only, b_only⟩ := ok_only (P := P) (w := w) (base := base) T
  obtain ⟨g_drawn, k_drawn, fd_drawn, G_drawn, b_drawn⟩ := ok_drawn (P := P) (w := w) (base := base) T
  obtain ⟨fd, F⟩ := T.fn_values
  refine hasG_of T.g_values F sc_values (fun _ _ _ _ _ _ us hl => match us, hl with | [_], _ => rfl) (fun vs H Q E h => ?_) (fun cdv A outer s H vs Q E hg hr h => ⟨_, PSs.nox (
    (pss_cons (ps_set (i := 1) sc_values.nd rfl (Or.inl rfl) (by exact (pe_call G_drawn (hr.mono (by decide)) (by rfl) g_drawn k_drawn b_drawn .nil pass0 (pa_cons (pv 0) pa_nil))))
    (pss_cons (ps_set (i := 2) sc_values.nd rfl (Or.inl rfl) (by exact (pe_lst (pa_cons (pe_excI T.i_value PySem.XT.nt_value T.g_InvalidNumber hr (pa_cons (pe_ix (r := rIxL K) ix_list (pv 1) pe_int (fun _ _ => rfl)) pa_nil) (by rfl)) (pa_cons (pe_excI T.i_name PySem.XT.nt_name T.g_UnknownName hr (pa_cons (pe_ix (r := rIxL K) ix_list (pv 1) pe_int (fun _ _ => rfl)) pa_nil) (by rfl)) (pa_cons (pe_excI T.i_limit PySem.XT.nt_limit T.g_TooMany hr (pa_cons (pe_ix (r := rIxL K) ix_list (pv 1) pe_int (fun _ _ => rfl)) pa_nil) (by rfl)) (pa_cons (pe_excI T.i_paper PySem.XT.nt_paper T.g_NotSingle hr (pa_cons (pe_ix (r := rIxL K) ix_list (pv 1) pe_int (fun _ _ => rfl)) pa_nil) (by rfl)) (pa_cons (pe_excI T.i_fork PySem.XT.nt_fork T.g_NeedsMarks hr (pa_cons (pe_ix (r := rIxL K) ix_list (pv 1) pe_int (fun _ _ => rfl)) pa_nil) (by rfl)) pa_nil))))))))
    (pss_cons (ps_expr (pe_bm PySem.F.plainAttrs_list PySem.F.slot_list_append PySem.F.type_list_append mt_append (pv 2) (pa_cons (pe_excI T.i_many PySem.XT.nt_many T.g_NothingToUndo hr (pa_cons (pe_ix (r := rIxL K) ix_list (pv 1) pe_int (fun _ _ => rfl)) pa_nil) (by rfl)) pa_nil)))
    (pss_cons (ps_set (i := 3) sc_values.nd rfl (Or.inl rfl) (by exact (pe_lst (pa_cons (pe_tup (pa_cons pe_int (pa_cons pe_int pa_nil))) (pa_cons (pe_tup (pa_cons pe_int (pa_cons pe_int pa_nil))) (pa_cons (pe_tup (pa_cons pe_int (pa_cons pe_int pa_nil))) (pa_cons (pe_tup (pa_cons pe_int pa_nil)) (pa_cons (pe_tup (pa_cons pe_int pa_nil)) (pa_cons (pe_tup (pa_cons pe_int pa_nil)) pa_nil)))))))))
    (pss_cons (ps_for PassesOwn.never rfl (pi_enum (by rfl) T.n_enumerate (pa_cons (pv 2) pa_nil)) (pg_tup (by rfl) (pgs_cons (pg_name (i := 4) sc_values.nd rfl (Or.inl rfl)) (pgs_cons (pg_name (i := 5) sc_values.nd rfl (Or.inl rfl)) pgs_nil))) (pss_one (ps_if (PW.pt (pw_or (pt_cmpR (r := rNeD K) (op_neD hr.units) (pe_call G_flags (hr.mono (by decide)) (by rfl) g_flags k_flags b_flags .nil pass0 (pa_cons (pv 5) pa_nil)) (pe_call G_only (hr.mono (by decide)) (by rfl) g_only k_only b_only .nil pass0 (pa_cons (pe_tup (pa_cons (pe_op op_add pe_int (pv 4)) pa_nil)) (pa_cons pe_int pa_nil))) (nomark _)) (pw_or1 (pt_cmpR (r := rNeD K) (op_neD hr.units) (pe_call G_bases (hr.mono (by decide)) (by rfl) g_bases k_bases b_bases .nil pass0 (pa_cons (pv 5) pa_nil)) (pe_call G_only (hr.mono (by decide)) (by rfl) g_only k_only b_only .nil pass0 (pa_cons (pe_ix (r := rIxL K) ix_list (pv 3) (pv 4) (fun _ _ => rfl)) (pa_cons pe_int pa_nil))) (nomark _))))) (pss_one (ps_ret (by exact pe_bl))) pss_nil)))
    (pss_cons (ps_set (i := 6) sc_values.nd rfl (Or.inl rfl) (by exact (pe_lst (pa_cons (pe_exF (pe_ix (r := rIxL K) ix_list (pv 2) pe_int (fun _ _ => rfl))) (pa_cons (pe_exF (pe_ix (r := rIxL K) ix_list (pv 2) pe_int (fun _ _ => rfl))) (pa_cons (pe_exF (pe_ix (r := rIxL K) ix_list (pv 2) pe_int (fun _ _ => rfl))) (pa_cons (pe_exF (pe_ix (r := rIxL K) ix_list (pv 2) pe_int (fun _ _ => rfl))) (pa_cons (pe_exF (pe_ix (r := rIxL K) ix_list (pv 2) pe_int (fun _ _ => rfl))) (pa_cons (pe_exF (pe_ix (r := rIxL K) ix_list (pv 2) pe_int (fun _ _ => rfl))) pa_nil)))))))))
    (pss_one (ps_ret (by exact (pe_cmpR op_eq (pe_callB (r := rReprG) (call_reprG T.sys hg hr) (by rfl) T.n_repr (by decide +kernel) (pa_cons (pv 6) pa_nil)) (pe_callB (r := rReprG) (call_reprG T.sys hg hr) (by rfl) T.n_repr (by decide +kernel) (pa_cons (pv 1) pa_nil)) (nomark _)))))))))))), ?_⟩)
  · obtain ⟨p, b0, b1, b2, rfl, _⟩ := h
    rfl
  · obtain ⟨p, b0, b1, b2, rfl, hb, k⟩ := h
    -- odd
    refine seq_set ?_
    refine ⟨_, rfl, p, b0, b1, b2, rfl, hb, fun a H1 c0 c1 c2 d0 d1 d2 d3 d4 d5 s1 hb1 r1 m0 m1 m2 m3 m4 m5 => ?_⟩
    have dO : DR H1 (.ref a) (.list [d0, d1, d2, d3, d4, d5]) := DR.mono hid_full _ _ r1
    obtain ⟨a', xs, ee, ea, rx⟩ := dr_lst dO
    cases ee
    obtain ⟨v0, v1, v2, v3, v4, v5, rfl, w0, w1, w2, w3, w4, w5⟩ := drs6 rx
    -- made
    refine seq_set ?_
    refine lst5 ?_
    refine excI_step rfl ea rfl fun x0 H2 s2 n0 e0 => ?_
    refine excI_step rfl (s2 _ _ ea) rfl fun x1 H3 s3 n1 e1 => ?_
    have t3 := s2.trans s3
    refine excI_step rfl (t3 _ _ ea) rfl fun x2 H4 s4 n2 e2 => ?_
    have t4 := t3.trans s4
    refine excI_step rfl (t4 _ _ ea) rfl fun x3 H5 s5 n3 e3 => ?_
    have t5 := t4.trans s5
    refine excI_step rfl (t5 _ _ ea) rfl fun x4 H6 s6 n4 e4 => ?_
    have t6 := t5.trans s6
    refine ⟨szd (by simp), fun m hm => ?_⟩
    have sm := (Same.refl H6).new (o := .lst [.ref x0, .ref x1, .ref x2, .ref x3, .ref x4]) hm
    -- made.append
    refine seq_drop ?_
    refine ⟨_, rfl, .inl ⟨rfl, _, SqL.of upd_same⟩, ?_⟩
    refine one_arg ?_
    refine excI_step rfl ((t6.trans sm) _ _ ea) rfl fun x5 H7 s7 n5 e5 => ?_
    refine app_at (s7 _ _ upd_same) (by simp) ?_
    have x5m : x5 ≠ m := fun z => by
      rw [z, upd_same] at n5
      cases n5
    -- the six stand behind the list
    obtain ⟨y5, g5, g5'⟩ := e5
    have y5m : y5 ≠ m := fun z => by
      have q := s7 _ _ (upd_same (H := H6) (a := m) (o := .lst [.ref x0, .ref x1, .ref x2, .ref x3, .ref x4]))
      rw [z, q] at g5'
      cases g5'
    have sB : Same H6 (upd H7 m (.lst ([.ref x0, .ref x1, .ref x2, .ref x3, .ref x4] ++ [.ref x5]))) := same_upd (sm.trans s7) hm
    have eB5 : ExV (upd H7 m (.lst ([.ref x0, .ref x1, .ref x2, .ref x3, .ref x4] ++ [.ref x5]))) x5 (ga K "NothingToUndo") "many" v5 := ⟨y5, by rw [upd_ne x5m]; exact g5, by rw [upd_ne y5m]; exact g5'⟩
    have hmB : (upd H7 m (.lst ([.ref x0, .ref x1, .ref x2, .ref x3, .ref x4] ++ [.ref x5]))) m = some (.lst ([x0, x1, x2, x3, x4, x5].map V.ref)) := upd_same
    generalize upd H7 m (.lst ([.ref x0, .ref x1, .ref x2, .ref x3, .ref x4] ++ [.ref x5])) = HB at *
    have eB4 := e4.mono sB
    have eB3 := (e3.mono s6).mono sB
    have eB2 := ((e2.mono s5).mono s6).mono sB
    have eB1 := (((e1.mono s4).mono s5).mono s6).mono sB
    have eB0 := ((((e0.mono s3).mono s4).mono s5).mono s6).mono sB
    have t1B : Same H1 HB := t6.trans sB
    have ex : Exs6 K HB [x0, x1, x2, x3, x4, x5] own6 := .cons eB0.is (.cons eB1.is (.cons eB2.is (.cons eB3.is (.cons eB4.is (.cons eB5.is .nil)))))
    -- bases
    refine seq_set ?_
    refine ev_at (G := hidL [] HB) (hs := []) (d := .list (basesK.map fun ks => .tuple (ks.map PyData.int))) (evr_lst (evrs_cons (evr_tup (evrs_cons evr_int (evrs_cons evr_int evrs_nil)) (by decide)) (evrs_cons (evr_tup (evrs_cons evr_int (evrs_cons evr_int evrs_nil)) (by decide)) (evrs_cons (evr_tup (evrs_cons evr_int (evrs_cons evr_int evrs_nil)) (by decide))
      (evrs_cons (evr_tup (evrs_cons evr_int evrs_nil) (by decide)) (evrs_cons (evr_tup (evrs_cons evr_int evrs_nil) (by decide)) (evrs_cons (evr_tup (evrs_cons evr_int evrs_nil) (by decide)) evrs_nil)))))) (by decide)) (Same.refl _) (fun b hb => by simp at hb) fun vb HC sC _ rb => ?_
    have sC' : Same HB HC := hid_nil sC
    obtain ⟨bl, bx, rfl, ebl, rbx⟩ := dr_lst (DR.mono hid_full _ _ rb)
    have exC : Exs6 K HC [x0, x1, x2, x3, x4, x5] own6 := .cons (eB0.mono sC').is (.cons (eB1.mono sC').is (.cons (eB2.mono sC').is (.cons (eB3.mono sC').is (.cons (eB4.mono sC').is (.cons (eB5.mono sC').is .nil)))))
    refine ⟨_, rfl, m, _, rfl, SqL.of (sC' _ _ hmB), ?_⟩
    refine for_it (walk_enum (K := K) (a := m) (xs := [x0, x1, x2, x3, x4, x5].map V.ref)) (fun i σ H' => Same HC H' ∧ ∃ x y, σ = [some (.ref p), some (.ref a), some (.ref m), some (.ref bl), x, y, none]) ⟨Same.refl _, _, _, rfl⟩ (fun i σ H' _ q => SqL.of (q.1 _ _ (sC' _ _ hmB))) ?_ ?_
    · rintro i x σ H8 H9 hi ⟨s8, o1, o2, rfl⟩ ⟨tt, z1, y1, rfl, ht, rfl, hz1, hy1⟩
      have hi6 : i < 6 := hi
      generalize hA : [x0, x1, x2, x3, x4, x5] = as at *
      have lenA : as.length = 6 := by rw [← hA]; rfl
      have ha : as[i]? = some (as[i]'(by omega)) := List.getElem?_eq_getElem (by omega)
      have hy1' : (as.map V.ref)[i]? = some y1 := hy1
      rw [List.getElem?_map, ha] at hy1'
      have ey : V.ref (as[i]'(by omega)) = y1 := Option.some.inj hy1'
      subst ey
      have ez : V.int (i : Nat) = z1 := Option.some.inj hz1
      subst ez
      have l6 : own6.length = 6 := rfl
      have ho : own6[i]? = some (own6[i]'(by omega)) := List.getElem?_eq_getElem (by omega)
      have lk : basesK.length = 6 := rfl
      have hk : basesK[i]? = some (basesK[i]'(by omega)) := List.getElem?_eq_getElem (by omega)
      have iex : IsEx [] HC (as[i]'(by omega)) (ga K (own6[i]'(by omega))) := Paired.at (F := fun a x => IsEx [] HC a (ga K x)) exC ha ho
      have z6 := (Same.refl H8).new (o := .tup [.int (i : Nat), .ref (as[i]'(by omega))]) ht
      have hmm : own6[i]'(by omega) ∈ excN := List.mem_cons_of_mem _ (List.mem_append_right _ (List.getElem_mem _))
      have fa := flags6 ho hk
      obtain ⟨tb, htb, rtb⟩ := drs_at' rbx (i := i) (d := .tuple ((basesK[i]'(by omega)).map PyData.int)) (by rw [List.getElem?_map, hk]; rfl)
      obtain ⟨tb, xt, rfl, etb, rxt⟩ := dr_tup rtb
      have ext := drs_ints rxt
      subst ext
      refine ⟨tt, _, rfl, SqT.of upd_same, rfl, _, _, rfl, _, _, rfl, rfl, ?_⟩
      refine ⟨_, rfl, _, _, rfl, hmm, (iex.mono s8).mono z6, fun p5 Ha sa na ea' => ⟨_, rfl, 8, (i : Nat), rfl, rfl, szd (by simp), fun t5 ht5 => ⟨t5, [8 + (i : Int)], 14, rfl, SqT.of upd_same, by decide, fun r5 hr5 => ?_⟩⟩⟩
      have z7 := (Same.refl Ha).new (o := .tup [.int (8 + (i : Nat))]) ht5
      have z8 := (Same.refl _).new (o := .lst (onlyL [8 + (i : Int)] 14)) hr5
      refine ne_bools (as := flagsB (own6[i]'(by omega))) (bs := onlyB [8 + (i : Int)] 14) ((z7.trans z8) _ _ (by rw [← flagsL_eq]; exact ea')) (by rw [← onlyL_eq]; exact upd_same) fa.1 ⟨_, rfl, ?_⟩
      refine ⟨_, rfl, _, _, rfl, hmm, (((iex.mono s8).mono z6).mono sa).mono (z7.trans z8), fun p6 Hb sb nb eb => ?_⟩
      have tot : Same HC Hb := s8.trans (z6.trans (sa.trans ((z7.trans z8).trans sb)))
      refine ⟨_, rfl, _, rfl, bl, bx, (i : Nat), .ref tb, rfl, rfl, SqL.of (tot _ _ ebl), atI_nat htb, tb, basesK[i]'(by omega), 8, rfl, SqT.of (tot _ _ etb), by decide, fun r6 hr6 => ?_⟩
      have z9 := (Same.refl Hb).new (o := .lst (onlyL (basesK[i]'(by omega)) 8)) hr6
      refine ne_bools (as := basesB (own6[i]'(by omega))) (bs := onlyB (basesK[i]'(by omega)) 8) (z9 _ _ (by rw [← basesL_eq]; exact eb)) (by rw [← onlyL_eq]; exact upd_same) fa.2 ⟨_, rfl, ?_⟩
      exact ⟨tot.trans z9, _, _, rfl⟩
    · rintro σ H8 ⟨s8, o1, o2, rfl⟩
      have sE := sC'.trans s8
      have t1E := t1B.trans sE
      dsimp only
      refine seq_set ?_
      have hmE := sE _ _ hmB
      refine exF_step rfl hmE rfl (eB0.mono sE) T.i_value ?_
      refine exF_step rfl hmE rfl (eB1.mono sE) T.i_name ?_
      refine exF_step rfl hmE rfl (eB2.mono sE) T.i_limit ?_
      refine exF_step rfl hmE rfl (eB3.mono sE) T.i_paper ?_
      refine exF_step rfl hmE rfl (eB4.mono sE) T.i_fork ?_
      refine exF_step rfl hmE rfl (eB5.mono sE) T.i_many ?_
      refine ⟨szd (by simp), fun l hl => ?_⟩
      have zl := (Same.refl H8).new (o := .lst [v0, v1, v2, v3, v4, v5]) hl
      have t1F := t1E.trans zl
      have dT : DR (upd H8 l (.lst [v0, v1, v2, v3, v4, v5])) (.ref l) (.list [d0, d1, d2, d3, d4, d5]) := .lst upd_same (DRs.mono t1F _ _ rx)
      have dO2 := DR.mono t1F _ _ dO
      obtain ⟨k1, k2, k3⟩ := ok6 m0 m1 m2 m3 m4 m5
      refine one_ret ?_
      refine ⟨_, rfl, l, _, rfl, dT, k1, k2, k3, _, rfl, a, _, rfl, dO2, k1, k2, k3, rfl, ?_⟩
      rw [decide_eq_true (rfl : V.str (PyData.list [d0, d1, d2, d3, d4, d5]).shown = V.str (PyData.list [d0, d1, d2, d3, d4, d5]).shown)]
      exact k _ c0 c1 c2 (s1.trans (hid_mono t1F)) (t1F _ _ hb1)
end
end K0
set_option maxHeartbeats 4000000
namespace K0
open PySem PySem.Spec PyProof.Rows L2 He Hx
def letB (x : Str) : Bool := x.cps.toList.all fun c => decide (c ∈ (Str.ofString "abcdefghijklmnopqrstuvwxyz").cps.toList)
/-- is it a text of small letters -/
inductive WordV (K : PySem.W.Frag) (H : Hp) : V → Bool → Prop
  | str (x : Str) (h : x.cps.size ≤ 1000) : WordV K H (.str x) (letB x)
  | oth {v : V} {t : Value} (h : TyX K H v t) (e : PySem.W.kitOne K t (.type "str") = some false) : WordV K H v false
section
variable {P : Program} {w : World} {K : PySem.W.Frag} {mg : Str → Option Value} {base : Heap}
def spWord (K : PySem.W.Frag) : Sp := fun vs H Q _ => ∃ v b, vs = [v] ∧ WordV K H v b ∧ ∀ H', Same H H' → Q (.bl b) H'
theorem ok_word (T : Tx K mg) : Has P w K mg base CX0 1 "is_word" ["value"] (spWord K) := by
  obtain ⟨tl, gl⟩ := T.let_
  obtain ⟨fd, F⟩ := T.fn_isWord
  refine has_of T.g_isWord F sc_isWord (fun _ _ _ _ _ _ us hl => match us, hl with | [_], _ => rfl) (fun vs H Q E h => ?_) (fun cdv A outer s H vs Q E hr h => ⟨_, PSs.nox (
    (pss_one (ps_ret (by exact (pe_and (pe_callB (r := rIsi K) call_isi (by rfl) T.n_isinstance (by decide +kernel) (pa_cons (pv 0) (pa_cons (pe_bltn (v := .ty "str") (by rfl) T.n_str (by decide +kernel) rfl) pa_nil))) (pe_one (pe_callB (r := rAll K) (cr_all rfl) (by rfl) T.n_all (by decide +kernel) (pa_cons (pe_lc (own := [("sign", 1)]) (g := gName 1) (by rfl) sc_isWord.nd (pi_str (pv 0)) (blkOk_by (own := [("sign", 1)]) (N := ["value", "sign"]) (sc := defScope s_isWord) (by decide +kernel)) (fun _ _ _ _ _ => (pg_name (i := 1) sc_isWord.nd rfl (Or.inl rfl))) (fun _ _ _ _ _ => pts_nil) (fun _ _ _ _ _ => (pe_cmpR op_inS (pv 1) (pe_glob (v := .str "abcdefghijklmnopqrstuvwxyz") rfl gl ⟨_, rfl⟩) (by rfl)))) pa_nil)))))))), ?_⟩)
  · obtain ⟨v, b, rfl, _⟩ := h
    rfl
  · obtain ⟨v, b, rfl, hw, k⟩ := h
    refine one_ret ?_
    cases hw with
    | oth ht he => exact ⟨_, rfl, v, .ty "str", _, .type "str", false, rfl, .ty "str", ht, he, false, rfl, k H (Same.refl H)⟩
    | str x hx =>
      refine ⟨_, rfl, .str x, .ty "str", _, .type "str", true, rfl, .ty "str", .base (.str x), rfl, true, rfl, ?_⟩
      refine ⟨_, rfl, x, rfl, fun D hD => ?_⟩
      refine lc_it (walk_str (z := x)) (fun i H' => H' = upd H D (.lst (((x.cps.toList.take i).map fun c => decide (c ∈ (Str.ofString "abcdefghijklmnopqrstuvwxyz").cps.toList)).map V.bl))) rfl (fun _ _ _ _ => True.intro) (fun i x' H1 H2 hi p y => ?_) (fun H1 p => ?_)
      · obtain ⟨rfl, c, hc, rfl⟩ := y
        subst p
        refine ⟨rfl, _, rfl, c, _, rfl, rfl, _, upd_same, ?_, ?_⟩
        · rw [List.length_map, List.length_map, List.length_take]
          have h1 : (1001 : Nat) ≤ sizeLine := by decide
          have h2 : min i x.cps.toList.length ≤ i := Nat.min_le_left _ _
          omega
        · rw [upd_upd]
          have ht : x.cps.toList.take (i + 1) = x.cps.toList.take i ++ [c] := by
            rw [List.take_succ]
            have : x.cps.toList[i]? = some c := by rw [Array.getElem?_toList]; exact hc
            rw [this]
            rfl
          rw [ht, List.map_append, List.map_append]
          rfl
      · subst p
        refine ⟨D, _, rfl, SqL.of upd_same, ?_⟩
        have ef : x.cps.toList.take x.cps.size = x.cps.toList := by rw [← Array.length_toList]; exact List.take_length
        rw [ef]
        have eb : (x.cps.toList.map fun c => decide (c ∈ (Str.ofString "abcdefghijklmnopqrstuvwxyz").cps.toList)).all id = letB x := by
          unfold letB
          rw [List.all_map]
          rfl
        rw [eb]
        exact k _ ((Same.refl H).new hD)
end
end K0
set_option maxHeartbeats 4000000
namespace L2
open PySem PySem.Spec PyProof.Rows
theorem pw_never {X : Cx} {e : Expr} : PW X e (fun _ _ _ => False) := ⟨fun _ _ _ _ _ _ _ h => h.elim⟩
theorem TyOf.mono {K : PySem.W.Frag} {H H' : Hp} {v : V} {t : Value} (h : TyOf K H v t) (s : Same H H') : TyOf K H' v t := by
  cases h with
  | non => exact .non
  | bl x => exact .bl x
  | int i => exact .int i
  | str x => exact .str x
  | flt x => exact .flt x
  | lst e => exact .lst (s _ _ e)
  | frz e => exact .frz (s _ _ e)
  | tup e => exact .tup (s _ _ e)
  | dK e => exact .dK (s _ _ e)
  | dT e => exact .dT (s _ _ e)
  | ins e a b c d f => exact .ins (s _ _ e) a b c d f
theorem TyX.mono {K : PySem.W.Frag} {H H' : Hp} {v : V} {t : Value} (h : TyX K H v t) (s : Same H H') : TyX K H' v t := by
  cases h with
  | base h => exact .base (h.mono s)
  | byt b => exact .byt b
  | set e => exact .set (s _ _ e)
  | kList e c => exact .kList e c
  | kTuple e c => exact .kTuple e c
  | kDict e c => exact .kDict e c
  | fTuple e => exact .fTuple (s _ _ e)
  | fDict e => exact .fDict (s _ _ e)
end L2
namespace K0
open PySem PySem.Spec PyProof.Rows L2 He Hx
theorem WordV.mono {K : PySem.W.Frag} {H H' : Hp} {v : V} {b : Bool} (h : WordV K H v b) (s : Same H H') : WordV K H' v b := by
  cases h with
  | str x h => exact .str x h
  | oth h e => exact .oth (h.mono s) e
/-- no delay, or a tuple of two words that both begin by a -/
inductive DlyV (K : PySem.W.Frag) (H : Hp) : V → Prop
  | oth {v : V} {t : Value} (h : TyX K H v t) (e : PySem.W.kitOne K t (.type "tuple") = some false) : DlyV K H v
  | nil {a : Addr} (h : H a = some (.tup [])) : DlyV K H (.ref a)
  | two {a : Addr} (h : H a = some (.tup [.str "ab", .str "ac"])) : DlyV K H (.ref a)
section
variable {P : Program} {w : World} {K : PySem.W.Frag} {mg : Str → Option Value} {base : Heap}
def spReqW (K : PySem.W.Frag) : Sp := fun vs H Q E => ∃ v b, vs = [v] ∧ WordV K H v b ∧ (b = true → ∀ H', Same H H' → Q .non H') ∧ (b = false → ∀ H', Same H H' → E (.ref (ga K "InvalidText")) none H')
theorem ok_reqWord (T : Tx K mg) : Has P w K mg base (L2.CX P w) 2 "require_word" ["value"] (spReqW K) := by
  obtain ⟨g_isWord, k_isWord, fd_isWord, G_isWord, b_isWord⟩ := ok_word (P := P) (w := w) (base := base) T
  obtain ⟨fd, F⟩ := T.fn_reqWord
  refine has_of T.g_reqWord F sc_reqWord (fun _ _ _ _ _ _ us hl => match us, hl with | [_], _ => rfl) (fun vs H Q E h => ?_) (fun cdv A outer s H vs Q E hr h => ⟨_,
    (pss_one (ps_if (pt_not (pt_val (pe_call G_isWord (hr.mono (by decide)) (by rfl) g_isWord k_isWord b_isWord .nil pass0 (pa_cons (pv 0) pa_nil)))) (pss_one (ps_raise rfl (takes_of rfl rfl rfl rfl) (pmk_own PySem.F.excBase_ValueError (T.e_InvalidText).1 T.g_InvalidText (T.e_InvalidText).2.1 (raises_own (T.e_InvalidText).2.2.1 (T.e_InvalidText).2.2.2) (by rfl)))) pss_nil)), ?_⟩)
  · obtain ⟨v, b, rfl, _⟩ := h
    rfl
  · obtain ⟨v, b, rfl, hw, k1, k2⟩ := h
    refine ⟨_, rfl, v, b, rfl, hw, fun H' s' => ⟨_, rfl, ?_⟩⟩
    cases b
    · exact k2 rfl _ s'
    · exact k1 rfl _ s'
/-- a value that is no word, in are_letters -/
def spLet (K : PySem.W.Frag) : Sp := fun vs H Q _ => ∃ v, vs = [v] ∧ WordV K H v false ∧ ∀ H', Same H H' → Q (.bl false) H'
theorem ok_letters (T : Tx K mg) : Has P w K mg base CX0 2 "are_letters" ["value"] (spLet K) := by
  obtain ⟨g_isWord, k_isWord, fd_isWord, G_isWord, b_isWord⟩ := ok_word (P := P) (w := w) (base := base) T
  obtain ⟨fd, F⟩ := T.fn_areLetters
  refine has_of T.g_areLetters F sc_areLetters (fun _ _ _ _ _ _ us hl => match us, hl with | [_], _ => rfl) (fun vs H Q E h => ?_) (fun cdv A outer s H vs Q E hr h => ⟨_, PSs.nox (
    (pss_one (ps_ret (by exact (pe_and (pe_call G_isWord (hr.mono (by decide)) (by rfl) g_isWord k_isWord b_isWord .nil pass0 (pa_cons (pv 0) pa_nil)) pe_never))))), ?_⟩)
  · obtain ⟨v, rfl, _⟩ := h
    rfl
  · obtain ⟨v, rfl, hw, k⟩ := h
    exact ⟨_, rfl, v, false, rfl, hw, fun H' s' => ⟨false, rfl, k _ s'⟩⟩
def spDly (K : PySem.W.Frag) : Sp := fun vs H Q _ => ∃ v, vs = [v] ∧ DlyV K H v ∧ ∀ H', Same H H' → Q (.bl false) H'
theorem ok_isDelay (T : Tx K mg) : Has P w K mg base CX0 2 "is_delay" ["value"] (spDly K) := by
  obtain ⟨g_isWord, k_isWord, fd_isWord, G_isWord, b_isWord⟩ := ok_word (P := P) (w := w) (base := base) T
  obtain ⟨fd, F⟩ := T.fn_isDelay
  refine has_of T.g_isDelay F sc_isDelay (fun _ _ _ _ _ _ us hl => match us, hl with | [_], _ => rfl) (fun vs H Q E h => ?_) (fun cdv A outer s H vs Q E hr h => ⟨_, PSs.nox (
    (pss_cons (ps_if (PW.pt (pw_or (pt_not (pt_val (pe_callB (r := rIsi K) call_isi (by rfl) T.n_isinstance (by decide +kernel) (pa_cons (pv 0) (pa_cons (pe_bltn (v := .ty "tuple") (by rfl) T.n_tuple (by decide +kernel) rfl) pa_nil))))) (pw_or (pt_cmpR op_ne (pe_callB (r := rLen K) call_len (by rfl) T.n_len (by decide +kernel) (pa_cons (pv 0) pa_nil)) pe_int (nomark _)) (pw_or1 (pt_not (pt_val (pe_callB (r := rAll K) (cr_all rfl) (by rfl) T.n_all (by decide +kernel) (pa_cons (pe_lc (own := [("word", 1)]) (g := gName 1) (by rfl) sc_isDelay.nd (pi_tup (pv 0)) (blkOk_by (own := [("word", 1)]) (N := ["value", "word"]) (sc := defScope s_isDelay) (by decide +kernel)) (fun _ _ _ _ _ => (pg_name (i := 1) sc_isDelay.nd rfl (Or.inl rfl))) (fun _ _ _ _ _ => pts_nil) (fun _ _ _ _ _ => (pe_call G_isWord (hr.mono (by decide)) (by rfl) g_isWord k_isWord b_isWord .nil pass0 (pa_cons (pv 1) pa_nil)))) pa_nil)))))))) (pss_one (ps_ret (by exact pe_bl))) pss_nil)
    (pss_one (ps_ret (by exact (pe_or (pe_cmpR op_ne (pe_slice sl_str (pe_ix (r := rIxT K) ix_tup (pv 0) pe_int (fun _ _ => rfl)) po_none (po_some pe_int)) (pe_slice sl_str (pe_ix (r := rIxT K) ix_tup (pv 0) pe_int (fun _ _ => rfl)) po_none (po_some pe_int)) (nomark _)) (pe_one (pe_cmpR op_eq (pe_ix (r := rIxT K) ix_tup (pv 0) pe_int (fun _ _ => rfl)) pe_str (nomark _))))))))), ?_⟩)
  · obtain ⟨v, rfl, _⟩ := h
    rfl
  · obtain ⟨v, rfl, hv, k⟩ := h
    cases hv with
    | oth ht he => exact ⟨_, rfl, v, .ty "tuple", _, .type "tuple", false, rfl, .ty "tuple", ht, he, false, rfl, k H (Same.refl H)⟩
    | nil ha =>
      refine ⟨_, rfl, _, .ty "tuple", _, .type "tuple", true, rfl, .ty "tuple", .base (.tup ha), rfl, true, rfl, ?_⟩
      exact ⟨_, rfl, _, 0, rfl, (.inr ⟨_, SqT.of ha, rfl⟩), rfl, true, rfl, k H (Same.refl H)⟩
    | two ha =>
      rename_i a
      refine ⟨_, rfl, _, .ty "tuple", _, .type "tuple", true, rfl, .ty "tuple", .base (.tup ha), rfl, true, rfl, ?_⟩
      refine ⟨_, rfl, _, 2, rfl, (.inr ⟨_, SqT.of ha, rfl⟩), rfl, false, rfl, ?_⟩
      refine ⟨_, rfl, a, rfl, ⟨_, SqT.of ha⟩, fun D hD => ?_⟩
      refine lc_it (walk_tup (K := K) (a := a) (xs := [.str "ab", .str "ac"])) (fun i H' => Same H H' ∧ H' D = some (.lst ((List.replicate i true).map V.bl))) ⟨(Same.refl H).new hD, upd_same⟩ (fun i H' _ p => SqT.of (p.1 _ _ ha)) (fun i x H1 H2 hi p y => ?_) (fun H1 p => ?_)
      · obtain ⟨rfl, hx⟩ := y
        have hw : ∃ z, x = .str z ∧ letB z = true ∧ z.cps.size ≤ 1000 := by
          match i, hi, hx with
          | 0, _, hx => exact ⟨"ab", (Option.some.inj hx).symm, by decide +kernel, by decide +kernel⟩
          | 1, _, hx => exact ⟨"ac", (Option.some.inj hx).symm, by decide +kernel, by decide +kernel⟩
        obtain ⟨z, rfl, hz, hs⟩ := hw
        have wv : WordV K H2 (.str z) true := by
          have q := WordV.str (K := K) (H := H2) z hs
          rw [hz] at q
          exact q
        refine ⟨rfl, _, rfl, _, _, rfl, wv, fun H3 s3 => ⟨_, s3 _ _ p.2, ?_, ?_, ?_⟩⟩
        · rw [List.length_map, List.length_replicate]
          have h1 : (1001 : Nat) ≤ sizeLine := by decide
          have h2 : i < 2 := hi
          omega
        · exact fun b o e => same_upd (p.1.trans s3) hD b o e
        · rw [upd_same, List.replicate_succ', List.map_append]
          rfl
      · refine ⟨D, _, rfl, SqL.of p.2, true, rfl, ?_⟩
        refine ⟨_, rfl, a, _, (0 : Nat), .str "ab", rfl, rfl, SqT.of (p.1 _ _ ha), rfl, 1, rfl, "ab", rfl, by decide, ?_⟩
        refine ⟨_, rfl, a, _, (1 : Nat), .str "ac", rfl, rfl, SqT.of (p.1 _ _ ha), rfl, 1, rfl, "ac", rfl, by decide, rfl, ?_⟩
        have e0 : (!decide (V.str (cutS "ab" none (some 1)) = V.str (cutS "ac" none (some 1)))) = false := by decide +kernel
        rw [e0]
        refine ⟨false, rfl, ?_⟩
        refine ⟨_, rfl, a, _, (0 : Nat), .str "ab", rfl, rfl, SqT.of (p.1 _ _ ha), rfl, rfl, ?_⟩
        have e1 : decide (V.str "ab" = V.str "") = false := by decide +kernel
        rw [e1]
        exact k _ p.1
def spReqD (K : PySem.W.Frag) : Sp := fun vs H Q E => ∃ v, vs = [v] ∧ DlyV K H v ∧ ∀ H', Same H H' → E (.ref (ga K "InvalidOperation")) none H'
theorem ok_reqDelay (T : Tx K mg) : Has P w K mg base (L2.CX P w) 3 "require_delay" ["value"] (spReqD K) := by
  obtain ⟨g_isDelay, k_isDelay, fd_isDelay, G_isDelay, b_isDelay⟩ := ok_isDelay (P := P) (w := w) (base := base) T
  obtain ⟨fd, F⟩ := T.fn_reqDelay
  refine has_of T.g_reqDelay F sc_reqDelay (fun _ _ _ _ _ _ us hl => match us, hl with | [_], _ => rfl) (fun vs H Q E h => ?_) (fun cdv A outer s H vs Q E hr h => ⟨_,
    (pss_one (ps_if (pt_not (pt_val (pe_call G_isDelay (hr.mono (by decide)) (by rfl) g_isDelay k_isDelay b_isDelay .nil pass0 (pa_cons (pv 0) pa_nil)))) (pss_one (ps_raise rfl (takes_of rfl rfl rfl rfl) (pmk_own PySem.F.excBase_ValueError (T.e_InvalidOperation).1 T.g_InvalidOperation (T.e_InvalidOperation).2.1 (raises_own (T.e_InvalidOperation).2.2.1 (T.e_InvalidOperation).2.2.2) (by rfl)))) pss_nil)), ?_⟩)
  · obtain ⟨v, rfl, _⟩ := h
    rfl
  · obtain ⟨v, rfl, hw, k⟩ := h
    exact ⟨_, rfl, v, rfl, hw, fun H' s' => ⟨_, rfl, k _ s'⟩⟩
def spLed (K : PySem.W.Frag) : Sp := fun vs H Q E => ∃ v a b, vs = [v, a, b] ∧ DlyV K H v ∧ ∀ H', Same H H' → E (.ref (ga K "InvalidOperation")) none H'
theorem ok_ledOn (T : Tx K mg) : Has P w K mg base (L2.CX P w) 4 "led_on" ["delay", "word", "other"] (spLed K) := by
  obtain ⟨g_reqDelay, k_reqDelay, fd_reqDelay, G_reqDelay, b_reqDelay⟩ := ok_reqDelay (P := P) (w := w) (base := base) T
  obtain ⟨fd, F⟩ := T.fn_ledOn
  refine has_of T.g_ledOn F sc_ledOn (fun _ _ _ _ _ _ us hl => match us, hl with | [_, _, _], _ => rfl) (fun vs H Q E h => ?_) (fun cdv A outer s H vs Q E hr h => ⟨_,
    (pss_cons (ps_expr (pe_call G_reqDelay (hr.mono (by decide)) (by rfl) g_reqDelay k_reqDelay b_reqDelay .nil (passes_call (takes_of rfl rfl rfl rfl) (fun _ _ _ _ h => h)) (pa_cons (pv 0) pa_nil))) pss_never), ?_⟩)
  · obtain ⟨v, a, b, rfl, _⟩ := h
    rfl
  · obtain ⟨v, a, b, rfl, hw, k⟩ := h
    exact ⟨_, rfl, v, rfl, hw, fun H' s' => k _ s'⟩
end
end K0
set_option maxHeartbeats 4000000
namespace L2
theorem walk0 : Walk It0 0 (fun _ => True) (fun _ _ _ _ => False) := ⟨fun _ _ h _ => absurd h (Nat.not_lt_zero _), fun _ _ => True.intro, fun _ _ _ _ h _ _ => absurd h (Nat.not_lt_zero _)⟩
end L2
namespace K0
open PySem PySem.Spec PyProof.Rows L2 He Hx
section
variable {P : Program} {w : World} {K : PySem.W.Frag} {mg : Str → Option Value} {base : Heap}
def spShared : Sp := fun vs H Q _ => vs = [.str "", .str ""] ∧ ∀ H', Same H H' → Q (.int 0) H'
theorem ok_shared (T : Tx K mg) : Has P w K mg base CX0 1 "shared_letters" ["word", "other"] spShared := by
  obtain ⟨fd, F⟩ := T.fn_shared
  refine has_of T.g_shared F sc_shared (fun _ _ _ _ _ _ us hl => match us, hl with | [_, _], _ => rfl) (fun vs H Q E h => ?_) (fun cdv A outer s H vs Q E hr h => ⟨_, PSs.nox (
    (pss_cons (ps_set (i := 2) sc_shared.nd rfl (Or.inl rfl) (by exact pe_int))
    (pss_cons (ps_for PassesOwn.never rfl (pi_zip0 (by rfl) T.n_zip (pa_cons (pv 0) (pa_cons (pv 1) pa_nil))) (pg_tup (by rfl) (pgs_cons (pg_name (i := 3) sc_shared.nd rfl (Or.inl rfl)) (pgs_cons (pg_name (i := 4) sc_shared.nd rfl (Or.inl rfl)) pgs_nil))) (pss_cons (ps_if (pt_cmpR op_ne (pv 3) (pv 4) (nomark _)) (pss_one (ps_ret (by exact (pv 2)))) pss_nil)
    (pss_one (ps_aug (i := 2) sc_shared.nd rfl (Or.inl rfl) pe_int ip_add))))
    (pss_one (ps_ret (by exact (pv 2))))))), ?_⟩)
  · obtain ⟨rfl, _⟩ := h
    rfl
  · obtain ⟨rfl, k⟩ := h
    refine seq_set ?_
    refine ⟨_, rfl, _, rfl, rfl, ?_⟩
    refine for_it walk0 (fun i σ H' => H' = H ∧ ∃ x y, σ = [some (.str ""), some (.str ""), some (.int 0), x, y]) ⟨rfl, _, _, rfl⟩ (fun _ _ _ _ _ => True.intro) (fun i x σ H1 H2 hi => absurd hi (Nat.not_lt_zero _)) ?_
    rintro σ H1 ⟨rfl, x, y, rfl⟩
    exact ⟨_, rfl, k _ (Same.refl _)⟩
def spDelIn : Sp := fun vs H Q _ => vs = [.str "", .str ""] ∧ ∀ p H', Same H H' → H' p = some (.tup [.str "", .str ""]) → Q (.ref p) H'
theorem ok_delayIn (T : Tx K mg) : Has P w K mg base CX0 2 "delay_in" ["word", "other"] spDelIn := by
  obtain ⟨g_shared, k_shared, fd_shared, G_shared, b_shared⟩ := ok_shared (P := P) (w := w) (base := base) T
  obtain ⟨fd, F⟩ := T.fn_delayIn
  refine has_of T.g_delayIn F sc_delayIn (fun _ _ _ _ _ _ us hl => match us, hl with | [_, _], _ => rfl) (fun vs H Q E h => ?_) (fun cdv A outer s H vs Q E hr h => ⟨_, PSs.nox (
    (pss_cons (ps_set (i := 2) sc_delayIn.nd rfl (Or.inl rfl) (by exact (pe_call G_shared (hr.mono (by decide)) (by rfl) g_shared k_shared b_shared .nil pass0 (pa_cons (pv 0) (pa_cons (pv 1) pa_nil)))))
    (pss_one (ps_ret (by exact (pe_tup (pa_cons (pe_slice sl_str (pv 0) (po_some (pv 2)) po_none) (pa_cons (pe_slice sl_str (pv 1) (po_some (pv 2)) po_none) pa_nil)))))))), ?_⟩)
  · obtain ⟨rfl, _⟩ := h
    rfl
  · obtain ⟨rfl, k⟩ := h
    refine seq_set ?_
    refine ⟨_, rfl, _, rfl, rfl, fun H1 s1 => ?_⟩
    refine one_ret ?_
    refine ⟨_, rfl, _, rfl, 0, rfl, "", rfl, by decide, _, rfl, _, rfl, 0, rfl, "", rfl, by decide, szd (by simp), fun p hp => ?_⟩
    exact k p _ (s1.trans ((Same.refl H1).new hp)) upd_same
/-- delay(word, other): refused, or of two empty words -/
def spDelay (K : PySem.W.Frag) : Sp := fun vs H Q E => ∃ v u b c, vs = [v, u] ∧ WordV K H v b ∧ WordV K H u c ∧ ((b = false ∨ c = false) → ∀ H', Same H H' → E (.ref (ga K "InvalidText")) none H') ∧
  (b = true → c = true → v = .str "" ∧ u = .str "" ∧ ∀ p H', Same H H' → H' p = some (.tup [.str "", .str ""]) → Q (.ref p) H')
theorem ok_delay (T : Tx K mg) : Has P w K mg base (L2.CX P w) 3 "delay" ["word", "other"] (spDelay K) := by
  obtain ⟨g_reqWord, k_reqWord, fd_reqWord, G_reqWord, b_reqWord⟩ := ok_reqWord (P := P) (w := w) (base := base) T
  obtain ⟨g_delayIn, k_delayIn, fd_delayIn, G_delayIn, b_delayIn⟩ := ok_delayIn (P := P) (w := w) (base := base) T
  obtain ⟨fd, F⟩ := T.fn_delay
  refine has_of T.g_delay F sc_delay (fun _ _ _ _ _ _ us hl => match us, hl with | [_, _], _ => rfl) (fun vs H Q E h => ?_) (fun cdv A outer s H vs Q E hr h => ⟨_,
    (pss_cons (ps_expr (pe_call G_reqWord (hr.mono (by decide)) (by rfl) g_reqWord k_reqWord b_reqWord .nil (passes_call (takes_of rfl rfl rfl rfl) (fun _ _ _ _ h => h)) (pa_cons (pv 0) pa_nil)))
    (pss_cons (ps_expr (pe_call G_reqWord (hr.mono (by decide)) (by rfl) g_reqWord k_reqWord b_reqWord .nil (passes_call (takes_of rfl rfl rfl rfl) (fun _ _ _ _ h => h)) (pa_cons (pv 1) pa_nil)))
    (pss_one (ps_ret (by exact (pe_call G_delayIn (hr.mono (by decide)) (by rfl) g_delayIn k_delayIn b_delayIn .nil pass0 (pa_cons (pv 0) (pa_cons (pv 1) pa_nil)))))))), ?_⟩)
  · obtain ⟨v, u, b, c, rfl, _⟩ := h
    rfl
  · obtain ⟨v, u, b, c, rfl, hv, hu, k1, k2⟩ := h
    refine ⟨_, rfl, v, b, rfl, hv, fun e H1 s1 => ?_, fun e H1 s1 => k1 (.inl e) _ s1⟩
    refine ⟨_, rfl, u, c, rfl, hu.mono s1, fun e2 H2 s2 => ?_, fun e2 H2 s2 => k1 (.inr e2) _ (s1.trans s2)⟩
    obtain ⟨rfl, rfl, k3⟩ := k2 e e2
    exact ⟨_, rfl, _, rfl, rfl, fun p H3 s3 h3 => k3 p _ (s1.trans (s2.trans s3)) h3⟩
end
end K0
set_option maxHeartbeats 4000000
namespace K0
open PySem PySem.Spec PyProof.Rows L2 He Hx
section
variable {P : Program} {w : World} {K : PySem.W.Frag} {mg : Str → Option Value} {base : Heap}
theorem ok_flagsP (T : Tx K mg) : ∃ fd, FnP P w K mg base CX0 1 (ga K "_law_flags") fd ["one"] (fun p => spFlags K [p]) ∧ L2.Binds K fd ["one"] [] := by
  obtain ⟨fd, F⟩ := T.fn_flags
  refine ⟨fd, fnP_of F rfl sc_flags (fun p vs H Q E h => ?_) (fun cdv A outer s H vs Q E p hr h => ⟨_, PSs.nox (
    (pss_cons (ps_set (i := 1) sc_flags.nd rfl (Or.inl rfl) (by exact (pe_lst (pa_cons (pe_callB (r := rIsV K [p]) call_isV (by rfl) T.n_isinstance (by decide +kernel) (pa_cons (pv 0) (pa_cons (pe_glob (v := .ref (ga K "InvalidText")) (by rfl) T.g_InvalidText rfl) pa_nil))) (pa_cons (pe_callB (r := rIsV K [p]) call_isV (by rfl) T.n_isinstance (by decide +kernel) (pa_cons (pv 0) (pa_cons (pe_glob (v := .ref (ga K "InvalidRewriter")) (by rfl) T.g_InvalidRewriter rfl) pa_nil))) (pa_cons (pe_callB (r := rIsV K [p]) call_isV (by rfl) T.n_isinstance (by decide +kernel) (pa_cons (pv 0) (pa_cons (pe_glob (v := .ref (ga K "InvalidMachine")) (by rfl) T.g_InvalidMachine rfl) pa_nil))) pa_nil))))))
    (pss_cons (ps_set (i := 1) sc_flags.nd rfl (Or.inl rfl) (by exact (pe_op op_cat (pv 1) (pe_lst (pa_cons (pe_callB (r := rIsV K [p]) call_isV (by rfl) T.n_isinstance (by decide +kernel) (pa_cons (pv 0) (pa_cons (pe_glob (v := .ref (ga K "InvalidBook")) (by rfl) T.g_InvalidBook rfl) pa_nil))) (pa_cons (pe_callB (r := rIsV K [p]) call_isV (by rfl) T.n_isinstance (by decide +kernel) (pa_cons (pv 0) (pa_cons (pe_glob (v := .ref (ga K "InvalidOperation")) (by rfl) T.g_InvalidOperation rfl) pa_nil))) (pa_cons (pe_callB (r := rIsV K [p]) call_isV (by rfl) T.n_isinstance (by decide +kernel) (pa_cons (pv 0) (pa_cons (pe_glob (v := .ref (ga K "InvalidEdit")) (by rfl) T.g_InvalidEdit rfl) pa_nil))) pa_nil)))))))
    (pss_cons (ps_set (i := 1) sc_flags.nd rfl (Or.inl rfl) (by exact (pe_op op_cat (pv 1) (pe_lst (pa_cons (pe_callB (r := rIsV K [p]) call_isV (by rfl) T.n_isinstance (by decide +kernel) (pa_cons (pv 0) (pa_cons (pe_glob (v := .ref (ga K "ParseError")) (by rfl) T.g_ParseError rfl) pa_nil))) (pa_cons (pe_callB (r := rIsV K [p]) call_isV (by rfl) T.n_isinstance (by decide +kernel) (pa_cons (pv 0) (pa_cons (pe_glob (v := .ref (ga K "InvalidCommand")) (by rfl) T.g_InvalidCommand rfl) pa_nil))) (pa_cons (pe_callB (r := rIsV K [p]) call_isV (by rfl) T.n_isinstance (by decide +kernel) (pa_cons (pv 0) (pa_cons (pe_glob (v := .ref (ga K "InvalidNumber")) (by rfl) T.g_InvalidNumber rfl) pa_nil))) pa_nil)))))))
    (pss_cons (ps_set (i := 1) sc_flags.nd rfl (Or.inl rfl) (by exact (pe_op op_cat (pv 1) (pe_lst (pa_cons (pe_callB (r := rIsV K [p]) call_isV (by rfl) T.n_isinstance (by decide +kernel) (pa_cons (pv 0) (pa_cons (pe_glob (v := .ref (ga K "UnknownName")) (by rfl) T.g_UnknownName rfl) pa_nil))) (pa_cons (pe_callB (r := rIsV K [p]) call_isV (by rfl) T.n_isinstance (by decide +kernel) (pa_cons (pv 0) (pa_cons (pe_glob (v := .ref (ga K "TooMany")) (by rfl) T.g_TooMany rfl) pa_nil))) (pa_cons (pe_callB (r := rIsV K [p]) call_isV (by rfl) T.n_isinstance (by decide +kernel) (pa_cons (pv 0) (pa_cons (pe_glob (v := .ref (ga K "NotSingle")) (by rfl) T.g_NotSingle rfl) pa_nil))) pa_nil)))))))
    (pss_one (ps_ret (by exact (pe_op op_cat (pv 1) (pe_lst (pa_cons (pe_callB (r := rIsV K [p]) call_isV (by rfl) T.n_isinstance (by decide +kernel) (pa_cons (pv 0) (pa_cons (pe_glob (v := .ref (ga K "NeedsMarks")) (by rfl) T.g_NeedsMarks rfl) pa_nil))) (pa_cons (pe_callB (r := rIsV K [p]) call_isV (by rfl) T.n_isinstance (by decide +kernel) (pa_cons (pv 0) (pa_cons (pe_glob (v := .ref (ga K "NothingToUndo")) (by rfl) T.g_NothingToUndo rfl) pa_nil))) pa_nil)))))))))))), ?_⟩), F.bindsN (fun _ _ _ _ _ _ us hl => match us, hl with | [_], _ => rfl)⟩
  · obtain ⟨a, x, rfl, _⟩ := h
    rfl
  · obtain ⟨a, x, rfl, hx, hI, k⟩ := h
    refine seq_set ?_
    refine lst_step (va_cons (is_val (y := "InvalidText") T hx hI (by rfl) (memb (by decide +kernel))) (va_cons (is_val (y := "InvalidRewriter") T hx hI (by rfl) (memb (by decide +kernel))) (va_cons (is_val (y := "InvalidMachine") T hx hI (by rfl) (memb (by decide +kernel))) va_nil))) (szd (by simp)) fun p0 H0 s0 n0 e0 => ?_
    have t0 : Same H H0 := s0
    refine seq_set ?_
    refine cat_step (fun _ q => ⟨_, rfl, q⟩) e0 (va_cons (is_val (y := "InvalidBook") T hx (hI.mono t0) (by rfl) (memb (by decide +kernel))) (va_cons (is_val (y := "InvalidOperation") T hx (hI.mono t0) (by rfl) (memb (by decide +kernel))) (va_cons (is_val (y := "InvalidEdit") T hx (hI.mono t0) (by rfl) (memb (by decide +kernel))) va_nil))) (by simp) fun p1 H1 s1 n1 e1 => ?_
    have t1 : Same H H1 := t0.trans s1
    refine seq_set ?_
    refine cat_step (fun _ q => ⟨_, rfl, q⟩) e1 (va_cons (is_val (y := "ParseError") T hx (hI.mono t1) (by rfl) (memb (by decide +kernel))) (va_cons (is_val (y := "InvalidCommand") T hx (hI.mono t1) (by rfl) (memb (by decide +kernel))) (va_cons (is_val (y := "InvalidNumber") T hx (hI.mono t1) (by rfl) (memb (by decide +kernel))) va_nil))) (by simp) fun p2 H2 s2 n2 e2 => ?_
    have t2 : Same H H2 := t1.trans s2
    refine seq_set ?_
    refine cat_step (fun _ q => ⟨_, rfl, q⟩) e2 (va_cons (is_val (y := "UnknownName") T hx (hI.mono t2) (by rfl) (memb (by decide +kernel))) (va_cons (is_val (y := "TooMany") T hx (hI.mono t2) (by rfl) (memb (by decide +kernel))) (va_cons (is_val (y := "NotSingle") T hx (hI.mono t2) (by rfl) (memb (by decide +kernel))) va_nil))) (by simp) fun p3 H3 s3 n3 e3 => ?_
    have t3 : Same H H3 := t2.trans s3
    refine one_ret ?_
    refine cat_step (fun _ q => ⟨_, rfl, q⟩) e3 (va_cons (is_val (y := "NeedsMarks") T hx (hI.mono t3) (by rfl) (memb (by decide +kernel))) (va_cons (is_val (y := "NothingToUndo") T hx (hI.mono t3) (by rfl) (memb (by decide +kernel))) va_nil)) (by simp) fun p4 H4 s4 n4 e4 => ?_
    exact k p4 H4 (t3.trans s4) (t3.free n4) e4
/-- try: call() / except MarkError as e: return _law_flags(e) / return [] -/
def TTk (K : PySem.W.Frag) : (XK → Hp → VK → Prop) → Hp → VK → Prop := fun tl H Q =>
  tl (fun cls d H' => ∃ x ∈ own8, cls = .ref (ga K x) ∧ d = none ∧ ∀ p H'', Same H' H'' → H' p = none → H'' p = some (.lst (flagsL x)) → Q (.ref p) H'') H fun _ H' => ([] : List V).length ≤ sizeLine ∧ ∀ l, H' l = none → Q (.ref l) (upd H' l (.lst []))
theorem taken_gives (T : Tx K mg) {X : Cx} {g : Addr} {cdg : Value} {q : Str} (hP : X.prog = P) (hw : X.w = w) (hK : X.K = K) (hmg : X.mg = mg) (hr : L2H.RoomH 2 X.A) : LamX.GivesTo X ["call", "e"] "_law_taken" (defScope s_taken) g cdg (defBody s_taken) "call" q (TTk K) := by
  subst hP hw hK hmg
  intro f c' s H Q tl act hc h
  obtain ⟨fdP, G_P, b_P⟩ := ok_flagsP (P := X.prog) (w := X.w) (base := X.base) T
  have kF : PySem.W.keepIn X.K (.ref (ga X.K "_law_flags")) = true := by
    obtain ⟨fd, F⟩ := T.fn_flags
    exact F.kp
  refine ⟨_, pss_cons (ps_try_as (X := (cxOf C8.CX0 X.prog X.w X.K X.mg X.base ["call", "e"] "_law_taken" (defScope s_taken) g cdg X.A X.stack s H C8.E0).nox) (c := .ref (ga X.K "MarkError")) (i := 1)
      (tb := fun W D σ H => ∃ Ech : XK, (∀ cls d σ' H', Ech cls d H' → W cls d σ' H') ∧ σ[0]? = some (some (.ref f)) ∧ H c' = some (LamX.CodeO c' q) ∧ tl Ech H (fun _ H1 => D.nx σ H1))
      (ts := fun a cls d D σ H => (1 < σ.length → σ[1]? = some (some (.ref a))) ∧ ∃ x ∈ own8, cls = .ref (ga X.K x) ∧ d = none ∧ ∀ p H', Same H H' → H p = none → H' p = some (.lst (flagsL x)) → D.rt (.ref p) H')
      rfl rfl sc_taken.nd rfl rfl ⟨rfl, by decide, .inl T.g_MarkError⟩ LamX.takes0 (fun W pn xe tk _ => ?_) (fun a oe cls d pn hz hd => ?_)) (pss_one (ps_ret (pe_lst pa_nil))), ?_⟩
  · refine ⟨fun pins s' σ H' D I h' => ?_⟩
    obtain ⟨Ech, hW, h1, h2, h3⟩ := h'
    exact PSs.run (pss_one (ps_expr (act W pn xe Ech _ _ tk hW))) pins s' σ H' D I ⟨h1, h2, h3⟩
  · refine ⟨fun pins s' σ H' D I h' => ?_⟩
    obtain ⟨h1, x, hx, e1, e2, k⟩ := h'
    obtain ⟨vs, hvs⟩ := hd
    have len : σ.length = 2 := I.len
    have rm : L2H.RoomH 1 (((cxOf C8.CX0 X.prog X.w X.K X.mg X.base ["call", "e"] "_law_taken" (defScope s_taken) g cdg X.A X.stack s H C8.E0).nox).suite a ((a, oe) :: pn)).A := by
      have z := hr.deeper (envOfC "_law_taken" (defScope s_taken) s.heap.objs.size g cdg)
      exact ⟨z.dp, z.un⟩
    refine PSs.run (pss_one (ps_ret (pe_callP (X := ((cxOf C8.CX0 X.prog X.w X.K X.mg X.base ["call", "e"] "_law_taken" (defScope s_taken) g cdg X.A X.stack s H C8.E0).nox).suite a ((a, oe) :: pn)) (p := (a, oe)) (E := E0) G_P rm (List.mem_cons_self ..) (by rfl) T.g_flags kF b_P pass0 (pa_cons (pv 1) pa_nil)))) pins s' σ H' D I ?_
    refine ⟨_, h1 (by omega), a, x, rfl, List.mem_cons_of_mem _ (List.mem_append_left _ hx), .inr (.inr ⟨oe, vs, List.mem_singleton.mpr rfl, ?_, hvs⟩), fun p H1 s1 n1 e => k p H1 s1 n1 e⟩
    rw [← e1, ← e2]
    exact hz
  · refine ⟨_, fun cls d σ' H' hE => ?_, rfl, hc, h⟩
    obtain ⟨x, hx, rfl, rfl, k⟩ := hE
    refine ⟨true, T.exm x hx, fun _ a ha => ⟨fun hl => ?_, x, hx, rfl, rfl, fun p H1 s1 n1 e => k p H1 s1 n1 e⟩, fun z => Bool.noConfusion z⟩
    rw [List.length_set] at hl
    simp [hl]
end
end K0
set_option maxHeartbeats 4000000
namespace K0
open PySem PySem.Spec PyProof.Rows L2 He Hx
section
variable {P : Program} {w : World} {K : PySem.W.Frag} {mg : Str → Option Value} {base : Heap}
def spRw (K : PySem.W.Frag) : Sp := fun vs H Q E => ∃ s v a b c, vs = [s, v, a, b, c] ∧ WordV K H v false ∧ ∀ H', Same H H' → E (.ref (ga K "InvalidRewriter")) none H'
theorem ok_rw (T : Tx K mg) : ∃ fd, FnOk P w K mg base (L2.CX P w) 3 (ma K (ga K "Rewriter") "__init__") fd ["self", "letters", "starts", "edges", "ends"] (spRw K) ∧ L2.Binds K fd ["self", "letters", "starts", "edges", "ends"] [] := by
  obtain ⟨g_areLetters, k_areLetters, fd_areLetters, G_areLetters, b_areLetters⟩ := ok_letters (P := P) (w := w) (base := base) T
  obtain ⟨fd, F⟩ := T.fn_rwInit
  refine ⟨fd, F.ok sc_rwInit (fun vs H Q E h => ?_) (fun cdv A outer s H vs Q E hr h => ⟨_,
    (pss_cons (ps_if (PW.pt (pw_or (pt_not (pt_val (pe_call G_areLetters (hr.mono (by decide)) (by rfl) g_areLetters k_areLetters b_areLetters .nil pass0 (pa_cons (pv 1) pa_nil)))) pw_never)) (pss_one (ps_raise rfl (takes_of rfl rfl rfl rfl) (pmk_own PySem.F.excBase_ValueError (T.e_InvalidRewriter).1 T.g_InvalidRewriter (T.e_InvalidRewriter).2.1 (raises_own (T.e_InvalidRewriter).2.2.1 (T.e_InvalidRewriter).2.2.2) (by rfl)))) pss_nil) pss_never), ?_⟩), F.bindsN (fun _ _ _ _ _ _ us hl => match us, hl with | [_, _, _, _, _], _ => rfl)⟩
  · obtain ⟨s, v, a, b, c, rfl, _⟩ := h
    rfl
  · obtain ⟨s, v, a, b, c, rfl, hw, k⟩ := h
    exact ⟨_, rfl, v, rfl, hw, fun H' s' => ⟨_, rfl, k H' s'⟩⟩
end
/-! ### what stays when only tables are written -/
theorem tyX_ext {K : PySem.W.Frag} {H H' : Hp} {v : V} {t : Value} (h : TyX K H v t) (s : LamX.ExtN H H') : TyX K H' v t := by
  cases h with
  | base h =>
    cases h with
    | non => exact .base .non
    | bl x => exact .base (.bl x)
    | int i => exact .base (.int i)
    | str x => exact .base (.str x)
    | flt x => exact .base (.flt x)
    | lst e => exact .base (.lst (s _ _ e fun _ z => nomatch z))
    | frz e => exact .base (.frz (s _ _ e fun _ z => nomatch z))
    | tup e => exact .base (.tup (s _ _ e fun _ z => nomatch z))
    | dK e => exact .base (.dK (s _ _ e fun _ z => nomatch z))
    | dT e => exact .base (.dT (s _ _ e fun _ z => nomatch z))
    | ins e a b c d f => exact .base (.ins (s _ _ e fun _ z => nomatch z) a b c d f)
  | byt b => exact .byt b
  | set e => exact .set (s _ _ e fun _ z => nomatch z)
  | kList e c => exact .kList e c
  | kTuple e c => exact .kTuple e c
  | kDict e c => exact .kDict e c
  | fTuple e => exact .fTuple (s _ _ e fun _ z => nomatch z)
  | fDict e => exact .fDict (s _ _ e fun _ z => nomatch z)
/-- neither a word nor a delay -/
def OddV (K : PySem.W.Frag) (H : Hp) (v : V) : Prop := WordV K H v false ∧ DlyV K H v
theorem OddV.ext {K : PySem.W.Frag} {H H' : Hp} {v : V} (h : OddV K H v) (s : LamX.ExtN H H') : OddV K H' v := by
  obtain ⟨h1, h2⟩ := h
  refine ⟨?_, ?_⟩
  · generalize hb : false = b at h1
    cases h1 with
    | str x hx => exact .str x hx
    | oth ht e => exact .oth (tyX_ext ht s) e
  · cases h2 with
    | oth ht e => exact .oth (tyX_ext ht s) e
    | nil e => exact .nil (s _ _ e fun _ z => nomatch z)
    | two e => exact .two (s _ _ e fun _ z => nomatch z)
def mOdd : List PyData := [.none, .tuple [], .dict [], .list [], .int 7, .bool true, .str "A", .str "a b", .str "1", .tuple [.str "ab", .str "ac"], .dict [(.str "a", .int 1)], .list [.str "", .str ""]]
theorem txt_odd {K : PySem.W.Frag} {H : Hp} {x : Str} (h : letB x = false) (hs : x.cps.size ≤ 1000) : OddV K H (.str x) := by
  refine ⟨?_, .oth (.base (.str _)) rfl⟩
  have q := WordV.str (K := K) (H := H) x hs
  rw [h] at q
  exact q
theorem odd_of {K : PySem.W.Frag} {H : Hp} {v : V} {d : PyData} (h : DR H v d) (m : d ∈ mOdd) : OddV K H v := by
  simp only [mOdd, List.mem_cons, List.not_mem_nil, or_false] at m
  rcases m with rfl | rfl | rfl | rfl | rfl | rfl | rfl | rfl | rfl | rfl | rfl | rfl
  · cases h
    exact ⟨.oth (.base .non) rfl, .oth (.base .non) rfl⟩
  · obtain ⟨a, xs, rfl, e, t⟩ := dr_tup h
    cases t
    exact ⟨.oth (.base (.tup e)) rfl, .nil e⟩
  · cases h with
    | d0 e => exact ⟨.oth (.base (.dK e)) rfl, .oth (.base (.dK e)) rfl⟩
  · obtain ⟨a, xs, rfl, e, t⟩ := dr_lst h
    exact ⟨.oth (.base (.lst e)) rfl, .oth (.base (.lst e)) rfl⟩
  · cases h
    exact ⟨.oth (.base (.int _)) rfl, .oth (.base (.int _)) rfl⟩
  · cases h
    exact ⟨.oth (.base (.bl _)) rfl, .oth (.base (.bl _)) rfl⟩
  · cases h
    exact txt_odd (by decide +kernel) (by decide +kernel)
  · cases h
    exact txt_odd (by decide +kernel) (by decide +kernel)
  · cases h
    exact txt_odd (by decide +kernel) (by decide +kernel)
  · obtain ⟨a, xs, rfl, e, t⟩ := dr_tup h
    obtain ⟨v1, v2, rfl, h1, h2⟩ := drs2 t
    cases h1
    cases h2
    exact ⟨.oth (.base (.tup e)) rfl, .two e⟩
  · cases h with
    | dk e _ => exact ⟨.oth (.base (.dK e)) rfl, .oth (.base (.dK e)) rfl⟩
  · obtain ⟨a, xs, rfl, e, t⟩ := dr_lst h
    exact ⟨.oth (.base (.lst e)) rfl, .oth (.base (.lst e)) rfl⟩
end K0
set_option maxHeartbeats 8000000
namespace L2
open PySem PySem.Spec PyProof.Rows
theorem fnG_at {P : Program} {w : World} {K : PySem.W.Frag} {mg : Str → Option Value} {base : Heap} {CX : CXT} {k : Nat} {x : Str} {f : Addr} {params : Arguments} {body : List Stmt} {scope : Scope} {fd : FuncData} {N ps : List Str} {sp : Sp} {cdv : Value}
    (F : FunD K x x params body scope [] [] f fd) (hc : fd.code = cdv) (S : FnScope N ps scope) (len : ∀ vs H Q E, sp vs H Q E → vs.length = ps.length)
    (hbody : ∀ (A : Around) (outer : List Env) (s : Shared) (H : Hp) (vs : List V) (Q : VK) (E : XK), A.guards = some [] → Room k (A.deeper (envOfC x scope s.heap.objs.size f cdv)) → sp vs H Q E →
      ∃ t, PSs (cxOf CX P w K mg base N x scope f cdv A outer s H E) body t ∧ t { nx := fun _ H' => Q .non H', rt := Q } (start N vs) H) : FnG P w K mg base CX (k + 1) f fd ps sp := by
  obtain ⟨oc, od, dV, kV, doc, pm, an, cdv', ct, osl, rfl, lk, hcd, _, _⟩ := F.ex
  have e : cdv' = cdv := hc
  subst e
  exact ⟨len, fun A outer s H args us vs Q E hg hr e0 hbd r h => LamX.run_ofS lk hcd S hr e0 hbd r (len _ _ _ _ h) fun hr' => hbody A outer s H vs Q E hg hr' h⟩
end L2
namespace K0
open PySem PySem.Spec PyProof.Rows L2 He Hx
theorem pick_at {K : PySem.W.Frag} {hs : List Addr} {te : TE} {σ : L2.St} {G : Hp} {ds : List PyData} {H1 : Hp} {Q : VK} {p : Addr} {b0 b1 b2 : Int} {E : XK} {j : Nat} (hσ : σ[j]? = some (some (.ref p))) (hp : p ∈ hs) (h : EvR hs te σ G (.list ds)) (hn : ds ≠ []) (hl : ds.length < 1000)
    (s : Same G (hidL hs H1)) (a : Alive hs H1) (hb : H1 p = some (bagO b0 b1 b2)) (q : ∀ v H2 c0 c1 c2 d, d ∈ ds → Same (hidL hs H1) (hidL hs H2) → (∀ b ∈ hs, b ≠ p → H2 b = H1 b) → H2 p = some (bagO c0 c1 c2) → DR (hidL hs H2) v d → Q v H2) :
    tCall (spPick K) [] E (tCons (tVar j) (tCons te tNil)) σ H1 Q := by
  refine ⟨_, hσ, ev_at h s a fun v H2 s2 e2 r2 => ?_⟩
  obtain ⟨l, xs, rfl, el, rx⟩ := dr_lst r2
  have hln := drs_len rx
  have hne : l ≠ p := fun z => by
    unfold hidL at el
    rw [z, if_pos hp] at el
    cases el
  refine ⟨p, l, xs, b0, b1, b2, rfl, (e2 p hp).trans hb, hne, SqL.of (hid_at el), fun z => hn ?_, by omega, fun i v c0 c1 c2 hj => ?_⟩
  · rw [z] at hln
    exact List.eq_nil_of_length_eq_zero hln.symm
  · obtain ⟨d, hd, rd⟩ := drs_at rx hj
    have hu : hidL hs (upd H2 p (bagO c0 c1 c2)) = hidL hs H2 := hid_upd hp
    refine q v _ c0 c1 c2 d (List.mem_of_getElem? hd) (by rw [hu]; exact s2) (fun b hb' hn' => ?_) upd_same (by rw [hu]; exact rd)
    rw [upd_ne hn']
    exact e2 b hb'
theorem same_of_hid {H H1 H5 : Hp} {p : Addr} (s : Same H H1) (hp : H p = none) (c : Same (hidL [p] H1) (hidL [p] H5)) : Same H H5 := fun b o e => by
  have n : b ∉ [p] := fun m => by
    rw [List.mem_singleton.mp m, hp] at e
    cases e
  exact hid_at (c _ _ (hid_of n (s _ _ e)))
theorem sqL_ext {K : PySem.W.Frag} {H H' : Hp} {a : Addr} {xs : List V} (h : SqL K H a xs) (s : LamX.ExtN H H') : SqL K H' a xs := by
  rcases h with (h | ⟨z, h⟩) | h
  · exact .inl (.inl (s _ _ h fun _ z => nomatch z))
  · exact .inl (.inr ⟨z, s _ _ h fun _ z => nomatch z⟩)
  · exact .inr h
theorem if_call {sp : Sp} {E : XK} {te : TE} {t v : TS} {D : Ends} {σ : L2.St} {H : Hp} (h : te σ H fun x H1 => sp [x] H1 (fun y H2 => ∃ d, y = .bl d ∧ if (!d) = true then t { D with nx := v D } σ H2 else v D σ H2) E) : tSeq (tIfS (tNot (tB (tCall sp [] E (tCons te tNil)))) t tNext) v D σ H := h
theorem lst1 {a : TE} {σ : L2.St} {H : Hp} {Q : VK} (h : a σ H fun v H1 => [v].length ≤ sizeLine ∧ ∀ l, H1 l = none → Q (.ref l) (upd H1 l (.lst [v]))) : tLst (tCons a tNil) σ H Q := h
theorem op2 {r : R2} {a b : TE} {σ : L2.St} {H : Hp} {Q : VK} (h : a σ H fun x H1 => b σ H1 fun y H2 => r x y H2 Q) : tOp r a b σ H Q := h
theorem lam_step {K : PySem.W.Frag} {TT : List (Addr × Str)} {tE : XK → TE} {x : Str} {σ : L2.St} {H : Hp} {Q : VK} (hx : x ∈ own8) (hT : LamX.Tabs TT H)
    (h : ∀ H1, LamX.ExtN H H1 → ∀ (E : XK) (Q' : VK), (∀ H2, Same H1 H2 → E (.ref (ga K x)) none H2) → tE E σ H1 Q')
    (k : ∀ r H2, LamX.ExtN H H2 → LamX.Tabs TT H2 → (∀ b xs, H b = some (.lst xs) → b ≠ r) → H2 r = some (.lst (flagsL x)) → Q (.ref r) H2) : LamX.tLam TT (TTk K) tE σ H Q :=
  ⟨hT, fun H1 e1 t1 => h H1 e1 _ _ fun H2 s2 => ⟨x, hx, rfl, rfl, fun r H3 s3 n3 e3 => k r H3 (e1.trans (LamX.ExtN.of (s2.trans s3))) (t1.ext (s2.trans s3)) (fun b xs hb z => by
    have q := s2 _ _ (e1 _ _ hb fun _ z => nomatch z)
    rw [z, n3] at q
    cases q) e3⟩⟩
theorem lam_none {K : PySem.W.Frag} {TT : List (Addr × Str)} {tE : XK → TE} {σ : L2.St} {H : Hp} {Q : VK} (hT : LamX.Tabs TT H)
    (h : ∀ H1 (E : XK) (Q' : VK), (∀ r H2, Same H1 H2 → Q' (.ref r) H2) → tE E σ H1 Q') (k : ∀ l H2, H2 l = some (.lst []) → Q (.ref l) H2) : LamX.tLam TT (TTk K) tE σ H Q :=
  ⟨hT, fun H1 e1 t1 => h H1 _ _ fun r H2 s2 => ⟨szd (by simp), fun l hl => k l _ upd_same⟩⟩
theorem tabs_lst {TT : List (Addr × Str)} {H : Hp} {l : Addr} {xs ys : List V} (h : LamX.Tabs TT H) (e : H l = some (.lst xs)) : LamX.Tabs TT (upd H l (.lst ys)) := fun p hp => by
  obtain ⟨ps, h1, h2, h3⟩ := h p hp
  refine ⟨ps, ?_, h2, fun pos cv hc => ?_⟩
  · rw [upd_ne fun z => by
      rw [z, e] at h1
      cases h1]
    exact h1
  · obtain ⟨c, e1, e2⟩ := h3 pos cv hc
    refine ⟨c, e1, ?_⟩
    rw [upd_ne fun z => by
      rw [z, e] at e2
      cases e2]
    exact e2
theorem extN_upd {G H : Hp} {l : Addr} {o : HO} (e : LamX.ExtN G H) (n : ∀ b u, G b = some u → (∀ ps, u ≠ .tbl ps) → b ≠ l) : LamX.ExtN G (upd H l o) := fun b u h hn => by
  rw [upd_ne (n b u h hn)]
  exact e b u h hn
theorem word_of {K : PySem.W.Frag} {H : Hp} {x : Str} (h : letB x = true) (hs : x.cps.size ≤ 1000) : WordV K H (.str x) true := by
  have q := WordV.str (K := K) (H := H) x hs
  rw [h] at q
  exact q
theorem wa {K : PySem.W.Frag} {H : Hp} : WordV K H (.str "a") true := word_of (by decide +kernel) (by decide +kernel)
theorem w0 {K : PySem.W.Frag} {H : Hp} : WordV K H (.str "") true := word_of (by decide +kernel) (by decide +kernel)
def dB (bs : List (List Bool)) : PyData := .list (bs.map fun b => .list (b.map PyData.bool))
theorem due_eq : [flagsB "InvalidText", flagsB "InvalidText", flagsB "InvalidRewriter", flagsB "InvalidOperation"] = [onlyB [0] 14, onlyB [0] 14, onlyB [1] 14, onlyB [4] 14] := by decide +kernel
theorem due_sh : SeqAt.shaped (dB [onlyB [0] 14, onlyB [0] 14, onlyB [1] 14, onlyB [4] 14]) = true := by decide +kernel
theorem due_eqv : PyData.eqv (dB [onlyB [0] 14, onlyB [0] 14, onlyB [1] 14, onlyB [4] 14]) (dB [onlyB [0] 14, onlyB [0] 14, onlyB [1] 14, onlyB [4] 14]) = true := SeqAt.eqv_refl _ (by decide +kernel)
theorem nil_sh : SeqAt.shaped (.list []) = true := by decide +kernel
theorem nil_eqv : PyData.eqv (.list []) (.list []) = true := SeqAt.eqv_refl _ (by decide +kernel)
def mTxt : List PyData := [.str "", .str "a word is expected", .str "no", .str "ab", .str " ", .str "1"]
def lamQ : Str := (envOfC "law" (defScope s_law) 0 0 .none).qual ++ "<lambda>"
section
variable {P : Program} {w : World} {K : PySem.W.Frag} {mg : Str → Option Value} {base : Heap} {cd Pt : Addr}
def spLaw (K : PySem.W.Frag) (Pt : Addr) : Sp := fun vs H Q _ => ∃ (a : Addr) (ns : List Int), vs = [.ref a] ∧ SqL K H a (ns.map V.int) ∧ ns.length ≤ 63 ∧ LamX.Tabs [(Pt, lamQ)] H ∧ ∀ H', Q (.bl true) H'
theorem ok_law (T : Tx K mg) (TB : LamX.TabB base mg cd Pt) {fd : FuncData} (F : FunD K "law" "law" (defArgs s_law) (defBody s_law) (defScope s_law) [] [] (ga K "law") fd) (hc : fd.code = .ref cd) : FnG P w K mg base CX0 9 (ga K "law") fd ["script"] (spLaw K Pt) := by
  obtain ⟨g_start, k_start, fd_start, G_start, b_start⟩ := ok_start (P := P) (w := w) (base := base) T
  obtain ⟨g_pick, k_pick, fd_pick, G_pick, b_pick⟩ := ok_pick (P := P) (w := w) (base := base) T
  obtain ⟨g_mess, k_mess, fd_mess, G_mess, b_mess⟩ := ok_mess (P := P) (w := w) (base := base) T
  obtain ⟨g_values, k_values, fd_values, G_values, b_values⟩ := ok_vals (P := P) (w := w) (base := base) T
  obtain ⟨g_only, k_only, fd_only, G_only, b_only⟩ := ok_only (P := P) (w := w) (base := base) T
  obtain ⟨g_delay, k_delay, fd_delay, G_delay, b_delay⟩ := ok_delay (P := P) (w := w) (base := base) T
  obtain ⟨g_ledOn, k_ledOn, fd_ledOn, G_ledOn, b_ledOn⟩ := ok_ledOn (P := P) (w := w) (base := base) T
  obtain ⟨fd_rw, G_rw, b_rw⟩ := ok_rw (P := P) (w := w) (base := base) T
  have M_rw : Mk K (ga K "Rewriter") (ma K (ga K "Rewriter") "__init__") := mkr_ok (ba (T.c.fact 10 (f := ckRw) rfl)).2
  obtain ⟨fd_t, F_t⟩ := T.fn_taken
  have k_taken : PySem.W.keepIn K (.ref (ga K "_law_taken")) = true := F_t.kp
  have b_t : L2.Binds K fd_t ["call"] [] := F_t.bindsN (fun _ _ _ _ _ _ us hl => match us, hl with | [_], _ => rfl)
  obtain ⟨oc_t, od_t, dV_t, kV_t, doc_t, pm_t, an_t, cdv_t, ct_t, osl_t, e_t, lk_t, hcd_t, _, _⟩ := F_t.ex
  subst e_t
  refine fnG_at F hc sc_law (fun vs H Q E h => ?_) (fun A outer s H vs Q E hg hr h => ?_)
  · obtain ⟨a, ns, rfl, _⟩ := h
    rfl
  have rm : L2H.RoomH 2 (A.deeper (envOfC "law" (defScope s_law) s.heap.objs.size (ga K "law") (.ref cd))) := L2H.roomH_of (hr.mono (by decide))
  refine ⟨_, PSs.nox (
    (pss_cons (ps_for PassesOwn.never rfl (pi_range1 (by rfl) T.n_range (pa_cons (pe_callB (call_max2 rfl) (by rfl) T.n_max (by decide +kernel) (pa_cons pe_int (pa_cons (pe_callB (call_min2 rfl) (by rfl) T.n_min (by decide +kernel) (pa_cons pe_int (pa_cons (pe_callB (r := rLen K) call_len (by rfl) T.n_len (by decide +kernel) (pa_cons (pv 0) pa_nil)) pa_nil))) pa_nil))) pa_nil)) (pg_name (i := 1) sc_law.nd rfl (Or.inl rfl)) (pss_cons (ps_set (i := 2) sc_law.nd rfl (Or.inl rfl) (by exact (pe_call G_start (hr.mono (by decide)) (by rfl) g_start k_start b_start .nil pass0 (pa_cons (pv 0) (pa_cons (pv 1) pa_nil)))))
    (pss_cons (ps_if (pt_not (pt_val (pe_call G_mess (hr.mono (by decide)) (by rfl) g_mess k_mess b_mess .nil pass0 (pa_cons (pe_call G_pick (hr.mono (by decide)) (by rfl) g_pick k_pick b_pick .nil pass0 (pa_cons (pv 2) (pa_cons (pe_lst (pa_cons pe_str (pa_cons pe_str (pa_cons pe_str (pa_cons pe_str (pa_cons pe_str (pa_cons pe_str pa_nil))))))) pa_nil))) pa_nil)))) (pss_one (ps_ret (by exact pe_bl))) pss_nil)
    (pss_cons (ps_set (i := 3) sc_law.nd rfl (Or.inr rfl) (by exact (pe_call G_pick (hr.mono (by decide)) (by rfl) g_pick k_pick b_pick .nil pass0 (pa_cons (pv 2) (pa_cons (pe_lst (pa_cons pe_non (pa_cons (pe_tup pa_nil) (pa_cons pe_dnewK (pa_cons (pe_lst pa_nil) (pa_cons pe_int (pa_cons pe_bl (pa_cons pe_str (pa_cons pe_str (pa_cons pe_str (pa_cons (pe_tup (pa_cons pe_str (pa_cons pe_str pa_nil))) (pa_cons (pe_disp (pps_cons pe_str pe_int pps_nil) rfl rfl (by simp) (by decide)) (pa_cons (pe_lst (pa_cons pe_str (pa_cons pe_str pa_nil))) pa_nil))))))))))))) pa_nil)))))
    (pss_cons (ps_if (pt_not (pt_val (pe_callG G_values hg (hr.mono (by decide)) (by rfl) g_values k_values b_values pass0 (pa_cons (pv 2) pa_nil)))) (pss_one (ps_ret (by exact pe_bl))) pss_nil)
    (pss_cons (ps_set (i := 4) sc_law.nd rfl (Or.inl rfl) (by exact (pe_lst (pa_cons (LamX.pe_lamcall (T := [(Pt, lamQ)]) (TT := TTk K) (Ng := ["call", "e"]) (a := "call") (k := 5) (by rfl) T.g_taken k_taken lk_t hcd_t b_t sc_taken rfl (Or.inl rfl) (taken_gives T rfl rfl rfl rfl rm) TB rfl (List.mem_singleton.mpr rfl) (fun p hp _ => by rw [List.mem_singleton.mp hp] <;> rfl) (hr.mono (by decide)) (LamX.lamS_by (sc := defScope s_law) (by decide +kernel)) rfl (fun _ _ _ _ _ => rfl) (fun A outer s H E f c' hr2 => (pe_call G_delay (hr2.mono (by decide)) (by rfl) g_delay k_delay b_delay .nil (passes_call (takes_of rfl rfl rfl rfl) (fun _ _ _ _ h => h)) (pa_cons (pv 3) (pa_cons pe_str pa_nil))))) pa_nil))))
    (pss_cons (ps_expr (pe_bm PySem.F.plainAttrs_list PySem.F.slot_list_append PySem.F.type_list_append mt_append (pv 4) (pa_cons (LamX.pe_lamcall (T := [(Pt, lamQ)]) (TT := TTk K) (Ng := ["call", "e"]) (a := "call") (k := 5) (by rfl) T.g_taken k_taken lk_t hcd_t b_t sc_taken rfl (Or.inl rfl) (taken_gives T rfl rfl rfl rfl rm) TB rfl (List.mem_singleton.mpr rfl) (fun p hp _ => by rw [List.mem_singleton.mp hp] <;> rfl) (hr.mono (by decide)) (LamX.lamS_by (sc := defScope s_law) (by decide +kernel)) rfl (fun _ _ _ _ _ => rfl) (fun A outer s H E f c' hr2 => (pe_call G_delay (hr2.mono (by decide)) (by rfl) g_delay k_delay b_delay .nil (passes_call (takes_of rfl rfl rfl rfl) (fun _ _ _ _ h => h)) (pa_cons pe_str (pa_cons (pv 3) pa_nil))))) pa_nil)))
    (pss_cons (ps_expr (pe_bm PySem.F.plainAttrs_list PySem.F.slot_list_append PySem.F.type_list_append mt_append (pv 4) (pa_cons (LamX.pe_lamcall (T := [(Pt, lamQ)]) (TT := TTk K) (Ng := ["call", "e"]) (a := "call") (k := 5) (by rfl) T.g_taken k_taken lk_t hcd_t b_t sc_taken rfl (Or.inl rfl) (taken_gives T rfl rfl rfl rfl rm) TB rfl (List.mem_singleton.mpr rfl) (fun p hp _ => by rw [List.mem_singleton.mp hp] <;> rfl) (hr.mono (by decide)) (LamX.lamS_by (sc := defScope s_law) (by decide +kernel)) rfl (fun _ _ _ _ _ => rfl) (fun A outer s H E f c' hr2 => (pe_make M_rw G_rw (hr2.mono (by decide)) (by rfl) T.g_Rewriter b_rw .nil (passes_call (takes_of rfl rfl rfl rfl) (fun _ _ _ _ h => h)) (pa_cons (pv 3) (pa_cons pe_dnewK (pa_cons (pe_tup pa_nil) (pa_cons pe_dnewK pa_nil))))))) pa_nil)))
    (pss_cons (ps_expr (pe_bm PySem.F.plainAttrs_list PySem.F.slot_list_append PySem.F.type_list_append mt_append (pv 4) (pa_cons (LamX.pe_lamcall (T := [(Pt, lamQ)]) (TT := TTk K) (Ng := ["call", "e"]) (a := "call") (k := 5) (by rfl) T.g_taken k_taken lk_t hcd_t b_t sc_taken rfl (Or.inl rfl) (taken_gives T rfl rfl rfl rfl rm) TB rfl (List.mem_singleton.mpr rfl) (fun p hp _ => by rw [List.mem_singleton.mp hp] <;> rfl) (hr.mono (by decide)) (LamX.lamS_by (sc := defScope s_law) (by decide +kernel)) rfl (fun _ _ _ _ _ => rfl) (fun A outer s H E f c' hr2 => (pe_call G_ledOn (hr2.mono (by decide)) (by rfl) g_ledOn k_ledOn b_ledOn .nil (passes_call (takes_of rfl rfl rfl rfl) (fun _ _ _ _ h => h)) (pa_cons (pv 3) (pa_cons pe_str (pa_cons pe_str pa_nil)))))) pa_nil)))
    (pss_cons (ps_set (i := 5) sc_law.nd rfl (Or.inl rfl) (by exact (pe_op op_cat (pe_op op_rep (pe_lst (pa_cons (pe_call G_only (hr.mono (by decide)) (by rfl) g_only k_only b_only .nil pass0 (pa_cons (pe_tup (pa_cons pe_int pa_nil)) (pa_cons pe_int pa_nil))) pa_nil)) pe_int) (pe_lst (pa_cons (pe_call G_only (hr.mono (by decide)) (by rfl) g_only k_only b_only .nil pass0 (pa_cons (pe_tup (pa_cons pe_int pa_nil)) (pa_cons pe_int pa_nil))) (pa_cons (pe_call G_only (hr.mono (by decide)) (by rfl) g_only k_only b_only .nil pass0 (pa_cons (pe_tup (pa_cons pe_int pa_nil)) (pa_cons pe_int pa_nil))) pa_nil))))))
    (pss_one (ps_if (pt_cmpR (r := rNeD K) (op_neD hr.units) (pv 4) (pv 5) (nomark _)) (pss_one (ps_ret (by exact pe_bl))) pss_nil))))))))))))
    (pss_one (ps_ret (by exact (pe_and (pe_cmpR (r := rEqD K) (op_eqD hr.units) (LamX.pe_lamcall (T := [(Pt, lamQ)]) (TT := TTk K) (Ng := ["call", "e"]) (a := "call") (k := 5) (by rfl) T.g_taken k_taken lk_t hcd_t b_t sc_taken rfl (Or.inl rfl) (taken_gives T rfl rfl rfl rfl rm) TB rfl (List.mem_singleton.mpr rfl) (fun p hp _ => by rw [List.mem_singleton.mp hp] <;> rfl) (hr.mono (by decide)) (LamX.lamS_by (sc := defScope s_law) (by decide +kernel)) rfl (fun _ _ _ _ _ => rfl) (fun A outer s H E f c' hr2 => (pe_call G_delay (hr2.mono (by decide)) (by rfl) g_delay k_delay b_delay .nil (passes_call (takes_of rfl rfl rfl rfl) (fun _ _ _ _ h => h)) (pa_cons pe_str (pa_cons pe_str pa_nil))))) (pe_lst pa_nil) (nomark _)) (pe_one (pe_cmpR op_eq (pe_exF (pe_excI T.i_many PySem.XT.nt_many T.g_NothingToUndo hr (pa_cons (pe_op op_pow pe_int pe_int) pa_nil) (by rfl))) (pe_op op_pow pe_int pe_int) (nomark _))))))))), ?_⟩
  obtain ⟨a, ns, rfl, hS, hn, hT, k⟩ := h
  refine ⟨_, rfl, _, (ns.map V.int).length, rfl, .inl ⟨_, hS, rfl⟩, 8, (((ns.map V.int).length : Nat) : Int), rfl, 1, _, rfl, _, rfl, ?_, ?_, ?_⟩
  · split <;> split <;> omega
  · rw [List.length_map]
    split <;> split <;> omega
  have hj : ∀ m : Int, (if (if ((((ns.map V.int).length : Nat) : Int)) < 8 then ((((ns.map V.int).length : Nat) : Int)) else 8) > 1 then (if ((((ns.map V.int).length : Nat) : Int)) < 8 then ((((ns.map V.int).length : Nat) : Int)) else 8) else 1) = m → m ≤ 8 := fun m e => by
    rw [← e]
    split <;> split <;> omega
  generalize hm : (if (if ((((ns.map V.int).length : Nat) : Int)) < 8 then ((((ns.map V.int).length : Nat) : Int)) else 8) > 1 then (if ((((ns.map V.int).length : Nat) : Int)) < 8 then ((((ns.map V.int).length : Nat) : Int)) else 8) else 1) = j
  have hj8 := hj j hm
  refine for_it walk_range (fun i σ H' => SqL K H' a (ns.map V.int) ∧ LamX.Tabs [(Pt, lamQ)] H' ∧ ∃ v1 v2 v3 v4 v5, σ = [some (.ref a), v1, v2, v3, v4, v5]) ⟨hS, hT, _, _, _, _, _, rfl⟩ (fun _ _ _ _ _ => True.intro) ?_ ?_
  · rintro i x σ H0 H0' hi ⟨hS0, hT0, v1, v2, v3, v4, v5, rfl⟩ y
    obtain ⟨rfl, rfl⟩ := y
    have e0 : (0 : Int) + (i : Nat) = (i : Nat) := Int.zero_add _
    show gName 1 (V.int ((0 : Int) + ((i : Nat) : Int))) _ _ _
    rw [e0]
    have al : ∀ {H' : Hp} {p : Addr} {c0 c1 c2 : Int}, H' p = some (bagO c0 c1 c2) → Alive [p] H' := fun {H' p c0 c1 c2} e b m => by
      rw [List.mem_singleton.mp m, e]
      simp
    -- bag
    refine seq_set ?_
    refine ⟨_, rfl, _, rfl, a, ns, i, rfl, hS0, by omega, by omega, fun p b0 b1 b2 hp => ?_⟩
    have s1 := (Same.refl H0').new (o := bagO b0 b1 b2) hp
    have hb1 : (upd H0' p (bagO b0 b1 b2)) p = some (bagO b0 b1 b2) := upd_same
    generalize upd H0' p (bagO b0 b1 b2) = H1 at *
    -- messages
    refine if_call ?_
    refine pick_at (G := hidL [p] H1) (hs := [p]) (ds := mTxt) rfl (List.mem_singleton.mpr rfl) (evr_lst (evrs_cons evr_str (evrs_cons evr_str (evrs_cons evr_str (evrs_cons evr_str (evrs_cons evr_str (evrs_cons evr_str evrs_nil)))))) (by decide)) (by simp [mTxt]) (by decide) (Same.refl _) (al hb1) hb1 fun vm H2 c0 c1 c2 dm mm s2 _ hb2 _ => ?_
    refine ⟨vm, rfl, fun H3 s3 => ⟨true, rfl, ifF rfl ?_⟩⟩
    have hb3 := s3 _ _ hb2
    -- odd
    refine seq_set ?_
    refine pick_at (G := hidL [p] H3) (hs := [p]) (ds := mOdd) rfl (List.mem_singleton.mpr rfl) (evr_lst (evrs_cons evr_non (evrs_cons (evr_tup evrs_nil (by decide)) (evrs_cons evr_d0 (evrs_cons (evr_lst evrs_nil (by decide)) (evrs_cons evr_int (evrs_cons evr_bl (evrs_cons evr_str (evrs_cons evr_str (evrs_cons evr_str (evrs_cons (evr_tup (evrs_cons evr_str (evrs_cons evr_str evrs_nil)) (by decide)) (evrs_cons evr_dk (evrs_cons (evr_lst (evrs_cons evr_str (evrs_cons evr_str evrs_nil)) (by decide)) evrs_nil)))))))))))) (by decide)) (by simp [mOdd]) (by decide) (Same.refl _) (al hb3) hb3 fun vo H4 c3 c4 c5 dd md s4 _ hb4 r4 => ?_
    -- values
    refine if_call ?_
    refine ⟨_, rfl, p, _, _, _, rfl, hb4, fun H5 c6 c7 c8 s5 hb5 => ⟨true, rfl, ifF rfl ?_⟩⟩
    have odd5 : OddV K H5 vo := odd_of (DR.mono hid_full _ _ (DR.mono s5 _ _ r4)) md
    have s05 : Same H0' H5 := same_of_hid s1 hp (s2.trans ((hid_mono s3).trans (s4.trans s5)))
    have hS5 : SqL K H5 a (ns.map V.int) := sqL_ext hS0 (LamX.ExtN.of s05)
    have hT5 : LamX.Tabs [(Pt, lamQ)] H5 := hT0.ext s05
    -- found
    refine seq_set ?_
    refine lst1 ?_
    refine lam_step (x := "InvalidText") (memb (by decide +kernel)) hT5 (fun G e1 E Q' kE => ⟨_, rfl, vo, .str "a", false, true, rfl, (odd5.ext e1).1, wa, fun _ G' s' => kE G' s', fun z => Bool.noConfusion z⟩) fun r1 H6 e6 hT6 _ q1 => ?_
    refine ⟨szd (by simp), fun l hl => ?_⟩
    have n1l : r1 ≠ l := ne_of_none q1 hl
    have lfree : ∀ b u, H5 b = some u → (∀ ps, u ≠ .tbl ps) → b ≠ l := fun b u h hn => ne_of_none (e6 _ _ h hn) hl
    have e7 : LamX.ExtN H5 (upd H6 l (.lst [.ref r1])) := extN_upd e6 lfree
    have hT7 : LamX.Tabs [(Pt, lamQ)] (upd H6 l (.lst [.ref r1])) := hT6.ext ((Same.refl H6).new hl)
    have a7 : (upd H6 l (.lst [.ref r1])) r1 = some (.lst (flagsL "InvalidText")) := by rw [upd_ne n1l]; exact q1
    have l7 : (upd H6 l (.lst [.ref r1])) l = some (.lst [.ref r1]) := upd_same
    generalize upd H6 l (.lst [.ref r1]) = H7 at *
    -- found.append: the second
    refine seq_drop ?_
    refine ⟨_, rfl, .inl ⟨rfl, _, SqL.of l7⟩, ?_⟩
    refine one_arg ?_
    refine lam_step (x := "InvalidText") (memb (by decide +kernel)) hT7 (fun G e1 E Q' kE => ⟨_, rfl, .str "a", vo, true, false, rfl, wa, (odd5.ext (e7.trans e1)).1, fun _ G' s' => kE G' s', fun _ z => Bool.noConfusion z⟩) fun r2 H8 e8 hT8 f8 q2 => ?_
    have l8 := e8 _ _ l7 fun _ z => nomatch z
    have n2l : r2 ≠ l := (f8 _ _ l7).symm
    refine app_at l8 (by simp) ?_
    have e9 : LamX.ExtN H5 (upd H8 l (.lst ([.ref r1] ++ [.ref r2]))) := extN_upd (e7.trans e8) lfree
    have hT9 : LamX.Tabs [(Pt, lamQ)] (upd H8 l (.lst ([.ref r1] ++ [.ref r2]))) := tabs_lst hT8 l8
    have a9 : (upd H8 l (.lst ([.ref r1] ++ [.ref r2]))) r1 = some (.lst (flagsL "InvalidText")) := by rw [upd_ne n1l]; exact e8 _ _ a7 fun _ z => nomatch z
    have b9 : (upd H8 l (.lst ([.ref r1] ++ [.ref r2]))) r2 = some (.lst (flagsL "InvalidText")) := by rw [upd_ne n2l]; exact q2
    have l9 : (upd H8 l (.lst ([.ref r1] ++ [.ref r2]))) l = some (.lst [.ref r1, .ref r2]) := upd_same
    generalize upd H8 l (.lst ([.ref r1] ++ [.ref r2])) = H9 at *
    -- the third
    refine seq_drop ?_
    refine ⟨_, rfl, .inl ⟨rfl, _, SqL.of l9⟩, ?_⟩
    refine one_arg ?_
    refine lam_step (x := "InvalidRewriter") (memb (by decide +kernel)) hT9 (fun G e1 E Q' kE => ⟨_, rfl, fun g1 hg1 => ⟨szd (by simp), fun g2 hg2 => fun g3 hg3 => fun x dx hx hdx hne => ?_⟩⟩) fun r3 Ha ea hTa fa q3 => ?_
    · have y1 := (Same.refl G).new (o := .dK []) hg1
      have y2 := (Same.refl _).new (o := .tup []) hg2
      have y3 := (Same.refl _).new (o := .dK []) hg3
      have y4 := (Same.refl _).new (o := .own x) hdx
      have hx' : (upd (upd (upd (upd G g1 (.dK [])) g2 (.tup [])) g3 (.dK [])) dx (.own x)) x = none := by
        rw [upd_ne (Ne.symm hne)]
        exact hx
      have y5 := (Same.refl _).new (o := .ins (ga K "Rewriter") dx []) hx'
      have yy := y1.trans (y2.trans (y3.trans (y4.trans y5)))
      exact ⟨_, vo, _, _, _, rfl, (odd5.ext ((e9.trans e1).trans (LamX.ExtN.of yy))).1, fun G' s' => kE G' (yy.trans s')⟩
    have la := ea _ _ l9 fun _ z => nomatch z
    have n3l : r3 ≠ l := (fa _ _ l9).symm
    refine app_at la (by simp) ?_
    have eb : LamX.ExtN H5 (upd Ha l (.lst ([.ref r1, .ref r2] ++ [.ref r3]))) := extN_upd (e9.trans ea) lfree
    have hTb : LamX.Tabs [(Pt, lamQ)] (upd Ha l (.lst ([.ref r1, .ref r2] ++ [.ref r3]))) := tabs_lst hTa la
    have ab : (upd Ha l (.lst ([.ref r1, .ref r2] ++ [.ref r3]))) r1 = some (.lst (flagsL "InvalidText")) := by rw [upd_ne n1l]; exact ea _ _ a9 fun _ z => nomatch z
    have bb : (upd Ha l (.lst ([.ref r1, .ref r2] ++ [.ref r3]))) r2 = some (.lst (flagsL "InvalidText")) := by rw [upd_ne n2l]; exact ea _ _ b9 fun _ z => nomatch z
    have cb : (upd Ha l (.lst ([.ref r1, .ref r2] ++ [.ref r3]))) r3 = some (.lst (flagsL "InvalidRewriter")) := by rw [upd_ne n3l]; exact q3
    have lb : (upd Ha l (.lst ([.ref r1, .ref r2] ++ [.ref r3]))) l = some (.lst [.ref r1, .ref r2, .ref r3]) := upd_same
    generalize upd Ha l (.lst ([.ref r1, .ref r2] ++ [.ref r3])) = Hb at *
    -- the fourth
    refine seq_drop ?_
    refine ⟨_, rfl, .inl ⟨rfl, _, SqL.of lb⟩, ?_⟩
    refine one_arg ?_
    refine lam_step (x := "InvalidOperation") (memb (by decide +kernel)) hTb (fun G e1 E Q' kE => ⟨_, rfl, vo, _, _, rfl, (odd5.ext (eb.trans e1)).2, fun G' s' => kE G' s'⟩) fun r4' Hc ec hTc fc q4 => ?_
    have lc := ec _ _ lb fun _ z => nomatch z
    have n4l : r4' ≠ l := (fc _ _ lb).symm
    refine app_at lc (by simp) ?_
    have ed : LamX.ExtN H5 (upd Hc l (.lst ([.ref r1, .ref r2, .ref r3] ++ [.ref r4']))) := extN_upd (eb.trans ec) lfree
    have hTd : LamX.Tabs [(Pt, lamQ)] (upd Hc l (.lst ([.ref r1, .ref r2, .ref r3] ++ [.ref r4']))) := tabs_lst hTc lc
    have ad : (upd Hc l (.lst ([.ref r1, .ref r2, .ref r3] ++ [.ref r4']))) r1 = some (.lst (flagsL "InvalidText")) := by rw [upd_ne n1l]; exact ec _ _ ab fun _ z => nomatch z
    have bd : (upd Hc l (.lst ([.ref r1, .ref r2, .ref r3] ++ [.ref r4']))) r2 = some (.lst (flagsL "InvalidText")) := by rw [upd_ne n2l]; exact ec _ _ bb fun _ z => nomatch z
    have cd' : (upd Hc l (.lst ([.ref r1, .ref r2, .ref r3] ++ [.ref r4']))) r3 = some (.lst (flagsL "InvalidRewriter")) := by rw [upd_ne n3l]; exact ec _ _ cb fun _ z => nomatch z
    have dd' : (upd Hc l (.lst ([.ref r1, .ref r2, .ref r3] ++ [.ref r4']))) r4' = some (.lst (flagsL "InvalidOperation")) := by rw [upd_ne n4l]; exact q4
    have ld : (upd Hc l (.lst ([.ref r1, .ref r2, .ref r3] ++ [.ref r4']))) l = some (.lst [.ref r1, .ref r2, .ref r3, .ref r4']) := upd_same
    generalize upd Hc l (.lst ([.ref r1, .ref r2, .ref r3] ++ [.ref r4'])) = Hd at *
    have hSd : SqL K Hd a (ns.map V.int) := sqL_ext hS5 ed
    -- due
    refine seq_set ?_
    refine op2 ?_
    refine op2 ?_
    refine lst1 ?_
    refine ⟨szd (by simp), fun t0 ht0 => ⟨t0, [0], 14, rfl, SqT.of upd_same, by decide, fun u0 hu0 => ⟨szd (by simp), fun l1 hl1 => ⟨l1, 2, [.ref u0], rfl, rfl, upd_same, by decide, by decide, szd (by simp), fun l2 hl2 => ?_⟩⟩⟩⟩
    have y1 := (Same.refl Hd).new (o := .tup [.int 0]) ht0
    have y2 := (Same.refl _).new (o := .lst (onlyL [0] 14)) hu0
    have y3 := (Same.refl _).new (o := .lst [.ref u0]) hl1
    have y4 := (Same.refl _).new (o := .lst (List.replicate (2 : Int).toNat [V.ref u0]).flatten) hl2
    have u0' := (y3.trans y4) _ _ (upd_same (a := u0))
    have l2' : (upd (upd (upd (upd Hd t0 (.tup [.int 0])) u0 (.lst (onlyL [0] 14))) l1 (.lst [.ref u0])) l2 (.lst (List.replicate (2 : Int).toNat [V.ref u0]).flatten)) l2 = some (.lst [.ref u0, .ref u0]) := upd_same
    have yA := y1.trans (y2.trans (y3.trans y4))
    generalize upd (upd (upd (upd Hd t0 (.tup [.int 0])) u0 (.lst (onlyL [0] 14))) l1 (.lst [.ref u0])) l2 (.lst (List.replicate (2 : Int).toNat [V.ref u0]).flatten) = He at *
    refine lst2 ?_
    refine ⟨szd (by simp), fun t1 ht1 => ⟨t1, [1], 14, rfl, SqT.of upd_same, by decide, fun u1 hu1 => ?_⟩⟩
    refine ⟨szd (by simp), fun t4 ht4 => ⟨t4, [4], 14, rfl, SqT.of upd_same, by decide, fun u4 hu4 => ⟨szd (by simp), fun l3 hl3 => ?_⟩⟩⟩
    have z1 := (Same.refl He).new (o := .tup [.int 1]) ht1
    have z2 := (Same.refl _).new (o := .lst (onlyL [1] 14)) hu1
    have z3 := (Same.refl _).new (o := .tup [.int 4]) ht4
    have z4 := (Same.refl _).new (o := .lst (onlyL [4] 14)) hu4
    have z5 := (Same.refl _).new (o := .lst [.ref u1, .ref u4]) hl3
    have zA := z1.trans (z2.trans (z3.trans (z4.trans z5)))
    have u1' := (z3.trans (z4.trans z5)) _ _ (upd_same (a := u1))
    have u4' := z5 _ _ (upd_same (a := u4))
    refine ⟨l2, l3, [.ref u0, .ref u0], [.ref u1, .ref u4], rfl, rfl, zA _ _ l2', upd_same, szd (by simp), fun dl hdl => ?_⟩
    have z6 := (Same.refl _).new (o := .lst ([.ref u0, .ref u0] ++ [.ref u1, .ref u4])) hdl
    have yz := yA.trans (zA.trans z6)
    -- found != due
    have LB : ∀ {G : Hp} {r : Addr} {bs : List Bool}, G r = some (.lst (bs.map V.bl)) → Dp K G (.ref r) (.list (bs.map PyData.bool)) := fun h => dp_bools h
    refine ⟨_, rfl, _, rfl, dB [flagsB "InvalidText", flagsB "InvalidText", flagsB "InvalidRewriter", flagsB "InvalidOperation"], dB [onlyB [0] 14, onlyB [0] 14, onlyB [1] 14, onlyB [4] 14], .lst (SqL.of (yz _ _ ld)) ?_, .lst (SqL.of upd_same) ?_, by rw [due_eq]; exact due_sh, due_sh, ?_⟩
    · exact .cons (LB (yz _ _ (by rw [← flagsL_eq]; exact ad))) (.cons (LB (yz _ _ (by rw [← flagsL_eq]; exact bd))) (.cons (LB (yz _ _ (by rw [← flagsL_eq]; exact cd'))) (.cons (LB (yz _ _ (by rw [← flagsL_eq]; exact dd'))) .nil)))
    · have w0' := (zA.trans z6) _ _ u0'
      have w1' := z6 _ _ u1'
      have w4' := z6 _ _ u4'
      exact .cons (LB (by rw [← onlyL_eq]; exact w0')) (.cons (LB (by rw [← onlyL_eq]; exact w0')) (.cons (LB (by rw [← onlyL_eq]; exact w1')) (.cons (LB (by rw [← onlyL_eq]; exact w4')) .nil)))
    rw [due_eq, due_eqv]
    exact ⟨false, rfl, sqL_ext hSd (LamX.ExtN.of yz), hTd.ext yz, _, _, _, _, _, rfl⟩
  · rintro σ H0 ⟨hS0, hT0, v1, v2, v3, v4, v5, rfl⟩
    dsimp only
    refine one_ret ?_
    refine op2 ?_
    refine lam_none hT0 (fun G E Q' kE => ⟨.str "", .str "", true, true, rfl, w0, w0, fun z => by simp at z, fun _ _ => ⟨rfl, rfl, fun r G' s' _ => kE r G' s'⟩⟩) fun l H1 h1 => ?_
    refine ⟨szd (by simp), fun l2 hl2 => ⟨.list [], .list [], .lst (SqL.of (((Same.refl H1).new hl2) _ _ h1)) .nil, .lst (SqL.of upd_same) .nil, nil_sh, nil_sh, ?_⟩⟩
    rw [nil_eqv]
    refine ⟨true, rfl, ?_⟩
    have cl := T.i_many
    refine ⟨10, 39, rfl, rfl, ⟨by decide, by decide, by decide⟩, _, rfl, fun x y hx hy n => ⟨x, ga K "NothingToUndo", y, .int (10 ^ (39 : Int).toNat), _, rfl, upd_same, (by rw [upd_ne n]; exact upd_same), by simp [List.lookup], ⟨cl.ga, cl.gg, cl.exC, cl.hdC, cl.noN⟩, ?_⟩⟩
    refine ⟨10, 39, rfl, rfl, ⟨by decide, by decide, by decide⟩, rfl, ?_⟩
    rw [decide_eq_true (rfl : V.int (10 ^ (39 : Int).toNat) = V.int (10 ^ (39 : Int).toNat))]
    exact k _
end
end K0
set_option maxHeartbeats 4000000
namespace K0
open PySem PySem.Spec PyProof.Rows L2 He Hx
theorem code_ref {K : PySem.W.Frag} {v : Value} {q : Str} (h : PySem.W.codeIn K v q = true) : ∃ c, v = .ref c := by
  unfold PySem.W.codeIn at h
  split at h
  · exact ⟨_, rfl⟩
  · cases h
theorem hd_shape {K : PySem.W.Frag} {c P : Addr} (h : PySem.W.codeHdIn K c P = true) : ∃ e dd vs sl, K.lookup c = some ⟨e, dd, .fields vs, sl⟩ ∧ vs[11]? = some (.ref P) := by
  unfold PySem.W.codeHdIn at h
  split at h
  · rename_i dd vs sl hk
    simp only [Bool.and_eq_true] at h
    obtain ⟨⟨⟨⟨⟨e1, _⟩, _⟩, _⟩, _⟩, _⟩ := h
    split at e1
    · rename_i P' h11
      have hP : P' = P := beq_iff_eq.mp e1
      subst hP
      exact ⟨_, _, _, _, hk, h11⟩
    · cases e1
  · cases h
theorem facts {l : PySem.W.OpenLaw} {w : World} {K : PySem.W.Frag} {h : Heap} {mg : Str → Option Value} {fa : Addr} (X : K.In h) (G : h.Ns mainGlobals mg) (hfa : mg ("law" : Str) = some (.ref fa)) (c : SaysX ck fn K) (own : LamX.OwnTab K fa h) :
    LamX.LawG l w K CX0 9 63 "script" mg fa h := by
  have T : Tx K mg := tx_of X G c
  have e := hfa.symm.trans T.g_law
  cases e
  obtain ⟨fd, F⟩ := T.fn_law
  have ckl := c.fact 9 (f := ckLam) rfl
  obtain ⟨k1, k2⟩ := ba ckl
  obtain ⟨oc, od, dV, kV, doc, pm, an, cdv, ct, osl, hfd, lk, hcd, _, _⟩ := F.ex
  obtain ⟨c0, hc0⟩ := code_ref hcd
  have hcode : fd.code = .ref c0 := by
    rw [hfd]
    exact hc0
  have e1 : lawCode "law" K = c0 := by
    unfold lawCode
    have lk' : K.lookup (ga K "law") = some ⟨oc, od, .func fd, osl⟩ := lk
    rw [lk']
    simp only [hcode]
  have hT : h.get? (lawTab "law" K) = some { cls := .none, data := .fields #[] } := by
    obtain ⟨e2, dd, vs, sl, q1, q2⟩ := hd_shape k2
    exact own c0 (lawTab "law" K) _ fd e2 dd vs sl lk rfl hcode (by rw [← e1]; exact q1) q2
  have hb := F.bindsN (fun _ _ _ _ _ _ us hl => match us, hl with | [_], _ => rfl : ∀ (kV doc pm : Value) (an : Option Addr) (cdv ct : Value) (us : List Value), us.length = (["script"] : List Str).length → bindArgs (PySem.W.fnOf "law" "law" (defArgs s_law) (defBody s_law) (defScope s_law) .none kV doc pm an cdv ct) ⟨us, []⟩ = pure ((["script"] : List Str).zip us))
  have hb2 : ∀ (s : Shared) (u : Value), BindsTo s fd ⟨[u], []⟩ [("script", u)] := by
    rcases F.ex with ⟨oc, od, dV, kV, doc, pm, an, cdv, ct, osl, hfd, lk, hcd, hD, hK⟩
    rcases hD with ⟨_, rfl⟩ | ⟨z, _⟩
    · subst hfd
      exact fun s u => .of_eq rfl
    · exact absurd rfl z
  refine ⟨fd, lawCode "law" K, lawTab "law" K, spLaw K (lawTab "law" K), hT, ?_, PySem.W.codeHd_of_K X k2, hb2, fun H a ns hn _ hP hS => ⟨a, ns, rfl, hS, hn, fun p hp => ?_, fun _ => rfl⟩, fun base KB GB TB => ok_law T TB F (by rw [e1]; exact hcode)⟩
  · cases q : K.lookup (lawTab "law" K) with
    | none => rfl
    | some o =>
      rw [q] at k1
      cases k1
  · rw [List.mem_singleton.mp hp]
    exact LamX.TabS.nil hP
end K0
set_option maxHeartbeats 0
namespace K0
open PySem PySem.Spec PyProof.Rows L2 He Hx
abbrev R : PySem.W.OpenRow := PySem.W.OpenLaw.row PySem.Challenge.rw_manymarks_k00_errors
abbrev hk : PySem.W.Hook := hookP (pickT "law" gloN) ck fn
def ob (s : PySem.W.SharedT) : He.AlD := obsPG (pickT "law" gloN) ck fn (HandSHeadRun.getT s)
theorem ob_eq (s : PySem.W.SharedT) : ob s = hk.obs s.abs := obsPG_eq (HandSHeadRun.getT_eq s)
theorem run (w : World) : HandSHeadRun.RunEq R (PySem.W.view R.prog [106]) hk ob 8000 lo w := by
  intro os
  kernel_rfl
end K0
set_option maxHeartbeats 0
open PySem PySem.W PySem.Calls PyProof.Rows
theorem PySem.Challenge.cw_manymarks_k00_errors_holds : PySem.Challenge.rw_manymarks_k00_errors.Holds := by
  w_on; o_law
  refine HandSHeadRun.head_any (r := OpenLaw.row PySem.Challenge.rw_manymarks_k00_errors) (q := view (OpenLaw.row PySem.Challenge.rw_manymarks_k00_errors).prog [106]) (H := K0.hk) (ob := K0.ob) (M := 8000) (loose := K0.lo) (d := HandSHeadRun.topDef (OpenLaw.row PySem.Challenge.rw_manymarks_k00_errors).prog 106) (kwd := []) K0.ob_eq
    (by kernel_rfl) (fun s => by kernel_rfl) K0.run (by kernel_rfl) (by kernel_rfl) (by kernel_rfl) (by rfl) (by first | assumption | decide +kernel) (by decide +kernel) ⟨rfl, rfl, rfl, rfl, rfl, by decide +kernel⟩ ?hw ?hc
  case hw => w_witness2
  case hc =>
    refine LamX.walk_ofOwnG (l := PySem.Challenge.rw_manymarks_k00_errors) (n := 63) (k := 9) (x := "script") (CX := fun _ => L2.CX0) rfl (by decide) (by kernel_rfl) ⟨rfl, by decide, by decide⟩ (by decide +kernel) ?F (fun _ _ _ _ _ z => z)
    intro w mg fa h Y G hmg0
    obtain ⟨K, KX, c⟩ := Y
    have hmg : mg ("law" : PySem.Str) = some (.ref fa) := by
      have e : (HandSHeadRun.topDef (OpenLaw.row PySem.Challenge.rw_manymarks_k00_errors).prog 106).name = ("law" : PySem.Str) := by kernel_rfl
      rw [← e]
      exact hmg0
    exact ⟨K, KX, fun own => K0.facts KX G hmg c own⟩
