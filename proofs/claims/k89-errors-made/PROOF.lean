import PyProof.Rows.All
import Wide.All
import OpenK.AllK
import Wide.FinOn
import HandS.ForMost
import HandS.Lambda
import HandS.WordsExc
import HandS.Defaults
import HandS.ExcInit
import HandS.Rev
import HandS.Wide
import HandS.StrMore
import HandS.TupAny
import HandS.IsInst
import HandS.MakeKwOnly
import HandS.ClsMeth
import HandS.Star
import KE.KOpsOwn
import HandS.FStr
import HandS.Style
import PyProof.P3Eq
import KE.KFmtOwn
import HandS.OwnEq
import HandS.DictComp
import HandS.Property
import KE.GoesEnum
import KE.GoesZip
import HandS.SetKeys
import HandS.ExcField
import KE.KExcIs
import HandS.ExcIs
import KE.KExcInit
import KE.KExcLine
import HandS.RaiseMore
import KE.KCallOwn
import HandS.NoneIn
import HandS.More
import HandS.Iter
import HandS.DictEq
import HandS.Text
import HandS.RaiseFrom
import HandS.ExcValue
import KE.GoesComp
import PyProof.DictDisplay
import HandS.TryOnly
import KE.KRevSl
import HandS.Deep
import HandS.WordsDict
import HandS.List
import HandS.Strs
import HandS.EndTab
import HandS.HeadEnd
import HandS.Ends
import HandS.Words
import HandS.Head0
import HandS.Head1
import HandS.Head2
import HandS.HeadHook1
import HandS.HeadHook2
import HandS.HeadHook4
import KE.RegKIsAll
import PySem.Challenge.RW_guessedkinds_k89_errors_made
set_option Elab.async false
set_option linter.all false
set_option maxRecDepth 100000
set_option maxHeartbeats 4000000
set_option maxHeartbeats 4000000
namespace G
open PySem PySem.Spec PyProof.Rows L2
/-! ### the head by one run in the kernel: facts of the module's things at told places -/
abbrev FaX := PySem.W.Frag → Bool
/-- a def: its place, its statement, its defaults -/
structure DefG where
  ad : Addr
  nm : Str
  ql : Str
  st : Stmt
  dfl : List V := []
  kwd : List (Str × V) := []
def seenF (K : PySem.W.Frag) (a : Addr) : He.FnW := (K.lookup a).bind fun o => match o with
  | ⟨_, _, .func z, _⟩ => some (z.name, z.qualname, z.params, z.body, z.scope, z.globals, z.closure, z.builtins)
  | _ => none
def DefG.tells (d : DefG) : He.FnW := some (d.nm, d.ql, defArgs d.st, .stmts (defBody d.st), defScope d.st, mainGlobals, [], builtinsNs)
def DefG.good (K : PySem.W.Frag) (d : DefG) : Bool := PySem.W.keepIn K (.ref d.ad) && ((K.lookup d.ad).any fun o => match o with
  | ⟨_, _, .func z, _⟩ => PySem.W.codeIn K z.code d.ql && (He.dflB K z.defaults d.dfl && He.kwdB K z.kwdefaults d.kwd)
  | _ => false)
theorem DefG.funD {K : PySem.W.Frag} {d : DefG} (e : seenF K d.ad = d.tells) (c : d.good K = true) : ∃ z, FunD K d.nm d.ql (defArgs d.st) (defBody d.st) (defScope d.st) d.dfl d.kwd d.ad z := by
  unfold DefG.good at c
  rw [Bool.and_eq_true] at c
  obtain ⟨kp, c⟩ := c
  unfold seenF at e
  cases hl : K.lookup d.ad with
  | none => rw [hl] at c; cases c
  | some o =>
    rw [hl] at c e
    obtain ⟨oc, od, dt, sl⟩ := o
    cases dt with
    | func z =>
      obtain ⟨z1, z2, z3, z4, z5, z6, z7, z8, z9, z10, z11, z12, z13, z14, z15⟩ := z
      have e' : (some (z1, z2, z3, z4, z5, z6, z7, z15) : He.FnW) = some (d.nm, d.ql, defArgs d.st, .stmts (defBody d.st), defScope d.st, mainGlobals, [], builtinsNs) := e
      injection e' with e'
      simp only [Prod.mk.injEq] at e'
      obtain ⟨rfl, rfl, rfl, rfl, rfl, rfl, rfl, rfl⟩ := e'
      have c' : (PySem.W.codeIn K z13 d.ql && (He.dflB K z8 d.dfl && He.kwdB K z9 d.kwd)) = true := c
      simp only [Bool.and_eq_true] at c'
      exact ⟨_, ⟨oc, od, z8, z9, z10, z11, z12, z13, z14, sl, rfl, hl, c'.1, He.dflB_ok c'.2.1, He.kwdB_ok c'.2.2⟩, kp⟩
    | _ => cases c
theorem fun_ofD {K : PySem.W.Frag} {x q : Str} {st : Stmt} {f : Addr} {z : FuncData} (F : FunD K x q (defArgs st) (defBody st) (defScope st) [] [] f z) : Fun K x q st f z := by
  obtain ⟨oc, od, dV, kV, doc, pm, an, cdv, ct, sl, e, lk, hc, hd, _⟩ := F.ex
  rcases hd with ⟨_, rfl⟩ | ⟨h, _⟩
  · exact ⟨⟨oc, od, kV, doc, pm, an, cdv, ct, sl, e, lk, hc⟩, F.kp⟩
  · exact absurd rfl h
def obsX (as : List Addr) (fa : List (List FaX)) (fn : List DefG) (g : Addr → Option Obj) : Bool × List He.FnW :=
  ((fa.all fun l => l.all fun f => f (He.frG g as)) && (fn.all fun d => d.good (He.frG g as)), fn.map fun d => seenF (He.frG g as) d.ad)
def SaysX (fa : List (List FaX)) (fn : List DefG) (K : PySem.W.Frag) : Prop := ((fa.all fun l => l.all fun f => f K) && (fn.all fun d => d.good K), fn.map fun d => seenF K d.ad) = (true, fn.map DefG.tells)
def hookX (as : List Addr) (fa : List (List FaX)) (fn : List DefG) : PySem.W.Hook where
  α := Bool × List He.FnW
  obs := fun s => obsX as fa fn s.heap.get?
  val := fun _ => (true, fn.map DefG.tells)
  says := fun _ h => ∃ K : PySem.W.Frag, K.In h ∧ SaysX fa fn K
  of := fun _ _ e => ⟨_, He.frG_in, e⟩
  keeps := fun _ _ _ ⟨K, hK, c⟩ k => ⟨K, PySem.W.Frag.In.keeps hK k, c⟩
theorem obsX_eq {as : List Addr} {fa : List (List FaX)} {fn : List DefG} {g : Addr → Option Obj} {s : Shared} (h : ∀ a, g a = s.heap.get? a) : obsX as fa fn g = (hookX as fa fn).obs s := by
  have e : g = s.heap.get? := funext h
  rw [e]
  rfl
section
variable {fa : List (List FaX)} {fn : List DefG} {K : PySem.W.Frag}
theorem SaysX.fact (c : SaysX fa fn K) (i j : Nat) {l : List FaX} {f : FaX} (h : fa[i]? = some l := by rfl) (h2 : l[j]? = some f := by rfl) : f K = true := by
  have c1 : ((fa.all fun l => l.all fun f => f K) && (fn.all fun d => d.good K)) = true := congrArg Prod.fst c
  rw [Bool.and_eq_true] at c1
  exact List.all_eq_true.mp (List.all_eq_true.mp c1.1 l (List.mem_of_getElem? h)) f (List.mem_of_getElem? h2)
theorem SaysX.fun_ (c : SaysX fa fn K) (i : Nat) {d : DefG} (h : fn[i]? = some d := by rfl) : ∃ z, FunD K d.nm d.ql (defArgs d.st) (defBody d.st) (defScope d.st) d.dfl d.kwd d.ad z := by
  have c1 : ((fa.all fun l => l.all fun f => f K) && (fn.all fun d => d.good K)) = true := congrArg Prod.fst c
  rw [Bool.and_eq_true] at c1
  have c2 : fn.map (fun d => seenF K d.ad) = fn.map DefG.tells := congrArg Prod.snd c
  have c3 := congrArg (fun l => l[i]?) c2
  simp only [List.getElem?_map, h, Option.map_some, Option.some.injEq] at c3
  exact DefG.funD c3 (List.all_eq_true.mp c1.2 d (List.mem_of_getElem? h))
end
/-! the same, empty tables left out and told -/
def tabB (g : Addr → Option Obj) (tb : List Addr) : Bool := tb.all fun P => match g P with
  | some o => He.emptyTab o
  | none => false
def obsT (as : List Addr) (fa : List (List FaX)) (fn : List DefG) (tb : List Addr) (g : Addr → Option Obj) : Bool × List He.FnW :=
  (((fa.all fun l => l.all fun f => f (He.frT g as)) && (fn.all fun d => d.good (He.frT g as))) && tabB g tb, fn.map fun d => seenF (He.frT g as) d.ad)
def SaysT (tb : List Addr) (h : Heap) (K : PySem.W.Frag) : Prop := ∀ P ∈ tb, K.lookup P = none ∧ h.get? P = some { cls := .none, data := .fields #[] }
theorem obsT_of {as : List Addr} {fa : List (List FaX)} {fn : List DefG} {tb : List Addr} {h : Heap} (e : obsT as fa fn tb h.get? = (true, fn.map DefG.tells)) : SaysX fa fn (He.frT h.get? as) ∧ SaysT tb h (He.frT h.get? as) := by
  have e1 : (((fa.all fun l => l.all fun f => f (He.frT h.get? as)) && (fn.all fun d => d.good (He.frT h.get? as))) && tabB h.get? tb) = true := congrArg Prod.fst e
  have e2 : fn.map (fun d => seenF (He.frT h.get? as) d.ad) = fn.map DefG.tells := congrArg Prod.snd e
  rw [Bool.and_eq_true] at e1
  refine ⟨?_, fun P hP => ?_⟩
  · unfold SaysX
    rw [e1.1, e2]
  · have e3 := List.all_eq_true.mp e1.2 P hP
    cases q : h.get? P with
    | none => rw [q] at e3; cases e3
    | some o =>
      rw [q] at e3
      exact ⟨He.frT_none q e3, by rw [He.emptyTab_eq e3]⟩
def hookT (as : List Addr) (fa : List (List FaX)) (fn : List DefG) (tb : List Addr) : PySem.W.Hook where
  α := Bool × List He.FnW
  obs := fun s => obsT as fa fn tb s.heap.get?
  val := fun _ => (true, fn.map DefG.tells)
  says := fun _ h => ∃ K : PySem.W.Frag, K.In h ∧ SaysX fa fn K ∧ SaysT tb h K
  of := fun _ _ e => ⟨_, He.frT_in, obsT_of e⟩
  keeps := fun _ _ _ ⟨K, hK, c, t⟩ k => ⟨K, PySem.W.Frag.In.keeps hK k, c, fun P hP => ⟨(t P hP).1, k _ _ (t P hP).2⟩⟩
theorem obsT_eq {as : List Addr} {fa : List (List FaX)} {fn : List DefG} {tb : List Addr} {g : Addr → Option Obj} {s : Shared} (h : ∀ a, g a = s.heap.get? a) : obsT as fa fn tb g = (hookT as fa fn tb).obs s := by
  have e : g = s.heap.get? := funext h
  rw [e]
  rfl
/-! facts that are no equations one can decide -/
def getX (K : PySem.W.Frag) (C : Addr) (x : Str) (g : String) (p : Addr) : Bool := match PySem.W.findCls K (.ref C) (.type "type") x with
  | some (.get a b c d) => decide (a = .builtin g ∧ b = .ref p ∧ c = .none ∧ d = .ref C)
  | _ => false
theorem getX_ok {K : PySem.W.Frag} {C p : Addr} {x : Str} {g : String} (h : getX K C x g p = true) : PySem.W.findCls K (.ref C) (.type "type") x = some (.get (.builtin g) (.ref p) .none (.ref C)) := by
  unfold getX at h
  split at h
  · rename_i a b c d e
    obtain ⟨rfl, rfl, rfl, rfl⟩ := of_decide_eq_true h
    exact e
  · cases h
def valX (K : PySem.W.Frag) (c : Value) (x : Str) (v : Value) : Bool := match PySem.W.findCls K c (.type "type") x with
  | some (.val a) => decide (a = v)
  | _ => false
theorem valX_ok {K : PySem.W.Frag} {c v : Value} {x : Str} (h : valX K c x v = true) : PySem.W.findCls K c (.type "type") x = some (.val v) := by
  unfold valX at h
  split at h
  · rename_i a e
    have := of_decide_eq_true h
    subst this
    exact e
  · cases h
def recX (K : PySem.W.Frag) (p : Addr) (T : String) (f : Addr) : Bool := match PySem.W.recIn K p T with
  | some (a :: _) => decide (a = .ref f)
  | _ => false
theorem recX_ok {K : PySem.W.Frag} {p f : Addr} {T : String} (h : recX K p T f = true) : ∃ rest, PySem.W.recIn K p T = some (.ref f :: rest) := by
  unfold recX at h
  split at h
  · rename_i a r e
    have := of_decide_eq_true h
    subst this
    exact ⟨r, e⟩
  · cases h
def intX (K : PySem.W.Frag) (x : Str) (i : Int) : Bool := match PySem.W.nsIn K mainGlobals x with
  | some (some (.int j _)) => decide (j = i)
  | _ => false
theorem intX_ok {K : PySem.W.Frag} {x : Str} {i : Int} (h : intX K x i = true) : ∃ t, PySem.W.nsIn K mainGlobals x = some (some (.int i t)) := by
  unfold intX at h
  split at h
  · rename_i j t e
    have := of_decide_eq_true h
    subst this
    exact ⟨t, e⟩
  · cases h
def strX (K : PySem.W.Frag) (x z : Str) : Bool := match PySem.W.nsIn K mainGlobals x with
  | some (some (.str y _)) => decide (y = z)
  | _ => false
theorem strX_ok {K : PySem.W.Frag} {x z : Str} (h : strX K x z = true) : ∃ t, PySem.W.nsIn K mainGlobals x = some (some (.str z t)) := by
  unfold strX at h
  split at h
  · rename_i j t e
    have := of_decide_eq_true h
    subst this
    exact ⟨t, e⟩
  · cases h
def tupX (K : PySem.W.Frag) (a : Addr) (vs : List V) : Bool := (K.lookup a).any fun o => match o with
  | ⟨.type c, _, .seq its _, _⟩ => decide (c = "tuple") && (Nat.ble its.size 1000 && He.relAll vs its.toList)
  | _ => false
theorem tupX_ok {K : PySem.W.Frag} {a : Addr} {vs : List V} (h : tupX K a vs = true) : ∃ (o : Obj) (its : Array Value) (n : Nat), K.lookup a = some o ∧ o.cls = .type "tuple" ∧ o.data = .seq its n ∧ its.size ≤ sizeLine ∧ Vals vs its.toList := by
  unfold tupX at h
  cases hl : K.lookup a with
  | none => rw [hl] at h; cases h
  | some o =>
    rw [hl] at h
    obtain ⟨oc, od, dt, sl⟩ := o
    cases oc with
    | type c =>
      cases dt with
      | seq its n =>
        have h' : (decide (c = "tuple") && (Nat.ble its.size 1000 && He.relAll vs its.toList)) = true := h
        simp only [Bool.and_eq_true] at h'
        have e := of_decide_eq_true h'.1
        subst e
        exact ⟨_, its, n, rfl, rfl, rfl, Nat.le_trans (Nat.le_of_ble_eq_true h'.2.1) (by decide), He.relAll_ok h'.2.2⟩
      | _ => cases h
    | _ => cases dt <;> cases h
/-- the code object of the function at f -/
def codeX (K : PySem.W.Frag) (f c : Addr) : Bool := match K.lookup f with
  | some ⟨_, _, .func z, _⟩ => decide (z.code = .ref c)
  | _ => false
end G
namespace Lw
open PySem PySem.Spec PyProof.Rows L2 G
def top (i : Nat) : Stmt := PySem.Challenge.pw_guessedkinds_k89_errors_made.main.body.getD i (.Pass ⟨0, 0, 0, 0⟩)
abbrev s_l_marks : Stmt := (top 27)
abbrev s_l_is_placed : Stmt := (top 28)
abbrev s_l_are_made : Stmt := (top 29)
abbrev s_l_take : Stmt := (top 21)
abbrev s_l_of : Stmt := (top 22)
abbrev s_l_signs : Stmt := (top 23)
abbrev s_l_digits : Stmt := (top 24)
abbrev s_l_text : Stmt := (top 25)
abbrev s_l_thing : Stmt := (top 26)
abbrev s_l_bag : Stmt := (top 20)
abbrev s_law : Stmt := (top 30)
abbrev s_BadBook_init : Stmt := (inClass (top 4) 0)
abbrev s_BadCut_init : Stmt := (inClass (top 7) 0)
abbrev s_BadInput_init : Stmt := (inClass (top 15) 0)
abbrev s_BadKind_init : Stmt := (inClass (top 3) 0)
abbrev s_BadProgram_init : Stmt := (inClass (top 13) 0)
abbrev s_BadReader_init : Stmt := (inClass (top 6) 0)
abbrev s_BadRun_init : Stmt := (inClass (top 14) 0)
abbrev s_BadShape_init : Stmt := (inClass (top 2) 0)
abbrev s_BadTable_init : Stmt := (inClass (top 5) 0)
abbrev s_Misfit_init : Stmt := (inClass (top 12) 0)
abbrev s_NoColumn_init : Stmt := (inClass (top 17) 0)
abbrev s_NoKind_init : Stmt := (inClass (top 16) 0)
abbrev s_NoRow_init : Stmt := (inClass (top 18) 0)
abbrev s_NotHeld_init : Stmt := (inClass (top 9) 0)
abbrev s_OrderMatters_init : Stmt := (inClass (top 10) 0)
abbrev s_OtherBook_init : Stmt := (inClass (top 8) 0)
abbrev s_Unfit_init : Stmt := (inClass (top 11) 0)
def fa0 : List FaX := [
  fun K => decide (PySem.W.nsIn K mainGlobals "_law_marks" = some (some (.ref 403))),
  fun K => decide (PySem.W.nsIn K mainGlobals "_law_is_placed" = some (some (.ref 408))),
  fun K => decide (PySem.W.nsIn K mainGlobals "_law_are_made" = some (some (.ref 413))),
  fun K => decide (PySem.W.nsIn K mainGlobals "_law_take" = some (some (.ref 367))),
  fun K => decide (PySem.W.nsIn K mainGlobals "_law_of" = some (some (.ref 374))),
  fun K => decide (PySem.W.nsIn K mainGlobals "_law_signs" = some (some (.ref 381))),
  fun K => decide (PySem.W.nsIn K mainGlobals "_law_digits" = some (some (.ref 386))),
  fun K => decide (PySem.W.nsIn K mainGlobals "_law_text" = some (some (.ref 391))),
  fun K => decide (PySem.W.nsIn K mainGlobals "_law_thing" = some (some (.ref 396))),
  fun K => decide (PySem.W.nsIn K mainGlobals "_law_bag" = some (some (.ref 360))),
  fun K => decide (PySem.W.nsIn K mainGlobals "law" = some (some (.ref 420))),
  fun K => decide (PySem.W.nsIn K mainGlobals "GuessError" = some (some (.ref 24))),
  fun K => decide (PySem.W.nsIn K mainGlobals "BadShape" = some (some (.ref 44))),
  fun K => decide (PySem.W.nsIn K mainGlobals "BadKind" = some (some (.ref 63))),
  fun K => decide (PySem.W.nsIn K mainGlobals "BadBook" = some (some (.ref 82))),
  fun K => decide (PySem.W.nsIn K mainGlobals "BadTable" = some (some (.ref 101))),
  fun K => decide (PySem.W.nsIn K mainGlobals "BadReader" = some (some (.ref 120))),
  fun K => decide (PySem.W.nsIn K mainGlobals "BadCut" = some (some (.ref 139))),
  fun K => decide (PySem.W.nsIn K mainGlobals "OtherBook" = some (some (.ref 158))),
  fun K => decide (PySem.W.nsIn K mainGlobals "NotHeld" = some (some (.ref 177))),
  fun K => decide (PySem.W.nsIn K mainGlobals "OrderMatters" = some (some (.ref 196))),
  fun K => decide (PySem.W.nsIn K mainGlobals "Unfit" = some (some (.ref 215))),
  fun K => decide (PySem.W.nsIn K mainGlobals "Misfit" = some (some (.ref 234))),
  fun K => decide (PySem.W.nsIn K mainGlobals "BadProgram" = some (some (.ref 253))),
  fun K => decide (PySem.W.nsIn K mainGlobals "BadRun" = some (some (.ref 272))),
  fun K => decide (PySem.W.nsIn K mainGlobals "BadInput" = some (some (.ref 291))),
  fun K => decide (PySem.W.nsIn K mainGlobals "NoKind" = some (some (.ref 310))),
  fun K => decide (PySem.W.nsIn K mainGlobals "NoColumn" = some (some (.ref 330))),
  fun K => decide (PySem.W.nsIn K mainGlobals "NoRow" = some (some (.ref 350))),
  fun K => decide (PySem.W.findIn K (.ref 82) "__init__" = some (some (.ref 79))),
  fun K => decide (PySem.W.typeIn K (.ref 79) = some (.type "function")),
  fun K => decide (PySem.W.excInitIn K 82 [.type "ValueError", .type "Exception", .type "BaseException", .type "object"] "ValueError.__new__" = true),
  fun K => decide (PySem.W.hasDictIn K 82 = true),
  fun K => decide (PySem.W.findIn K (.ref 82) "__setattr__" = some (some (.builtin "object.__setattr__"))),
  fun K => decide (PySem.W.subIn K (.ref 82) (.type "BaseException") = some true),
  fun K => decide (PySem.W.typeIn K (.ref 82) = some (.type "type")),
  fun K => decide (PySem.W.keepIn K (.ref 82) = true),
  fun K => decide (PySem.W.findIn K (.ref 139) "__init__" = some (some (.ref 136))),
  fun K => decide (PySem.W.typeIn K (.ref 136) = some (.type "function")),
  fun K => decide (PySem.W.excInitIn K 139 [.type "ValueError", .type "Exception", .type "BaseException", .type "object"] "ValueError.__new__" = true)]
def fa1 : List FaX := [
  fun K => decide (PySem.W.hasDictIn K 139 = true),
  fun K => decide (PySem.W.findIn K (.ref 139) "__setattr__" = some (some (.builtin "object.__setattr__"))),
  fun K => decide (PySem.W.subIn K (.ref 139) (.type "BaseException") = some true),
  fun K => decide (PySem.W.typeIn K (.ref 139) = some (.type "type")),
  fun K => decide (PySem.W.keepIn K (.ref 139) = true),
  fun K => decide (PySem.W.findIn K (.ref 291) "__init__" = some (some (.ref 288))),
  fun K => decide (PySem.W.typeIn K (.ref 288) = some (.type "function")),
  fun K => decide (PySem.W.excInitIn K 291 [.type "ValueError", .type "Exception", .type "BaseException", .type "object"] "ValueError.__new__" = true),
  fun K => decide (PySem.W.hasDictIn K 291 = true),
  fun K => decide (PySem.W.findIn K (.ref 291) "__setattr__" = some (some (.builtin "object.__setattr__"))),
  fun K => decide (PySem.W.subIn K (.ref 291) (.type "BaseException") = some true),
  fun K => decide (PySem.W.typeIn K (.ref 291) = some (.type "type")),
  fun K => decide (PySem.W.keepIn K (.ref 291) = true),
  fun K => decide (PySem.W.findIn K (.ref 63) "__init__" = some (some (.ref 60))),
  fun K => decide (PySem.W.typeIn K (.ref 60) = some (.type "function")),
  fun K => decide (PySem.W.excInitIn K 63 [.type "ValueError", .type "Exception", .type "BaseException", .type "object"] "ValueError.__new__" = true),
  fun K => decide (PySem.W.hasDictIn K 63 = true),
  fun K => decide (PySem.W.findIn K (.ref 63) "__setattr__" = some (some (.builtin "object.__setattr__"))),
  fun K => decide (PySem.W.subIn K (.ref 63) (.type "BaseException") = some true),
  fun K => decide (PySem.W.typeIn K (.ref 63) = some (.type "type")),
  fun K => decide (PySem.W.keepIn K (.ref 63) = true),
  fun K => decide (PySem.W.findIn K (.ref 253) "__init__" = some (some (.ref 250))),
  fun K => decide (PySem.W.typeIn K (.ref 250) = some (.type "function")),
  fun K => decide (PySem.W.excInitIn K 253 [.type "ValueError", .type "Exception", .type "BaseException", .type "object"] "ValueError.__new__" = true),
  fun K => decide (PySem.W.hasDictIn K 253 = true),
  fun K => decide (PySem.W.findIn K (.ref 253) "__setattr__" = some (some (.builtin "object.__setattr__"))),
  fun K => decide (PySem.W.subIn K (.ref 253) (.type "BaseException") = some true),
  fun K => decide (PySem.W.typeIn K (.ref 253) = some (.type "type")),
  fun K => decide (PySem.W.keepIn K (.ref 253) = true),
  fun K => decide (PySem.W.findIn K (.ref 120) "__init__" = some (some (.ref 117))),
  fun K => decide (PySem.W.typeIn K (.ref 117) = some (.type "function")),
  fun K => decide (PySem.W.excInitIn K 120 [.type "ValueError", .type "Exception", .type "BaseException", .type "object"] "ValueError.__new__" = true),
  fun K => decide (PySem.W.hasDictIn K 120 = true),
  fun K => decide (PySem.W.findIn K (.ref 120) "__setattr__" = some (some (.builtin "object.__setattr__"))),
  fun K => decide (PySem.W.subIn K (.ref 120) (.type "BaseException") = some true),
  fun K => decide (PySem.W.typeIn K (.ref 120) = some (.type "type")),
  fun K => decide (PySem.W.keepIn K (.ref 120) = true),
  fun K => decide (PySem.W.findIn K (.ref 272) "__init__" = some (some (.ref 269))),
  fun K => decide (PySem.W.typeIn K (.ref 269) = some (.type "function")),
  fun K => decide (PySem.W.excInitIn K 272 [.type "ValueError", .type "Exception", .type "BaseException", .type "object"] "ValueError.__new__" = true)]
def fa2 : List FaX := [
  fun K => decide (PySem.W.hasDictIn K 272 = true),
  fun K => decide (PySem.W.findIn K (.ref 272) "__setattr__" = some (some (.builtin "object.__setattr__"))),
  fun K => decide (PySem.W.subIn K (.ref 272) (.type "BaseException") = some true),
  fun K => decide (PySem.W.typeIn K (.ref 272) = some (.type "type")),
  fun K => decide (PySem.W.keepIn K (.ref 272) = true),
  fun K => decide (PySem.W.findIn K (.ref 44) "__init__" = some (some (.ref 41))),
  fun K => decide (PySem.W.typeIn K (.ref 41) = some (.type "function")),
  fun K => decide (PySem.W.excInitIn K 44 [.type "ValueError", .type "Exception", .type "BaseException", .type "object"] "ValueError.__new__" = true),
  fun K => decide (PySem.W.hasDictIn K 44 = true),
  fun K => decide (PySem.W.findIn K (.ref 44) "__setattr__" = some (some (.builtin "object.__setattr__"))),
  fun K => decide (PySem.W.subIn K (.ref 44) (.type "BaseException") = some true),
  fun K => decide (PySem.W.typeIn K (.ref 44) = some (.type "type")),
  fun K => decide (PySem.W.keepIn K (.ref 44) = true),
  fun K => decide (PySem.W.findIn K (.ref 101) "__init__" = some (some (.ref 98))),
  fun K => decide (PySem.W.typeIn K (.ref 98) = some (.type "function")),
  fun K => decide (PySem.W.excInitIn K 101 [.type "ValueError", .type "Exception", .type "BaseException", .type "object"] "ValueError.__new__" = true),
  fun K => decide (PySem.W.hasDictIn K 101 = true),
  fun K => decide (PySem.W.findIn K (.ref 101) "__setattr__" = some (some (.builtin "object.__setattr__"))),
  fun K => decide (PySem.W.subIn K (.ref 101) (.type "BaseException") = some true),
  fun K => decide (PySem.W.typeIn K (.ref 101) = some (.type "type")),
  fun K => decide (PySem.W.keepIn K (.ref 101) = true),
  fun K => decide (PySem.W.findIn K (.ref 234) "__init__" = some (some (.ref 231))),
  fun K => decide (PySem.W.typeIn K (.ref 231) = some (.type "function")),
  fun K => decide (PySem.W.excInitIn K 234 [.type "ValueError", .type "Exception", .type "BaseException", .type "object"] "ValueError.__new__" = true),
  fun K => decide (PySem.W.hasDictIn K 234 = true),
  fun K => decide (PySem.W.findIn K (.ref 234) "__setattr__" = some (some (.builtin "object.__setattr__"))),
  fun K => decide (PySem.W.subIn K (.ref 234) (.type "BaseException") = some true),
  fun K => decide (PySem.W.typeIn K (.ref 234) = some (.type "type")),
  fun K => decide (PySem.W.keepIn K (.ref 234) = true),
  fun K => decide (PySem.W.findIn K (.ref 330) "__init__" = some (some (.ref 327))),
  fun K => decide (PySem.W.typeIn K (.ref 327) = some (.type "function")),
  fun K => decide (PySem.W.excInitIn K 330 [.type "LookupError", .type "Exception", .type "BaseException", .type "object"] "LookupError.__new__" = true),
  fun K => decide (PySem.W.excOver K 330 [.type "LookupError", .type "Exception", .type "BaseException", .type "object"] = true),
  fun K => decide (PySem.W.hasDictIn K 330 = true),
  fun K => decide (PySem.W.findIn K (.ref 330) "__setattr__" = some (some (.builtin "object.__setattr__"))),
  fun K => decide (PySem.W.subIn K (.ref 330) (.type "BaseException") = some true),
  fun K => decide (PySem.W.typeIn K (.ref 330) = some (.type "type")),
  fun K => decide (PySem.W.keepIn K (.ref 330) = true),
  fun K => decide (PySem.W.findIn K (.ref 310) "__init__" = some (some (.ref 307))),
  fun K => decide (PySem.W.typeIn K (.ref 307) = some (.type "function"))]
def fa3 : List FaX := [
  fun K => decide (PySem.W.excInitIn K 310 [.type "LookupError", .type "Exception", .type "BaseException", .type "object"] "LookupError.__new__" = true),
  fun K => decide (PySem.W.excOver K 310 [.type "LookupError", .type "Exception", .type "BaseException", .type "object"] = true),
  fun K => decide (PySem.W.hasDictIn K 310 = true),
  fun K => decide (PySem.W.findIn K (.ref 310) "__setattr__" = some (some (.builtin "object.__setattr__"))),
  fun K => decide (PySem.W.subIn K (.ref 310) (.type "BaseException") = some true),
  fun K => decide (PySem.W.typeIn K (.ref 310) = some (.type "type")),
  fun K => decide (PySem.W.keepIn K (.ref 310) = true),
  fun K => decide (PySem.W.findIn K (.ref 350) "__init__" = some (some (.ref 347))),
  fun K => decide (PySem.W.typeIn K (.ref 347) = some (.type "function")),
  fun K => decide (PySem.W.excInitIn K 350 [.type "LookupError", .type "Exception", .type "BaseException", .type "object"] "LookupError.__new__" = true),
  fun K => decide (PySem.W.excOver K 350 [.type "LookupError", .type "Exception", .type "BaseException", .type "object"] = true),
  fun K => decide (PySem.W.hasDictIn K 350 = true),
  fun K => decide (PySem.W.findIn K (.ref 350) "__setattr__" = some (some (.builtin "object.__setattr__"))),
  fun K => decide (PySem.W.subIn K (.ref 350) (.type "BaseException") = some true),
  fun K => decide (PySem.W.typeIn K (.ref 350) = some (.type "type")),
  fun K => decide (PySem.W.keepIn K (.ref 350) = true),
  fun K => decide (PySem.W.findIn K (.ref 177) "__init__" = some (some (.ref 174))),
  fun K => decide (PySem.W.typeIn K (.ref 174) = some (.type "function")),
  fun K => decide (PySem.W.excInitIn K 177 [.type "ValueError", .type "Exception", .type "BaseException", .type "object"] "ValueError.__new__" = true),
  fun K => decide (PySem.W.hasDictIn K 177 = true),
  fun K => decide (PySem.W.findIn K (.ref 177) "__setattr__" = some (some (.builtin "object.__setattr__"))),
  fun K => decide (PySem.W.subIn K (.ref 177) (.type "BaseException") = some true),
  fun K => decide (PySem.W.typeIn K (.ref 177) = some (.type "type")),
  fun K => decide (PySem.W.keepIn K (.ref 177) = true),
  fun K => decide (PySem.W.findIn K (.ref 196) "__init__" = some (some (.ref 193))),
  fun K => decide (PySem.W.typeIn K (.ref 193) = some (.type "function")),
  fun K => decide (PySem.W.excInitIn K 196 [.type "ValueError", .type "Exception", .type "BaseException", .type "object"] "ValueError.__new__" = true),
  fun K => decide (PySem.W.hasDictIn K 196 = true),
  fun K => decide (PySem.W.findIn K (.ref 196) "__setattr__" = some (some (.builtin "object.__setattr__"))),
  fun K => decide (PySem.W.subIn K (.ref 196) (.type "BaseException") = some true),
  fun K => decide (PySem.W.typeIn K (.ref 196) = some (.type "type")),
  fun K => decide (PySem.W.keepIn K (.ref 196) = true),
  fun K => decide (PySem.W.findIn K (.ref 158) "__init__" = some (some (.ref 155))),
  fun K => decide (PySem.W.typeIn K (.ref 155) = some (.type "function")),
  fun K => decide (PySem.W.excInitIn K 158 [.type "ValueError", .type "Exception", .type "BaseException", .type "object"] "ValueError.__new__" = true),
  fun K => decide (PySem.W.hasDictIn K 158 = true),
  fun K => decide (PySem.W.findIn K (.ref 158) "__setattr__" = some (some (.builtin "object.__setattr__"))),
  fun K => decide (PySem.W.subIn K (.ref 158) (.type "BaseException") = some true),
  fun K => decide (PySem.W.typeIn K (.ref 158) = some (.type "type")),
  fun K => decide (PySem.W.keepIn K (.ref 158) = true)]
def fa4 : List FaX := [
  fun K => decide (PySem.W.findIn K (.ref 215) "__init__" = some (some (.ref 212))),
  fun K => decide (PySem.W.typeIn K (.ref 212) = some (.type "function")),
  fun K => decide (PySem.W.excInitIn K 215 [.type "ValueError", .type "Exception", .type "BaseException", .type "object"] "ValueError.__new__" = true),
  fun K => decide (PySem.W.hasDictIn K 215 = true),
  fun K => decide (PySem.W.findIn K (.ref 215) "__setattr__" = some (some (.builtin "object.__setattr__"))),
  fun K => decide (PySem.W.subIn K (.ref 215) (.type "BaseException") = some true),
  fun K => decide (PySem.W.typeIn K (.ref 215) = some (.type "type")),
  fun K => decide (PySem.W.keepIn K (.ref 215) = true),
  fun K => decide (PySem.W.findIn K (.ref 82) "part" = some none),
  fun K => decide (PySem.W.findIn K (.ref 139) "cut" = some none),
  fun K => decide (PySem.W.findIn K (.ref 291) "at" = some none),
  fun K => decide (PySem.W.findIn K (.ref 63) "part" = some none),
  fun K => decide (PySem.W.findIn K (.ref 253) "part" = some none),
  fun K => decide (PySem.W.findIn K (.ref 120) "part" = some none),
  fun K => decide (PySem.W.findIn K (.ref 272) "part" = some none),
  fun K => decide (PySem.W.findIn K (.ref 44) "part" = some none),
  fun K => decide (PySem.W.findIn K (.ref 101) "part" = some none),
  fun K => decide (PySem.W.findIn K (.ref 234) "row" = some none),
  fun K => decide (PySem.W.findIn K (.ref 234) "column" = some none),
  fun K => decide (PySem.W.findIn K (.ref 234) "text" = some none),
  fun K => decide (PySem.W.findIn K (.ref 330) "name" = some none),
  fun K => decide (PySem.W.findIn K (.ref 310) "name" = some none),
  fun K => decide (PySem.W.findIn K (.ref 350) "at" = some none),
  fun K => decide (PySem.W.findIn K (.ref 177) "column" = some none),
  fun K => decide (PySem.W.findIn K (.ref 177) "cell" = some none),
  fun K => decide (PySem.W.findIn K (.ref 196) "pieces" = some none),
  fun K => decide (PySem.W.findIn K (.ref 158) "name" = some none),
  fun K => decide (PySem.W.findIn K (.ref 215) "kind" = some none),
  fun K => decide (PySem.W.findIn K (.ref 215) "text" = some none),
  fun K => decide (PySem.W.nsIn K mainGlobals "LookupError" = some none),
  fun K => valX K (.type "LookupError") "__init__" (.builtin "LookupError.__init__"),
  fun K => decide (PySem.W.readsIn K 24 (.type "type") = true),
  fun K => decide (PySem.W.specialIn K (.ref 24) "__getattribute__" = some (some (.builtin "type.__getattribute__"))),
  fun K => valX K (.ref 24) "__init__" (.builtin "ValueError.__init__"),
  fun K => decide (PySem.W.findIn K (.ref 82) "__getattribute__" = some (some (.builtin "BaseException.__getattribute__"))),
  fun K => decide (PySem.W.findIn K (.ref 82) "__getattr__" = some none),
  fun K => decide (PySem.W.subIn K (.ref 82) (.type "BaseException") = some true),
  fun K => decide (PySem.W.hasDictIn K 82 = true),
  fun K => decide (PySem.W.findIn K (.ref 82) "__class__" = some (some (.builtin "object.__class__"))),
  fun K => decide (PySem.W.specialIn K (.builtin "object.__class__") "__get__" = some (some (.builtin "getset_descriptor.__get__")))]
def fa5 : List FaX := [
  fun K => decide (PySem.W.takesIn K (.builtin "object.__class__") = some true),
  fun K => decide (PySem.W.mroIn K 82 (.type "object") = some true),
  fun K => decide (PySem.W.findIn K (.ref 139) "__getattribute__" = some (some (.builtin "BaseException.__getattribute__"))),
  fun K => decide (PySem.W.findIn K (.ref 139) "__getattr__" = some none),
  fun K => decide (PySem.W.subIn K (.ref 139) (.type "BaseException") = some true),
  fun K => decide (PySem.W.hasDictIn K 139 = true),
  fun K => decide (PySem.W.findIn K (.ref 139) "__class__" = some (some (.builtin "object.__class__"))),
  fun K => decide (PySem.W.specialIn K (.builtin "object.__class__") "__get__" = some (some (.builtin "getset_descriptor.__get__"))),
  fun K => decide (PySem.W.takesIn K (.builtin "object.__class__") = some true),
  fun K => decide (PySem.W.mroIn K 139 (.type "object") = some true),
  fun K => decide (PySem.W.findIn K (.ref 291) "__getattribute__" = some (some (.builtin "BaseException.__getattribute__"))),
  fun K => decide (PySem.W.findIn K (.ref 291) "__getattr__" = some none),
  fun K => decide (PySem.W.subIn K (.ref 291) (.type "BaseException") = some true),
  fun K => decide (PySem.W.hasDictIn K 291 = true),
  fun K => decide (PySem.W.findIn K (.ref 291) "__class__" = some (some (.builtin "object.__class__"))),
  fun K => decide (PySem.W.specialIn K (.builtin "object.__class__") "__get__" = some (some (.builtin "getset_descriptor.__get__"))),
  fun K => decide (PySem.W.takesIn K (.builtin "object.__class__") = some true),
  fun K => decide (PySem.W.mroIn K 291 (.type "object") = some true),
  fun K => decide (PySem.W.findIn K (.ref 63) "__getattribute__" = some (some (.builtin "BaseException.__getattribute__"))),
  fun K => decide (PySem.W.findIn K (.ref 63) "__getattr__" = some none),
  fun K => decide (PySem.W.subIn K (.ref 63) (.type "BaseException") = some true),
  fun K => decide (PySem.W.hasDictIn K 63 = true),
  fun K => decide (PySem.W.findIn K (.ref 63) "__class__" = some (some (.builtin "object.__class__"))),
  fun K => decide (PySem.W.specialIn K (.builtin "object.__class__") "__get__" = some (some (.builtin "getset_descriptor.__get__"))),
  fun K => decide (PySem.W.takesIn K (.builtin "object.__class__") = some true),
  fun K => decide (PySem.W.mroIn K 63 (.type "object") = some true),
  fun K => decide (PySem.W.findIn K (.ref 253) "__getattribute__" = some (some (.builtin "BaseException.__getattribute__"))),
  fun K => decide (PySem.W.findIn K (.ref 253) "__getattr__" = some none),
  fun K => decide (PySem.W.subIn K (.ref 253) (.type "BaseException") = some true),
  fun K => decide (PySem.W.hasDictIn K 253 = true),
  fun K => decide (PySem.W.findIn K (.ref 253) "__class__" = some (some (.builtin "object.__class__"))),
  fun K => decide (PySem.W.specialIn K (.builtin "object.__class__") "__get__" = some (some (.builtin "getset_descriptor.__get__"))),
  fun K => decide (PySem.W.takesIn K (.builtin "object.__class__") = some true),
  fun K => decide (PySem.W.mroIn K 253 (.type "object") = some true),
  fun K => decide (PySem.W.findIn K (.ref 120) "__getattribute__" = some (some (.builtin "BaseException.__getattribute__"))),
  fun K => decide (PySem.W.findIn K (.ref 120) "__getattr__" = some none),
  fun K => decide (PySem.W.subIn K (.ref 120) (.type "BaseException") = some true),
  fun K => decide (PySem.W.hasDictIn K 120 = true),
  fun K => decide (PySem.W.findIn K (.ref 120) "__class__" = some (some (.builtin "object.__class__"))),
  fun K => decide (PySem.W.specialIn K (.builtin "object.__class__") "__get__" = some (some (.builtin "getset_descriptor.__get__")))]
def fa6 : List FaX := [
  fun K => decide (PySem.W.takesIn K (.builtin "object.__class__") = some true),
  fun K => decide (PySem.W.mroIn K 120 (.type "object") = some true),
  fun K => decide (PySem.W.findIn K (.ref 272) "__getattribute__" = some (some (.builtin "BaseException.__getattribute__"))),
  fun K => decide (PySem.W.findIn K (.ref 272) "__getattr__" = some none),
  fun K => decide (PySem.W.subIn K (.ref 272) (.type "BaseException") = some true),
  fun K => decide (PySem.W.hasDictIn K 272 = true),
  fun K => decide (PySem.W.findIn K (.ref 272) "__class__" = some (some (.builtin "object.__class__"))),
  fun K => decide (PySem.W.specialIn K (.builtin "object.__class__") "__get__" = some (some (.builtin "getset_descriptor.__get__"))),
  fun K => decide (PySem.W.takesIn K (.builtin "object.__class__") = some true),
  fun K => decide (PySem.W.mroIn K 272 (.type "object") = some true),
  fun K => decide (PySem.W.findIn K (.ref 44) "__getattribute__" = some (some (.builtin "BaseException.__getattribute__"))),
  fun K => decide (PySem.W.findIn K (.ref 44) "__getattr__" = some none),
  fun K => decide (PySem.W.subIn K (.ref 44) (.type "BaseException") = some true),
  fun K => decide (PySem.W.hasDictIn K 44 = true),
  fun K => decide (PySem.W.findIn K (.ref 44) "__class__" = some (some (.builtin "object.__class__"))),
  fun K => decide (PySem.W.specialIn K (.builtin "object.__class__") "__get__" = some (some (.builtin "getset_descriptor.__get__"))),
  fun K => decide (PySem.W.takesIn K (.builtin "object.__class__") = some true),
  fun K => decide (PySem.W.mroIn K 44 (.type "object") = some true),
  fun K => decide (PySem.W.findIn K (.ref 101) "__getattribute__" = some (some (.builtin "BaseException.__getattribute__"))),
  fun K => decide (PySem.W.findIn K (.ref 101) "__getattr__" = some none),
  fun K => decide (PySem.W.subIn K (.ref 101) (.type "BaseException") = some true),
  fun K => decide (PySem.W.hasDictIn K 101 = true),
  fun K => decide (PySem.W.findIn K (.ref 101) "__class__" = some (some (.builtin "object.__class__"))),
  fun K => decide (PySem.W.specialIn K (.builtin "object.__class__") "__get__" = some (some (.builtin "getset_descriptor.__get__"))),
  fun K => decide (PySem.W.takesIn K (.builtin "object.__class__") = some true),
  fun K => decide (PySem.W.mroIn K 101 (.type "object") = some true),
  fun K => decide (PySem.W.findIn K (.ref 234) "__getattribute__" = some (some (.builtin "BaseException.__getattribute__"))),
  fun K => decide (PySem.W.findIn K (.ref 234) "__getattr__" = some none),
  fun K => decide (PySem.W.subIn K (.ref 234) (.type "BaseException") = some true),
  fun K => decide (PySem.W.hasDictIn K 234 = true),
  fun K => decide (PySem.W.findIn K (.ref 234) "__class__" = some (some (.builtin "object.__class__"))),
  fun K => decide (PySem.W.specialIn K (.builtin "object.__class__") "__get__" = some (some (.builtin "getset_descriptor.__get__"))),
  fun K => decide (PySem.W.takesIn K (.builtin "object.__class__") = some true),
  fun K => decide (PySem.W.mroIn K 234 (.type "object") = some true),
  fun K => decide (PySem.W.findIn K (.ref 330) "__getattribute__" = some (some (.builtin "BaseException.__getattribute__"))),
  fun K => decide (PySem.W.findIn K (.ref 330) "__getattr__" = some none),
  fun K => decide (PySem.W.subIn K (.ref 330) (.type "BaseException") = some true),
  fun K => decide (PySem.W.hasDictIn K 330 = true),
  fun K => decide (PySem.W.findIn K (.ref 330) "__class__" = some (some (.builtin "object.__class__"))),
  fun K => decide (PySem.W.specialIn K (.builtin "object.__class__") "__get__" = some (some (.builtin "getset_descriptor.__get__")))]
def fa7 : List FaX := [
  fun K => decide (PySem.W.takesIn K (.builtin "object.__class__") = some true),
  fun K => decide (PySem.W.mroIn K 330 (.type "object") = some true),
  fun K => decide (PySem.W.findIn K (.ref 310) "__getattribute__" = some (some (.builtin "BaseException.__getattribute__"))),
  fun K => decide (PySem.W.findIn K (.ref 310) "__getattr__" = some none),
  fun K => decide (PySem.W.subIn K (.ref 310) (.type "BaseException") = some true),
  fun K => decide (PySem.W.hasDictIn K 310 = true),
  fun K => decide (PySem.W.findIn K (.ref 310) "__class__" = some (some (.builtin "object.__class__"))),
  fun K => decide (PySem.W.specialIn K (.builtin "object.__class__") "__get__" = some (some (.builtin "getset_descriptor.__get__"))),
  fun K => decide (PySem.W.takesIn K (.builtin "object.__class__") = some true),
  fun K => decide (PySem.W.mroIn K 310 (.type "object") = some true),
  fun K => decide (PySem.W.findIn K (.ref 350) "__getattribute__" = some (some (.builtin "BaseException.__getattribute__"))),
  fun K => decide (PySem.W.findIn K (.ref 350) "__getattr__" = some none),
  fun K => decide (PySem.W.subIn K (.ref 350) (.type "BaseException") = some true),
  fun K => decide (PySem.W.hasDictIn K 350 = true),
  fun K => decide (PySem.W.findIn K (.ref 350) "__class__" = some (some (.builtin "object.__class__"))),
  fun K => decide (PySem.W.specialIn K (.builtin "object.__class__") "__get__" = some (some (.builtin "getset_descriptor.__get__"))),
  fun K => decide (PySem.W.takesIn K (.builtin "object.__class__") = some true),
  fun K => decide (PySem.W.mroIn K 350 (.type "object") = some true),
  fun K => decide (PySem.W.findIn K (.ref 177) "__getattribute__" = some (some (.builtin "BaseException.__getattribute__"))),
  fun K => decide (PySem.W.findIn K (.ref 177) "__getattr__" = some none),
  fun K => decide (PySem.W.subIn K (.ref 177) (.type "BaseException") = some true),
  fun K => decide (PySem.W.hasDictIn K 177 = true),
  fun K => decide (PySem.W.findIn K (.ref 177) "__class__" = some (some (.builtin "object.__class__"))),
  fun K => decide (PySem.W.specialIn K (.builtin "object.__class__") "__get__" = some (some (.builtin "getset_descriptor.__get__"))),
  fun K => decide (PySem.W.takesIn K (.builtin "object.__class__") = some true),
  fun K => decide (PySem.W.mroIn K 177 (.type "object") = some true),
  fun K => decide (PySem.W.findIn K (.ref 196) "__getattribute__" = some (some (.builtin "BaseException.__getattribute__"))),
  fun K => decide (PySem.W.findIn K (.ref 196) "__getattr__" = some none),
  fun K => decide (PySem.W.subIn K (.ref 196) (.type "BaseException") = some true),
  fun K => decide (PySem.W.hasDictIn K 196 = true),
  fun K => decide (PySem.W.findIn K (.ref 196) "__class__" = some (some (.builtin "object.__class__"))),
  fun K => decide (PySem.W.specialIn K (.builtin "object.__class__") "__get__" = some (some (.builtin "getset_descriptor.__get__"))),
  fun K => decide (PySem.W.takesIn K (.builtin "object.__class__") = some true),
  fun K => decide (PySem.W.mroIn K 196 (.type "object") = some true),
  fun K => decide (PySem.W.findIn K (.ref 158) "__getattribute__" = some (some (.builtin "BaseException.__getattribute__"))),
  fun K => decide (PySem.W.findIn K (.ref 158) "__getattr__" = some none),
  fun K => decide (PySem.W.subIn K (.ref 158) (.type "BaseException") = some true),
  fun K => decide (PySem.W.hasDictIn K 158 = true),
  fun K => decide (PySem.W.findIn K (.ref 158) "__class__" = some (some (.builtin "object.__class__"))),
  fun K => decide (PySem.W.specialIn K (.builtin "object.__class__") "__get__" = some (some (.builtin "getset_descriptor.__get__")))]
def fa8 : List FaX := [
  fun K => decide (PySem.W.takesIn K (.builtin "object.__class__") = some true),
  fun K => decide (PySem.W.mroIn K 158 (.type "object") = some true),
  fun K => decide (PySem.W.findIn K (.ref 215) "__getattribute__" = some (some (.builtin "BaseException.__getattribute__"))),
  fun K => decide (PySem.W.findIn K (.ref 215) "__getattr__" = some none),
  fun K => decide (PySem.W.subIn K (.ref 215) (.type "BaseException") = some true),
  fun K => decide (PySem.W.hasDictIn K 215 = true),
  fun K => decide (PySem.W.findIn K (.ref 215) "__class__" = some (some (.builtin "object.__class__"))),
  fun K => decide (PySem.W.specialIn K (.builtin "object.__class__") "__get__" = some (some (.builtin "getset_descriptor.__get__"))),
  fun K => decide (PySem.W.takesIn K (.builtin "object.__class__") = some true),
  fun K => decide (PySem.W.mroIn K 215 (.type "object") = some true),
  fun K => decide (PySem.W.kitOne K (.ref 82) (.ref 82) = some true),
  fun K => decide (PySem.W.kitOne K (.ref 82) (.ref 139) = some false),
  fun K => decide (PySem.W.kitOne K (.ref 82) (.ref 291) = some false),
  fun K => decide (PySem.W.kitOne K (.ref 82) (.ref 63) = some false),
  fun K => decide (PySem.W.kitOne K (.ref 82) (.ref 253) = some false),
  fun K => decide (PySem.W.kitOne K (.ref 82) (.ref 120) = some false),
  fun K => decide (PySem.W.kitOne K (.ref 82) (.ref 272) = some false),
  fun K => decide (PySem.W.kitOne K (.ref 82) (.ref 44) = some false),
  fun K => decide (PySem.W.kitOne K (.ref 82) (.ref 101) = some false),
  fun K => decide (PySem.W.kitOne K (.ref 82) (.ref 24) = some true),
  fun K => decide (PySem.W.kitOne K (.ref 82) (.type "LookupError") = some false),
  fun K => decide (PySem.W.kitOne K (.ref 82) (.ref 234) = some false),
  fun K => decide (PySem.W.kitOne K (.ref 82) (.ref 330) = some false),
  fun K => decide (PySem.W.kitOne K (.ref 82) (.ref 310) = some false),
  fun K => decide (PySem.W.kitOne K (.ref 82) (.ref 350) = some false),
  fun K => decide (PySem.W.kitOne K (.ref 82) (.ref 177) = some false),
  fun K => decide (PySem.W.kitOne K (.ref 82) (.ref 196) = some false),
  fun K => decide (PySem.W.kitOne K (.ref 82) (.ref 158) = some false),
  fun K => decide (PySem.W.kitOne K (.ref 82) (.ref 215) = some false),
  fun K => decide (PySem.W.kitOne K (.ref 82) (.type "ValueError") = some true),
  fun K => decide (PySem.W.kitOne K (.ref 139) (.ref 82) = some false),
  fun K => decide (PySem.W.kitOne K (.ref 139) (.ref 139) = some true),
  fun K => decide (PySem.W.kitOne K (.ref 139) (.ref 291) = some false),
  fun K => decide (PySem.W.kitOne K (.ref 139) (.ref 63) = some false),
  fun K => decide (PySem.W.kitOne K (.ref 139) (.ref 253) = some false),
  fun K => decide (PySem.W.kitOne K (.ref 139) (.ref 120) = some false),
  fun K => decide (PySem.W.kitOne K (.ref 139) (.ref 272) = some false),
  fun K => decide (PySem.W.kitOne K (.ref 139) (.ref 44) = some false),
  fun K => decide (PySem.W.kitOne K (.ref 139) (.ref 101) = some false),
  fun K => decide (PySem.W.kitOne K (.ref 139) (.ref 24) = some true)]
def fa9 : List FaX := [
  fun K => decide (PySem.W.kitOne K (.ref 139) (.type "LookupError") = some false),
  fun K => decide (PySem.W.kitOne K (.ref 139) (.ref 234) = some false),
  fun K => decide (PySem.W.kitOne K (.ref 139) (.ref 330) = some false),
  fun K => decide (PySem.W.kitOne K (.ref 139) (.ref 310) = some false),
  fun K => decide (PySem.W.kitOne K (.ref 139) (.ref 350) = some false),
  fun K => decide (PySem.W.kitOne K (.ref 139) (.ref 177) = some false),
  fun K => decide (PySem.W.kitOne K (.ref 139) (.ref 196) = some false),
  fun K => decide (PySem.W.kitOne K (.ref 139) (.ref 158) = some false),
  fun K => decide (PySem.W.kitOne K (.ref 139) (.ref 215) = some false),
  fun K => decide (PySem.W.kitOne K (.ref 139) (.type "ValueError") = some true),
  fun K => decide (PySem.W.kitOne K (.ref 291) (.ref 82) = some false),
  fun K => decide (PySem.W.kitOne K (.ref 291) (.ref 139) = some false),
  fun K => decide (PySem.W.kitOne K (.ref 291) (.ref 291) = some true),
  fun K => decide (PySem.W.kitOne K (.ref 291) (.ref 63) = some false),
  fun K => decide (PySem.W.kitOne K (.ref 291) (.ref 253) = some false),
  fun K => decide (PySem.W.kitOne K (.ref 291) (.ref 120) = some false),
  fun K => decide (PySem.W.kitOne K (.ref 291) (.ref 272) = some false),
  fun K => decide (PySem.W.kitOne K (.ref 291) (.ref 44) = some false),
  fun K => decide (PySem.W.kitOne K (.ref 291) (.ref 101) = some false),
  fun K => decide (PySem.W.kitOne K (.ref 291) (.ref 24) = some true),
  fun K => decide (PySem.W.kitOne K (.ref 291) (.type "LookupError") = some false),
  fun K => decide (PySem.W.kitOne K (.ref 291) (.ref 234) = some false),
  fun K => decide (PySem.W.kitOne K (.ref 291) (.ref 330) = some false),
  fun K => decide (PySem.W.kitOne K (.ref 291) (.ref 310) = some false),
  fun K => decide (PySem.W.kitOne K (.ref 291) (.ref 350) = some false),
  fun K => decide (PySem.W.kitOne K (.ref 291) (.ref 177) = some false),
  fun K => decide (PySem.W.kitOne K (.ref 291) (.ref 196) = some false),
  fun K => decide (PySem.W.kitOne K (.ref 291) (.ref 158) = some false),
  fun K => decide (PySem.W.kitOne K (.ref 291) (.ref 215) = some false),
  fun K => decide (PySem.W.kitOne K (.ref 291) (.type "ValueError") = some true),
  fun K => decide (PySem.W.kitOne K (.ref 63) (.ref 82) = some false),
  fun K => decide (PySem.W.kitOne K (.ref 63) (.ref 139) = some false),
  fun K => decide (PySem.W.kitOne K (.ref 63) (.ref 291) = some false),
  fun K => decide (PySem.W.kitOne K (.ref 63) (.ref 63) = some true),
  fun K => decide (PySem.W.kitOne K (.ref 63) (.ref 253) = some false),
  fun K => decide (PySem.W.kitOne K (.ref 63) (.ref 120) = some false),
  fun K => decide (PySem.W.kitOne K (.ref 63) (.ref 272) = some false),
  fun K => decide (PySem.W.kitOne K (.ref 63) (.ref 44) = some false),
  fun K => decide (PySem.W.kitOne K (.ref 63) (.ref 101) = some false),
  fun K => decide (PySem.W.kitOne K (.ref 63) (.ref 24) = some true)]
def fa10 : List FaX := [
  fun K => decide (PySem.W.kitOne K (.ref 63) (.type "LookupError") = some false),
  fun K => decide (PySem.W.kitOne K (.ref 63) (.ref 234) = some false),
  fun K => decide (PySem.W.kitOne K (.ref 63) (.ref 330) = some false),
  fun K => decide (PySem.W.kitOne K (.ref 63) (.ref 310) = some false),
  fun K => decide (PySem.W.kitOne K (.ref 63) (.ref 350) = some false),
  fun K => decide (PySem.W.kitOne K (.ref 63) (.ref 177) = some false),
  fun K => decide (PySem.W.kitOne K (.ref 63) (.ref 196) = some false),
  fun K => decide (PySem.W.kitOne K (.ref 63) (.ref 158) = some false),
  fun K => decide (PySem.W.kitOne K (.ref 63) (.ref 215) = some false),
  fun K => decide (PySem.W.kitOne K (.ref 63) (.type "ValueError") = some true),
  fun K => decide (PySem.W.kitOne K (.ref 253) (.ref 82) = some false),
  fun K => decide (PySem.W.kitOne K (.ref 253) (.ref 139) = some false),
  fun K => decide (PySem.W.kitOne K (.ref 253) (.ref 291) = some false),
  fun K => decide (PySem.W.kitOne K (.ref 253) (.ref 63) = some false),
  fun K => decide (PySem.W.kitOne K (.ref 253) (.ref 253) = some true),
  fun K => decide (PySem.W.kitOne K (.ref 253) (.ref 120) = some false),
  fun K => decide (PySem.W.kitOne K (.ref 253) (.ref 272) = some false),
  fun K => decide (PySem.W.kitOne K (.ref 253) (.ref 44) = some false),
  fun K => decide (PySem.W.kitOne K (.ref 253) (.ref 101) = some false),
  fun K => decide (PySem.W.kitOne K (.ref 253) (.ref 24) = some true),
  fun K => decide (PySem.W.kitOne K (.ref 253) (.type "LookupError") = some false),
  fun K => decide (PySem.W.kitOne K (.ref 253) (.ref 234) = some false),
  fun K => decide (PySem.W.kitOne K (.ref 253) (.ref 330) = some false),
  fun K => decide (PySem.W.kitOne K (.ref 253) (.ref 310) = some false),
  fun K => decide (PySem.W.kitOne K (.ref 253) (.ref 350) = some false),
  fun K => decide (PySem.W.kitOne K (.ref 253) (.ref 177) = some false),
  fun K => decide (PySem.W.kitOne K (.ref 253) (.ref 196) = some false),
  fun K => decide (PySem.W.kitOne K (.ref 253) (.ref 158) = some false),
  fun K => decide (PySem.W.kitOne K (.ref 253) (.ref 215) = some false),
  fun K => decide (PySem.W.kitOne K (.ref 253) (.type "ValueError") = some true),
  fun K => decide (PySem.W.kitOne K (.ref 120) (.ref 82) = some false),
  fun K => decide (PySem.W.kitOne K (.ref 120) (.ref 139) = some false),
  fun K => decide (PySem.W.kitOne K (.ref 120) (.ref 291) = some false),
  fun K => decide (PySem.W.kitOne K (.ref 120) (.ref 63) = some false),
  fun K => decide (PySem.W.kitOne K (.ref 120) (.ref 253) = some false),
  fun K => decide (PySem.W.kitOne K (.ref 120) (.ref 120) = some true),
  fun K => decide (PySem.W.kitOne K (.ref 120) (.ref 272) = some false),
  fun K => decide (PySem.W.kitOne K (.ref 120) (.ref 44) = some false),
  fun K => decide (PySem.W.kitOne K (.ref 120) (.ref 101) = some false),
  fun K => decide (PySem.W.kitOne K (.ref 120) (.ref 24) = some true)]
def fa11 : List FaX := [
  fun K => decide (PySem.W.kitOne K (.ref 120) (.type "LookupError") = some false),
  fun K => decide (PySem.W.kitOne K (.ref 120) (.ref 234) = some false),
  fun K => decide (PySem.W.kitOne K (.ref 120) (.ref 330) = some false),
  fun K => decide (PySem.W.kitOne K (.ref 120) (.ref 310) = some false),
  fun K => decide (PySem.W.kitOne K (.ref 120) (.ref 350) = some false),
  fun K => decide (PySem.W.kitOne K (.ref 120) (.ref 177) = some false),
  fun K => decide (PySem.W.kitOne K (.ref 120) (.ref 196) = some false),
  fun K => decide (PySem.W.kitOne K (.ref 120) (.ref 158) = some false),
  fun K => decide (PySem.W.kitOne K (.ref 120) (.ref 215) = some false),
  fun K => decide (PySem.W.kitOne K (.ref 120) (.type "ValueError") = some true),
  fun K => decide (PySem.W.kitOne K (.ref 272) (.ref 82) = some false),
  fun K => decide (PySem.W.kitOne K (.ref 272) (.ref 139) = some false),
  fun K => decide (PySem.W.kitOne K (.ref 272) (.ref 291) = some false),
  fun K => decide (PySem.W.kitOne K (.ref 272) (.ref 63) = some false),
  fun K => decide (PySem.W.kitOne K (.ref 272) (.ref 253) = some false),
  fun K => decide (PySem.W.kitOne K (.ref 272) (.ref 120) = some false),
  fun K => decide (PySem.W.kitOne K (.ref 272) (.ref 272) = some true),
  fun K => decide (PySem.W.kitOne K (.ref 272) (.ref 44) = some false),
  fun K => decide (PySem.W.kitOne K (.ref 272) (.ref 101) = some false),
  fun K => decide (PySem.W.kitOne K (.ref 272) (.ref 24) = some true),
  fun K => decide (PySem.W.kitOne K (.ref 272) (.type "LookupError") = some false),
  fun K => decide (PySem.W.kitOne K (.ref 272) (.ref 234) = some false),
  fun K => decide (PySem.W.kitOne K (.ref 272) (.ref 330) = some false),
  fun K => decide (PySem.W.kitOne K (.ref 272) (.ref 310) = some false),
  fun K => decide (PySem.W.kitOne K (.ref 272) (.ref 350) = some false),
  fun K => decide (PySem.W.kitOne K (.ref 272) (.ref 177) = some false),
  fun K => decide (PySem.W.kitOne K (.ref 272) (.ref 196) = some false),
  fun K => decide (PySem.W.kitOne K (.ref 272) (.ref 158) = some false),
  fun K => decide (PySem.W.kitOne K (.ref 272) (.ref 215) = some false),
  fun K => decide (PySem.W.kitOne K (.ref 272) (.type "ValueError") = some true),
  fun K => decide (PySem.W.kitOne K (.ref 44) (.ref 82) = some false),
  fun K => decide (PySem.W.kitOne K (.ref 44) (.ref 139) = some false),
  fun K => decide (PySem.W.kitOne K (.ref 44) (.ref 291) = some false),
  fun K => decide (PySem.W.kitOne K (.ref 44) (.ref 63) = some false),
  fun K => decide (PySem.W.kitOne K (.ref 44) (.ref 253) = some false),
  fun K => decide (PySem.W.kitOne K (.ref 44) (.ref 120) = some false),
  fun K => decide (PySem.W.kitOne K (.ref 44) (.ref 272) = some false),
  fun K => decide (PySem.W.kitOne K (.ref 44) (.ref 44) = some true),
  fun K => decide (PySem.W.kitOne K (.ref 44) (.ref 101) = some false),
  fun K => decide (PySem.W.kitOne K (.ref 44) (.ref 24) = some true)]
def fa12 : List FaX := [
  fun K => decide (PySem.W.kitOne K (.ref 44) (.type "LookupError") = some false),
  fun K => decide (PySem.W.kitOne K (.ref 44) (.ref 234) = some false),
  fun K => decide (PySem.W.kitOne K (.ref 44) (.ref 330) = some false),
  fun K => decide (PySem.W.kitOne K (.ref 44) (.ref 310) = some false),
  fun K => decide (PySem.W.kitOne K (.ref 44) (.ref 350) = some false),
  fun K => decide (PySem.W.kitOne K (.ref 44) (.ref 177) = some false),
  fun K => decide (PySem.W.kitOne K (.ref 44) (.ref 196) = some false),
  fun K => decide (PySem.W.kitOne K (.ref 44) (.ref 158) = some false),
  fun K => decide (PySem.W.kitOne K (.ref 44) (.ref 215) = some false),
  fun K => decide (PySem.W.kitOne K (.ref 44) (.type "ValueError") = some true),
  fun K => decide (PySem.W.kitOne K (.ref 101) (.ref 82) = some false),
  fun K => decide (PySem.W.kitOne K (.ref 101) (.ref 139) = some false),
  fun K => decide (PySem.W.kitOne K (.ref 101) (.ref 291) = some false),
  fun K => decide (PySem.W.kitOne K (.ref 101) (.ref 63) = some false),
  fun K => decide (PySem.W.kitOne K (.ref 101) (.ref 253) = some false),
  fun K => decide (PySem.W.kitOne K (.ref 101) (.ref 120) = some false),
  fun K => decide (PySem.W.kitOne K (.ref 101) (.ref 272) = some false),
  fun K => decide (PySem.W.kitOne K (.ref 101) (.ref 44) = some false),
  fun K => decide (PySem.W.kitOne K (.ref 101) (.ref 101) = some true),
  fun K => decide (PySem.W.kitOne K (.ref 101) (.ref 24) = some true),
  fun K => decide (PySem.W.kitOne K (.ref 101) (.type "LookupError") = some false),
  fun K => decide (PySem.W.kitOne K (.ref 101) (.ref 234) = some false),
  fun K => decide (PySem.W.kitOne K (.ref 101) (.ref 330) = some false),
  fun K => decide (PySem.W.kitOne K (.ref 101) (.ref 310) = some false),
  fun K => decide (PySem.W.kitOne K (.ref 101) (.ref 350) = some false),
  fun K => decide (PySem.W.kitOne K (.ref 101) (.ref 177) = some false),
  fun K => decide (PySem.W.kitOne K (.ref 101) (.ref 196) = some false),
  fun K => decide (PySem.W.kitOne K (.ref 101) (.ref 158) = some false),
  fun K => decide (PySem.W.kitOne K (.ref 101) (.ref 215) = some false),
  fun K => decide (PySem.W.kitOne K (.ref 101) (.type "ValueError") = some true),
  fun K => decide (PySem.W.kitOne K (.ref 234) (.ref 82) = some false),
  fun K => decide (PySem.W.kitOne K (.ref 234) (.ref 139) = some false),
  fun K => decide (PySem.W.kitOne K (.ref 234) (.ref 291) = some false),
  fun K => decide (PySem.W.kitOne K (.ref 234) (.ref 63) = some false),
  fun K => decide (PySem.W.kitOne K (.ref 234) (.ref 253) = some false),
  fun K => decide (PySem.W.kitOne K (.ref 234) (.ref 120) = some false),
  fun K => decide (PySem.W.kitOne K (.ref 234) (.ref 272) = some false),
  fun K => decide (PySem.W.kitOne K (.ref 234) (.ref 44) = some false),
  fun K => decide (PySem.W.kitOne K (.ref 234) (.ref 101) = some false),
  fun K => decide (PySem.W.kitOne K (.ref 234) (.ref 24) = some true)]
def fa13 : List FaX := [
  fun K => decide (PySem.W.kitOne K (.ref 234) (.type "LookupError") = some false),
  fun K => decide (PySem.W.kitOne K (.ref 234) (.ref 234) = some true),
  fun K => decide (PySem.W.kitOne K (.ref 234) (.ref 330) = some false),
  fun K => decide (PySem.W.kitOne K (.ref 234) (.ref 310) = some false),
  fun K => decide (PySem.W.kitOne K (.ref 234) (.ref 350) = some false),
  fun K => decide (PySem.W.kitOne K (.ref 234) (.ref 177) = some false),
  fun K => decide (PySem.W.kitOne K (.ref 234) (.ref 196) = some false),
  fun K => decide (PySem.W.kitOne K (.ref 234) (.ref 158) = some false),
  fun K => decide (PySem.W.kitOne K (.ref 234) (.ref 215) = some false),
  fun K => decide (PySem.W.kitOne K (.ref 234) (.type "ValueError") = some true),
  fun K => decide (PySem.W.kitOne K (.ref 330) (.ref 82) = some false),
  fun K => decide (PySem.W.kitOne K (.ref 330) (.ref 139) = some false),
  fun K => decide (PySem.W.kitOne K (.ref 330) (.ref 291) = some false),
  fun K => decide (PySem.W.kitOne K (.ref 330) (.ref 63) = some false),
  fun K => decide (PySem.W.kitOne K (.ref 330) (.ref 253) = some false),
  fun K => decide (PySem.W.kitOne K (.ref 330) (.ref 120) = some false),
  fun K => decide (PySem.W.kitOne K (.ref 330) (.ref 272) = some false),
  fun K => decide (PySem.W.kitOne K (.ref 330) (.ref 44) = some false),
  fun K => decide (PySem.W.kitOne K (.ref 330) (.ref 101) = some false),
  fun K => decide (PySem.W.kitOne K (.ref 330) (.ref 24) = some false),
  fun K => decide (PySem.W.kitOne K (.ref 330) (.type "LookupError") = some true),
  fun K => decide (PySem.W.kitOne K (.ref 330) (.ref 234) = some false),
  fun K => decide (PySem.W.kitOne K (.ref 330) (.ref 330) = some true),
  fun K => decide (PySem.W.kitOne K (.ref 330) (.ref 310) = some false),
  fun K => decide (PySem.W.kitOne K (.ref 330) (.ref 350) = some false),
  fun K => decide (PySem.W.kitOne K (.ref 330) (.ref 177) = some false),
  fun K => decide (PySem.W.kitOne K (.ref 330) (.ref 196) = some false),
  fun K => decide (PySem.W.kitOne K (.ref 330) (.ref 158) = some false),
  fun K => decide (PySem.W.kitOne K (.ref 330) (.ref 215) = some false),
  fun K => decide (PySem.W.kitOne K (.ref 330) (.type "ValueError") = some false),
  fun K => decide (PySem.W.kitOne K (.ref 310) (.ref 82) = some false),
  fun K => decide (PySem.W.kitOne K (.ref 310) (.ref 139) = some false),
  fun K => decide (PySem.W.kitOne K (.ref 310) (.ref 291) = some false),
  fun K => decide (PySem.W.kitOne K (.ref 310) (.ref 63) = some false),
  fun K => decide (PySem.W.kitOne K (.ref 310) (.ref 253) = some false),
  fun K => decide (PySem.W.kitOne K (.ref 310) (.ref 120) = some false),
  fun K => decide (PySem.W.kitOne K (.ref 310) (.ref 272) = some false),
  fun K => decide (PySem.W.kitOne K (.ref 310) (.ref 44) = some false),
  fun K => decide (PySem.W.kitOne K (.ref 310) (.ref 101) = some false),
  fun K => decide (PySem.W.kitOne K (.ref 310) (.ref 24) = some false)]
def fa14 : List FaX := [
  fun K => decide (PySem.W.kitOne K (.ref 310) (.type "LookupError") = some true),
  fun K => decide (PySem.W.kitOne K (.ref 310) (.ref 234) = some false),
  fun K => decide (PySem.W.kitOne K (.ref 310) (.ref 330) = some false),
  fun K => decide (PySem.W.kitOne K (.ref 310) (.ref 310) = some true),
  fun K => decide (PySem.W.kitOne K (.ref 310) (.ref 350) = some false),
  fun K => decide (PySem.W.kitOne K (.ref 310) (.ref 177) = some false),
  fun K => decide (PySem.W.kitOne K (.ref 310) (.ref 196) = some false),
  fun K => decide (PySem.W.kitOne K (.ref 310) (.ref 158) = some false),
  fun K => decide (PySem.W.kitOne K (.ref 310) (.ref 215) = some false),
  fun K => decide (PySem.W.kitOne K (.ref 310) (.type "ValueError") = some false),
  fun K => decide (PySem.W.kitOne K (.ref 350) (.ref 82) = some false),
  fun K => decide (PySem.W.kitOne K (.ref 350) (.ref 139) = some false),
  fun K => decide (PySem.W.kitOne K (.ref 350) (.ref 291) = some false),
  fun K => decide (PySem.W.kitOne K (.ref 350) (.ref 63) = some false),
  fun K => decide (PySem.W.kitOne K (.ref 350) (.ref 253) = some false),
  fun K => decide (PySem.W.kitOne K (.ref 350) (.ref 120) = some false),
  fun K => decide (PySem.W.kitOne K (.ref 350) (.ref 272) = some false),
  fun K => decide (PySem.W.kitOne K (.ref 350) (.ref 44) = some false),
  fun K => decide (PySem.W.kitOne K (.ref 350) (.ref 101) = some false),
  fun K => decide (PySem.W.kitOne K (.ref 350) (.ref 24) = some false),
  fun K => decide (PySem.W.kitOne K (.ref 350) (.type "LookupError") = some true),
  fun K => decide (PySem.W.kitOne K (.ref 350) (.ref 234) = some false),
  fun K => decide (PySem.W.kitOne K (.ref 350) (.ref 330) = some false),
  fun K => decide (PySem.W.kitOne K (.ref 350) (.ref 310) = some false),
  fun K => decide (PySem.W.kitOne K (.ref 350) (.ref 350) = some true),
  fun K => decide (PySem.W.kitOne K (.ref 350) (.ref 177) = some false),
  fun K => decide (PySem.W.kitOne K (.ref 350) (.ref 196) = some false),
  fun K => decide (PySem.W.kitOne K (.ref 350) (.ref 158) = some false),
  fun K => decide (PySem.W.kitOne K (.ref 350) (.ref 215) = some false),
  fun K => decide (PySem.W.kitOne K (.ref 350) (.type "ValueError") = some false),
  fun K => decide (PySem.W.kitOne K (.ref 177) (.ref 82) = some false),
  fun K => decide (PySem.W.kitOne K (.ref 177) (.ref 139) = some false),
  fun K => decide (PySem.W.kitOne K (.ref 177) (.ref 291) = some false),
  fun K => decide (PySem.W.kitOne K (.ref 177) (.ref 63) = some false),
  fun K => decide (PySem.W.kitOne K (.ref 177) (.ref 253) = some false),
  fun K => decide (PySem.W.kitOne K (.ref 177) (.ref 120) = some false),
  fun K => decide (PySem.W.kitOne K (.ref 177) (.ref 272) = some false),
  fun K => decide (PySem.W.kitOne K (.ref 177) (.ref 44) = some false),
  fun K => decide (PySem.W.kitOne K (.ref 177) (.ref 101) = some false),
  fun K => decide (PySem.W.kitOne K (.ref 177) (.ref 24) = some true)]
def fa15 : List FaX := [
  fun K => decide (PySem.W.kitOne K (.ref 177) (.type "LookupError") = some false),
  fun K => decide (PySem.W.kitOne K (.ref 177) (.ref 234) = some false),
  fun K => decide (PySem.W.kitOne K (.ref 177) (.ref 330) = some false),
  fun K => decide (PySem.W.kitOne K (.ref 177) (.ref 310) = some false),
  fun K => decide (PySem.W.kitOne K (.ref 177) (.ref 350) = some false),
  fun K => decide (PySem.W.kitOne K (.ref 177) (.ref 177) = some true),
  fun K => decide (PySem.W.kitOne K (.ref 177) (.ref 196) = some false),
  fun K => decide (PySem.W.kitOne K (.ref 177) (.ref 158) = some false),
  fun K => decide (PySem.W.kitOne K (.ref 177) (.ref 215) = some false),
  fun K => decide (PySem.W.kitOne K (.ref 177) (.type "ValueError") = some true),
  fun K => decide (PySem.W.kitOne K (.ref 196) (.ref 82) = some false),
  fun K => decide (PySem.W.kitOne K (.ref 196) (.ref 139) = some false),
  fun K => decide (PySem.W.kitOne K (.ref 196) (.ref 291) = some false),
  fun K => decide (PySem.W.kitOne K (.ref 196) (.ref 63) = some false),
  fun K => decide (PySem.W.kitOne K (.ref 196) (.ref 253) = some false),
  fun K => decide (PySem.W.kitOne K (.ref 196) (.ref 120) = some false),
  fun K => decide (PySem.W.kitOne K (.ref 196) (.ref 272) = some false),
  fun K => decide (PySem.W.kitOne K (.ref 196) (.ref 44) = some false),
  fun K => decide (PySem.W.kitOne K (.ref 196) (.ref 101) = some false),
  fun K => decide (PySem.W.kitOne K (.ref 196) (.ref 24) = some true),
  fun K => decide (PySem.W.kitOne K (.ref 196) (.type "LookupError") = some false),
  fun K => decide (PySem.W.kitOne K (.ref 196) (.ref 234) = some false),
  fun K => decide (PySem.W.kitOne K (.ref 196) (.ref 330) = some false),
  fun K => decide (PySem.W.kitOne K (.ref 196) (.ref 310) = some false),
  fun K => decide (PySem.W.kitOne K (.ref 196) (.ref 350) = some false),
  fun K => decide (PySem.W.kitOne K (.ref 196) (.ref 177) = some false),
  fun K => decide (PySem.W.kitOne K (.ref 196) (.ref 196) = some true),
  fun K => decide (PySem.W.kitOne K (.ref 196) (.ref 158) = some false),
  fun K => decide (PySem.W.kitOne K (.ref 196) (.ref 215) = some false),
  fun K => decide (PySem.W.kitOne K (.ref 196) (.type "ValueError") = some true),
  fun K => decide (PySem.W.kitOne K (.ref 158) (.ref 82) = some false),
  fun K => decide (PySem.W.kitOne K (.ref 158) (.ref 139) = some false),
  fun K => decide (PySem.W.kitOne K (.ref 158) (.ref 291) = some false),
  fun K => decide (PySem.W.kitOne K (.ref 158) (.ref 63) = some false),
  fun K => decide (PySem.W.kitOne K (.ref 158) (.ref 253) = some false),
  fun K => decide (PySem.W.kitOne K (.ref 158) (.ref 120) = some false),
  fun K => decide (PySem.W.kitOne K (.ref 158) (.ref 272) = some false),
  fun K => decide (PySem.W.kitOne K (.ref 158) (.ref 44) = some false),
  fun K => decide (PySem.W.kitOne K (.ref 158) (.ref 101) = some false),
  fun K => decide (PySem.W.kitOne K (.ref 158) (.ref 24) = some true)]
def fa16 : List FaX := [
  fun K => decide (PySem.W.kitOne K (.ref 158) (.type "LookupError") = some false),
  fun K => decide (PySem.W.kitOne K (.ref 158) (.ref 234) = some false),
  fun K => decide (PySem.W.kitOne K (.ref 158) (.ref 330) = some false),
  fun K => decide (PySem.W.kitOne K (.ref 158) (.ref 310) = some false),
  fun K => decide (PySem.W.kitOne K (.ref 158) (.ref 350) = some false),
  fun K => decide (PySem.W.kitOne K (.ref 158) (.ref 177) = some false),
  fun K => decide (PySem.W.kitOne K (.ref 158) (.ref 196) = some false),
  fun K => decide (PySem.W.kitOne K (.ref 158) (.ref 158) = some true),
  fun K => decide (PySem.W.kitOne K (.ref 158) (.ref 215) = some false),
  fun K => decide (PySem.W.kitOne K (.ref 158) (.type "ValueError") = some true),
  fun K => decide (PySem.W.kitOne K (.ref 215) (.ref 82) = some false),
  fun K => decide (PySem.W.kitOne K (.ref 215) (.ref 139) = some false),
  fun K => decide (PySem.W.kitOne K (.ref 215) (.ref 291) = some false),
  fun K => decide (PySem.W.kitOne K (.ref 215) (.ref 63) = some false),
  fun K => decide (PySem.W.kitOne K (.ref 215) (.ref 253) = some false),
  fun K => decide (PySem.W.kitOne K (.ref 215) (.ref 120) = some false),
  fun K => decide (PySem.W.kitOne K (.ref 215) (.ref 272) = some false),
  fun K => decide (PySem.W.kitOne K (.ref 215) (.ref 44) = some false),
  fun K => decide (PySem.W.kitOne K (.ref 215) (.ref 101) = some false),
  fun K => decide (PySem.W.kitOne K (.ref 215) (.ref 24) = some true),
  fun K => decide (PySem.W.kitOne K (.ref 215) (.type "LookupError") = some false),
  fun K => decide (PySem.W.kitOne K (.ref 215) (.ref 234) = some false),
  fun K => decide (PySem.W.kitOne K (.ref 215) (.ref 330) = some false),
  fun K => decide (PySem.W.kitOne K (.ref 215) (.ref 310) = some false),
  fun K => decide (PySem.W.kitOne K (.ref 215) (.ref 350) = some false),
  fun K => decide (PySem.W.kitOne K (.ref 215) (.ref 177) = some false),
  fun K => decide (PySem.W.kitOne K (.ref 215) (.ref 196) = some false),
  fun K => decide (PySem.W.kitOne K (.ref 215) (.ref 158) = some false),
  fun K => decide (PySem.W.kitOne K (.ref 215) (.ref 215) = some true),
  fun K => decide (PySem.W.kitOne K (.ref 215) (.type "ValueError") = some true),
  fun K => decide (PySem.W.nsIn K mainGlobals "LookupError" = some none),
  fun K => decide (PySem.W.nsIn K mainGlobals "ValueError" = some none),
  fun K => decide (PySem.W.nsIn K mainGlobals "abs" = some none),
  fun K => decide (PySem.W.nsIn K mainGlobals "all" = some none),
  fun K => decide (PySem.W.nsIn K mainGlobals "enumerate" = some none),
  fun K => decide (PySem.W.nsIn K mainGlobals "int" = some none),
  fun K => decide (PySem.W.nsIn K mainGlobals "isinstance" = some none),
  fun K => decide (PySem.W.nsIn K mainGlobals "len" = some none),
  fun K => decide (PySem.W.nsIn K mainGlobals "max" = some none),
  fun K => decide (PySem.W.nsIn K mainGlobals "min" = some none)]
def fa17 : List FaX := [
  fun K => decide (PySem.W.nsIn K mainGlobals "range" = some none),
  fun K => decide (PySem.W.nsIn K mainGlobals "repr" = some none),
  fun K => decide (PySem.W.nsIn K mainGlobals "tuple" = some none)]
def fa : List (List FaX) := [fa0, fa1, fa2, fa3, fa4, fa5, fa6, fa7, fa8, fa9, fa10, fa11, fa12, fa13, fa14, fa15, fa16, fa17]
def fn0 : List DefG := [
  ⟨403, "_law_marks", "_law_marks", s_l_marks, [], []⟩,
  ⟨408, "_law_is_placed", "_law_is_placed", s_l_is_placed, [], []⟩,
  ⟨413, "_law_are_made", "_law_are_made", s_l_are_made, [], []⟩,
  ⟨367, "_law_take", "_law_take", s_l_take, [], []⟩,
  ⟨374, "_law_of", "_law_of", s_l_of, [], []⟩,
  ⟨381, "_law_signs", "_law_signs", s_l_signs, [], []⟩,
  ⟨386, "_law_digits", "_law_digits", s_l_digits, [], []⟩,
  ⟨391, "_law_text", "_law_text", s_l_text, [], []⟩,
  ⟨396, "_law_thing", "_law_thing", s_l_thing, [], []⟩,
  ⟨360, "_law_bag", "_law_bag", s_l_bag, [], []⟩,
  ⟨420, "law", "law", s_law, [], []⟩,
  ⟨79, "__init__", "BadBook.__init__", s_BadBook_init, [], []⟩,
  ⟨136, "__init__", "BadCut.__init__", s_BadCut_init, [], []⟩,
  ⟨288, "__init__", "BadInput.__init__", s_BadInput_init, [], []⟩,
  ⟨60, "__init__", "BadKind.__init__", s_BadKind_init, [], []⟩,
  ⟨250, "__init__", "BadProgram.__init__", s_BadProgram_init, [], []⟩,
  ⟨117, "__init__", "BadReader.__init__", s_BadReader_init, [], []⟩,
  ⟨269, "__init__", "BadRun.__init__", s_BadRun_init, [], []⟩,
  ⟨41, "__init__", "BadShape.__init__", s_BadShape_init, [], []⟩,
  ⟨98, "__init__", "BadTable.__init__", s_BadTable_init, [], []⟩,
  ⟨231, "__init__", "Misfit.__init__", s_Misfit_init, [], []⟩,
  ⟨327, "__init__", "NoColumn.__init__", s_NoColumn_init, [], []⟩,
  ⟨307, "__init__", "NoKind.__init__", s_NoKind_init, [], []⟩,
  ⟨347, "__init__", "NoRow.__init__", s_NoRow_init, [], []⟩,
  ⟨174, "__init__", "NotHeld.__init__", s_NotHeld_init, [], []⟩,
  ⟨193, "__init__", "OrderMatters.__init__", s_OrderMatters_init, [], []⟩,
  ⟨155, "__init__", "OtherBook.__init__", s_OtherBook_init, [], []⟩,
  ⟨212, "__init__", "Unfit.__init__", s_Unfit_init, [], []⟩]
def fn : List DefG := fn0
def as0 : List Addr := [3, 2, 24, 44, 63, 82, 101, 120, 139, 158, 177, 196, 215, 234, 253, 272, 291, 310, 330, 350, 403, 408, 413, 367, 374, 381, 386, 391, 396, 360, 420, 79, 136, 288, 60, 250, 117, 269, 41, 98]
def as1 : List Addr := [231, 327, 307, 347, 174, 193, 155, 212, 6, 4, 23, 43, 62, 81, 100, 119, 138, 157, 176, 195, 214, 233, 252, 271, 290, 309, 329, 349, 402, 407, 412, 366, 373, 380, 385, 390, 395, 359, 419, 78]
def as2 : List Addr := [135, 287, 59, 249, 116, 268, 40, 97, 230, 326, 306, 346, 173, 192, 154, 211, 15, 22, 25, 28, 35, 36, 37, 38, 39, 42, 47, 54, 55, 56, 57, 58, 61, 66, 73, 74, 75, 76, 77, 80]
def as3 : List Addr := [85, 92, 93, 94, 95, 96, 99, 104, 111, 112, 113, 114, 115, 118, 123, 130, 131, 132, 133, 134, 137, 142, 149, 150, 151, 152, 153, 156, 161, 168, 169, 170, 171, 172, 175, 180, 187, 188, 189, 190]
def as4 : List Addr := [191, 194, 199, 206, 207, 208, 209, 210, 213, 218, 225, 226, 227, 228, 229, 232, 237, 244, 245, 246, 247, 248, 251, 256, 263, 264, 265, 266, 267, 270, 275, 282, 283, 284, 285, 286, 289, 294, 301, 302]
def as5 : List Addr := [303, 304, 305, 308, 311, 314, 321, 322, 323, 324, 325, 328, 331, 334, 341, 342, 343, 344, 345, 348, 351, 354, 355, 356, 357, 358, 361, 362, 363, 364, 365, 368, 369, 370, 371, 372, 375, 376, 377, 378]
def as6 : List Addr := [379, 382, 383, 384, 387, 388, 389, 392, 393, 394, 397, 398, 399, 400, 401, 404, 405, 406, 409, 410, 411, 414, 415, 416, 417, 418]
def as : List Addr := as0 ++ as1 ++ as2 ++ as3 ++ as4 ++ as5 ++ as6
def hxN0 : List PySem.Str := ["__name__", "GuessError", "BadShape", "BadKind", "BadBook", "BadTable", "BadReader", "BadCut", "OtherBook", "NotHeld", "OrderMatters", "Unfit", "Misfit", "BadProgram", "BadRun", "BadInput", "NoKind", "NoColumn", "NoRow", "_law_bag", "_law_take", "_law_of", "_law_signs", "_law_digits", "_law_text", "_law_thing", "_law_marks", "_law_is_placed", "_law_are_made"]
def names : List PySem.Str := hxN0
abbrev R : PySem.W.OpenRow := PySem.W.OpenLaw.row PySem.Challenge.rw_guessedkinds_k89_errors_made
abbrev qv : Program := PySem.W.view R.prog [30]
abbrev hk : PySem.W.Hook := hookX as fa fn
def ob (s : PySem.W.SharedT) : Bool × List He.FnW := obsX as fa fn (HandSHeadRun.getT s)
theorem ob_eq (s : PySem.W.SharedT) : ob s = hk.obs s.abs := obsX_eq (HandSHeadRun.getT_eq s)
theorem run (w : World) : HandSHeadRun.RunEq R qv hk ob 60000 names w := by
  intro os
  kernel_rfl
end Lw
open PySem PySem.W PySem.Calls PyProof.Rows in
set_option maxRecDepth 100000 in
set_option maxHeartbeats 0 in
theorem Lw.pre (hc : PySem.W.WalkO Lw.qv Lw.names (PySem.W.XL Lw.qv []) Lw.hk.says (OpenLaw.row PySem.Challenge.rw_guessedkinds_k89_errors_made).toRowW (HandSHeadRun.topDef (OpenLaw.row PySem.Challenge.rw_guessedkinds_k89_errors_made).prog 30) [] fun f vs => PySem.call f vs) : PySem.Challenge.rw_guessedkinds_k89_errors_made.Holds := by
  w_on; o_law
  refine HandSHeadRun.head_any (r := OpenLaw.row PySem.Challenge.rw_guessedkinds_k89_errors_made) (q := Lw.qv) (H := Lw.hk) (ob := Lw.ob) (M := 60000) (loose := Lw.names) (d := HandSHeadRun.topDef (OpenLaw.row PySem.Challenge.rw_guessedkinds_k89_errors_made).prog 30) (kwd := []) Lw.ob_eq
    (by kernel_rfl) (fun s => by kernel_rfl) Lw.run (by kernel_rfl) (by kernel_rfl) (by kernel_rfl) (by rfl) (by first | assumption | decide +kernel) (by decide +kernel) ⟨rfl, rfl, rfl, rfl, rfl, by decide +kernel⟩ ?hw hc
  w_witness2
/-! room where nothing is being shown; defs that ask for it -/
namespace G
open PySem PySem.Spec PyProof.Rows L2
structure Room (k : Nat) (A : Around) : Prop where
  r : L2.Room k A
  gd : A.guards = some []
instance {k : Nat} {A : Around} : CoeOut (Room k A) (L2.Room k A) := ⟨Room.r⟩
section
variable {j k : Nat} {A : Around}
theorem Room.mono (h : Room k A) (l : j ≤ k) : Room j A := ⟨h.r.mono l, h.gd⟩
theorem Room.deeper (h : Room (k + 1) A) (env : Env) : Room k (A.deeper env) := ⟨h.r.deeper env, h.gd⟩
theorem Room.in1 (h : Room (k + 1) A) : Room k A.in1 := ⟨h.r.in1, h.gd⟩
theorem make_guards {C : Addr} {us : List Value} {kw : List (Str × Value)} (h : A.guards = some []) : (A.under (.builtin "type.__call__" ⟨.ref C :: us, kw⟩)).guards = some [] := by
  first | rfl | simp [Around.under, Code.guards, Code.isGuard, guardIds, pushGuards, h]
theorem Room.make (h : Room (k + 1) A) (C : Addr) (us : List Value) (kw : List (Str × Value)) : Room k (A.under (.builtin "type.__call__" ⟨.ref C :: us, kw⟩)) := ⟨h.r.make C us kw, make_guards h.gd⟩
theorem Room.depth (h : Room k A) : A.depth < recursionLimit := h.r.depth
theorem Room.units (h : Room k A) : A.units + 64 < cLine := h.r.units
theorem Room.un (h : Room k A) : A.units + 16 * k + 200 < cLine := h.r.un
theorem Room.hd (h : Room k A) : A.handled = none := h.r.hd
end
/-- a def's promise, asked where nothing is being shown -/
structure FnOk (P : Program) (w : World) (K : PySem.W.Frag) (mg : Str → Option Value) (base : Heap) (CX : CXT) (k : Nat) (f : Addr) (fd : FuncData) (ps : List Str) (sp : Sp) : Prop where
  len : ∀ vs H Q E, sp vs H Q E → vs.length = ps.length
  run : ∀ (A : Around) (outer : List Env) (s : Shared) (H : Hp) (args : Args) (us : List Value) (vs : List V) (Q : VK) (E : XK),
    Room k A → Env0 P w K mg base A outer s H → BindsTo s fd args (ps.zip us) → Vals vs us → sp vs H Q E → codeAny (model P w) A (.call (.ref f) args) (CR CX outer P w H s Q E) s
section
variable {P : Program} {w : World} {K : PySem.W.Frag} {mg : Str → Option Value} {base : Heap} {CX : CXT} {j k : Nat} {f : Addr} {fd : FuncData} {N ps : List Str} {sp sp' : Sp}
theorem FnOk.mono (F : FnOk P w K mg base CX j f fd ps sp) (h : j ≤ k) : FnOk P w K mg base CX k f fd ps sp :=
  ⟨F.len, fun A outer s H args us vs Q E hr e0 hb r q => F.run A outer s H args us vs Q E (hr.mono h) e0 hb r q⟩
theorem FnOk.imp (F : FnOk P w K mg base CX k f fd ps sp) (h : ∀ vs H Q E, sp' vs H Q E → sp vs H Q E) : FnOk P w K mg base CX k f fd ps sp' :=
  ⟨fun vs H Q E q => F.len vs H Q E (h vs H Q E q), fun A outer s H args us vs Q E hr e0 hb r q => F.run A outer s H args us vs Q E hr e0 hb r (h vs H Q E q)⟩
theorem fn_any {name qual : Str} {params : Arguments} {body : List Stmt} {scope : Scope} {dV kV doc pm cdv ct oc : Value} {an od : Option Addr} {osl : Array (Option Value)}
    (lk : K.lookup f = some ⟨oc, od, .func (PySem.W.fnOf name qual params body scope dV kV doc pm an cdv ct), osl⟩) (hcd : PySem.W.codeIn K cdv qual = true) (S : FnScope N ps scope) (len : ∀ vs H Q E, sp vs H Q E → vs.length = ps.length)
    (hbody : ∀ (A : Around) (outer : List Env) (s : Shared) (H : Hp) (vs : List V) (Q : VK) (E : XK), Room k (A.deeper (envOfC qual scope s.heap.objs.size f cdv)) → sp vs H Q E →
      ∃ t, PSs (cxOf CX P w K mg base N qual scope f cdv A outer s H E) body t ∧ t { nx := fun _ H' => Q .non H', rt := Q } (L2.start N vs) H) :
    FnOk P w K mg base CX (k + 1) f (PySem.W.fnOf name qual params body scope dV kV doc pm an cdv ct) ps sp :=
  ⟨len, fun A outer s H args us vs Q E hr e0 hb r q => LamX.run_ofS lk hcd S hr.r e0 hb r (len vs H Q E q) fun hr' => hbody A outer s H vs Q E ⟨hr', hr.gd⟩ q⟩
theorem funOk {x qual : Str} {st : Stmt} (F : Fun K x qual st f fd) (S : FnScope N ps (defScope st)) (len : ∀ vs H Q E, sp vs H Q E → vs.length = ps.length)
    (hbody : ∀ (cdv : Value) (A : Around) (outer : List Env) (s : Shared) (H : Hp) (vs : List V) (Q : VK) (E : XK), Room k (A.deeper (envOfC qual (defScope st) s.heap.objs.size f cdv)) → sp vs H Q E →
      ∃ t, PSs (cxOf CX0 P w K mg base N qual (defScope st) f cdv A outer s H E).nox (defBody st) t ∧ t { nx := fun _ H' => Q .non H', rt := Q } (L2.start N vs) H) : FnOk P w K mg base CX0 (k + 1) f fd ps sp := by
  obtain ⟨oc, od, kV, doc, pm, an, cdv, ct, osl, e, lk, hcd⟩ := F.ex
  subst e
  refine fn_any lk hcd S len fun A outer s H vs Q E hr q => ?_
  obtain ⟨t, h1, h2⟩ := hbody cdv A outer s H vs Q E hr q
  exact ⟨t, h1.nox, h2⟩
end
/-! ### calls of such defs -/
section
variable {X : Cx} {CX : CXT} {k : Nat} {f : Addr} {fd : FuncData} {ps : List Str} {sp : Sp} {ds : List Value} {dvs : List V} {E : XK} {pins : List (Addr × Obj)} {σ : L2.St} {H : Hp} {s : Shared} {x : Str} {p pos : Pos} {e : Expr} {es : List Expr} {t : TA}
theorem fn_run {us : List Value} {vs : List V} {Q : VK} (F : FnOk X.prog X.w X.K X.mg X.base CX k f fd ps sp) (hr : Room k X.A) (hb : Binds X.K fd ps ds) (hd : Vals dvs ds) (hx : Passes CX X E) (I : Inv X pins σ H s) (r : Vals vs us)
    (h : sp (vs ++ dvs) H Q E) : wpAny (model X.prog X.w) X.A (call (.ref f) us) (EP X pins σ Q) X.xe s := by
  have r2 := r.append hd
  have hl : (us ++ ds).length = ps.length := r2.length.symm.trans (F.len _ _ _ _ h)
  refine wpAny_call (codeAny_mono (F.run X.A X.stack s H ⟨us, []⟩ (us ++ ds) (vs ++ dvs) Q E hr I.env0 (hb s us I.kIn hl) r2 h) fun res s' hq => ?_)
  cases res with
  | error er => exact hx pins σ H s er s' I hq
  | ok fl =>
    cases fl with
    | ret u => exact I.after hq
    | next => exact hq.elim
    | brk => exact hq.elim
    | cont => exact hq.elim
theorem pe_callG (F : FnOk X.prog X.w X.K X.mg X.base CX k f fd ps sp) (hr : Room k X.A) (hg : Gl X x) (hm : X.mg x = some (.ref f)) (hk : PySem.W.keepIn X.K (.ref f) = true) (hb : Binds X.K fd ps ds) (hd : Vals dvs ds)
    (hx : Passes CX X E) (ha : PA X (e :: es) t) (hdb : (x == ("__debug__" : Str)) = false) (he : starEach (e :: es) X.env = (false, eval e X.env) :: starEach es X.env) (hpl : (backTo pos (starEach es X.env)).any (·.1) = false) :
    PE X (.Call (.Name x p) (e :: es) [] pos) (tCall sp dvs E t) := by
  refine ⟨fun pins s σ H Q I h => wpAny_Call_Name_kw (ld_glob I hg hm ?_ hdb)⟩
  exact PySem.W.callWith_K (h₀ := X.base) I.ok.mod.kin hk (thn (ha.run pos pins s σ H _ I h) fun us s1 ⟨vs, H1, I1, r, q⟩ => ⟨I1.kIn, fn_run F hr hb hd hx I1 r q⟩) he hpl
theorem pe_callG0 (F : FnOk X.prog X.w X.K X.mg X.base CX k f fd ps sp) (hr : Room k X.A) (hg : Gl X x) (hm : X.mg x = some (.ref f)) (hk : PySem.W.keepIn X.K (.ref f) = true) (hb : Binds X.K fd ps ds) (hd : Vals dvs ds)
    (hx : Passes CX X E) (hdb : (x == ("__debug__" : Str)) = false) : PE X (.Call (.Name x p) [] [] pos) (tCall sp dvs E tNil) := by
  refine ⟨fun pins s σ H Q I h => wpAny_Call_Name_kw (ld_glob I hg hm ?_ hdb)⟩
  exact PySem.W.callWith_K0 I.kIn hk (fn_run (us := []) F hr hb hd hx I .nil h)
end
end G
/-! data trees over the abstract heap: what never changes again is a tree, what changes is a cell -/
namespace G
open PySem PySem.Spec PyProof.Rows L2

inductive D where
  | non
  | bl (b : Bool)
  | int (i : Int)
  | str (l : List Nat)
  | ref (a : Addr)
  | ty (n : String)
  | cls (c : String)
  | tup (ds : List D)
  | lst (ds : List D)
  | rol (ds : List D)
  | dic (kvs : List (Key × D))
  | dct (kvs : List (List Key × D))
  | ins (c : String) (fs : List (Str × D))

/-- the classes' addresses, by name -/
abbrev Nm := String → Addr

section
variable (K : PySem.W.Frag) (cl : Nm) (F : Hp)
mutual
inductive Rep : V → D → Prop
  | non : Rep .non .non
  | bl (b : Bool) : Rep (.bl b) (.bl b)
  | int (i : Int) : Rep (.int i) (.int i)
  | str (l : List Nat) : Rep (.str ⟨l.toArray⟩) (.str l)
  | ref (a : Addr) : Rep (.ref a) (.ref a)
  | ty (n : String) : Rep (.ty n) (.ty n)
  | cls (c : String) : Rep (.ref (cl c)) (.cls c)
  | tup {a : Addr} {xs : List V} {ds : List D} : SqT K F a xs → RepL xs ds → Rep (.ref a) (.tup ds)
  | lst {a : Addr} {xs : List V} {ds : List D} : F a = some (.lst xs) → RepL xs ds → Rep (.ref a) (.lst ds)
  | rol {a : Addr} {xs : List V} {ds : List D} : SqL K F a xs → RepL xs ds → Rep (.ref a) (.rol ds)
  | dic {a : Addr} {o : Obj} {kvs : List (Key × V)} {ds : List (Key × D)} : F a = some (.frz o (.dK kvs)) → RepK kvs ds → Rep (.ref a) (.dic ds)
  | dct {a : Addr} {kvs : List (List Key × V)} {ds : List (List Key × D)} : F a = some (.dT kvs) → RepT kvs ds → Rep (.ref a) (.dct ds)
  | ins {a dx : Addr} {c : String} {fs : List (Str × V)} {ds : List (Str × D)} : F a = some (.ins (cl c) dx fs) → RepF fs ds → Rep (.ref a) (.ins c ds)
inductive RepL : List V → List D → Prop
  | nil : RepL [] []
  | cons {v : V} {d : D} {vs : List V} {ds : List D} : Rep v d → RepL vs ds → RepL (v :: vs) (d :: ds)
inductive RepK : List (Key × V) → List (Key × D) → Prop
  | nil : RepK [] []
  | cons {k : Key} {v : V} {d : D} {vs : List (Key × V)} {ds : List (Key × D)} : Rep v d → RepK vs ds → RepK ((k, v) :: vs) ((k, d) :: ds)
inductive RepT : List (List Key × V) → List (List Key × D) → Prop
  | nil : RepT [] []
  | cons {k : List Key} {v : V} {d : D} {vs : List (List Key × V)} {ds : List (List Key × D)} : Rep v d → RepT vs ds → RepT ((k, v) :: vs) ((k, d) :: ds)
inductive RepF : List (Str × V) → List (Str × D) → Prop
  | nil : RepF [] []
  | cons {k : Str} {v : V} {d : D} {vs : List (Str × V)} {ds : List (Str × D)} : Rep v d → RepF vs ds → RepF ((k, v) :: vs) ((k, d) :: ds)
end
end

theorem sqT_mono {K : PySem.W.Frag} {F F' : Hp} {a : Addr} {xs : List V} (e : Same F F') (h : SqT K F a xs) : SqT K F' a xs := by
  rcases h with (h | ⟨o, h⟩) | h
  · exact .inl (.inl (e _ _ h))
  · exact .inl (.inr ⟨o, e _ _ h⟩)
  · exact .inr h

section
variable {K : PySem.W.Frag} {cl : Nm} {F F' : Hp}
mutual
theorem Rep.mono (s : Same F F') : ∀ {v : V} {d : D}, Rep K cl F v d → Rep K cl F' v d
  | _, _, .non => .non
  | _, _, .bl b => .bl b
  | _, _, .int i => .int i
  | _, _, .str x => .str x
  | _, _, .ref a => .ref a
  | _, _, .ty n => .ty n
  | _, _, .cls c => .cls c
  | _, _, .tup h r => .tup (sqT_mono s h) (RepL.mono s r)
  | _, _, .lst h r => .lst (s _ _ h) (RepL.mono s r)
  | _, _, .rol h r => .rol (s.seq h) (RepL.mono s r)
  | _, _, .dic h r => .dic (s _ _ h) (RepK.mono s r)
  | _, _, .dct h r => .dct (s _ _ h) (RepT.mono s r)
  | _, _, .ins h r => .ins (s _ _ h) (RepF.mono s r)
theorem RepL.mono (s : Same F F') : ∀ {vs : List V} {ds : List D}, RepL K cl F vs ds → RepL K cl F' vs ds
  | _, _, .nil => .nil
  | _, _, .cons h r => .cons (Rep.mono s h) (RepL.mono s r)
theorem RepK.mono (s : Same F F') : ∀ {vs : List (Key × V)} {ds : List (Key × D)}, RepK K cl F vs ds → RepK K cl F' vs ds
  | _, _, .nil => .nil
  | _, _, .cons h r => .cons (Rep.mono s h) (RepK.mono s r)
theorem RepT.mono (s : Same F F') : ∀ {vs : List (List Key × V)} {ds : List (List Key × D)}, RepT K cl F vs ds → RepT K cl F' vs ds
  | _, _, .nil => .nil
  | _, _, .cons h r => .cons (Rep.mono s h) (RepT.mono s r)
theorem RepF.mono (s : Same F F') : ∀ {vs : List (Str × V)} {ds : List (Str × D)}, RepF K cl F vs ds → RepF K cl F' vs ds
  | _, _, .nil => .nil
  | _, _, .cons h r => .cons (Rep.mono s h) (RepF.mono s r)
end
theorem RepL.length : ∀ {vs : List V} {ds : List D}, RepL K cl F vs ds → vs.length = ds.length
  | _, _, .nil => rfl
  | _, _, .cons _ r => congrArg (· + 1) (RepL.length r)
theorem RepL.get : ∀ {vs : List V} {ds : List D} {i : Nat} {d : D}, RepL K cl F vs ds → ds[i]? = some d → ∃ v, vs[i]? = some v ∧ Rep K cl F v d
  | _, _, _, _, .nil, e => by simp at e
  | _, _, 0, _, .cons h _, e => by simp at e; subst e; exact ⟨_, rfl, h⟩
  | _, _, i + 1, d, .cons _ r, e => by
    obtain ⟨v, h1, h2⟩ := RepL.get (i := i) (d := d) r (by simpa using e)
    exact ⟨v, by simpa using h1, h2⟩
theorem RepL.append : ∀ {vs ws : List V} {ds es : List D}, RepL K cl F vs ds → RepL K cl F ws es → RepL K cl F (vs ++ ws) (ds ++ es)
  | _, _, _, _, .nil, s => s
  | _, _, _, _, .cons r t, s => .cons r (RepL.append t s)
theorem RepL.take : ∀ {vs : List V} {ds : List D} (n : Nat), RepL K cl F vs ds → RepL K cl F (vs.take n) (ds.take n)
  | _, _, 0, _ => .nil
  | _, _, _ + 1, .nil => .nil
  | _, _, n + 1, .cons r t => .cons r (RepL.take n t)
theorem RepL.drop : ∀ {vs : List V} {ds : List D} (n : Nat), RepL K cl F vs ds → RepL K cl F (vs.drop n) (ds.drop n)
  | _, _, 0, r => r
  | _, _, _ + 1, .nil => .nil
  | _, _, n + 1, .cons _ t => RepL.drop n t
theorem RepL.set {v : V} {d : D} (h : Rep K cl F v d) : ∀ {vs : List V} {ds : List D} (i : Nat), RepL K cl F vs ds → RepL K cl F (vs.set i v) (ds.set i d)
  | _, _, _, .nil => .nil
  | _, _, 0, .cons _ t => .cons h t
  | _, _, i + 1, .cons q t => .cons q (RepL.set h i t)
theorem RepL.reverse : ∀ {vs : List V} {ds : List D}, RepL K cl F vs ds → RepL K cl F vs.reverse ds.reverse
  | _, _, .nil => .nil
  | _, _, .cons r t => by
    rw [List.reverse_cons, List.reverse_cons]
    exact (RepL.reverse t).append (.cons r .nil)
theorem RepF.get : ∀ {vs : List (Str × V)} {ds : List (Str × D)} {f : Str} {d : D}, RepF K cl F vs ds → ds.lookup f = some d → ∃ v, vs.lookup f = some v ∧ Rep K cl F v d
  | _, _, _, _, .nil, e => by simp at e
  | _, _, f, d, .cons (k := k) h r, e => by
    by_cases c : f = k
    · subst c
      rw [List.lookup_cons_self] at e
      cases e
      exact ⟨_, List.lookup_cons_self, h⟩
    · have c' : (f == k) = false := by simpa using c
      rw [List.lookup_cons, c'] at e
      obtain ⟨v, h1, h2⟩ := RepF.get r e
      exact ⟨v, by rw [List.lookup_cons, c']; exact h1, h2⟩
end

/-! ### cells -/
inductive Cell where
  | lst (ds : List D)
  | dic (kvs : List (Key × D))
  | dct (kvs : List (List Key × D))
  | ins (c : String) (fs : List (Str × D))
  /-- a table of the code objects of lambdas of this name -/
  | tbl (q : String)
  /-- a dict that is walked: locked for the while -/
  | dil (o : Obj) (vs : List (Key × V)) (kvs : List (Key × D))
  /-- an exception that is held as a value: where it stands, its class, its fields -/
  | exc (e : Addr) (c : String) (fs : List (Str × D))
abbrev Cl := Addr → Option Cell
def updC (C : Cl) (a : Addr) (c : Cell) : Cl := fun b => if b = a then some c else C b
theorem updC_same {C : Cl} {a : Addr} {c : Cell} : updC C a c a = some c := by unfold updC; rw [if_pos rfl]
theorem updC_ne {C : Cl} {a b : Addr} {c : Cell} (h : b ≠ a) : updC C a c b = C b := by unfold updC; rw [if_neg h]
theorem updC_updC {C : Cl} {a : Addr} {c c' : Cell} : updC (updC C a c) a c' = updC C a c' := by
  funext b; unfold updC; split <;> rfl
def delC (C : Cl) (a : Addr) : Cl := fun b => if b = a then none else C b
def SubC (C C' : Cl) : Prop := ∀ a c, C a = some c → C' a = some c
theorem SubC.refl (C : Cl) : SubC C C := fun _ _ h => h
theorem SubC.trans {A B C : Cl} (h : SubC A B) (k : SubC B C) : SubC A C := fun a c e => k a c (h a c e)
theorem SubC.new {C C' : Cl} {p : Addr} {c : Cell} (h : SubC C C') (e : C p = none) : SubC C (updC C' p c) := fun a x q => by
  by_cases z : a = p
  · subst z; rw [e] at q; cases q
  · rw [updC_ne z]; exact h a x q

inductive CRep (K : PySem.W.Frag) (cl : Nm) (F : Hp) : HO → Cell → Prop
  | lst {xs : List V} {ds : List D} : RepL K cl F xs ds → CRep K cl F (.lst xs) (.lst ds)
  | dic {kvs : List (Key × V)} {ds : List (Key × D)} : RepK K cl F kvs ds → CRep K cl F (.dK kvs) (.dic ds)
  | dct {kvs : List (List Key × V)} {ds : List (List Key × D)} : RepT K cl F kvs ds → CRep K cl F (.dT kvs) (.dct ds)
  | ins {c : String} {dx : Addr} {fs : List (Str × V)} {ds : List (Str × D)} : RepF K cl F fs ds → CRep K cl F (.ins (cl c) dx fs) (.ins c ds)
  | dil {o : Obj} {kvs : List (Key × V)} {ds : List (Key × D)} : RepK K cl F kvs ds → CRep K cl F (.frz o (.dK kvs)) (.dil o kvs ds)
  | exc {e d : Addr} {c : String} {fs : List (Str × V)} {ds : List (Str × D)} : F d = some (exd d fs) → RepF K cl F fs ds → CRep K cl F (exo e (cl c) (some d)) (.exc e c ds)
  | tbl {ps : Array Value} {q : String} : TriplesOk ps.toList → (∀ (pos : Pos) (cv : Value), codeAmong pos ps.toList = some cv → ∃ c, cv = .ref c ∧ F c = some (LamX.CodeO c q)) → CRep K cl F (.tbl ps) (.tbl q)
theorem CRep.mono {K : PySem.W.Frag} {cl : Nm} {F F' : Hp} {o : HO} {c : Cell} (s : Same F F') : CRep K cl F o c → CRep K cl F' o c
  | .lst r => .lst (r.mono s)
  | .dic r => .dic (r.mono s)
  | .dct r => .dct (r.mono s)
  | .ins r => .ins (r.mono s)
  | .dil r => .dil (r.mono s)
  | .exc h r => .exc (s _ _ h) (r.mono s)
  | .tbl t h => .tbl t fun pos cv e => let ⟨c, e1, e2⟩ := h pos cv e; ⟨c, e1, s _ _ e2⟩

structure RC (K : PySem.W.Frag) (cl : Nm) (C : Cl) (F H : Hp) : Prop where
  sub : Same F H
  cel : ∀ a c, C a = some c → F a = none ∧ ∃ o, H a = some o ∧ CRep K cl F o c
  tab : ∀ a q, C a = some (.tbl q) → a = cl q
section
variable {K : PySem.W.Frag} {cl : Nm} {C C' : Cl} {F F' H H' : Hp}
theorem same_upd {H : Hp} {p : Addr} {o : HO} (h : H p = none) : Same H (upd H p o) := fun b x e => by
  rw [upd_ne (ne_of_none e h)]
  exact e
theorem RC.freeF (R : RC K cl C F H) {p : Addr} (h : H p = none) : F p = none := R.sub.free h
theorem RC.freeC (R : RC K cl C F H) {p : Addr} (h : H p = none) : C p = none := by
  cases e : C p with
  | none => rfl
  | some c =>
    obtain ⟨_, o, q, _⟩ := R.cel p c e
    rw [h] at q; cases q
/-- a new tree -/
theorem RC.new (R : RC K cl C F H) {p : Addr} {o : HO} (h : H p = none) : RC K cl C (upd F p o) (upd H p o) where
  sub := fun b x e => by
    by_cases z : b = p
    · subst z; rw [upd_same] at e ⊢; exact e
    · rw [upd_ne z] at e ⊢; exact R.sub b x e
  cel := fun a c e => by
    obtain ⟨f, x, hx, r⟩ := R.cel a c e
    have z : a ≠ p := ne_of_none hx h
    exact ⟨by rw [upd_ne z]; exact f, x, by rw [upd_ne z]; exact hx, r.mono (same_upd (R.freeF h))⟩
  tab := R.tab
/-- a new thing that is not looked at again -/
theorem RC.over (R : RC K cl C F H) (s : Same H H') : RC K cl C F H' where
  sub := R.sub.trans s
  cel := fun a c e => by
    obtain ⟨f, x, hx, r⟩ := R.cel a c e
    exact ⟨f, x, s _ _ hx, r⟩
  tab := R.tab
/-- a new cell -/
theorem RC.cell (R : RC K cl C F H) {p : Addr} {o : HO} {c : Cell} (h : H p = none) (r : CRep K cl F o c) (ht : ∀ q, c = .tbl q → p = cl q := by nofun) : RC K cl (updC C p c) F (upd H p o) where
  sub := R.sub.trans (same_upd h)
  cel := fun a x e => by
    by_cases z : a = p
    · subst z
      rw [updC_same] at e; cases e
      exact ⟨R.freeF h, o, upd_same, r⟩
    · rw [updC_ne z] at e
      obtain ⟨f, x', hx, r'⟩ := R.cel a x e
      exact ⟨f, x', by rw [upd_ne z]; exact hx, r'⟩
  tab := fun a q e => by
    by_cases z : a = p
    · subst z
      rw [updC_same] at e; cases e
      exact ht q rfl
    · rw [updC_ne z] at e
      exact R.tab a q e
/-- a cell is written -/
theorem RC.put (R : RC K cl C F H) {p : Addr} {o : HO} {c c0 : Cell} (h : C p = some c0) (r : CRep K cl F o c) (ht : ∀ q, c = .tbl q → p = cl q := by nofun) : RC K cl (updC C p c) F (upd H p o) where
  sub := fun b x e => by
    have z : b ≠ p := ne_of_none e (R.cel p c0 h).1
    rw [upd_ne z]; exact R.sub b x e
  cel := fun a x e => by
    by_cases z : a = p
    · subst z
      rw [updC_same] at e; cases e
      exact ⟨(R.cel a c0 h).1, o, upd_same, r⟩
    · rw [updC_ne z] at e
      obtain ⟨f, x', hx, r'⟩ := R.cel a x e
      exact ⟨f, x', by rw [upd_ne z]; exact hx, r'⟩
  tab := fun a q e => by
    by_cases z : a = p
    · subst z
      rw [updC_same] at e; cases e
      exact ht q rfl
    · rw [updC_ne z] at e
      exact R.tab a q e
/-- cells are forgotten -/
theorem RC.drop (R : RC K cl C F H) (s : SubC C' C) : RC K cl C' F H := ⟨R.sub, fun a c e => R.cel a c (s a c e), fun a q e => R.tab a q (s a _ e)⟩
/-- a cell becomes a tree -/
theorem RC.freeze (R : RC K cl C F H) {p : Addr} {o : HO} {c : Cell} (h : C p = some c) (ho : H p = some o) : RC K cl (delC C p) (upd F p o) H ∧ Same F (upd F p o) := by
  have f := (R.cel p c h).1
  refine ⟨⟨fun b x e => ?_, fun a x e => ?_, fun a q e => ?_⟩, same_upd f⟩
  · by_cases z : b = p
    · subst z; rw [upd_same] at e; rw [← e]; exact ho
    · rw [upd_ne z] at e; exact R.sub b x e
  · unfold delC at e
    by_cases z : a = p
    · rw [if_pos z] at e; cases e
    · rw [if_neg z] at e
      obtain ⟨f', x', hx, r'⟩ := R.cel a x e
      exact ⟨by rw [upd_ne z]; exact f', x', hx, r'.mono (same_upd f)⟩
  · unfold delC at e
    by_cases z : a = p
    · rw [if_pos z] at e; cases e
    · rw [if_neg z] at e
      exact R.tab a q e
end

/-- the classes' addresses, and the trees that stood at the start -/
structure NmB where
  f : Nm
  bs : Hp
instance : Coe NmB Nm := ⟨NmB.f⟩
instance : CoeFun NmB (fun _ => String → Addr) := ⟨NmB.f⟩
abbrev nb (cl : Nm) : NmB := ⟨cl, fun _ => none⟩
/-! ### slots -/
abbrev DEnv := List (Option D)
structure RS (K : PySem.W.Frag) (cl : NmB) (ρ : DEnv) (C : Cl) (F : Hp) (σ : L2.St) (H : Hp) : Prop where
  rc : RC K cl C F H
  len : ρ.length = σ.length
  env : ∀ (i : Nat) (d : D), ρ[i]? = some (some d) → ∃ v, σ[i]? = some (some v) ∧ Rep K cl F v d
  bs : Same cl.bs F
section
variable {K : PySem.W.Frag} {cl : NmB} {C C' : Cl} {F F' H H' : Hp} {ρ : DEnv} {σ : L2.St}
theorem RS.next (R : RS K cl ρ C F σ H) (s : Same F F') (r : RC K cl C' F' H') : RS K cl ρ C' F' σ H' :=
  ⟨r, R.len, fun i d e => let ⟨v, h1, h2⟩ := R.env i d e; ⟨v, h1, h2.mono s⟩, R.bs.trans s⟩
theorem RS.set (R : RS K cl ρ C F σ H) {v : V} {d : D} (i : Nat) (h : Rep K cl F v d) : RS K cl (ρ.set i (some d)) C F (σ.set i (some v)) H where
  rc := R.rc
  bs := R.bs
  len := by rw [List.length_set, List.length_set]; exact R.len
  env := fun j e q => by
    by_cases z : i = j
    · subst z
      have hl : i < ρ.length := by
        have := (List.getElem?_eq_some_iff.mp q).1
        simpa using this
      rw [List.getElem?_set_self hl] at q
      cases q
      exact ⟨v, List.getElem?_set_self (by rw [← R.len]; exact hl), h⟩
    · rw [List.getElem?_set_ne z] at q
      obtain ⟨u, h1, h2⟩ := R.env j e q
      exact ⟨u, by rw [List.getElem?_set_ne z]; exact h1, h2⟩
theorem RS.unset (R : RS K cl ρ C F σ H) (i : Nat) {x : Option V} : RS K cl (ρ.set i none) C F (σ.set i x) H where
  rc := R.rc
  bs := R.bs
  len := by rw [List.length_set, List.length_set]; exact R.len
  env := fun j e q => by
    by_cases z : i = j
    · subst z
      by_cases hl : i < ρ.length
      · rw [List.getElem?_set_self hl] at q
        cases q
      · rw [List.getElem?_eq_none (by simpa using hl)] at q; cases q
    · rw [List.getElem?_set_ne z] at q
      obtain ⟨u, h1, h2⟩ := R.env j e q
      exact ⟨u, by rw [List.getElem?_set_ne z]; exact h1, h2⟩
end
theorem szl {n : Nat} (h : n ≤ 16000000) : n ≤ sizeLine := Nat.le_trans h (by rw [sizeLine_eq]; decide)
end G
namespace G
open PySem PySem.Spec PyProof.Rows L2

abbrev DQ := D → Cl → Prop
abbrev DE := DEnv → Cl → DQ → Prop
abbrev DT := DEnv → Cl → (Bool → Cl → Prop) → Prop
abbrev DA := DEnv → Cl → (List D → Cl → Prop) → Prop
structure DEnds where
  nx : DEnv → Cl → Prop
  rt : DQ
  bk : DEnv → Cl → Prop := fun _ _ => False
  ct : DEnv → Cl → Prop := fun _ _ => False
abbrev DS := DEnds → DEnv → Cl → Prop
/-- an exception's class, its fields -/
abbrev DX := String → List (Str × D) → Cl → Prop
abbrev DSp := List D → Cl → DQ → DX → Prop

section
variable (K : PySem.W.Frag) (cl : Nm)
def Fin (F : Hp) (Qd : DQ) (Q : VK) : Prop := ∀ v d C H F', Same F F' → RC K cl C F' H → Rep K cl F' v d → Qd d C → Q v H
end
section
variable (K : PySem.W.Frag) (cl : NmB)
def lowE (td : DE) : TE := fun σ H Q => ∃ ρ C F Qd, RS K cl ρ C F σ H ∧ td ρ C Qd ∧ Fin K cl F Qd Q
def lowT (td : DT) : TT := fun σ H Q => ∃ ρ C F Qd, RS K cl ρ C F σ H ∧ td ρ C Qd ∧ ∀ b C H F', Same F F' → RC K cl C F' H → Qd b C → Q b H
def lowA (td : DA) : TA := fun σ H Q => ∃ ρ C F Qd, RS K cl ρ C F σ H ∧ td ρ C Qd ∧ ∀ vs ds C H F', Same F F' → RC K cl C F' H → RepL K cl F' vs ds → Qd ds C → Q vs H
structure FinS (F : Hp) (Dd : DEnds) (De : Ends) : Prop where
  nx : ∀ ρ C F' σ H, Same F F' → RS K cl ρ C F' σ H → Dd.nx ρ C → De.nx σ H
  bk : ∀ ρ C F' σ H, Same F F' → RS K cl ρ C F' σ H → Dd.bk ρ C → De.bk σ H
  ct : ∀ ρ C F' σ H, Same F F' → RS K cl ρ C F' σ H → Dd.ct ρ C → De.ct σ H
  rt : ∀ v d C F' H, Same F F' → RC K cl C F' H → Rep K cl F' v d → Dd.rt d C → De.rt v H
def lowS (td : DS) : TS := fun De σ H => ∃ ρ C F Dd, RS K cl ρ C F σ H ∧ td Dd ρ C ∧ FinS K cl F Dd De
end
section
variable (K : PySem.W.Frag) (cl : Nm)
/-- an exception of a class of one's own, as it lies -/
def ExcRep (F : Hp) (c : String) (ds : List (Str × D)) (cv : Value) (d : Option Addr) (H : Hp) : Prop := cv = .ref (cl c) ∧ ∃ dd fs, d = some dd ∧ H dd = some (.xd fs) ∧ RepF K cl F fs ds
def FinX (F : Hp) (Ed : DX) (E : XK) : Prop := ∀ c ds cv d C H F', Same F F' → RC K cl C F' H → ExcRep K cl F' c ds cv d H → Ed c ds C → E cv d H
def lowSp (sp : DSp) : Sp := fun vs H Q E => ∃ ds C F Qd Ed, RC K cl C F H ∧ RepL K cl F vs ds ∧ sp ds C Qd Ed ∧ Fin K cl F Qd Q ∧ FinX K cl F Ed E
end

section
variable {K : PySem.W.Frag} {cl : Nm} {F F' : Hp}
theorem Fin.at {Qd : DQ} {Q : VK} (k : Fin K cl F Qd Q) (s : Same F F') : Fin K cl F' Qd Q := fun v d C H F2 s2 => k v d C H F2 (s.trans s2)
theorem FinX.at {Ed : DX} {E : XK} (k : FinX K cl F Ed E) (s : Same F F') : FinX K cl F' Ed E := fun c ds cv d C H F2 s2 => k c ds cv d C H F2 (s.trans s2)
theorem FinS.at {cl : NmB} {Dd : DEnds} {De : Ends} (k : FinS K cl F Dd De) (s : Same F F') : FinS K cl F' Dd De :=
  ⟨fun ρ C F2 σ H s2 => k.nx ρ C F2 σ H (s.trans s2), fun ρ C F2 σ H s2 => k.bk ρ C F2 σ H (s.trans s2), fun ρ C F2 σ H s2 => k.ct ρ C F2 σ H (s.trans s2), fun v d C F2 H s2 => k.rt v d C F2 H (s.trans s2)⟩
end

/-! ### the judgements -/
abbrev PEd (X : Cx) (cl : NmB) (e : Expr) (t : DE) : Prop := PE X e (lowE X.K cl t)
abbrev PTd (X : Cx) (cl : NmB) (e : Expr) (t : DT) : Prop := PT X e (lowT X.K cl t)
abbrev PAd (X : Cx) (cl : NmB) (es : List Expr) (t : DA) : Prop := PA X es (lowA X.K cl t)
abbrev PSd (X : Cx) (cl : NmB) (st : Stmt) (t : DS) : Prop := PS X st (lowS X.K cl t)
abbrev PSsd (X : Cx) (cl : NmB) (st : List Stmt) (t : DS) : Prop := PSs X st (lowS X.K cl t)

section
variable {X : Cx}
theorem weakE {e : Expr} {t t' : TE} (h : PE X e t) (w : ∀ σ H Q, t' σ H Q → t σ H Q) : PE X e t' := ⟨fun pins s σ H Q I q => h.run pins s σ H Q I (w σ H Q q)⟩
theorem weakT {e : Expr} {t t' : TT} (h : PT X e t) (w : ∀ σ H Q, t' σ H Q → t σ H Q) : PT X e t' := ⟨fun pins s σ H Q I q => h.run pins s σ H Q I (w σ H Q q)⟩
theorem weakW {e : Expr} {t t' : TT} (h : PW X e t) (w : ∀ σ H Q, t' σ H Q → t σ H Q) : PW X e t' := ⟨fun wh pins s σ H Q I q => h.run wh pins s σ H Q I (w σ H Q q)⟩
theorem weakA {e : List Expr} {t t' : TA} (h : PA X e t) (w : ∀ σ H Q, t' σ H Q → t σ H Q) : PA X e t' := ⟨fun p pins s σ H Q I q => h.run p pins s σ H Q I (w σ H Q q)⟩
theorem weakS {e : Stmt} {t t' : TS} (h : PS X e t) (w : ∀ D σ H, t' D σ H → t D σ H) : PS X e t' := ⟨fun pins s σ H D I q => h.run pins s σ H D I (w D σ H q)⟩
theorem weakSs {e : List Stmt} {t t' : TS} (h : PSs X e t) (w : ∀ D σ H, t' D σ H → t D σ H) : PSs X e t' := ⟨fun pins s σ H D I q => h.run pins s σ H D I (w D σ H q)⟩
end

/-! ### names, constants -/
def dVar (i : Nat) : DE := fun ρ C Q => ∃ d, ρ[i]? = some (some d) ∧ Q d C
def dC (d : D) : DE := fun _ C Q => Q d C
section
variable {X : Cx} {cl : NmB} {pos : Pos}
theorem dv (i : Nat) {x : Str} (hN : X.N[i]? = some x := by rfl) (hv : Vis X.env.scope x := by first | exact Or.inl rfl | exact Or.inr (Or.inl rfl) | exact Or.inr (Or.inr rfl)) (hd : (x == ("__debug__" : Str)) = false := by decide)
    (hcd : (x == ("__classdict__" : Str)) = false := by decide) : PEd X cl (.Name x pos) (dVar i) := by
  refine weakE (pv i hN hv hd hcd) fun σ H Q ⟨ρ, C, F, Qd, R, ⟨d, e, q⟩, k⟩ => ?_
  obtain ⟨v, ev, rv⟩ := R.env i d e
  exact ⟨v, ev, k v d C H F (Same.refl F) R.rc rv q⟩
theorem de_const {e : Expr} {v : V} {d : D} (h : PE X e (tC v)) (r : ∀ F, Rep X.K cl F v d) : PEd X cl e (dC d) :=
  weakE h fun σ H Q ⟨ρ, C, F, Qd, R, q, k⟩ => k v d C H F (Same.refl F) R.rc (r F) q
theorem de_int {i j} : PEd X cl (.Constant (.int i) j pos) (dC (.int i)) := de_const pe_int fun _ => .int i
theorem de_bl {b j} : PEd X cl (.Constant (.bool b) j pos) (dC (.bl b)) := de_const pe_bl fun _ => .bl b
theorem de_non {j} : PEd X cl (.Constant .none j pos) (dC .non) := de_const pe_non fun _ => .non
theorem de_str {x : Str} {l : List Nat} {j} (h : x = ⟨l.toArray⟩ := by decide +kernel) : PEd X cl (.Constant (.str x) j pos) (dC (.str l)) := by
  subst h
  exact de_const pe_str fun _ => .str l
end

/-! ### operators -/
abbrev RD2 := D → D → Cl → DQ → Prop
section
variable (K : PySem.W.Frag) (cl : Nm)
def lowR (rd : RD2) : R2 := fun x y H Q => ∃ dx dy C F Qd, RC K cl C F H ∧ Rep K cl F x dx ∧ Rep K cl F y dy ∧ rd dx dy C Qd ∧ Fin K cl F Qd Q
end
abbrev OpD (X : Cx) (cl : Nm) (f : Value → Value → Sem Value) (rd : RD2) : Prop := OpR X f (lowR X.K cl rd)
def dOp (rd : RD2) (ta tb : DE) : DE := fun ρ C Q => ta ρ C fun x C1 => tb ρ C1 fun y C2 => rd x y C2 Q
section
variable {X : Cx} {cl : NmB} {a b : Expr} {ta tb : DE} {pos : Pos} {K : PySem.W.Frag}
theorem low_op {rd : RD2} {σ : L2.St} {H : Hp} {Q : VK} (h : lowE K cl (dOp rd ta tb) σ H Q) : tOp (lowR K cl rd) (lowE K cl ta) (lowE K cl tb) σ H Q := by
  obtain ⟨ρ, C, F, Qd, R, h, k⟩ := h
  refine ⟨ρ, C, F, _, R, h, fun v d C1 H1 F1 s1 R1 r1 q1 => ?_⟩
  refine ⟨ρ, C1, F1, _, R.next s1 R1, q1, fun w e C2 H2 F2 s2 R2 r2 q2 => ?_⟩
  exact ⟨d, e, C2, F2, Qd, R2, r1.mono s2, r2, q2, k.at (s1.trans s2)⟩
theorem de_op {op : Operator} {rd : RD2} (ho : OpD X cl (binaryOp op) rd) (ha : PEd X cl a ta) (hb : PEd X cl b tb) : PEd X cl (.BinOp a op b pos) (dOp rd ta tb) :=
  weakE (pe_op ho ha hb) fun _ _ _ h => low_op h
theorem de_cmp {op : CmpOp} {rd : RD2} (ho : OpD X cl (compareOp op) rd) (ha : PEd X cl a ta) (hb : PEd X cl b tb) (hm : behindInMarks op b = false) : PEd X cl (.Compare a [op] [b] pos) (dOp rd ta tb) :=
  weakE (pe_cmpR ho ha hb hm) fun _ _ _ h => low_op h
/-- a value that is a truth value, as a test -/
def dTest (t : DE) : DT := fun ρ C Q => t ρ C fun x C1 => ∃ k, x = .bl k ∧ Q k C1
theorem low_test {t : DE} {σ : L2.St} {H : Hp} {Q : Bool → Hp → Prop} (h : lowT K cl (dTest t) σ H Q) : lowE K cl t σ H fun x H1 => ∃ k, x = .bl k ∧ Q k H1 := by
  obtain ⟨ρ, C, F, Qd, R, h, k⟩ := h
  refine ⟨ρ, C, F, _, R, h, fun v d C1 H1 F1 s1 R1 r1 q1 => ?_⟩
  obtain ⟨b, rfl, q⟩ := q1
  cases r1
  exact ⟨b, rfl, k b C1 H1 F1 s1 R1 q⟩
theorem low_test_op {rd : RD2} {σ : L2.St} {H : Hp} {Q : Bool → Hp → Prop} (h : lowT K cl (dTest (dOp rd ta tb)) σ H Q) : tTest (tOp (lowR K cl rd) (lowE K cl ta) (lowE K cl tb)) σ H Q := low_op (low_test h)
theorem dt_cmp {op : CmpOp} {rd : RD2} (ho : OpD X cl (compareOp op) rd) (ha : PEd X cl a ta) (hb : PEd X cl b tb) (hm : behindInMarks op b = false) : PTd X cl (.Compare a [op] [b] pos) (dTest (dOp rd ta tb)) :=
  weakT (pt_cmpR ho ha hb hm) fun _ _ _ h => low_test_op h
theorem dt_val {e : Expr} {t : DE} (h : PEd X cl e t) (he : ∀ whole, isTrue e X.env whole = (do let v ← whole; standAt e.pos; holding [v] (truthy v)) := by intro _; rfl) : PTd X cl e (dTest t) :=
  weakT (pt_val h he) fun _ _ _ h => low_test h
variable {c : Expr} {tc : DE}
/-- one-place operators -/
abbrev RD1 := D → Cl → DQ → Prop
def dUn (rd : RD1) (ta : DE) : DE := fun ρ C Q => ta ρ C fun x C1 => rd x C1 Q
end

/-! ### and, or, not, if -/
section
variable {X : Cx} {cl : NmB} {a b : Expr} {rest : List Expr} {ta tb : DE} {tA tB : DT} {pos : Pos} {K : PySem.W.Frag}
def dAnd (t u : DT) : DT := fun ρ C Q => t ρ C fun c C1 => if c = true then u ρ C1 Q else Q false C1
def dOr (t u : DT) : DT := fun ρ C Q => t ρ C fun c C1 => if c = true then Q true C1 else u ρ C1 Q
def dNot (t : DT) : DT := fun ρ C Q => t ρ C fun c C1 => Q (!c) C1
abbrev PWd (X : Cx) (cl : NmB) (e : Expr) (t : DT) : Prop := PW X e (lowT X.K cl t)
theorem dw_or1 (h : PTd X cl a tA) : PWd X cl (.BoolOp .Or [a] pos) tA := pw_or1 h
theorem dw_or (ha : PTd X cl a tA) (hb : PWd X cl (.BoolOp .Or (b :: rest) pos) tB) : PWd X cl (.BoolOp .Or (a :: b :: rest) pos) (dOr tA tB) := by
  refine weakW (pw_or ha hb) fun σ H Q ⟨ρ, C, F, Qd, R, h, k⟩ => ?_
  refine ⟨ρ, C, F, _, R, h, fun c C1 H1 F1 s1 R1 q1 => ?_⟩
  cases c with
  | true =>
    rw [if_pos rfl] at q1 ⊢
    exact k true C1 H1 F1 s1 R1 q1
  | false =>
    rw [if_neg Bool.false_ne_true] at q1 ⊢
    exact ⟨ρ, C1, F1, Qd, R.next s1 R1, q1, fun b C2 H2 F2 s2 => k b C2 H2 F2 (s1.trans s2)⟩
theorem dt_not (h : PTd X cl a tA) : PTd X cl (.UnaryOp .Not a pos) (dNot tA) := by
  refine weakT (pt_not h) fun σ H Q ⟨ρ, C, F, Qd, R, h, k⟩ => ?_
  exact ⟨ρ, C, F, _, R, h, fun c C1 H1 F1 s1 R1 q1 => k _ C1 H1 F1 s1 R1 q1⟩
/-- as values, all but the last a truth value -/
def dAndV (ta tb : DE) : DE := fun ρ C Q => ta ρ C fun x C1 => ∃ c, x = .bl c ∧ if c = true then tb ρ C1 Q else Q (.bl false) C1
def dOrV (ta tb : DE) : DE := fun ρ C Q => ta ρ C fun x C1 => ∃ c, x = .bl c ∧ if c = true then Q (.bl true) C1 else tb ρ C1 Q
def dNotV (ta : DE) : DE := fun ρ C Q => ta ρ C fun x C1 => ∃ c, x = .bl c ∧ Q (.bl (!c)) C1
def dIf (t : DT) (ta tb : DE) : DE := fun ρ C Q => t ρ C fun c C1 => if c = true then ta ρ C1 Q else tb ρ C1 Q
theorem de_ifExp {c : Expr} (hc : PTd X cl c tA) (ha : PEd X cl a ta) (hb : PEd X cl b tb) : PEd X cl (.IfExp c a b pos) (dIf tA ta tb) := by
  refine weakE (pe_ifExp hc ha hb) fun σ H Q ⟨ρ, C, F, Qd, R, h, k⟩ => ?_
  refine ⟨ρ, C, F, _, R, h, fun c C1 H1 F1 s1 R1 q1 => ?_⟩
  cases c with
  | true =>
    rw [if_pos rfl] at q1 ⊢
    exact ⟨ρ, C1, F1, Qd, R.next s1 R1, q1, k.at s1⟩
  | false =>
    rw [if_neg Bool.false_ne_true] at q1 ⊢
    exact ⟨ρ, C1, F1, Qd, R.next s1 R1, q1, k.at s1⟩
end

/-! ### arguments, displays -/
def dNil : DA := fun _ C Q => Q [] C
def dCons (ta : DE) (tr : DA) : DA := fun ρ C Q => ta ρ C fun x C1 => tr ρ C1 fun xs C2 => Q (x :: xs) C2
def dTup (t : DA) : DE := fun ρ C Q => t ρ C fun xs C1 => xs.length ≤ sizeLine ∧ Q (.tup xs) C1
def dLst (t : DA) : DE := fun ρ C Q => t ρ C fun xs C1 => xs.length ≤ sizeLine ∧ Q (.lst xs) C1
/-- a list that is to be changed -/
def dLstC (t : DA) : DE := fun ρ C Q => t ρ C fun xs C1 => xs.length ≤ sizeLine ∧ ∀ p, C1 p = none → Q (.ref p) (updC C1 p (.lst xs))
section
variable {X : Cx} {cl : NmB} {e : Expr} {es : List Expr} {te : DE} {t : DA} {pos : Pos} {K : PySem.W.Frag}
theorem da_nil : PAd X cl [] dNil := weakA pa_nil fun σ H Q ⟨ρ, C, F, Qd, R, h, k⟩ => k [] [] C H F (Same.refl F) R.rc .nil h
theorem low_cons {σ : L2.St} {H : Hp} {Q : List V → Hp → Prop} (h : lowA K cl (dCons te t) σ H Q) : tCons (lowE K cl te) (lowA K cl t) σ H Q := by
  obtain ⟨ρ, C, F, Qd, R, h, k⟩ := h
  refine ⟨ρ, C, F, _, R, h, fun v d C1 H1 F1 s1 R1 r1 q1 => ?_⟩
  refine ⟨ρ, C1, F1, _, R.next s1 R1, q1, fun vs ds C2 H2 F2 s2 R2 r2 q2 => ?_⟩
  exact k _ _ C2 H2 F2 (s1.trans s2) R2 (.cons (r1.mono s2) r2) q2
theorem da_cons (ha : PEd X cl e te) (hr : PAd X cl es t) (hs : starEach (e :: es) X.env = (false, eval e X.env) :: starEach es X.env := by rfl) : PAd X cl (e :: es) (dCons te t) :=
  weakA (pa_cons ha hr hs) fun _ _ _ h => low_cons h
theorem de_lst (h : PAd X cl es t) : PEd X cl (.List es pos) (dLst t) := by
  refine weakE (pe_lst h) fun σ H Q ⟨ρ, C, F, Qd, R, h, k⟩ => ?_
  refine ⟨ρ, C, F, _, R, h, fun vs ds C1 H1 F1 s1 R1 r1 ⟨z, q1⟩ => ⟨by rw [r1.length]; exact z, fun p np => ?_⟩⟩
  have s2 := same_upd (o := .lst vs) (R1.freeF np)
  exact k _ _ C1 _ _ (s1.trans s2) (R1.new np) (.lst upd_same (r1.mono s2)) q1
theorem de_lstC (h : PAd X cl es t) : PEd X cl (.List es pos) (dLstC t) := by
  refine weakE (pe_lst h) fun σ H Q ⟨ρ, C, F, Qd, R, h, k⟩ => ?_
  refine ⟨ρ, C, F, _, R, h, fun vs ds C1 H1 F1 s1 R1 r1 ⟨z, q1⟩ => ⟨by rw [r1.length]; exact z, fun p np => ?_⟩⟩
  exact k _ _ _ _ _ s1 (R1.cell np (.lst r1)) (.ref p) (q1 p (R1.freeC np))
end

/-! ### ghosts: a cell becomes a tree, cells are forgotten -/
inductive Gh : D → Cl → D → Cl → Prop
  | same {d : D} {C : Cl} : Gh d C d C
  | drop {d : D} {C C' : Cl} : SubC C' C → Gh d C d C'
  | lst {a : Addr} {C : Cl} {ds : List D} : C a = some (.lst ds) → Gh (.ref a) C (.lst ds) (delC C a)
  | dct {a : Addr} {C : Cl} {ds : List (List Key × D)} : C a = some (.dct ds) → Gh (.ref a) C (.dct ds) (delC C a)
  | ins {a : Addr} {C : Cl} {c : String} {ds : List (Str × D)} : C a = some (.ins c ds) → Gh (.ref a) C (.ins c ds) (delC C a)
  | trans {d d1 d2 : D} {C C1 C2 : Cl} : Gh d C d1 C1 → Gh d1 C1 d2 C2 → Gh d C d2 C2
theorem Gh.ok {K : PySem.W.Frag} {cl : Nm} {F H : Hp} {d d' : D} {C C' : Cl} {v : V} (g : Gh d C d' C') : RC K cl C F H → Rep K cl F v d → ∃ F', Same F F' ∧ RC K cl C' F' H ∧ Rep K cl F' v d' := by
  induction g generalizing F with
  | same => exact fun R r => ⟨F, Same.refl F, R, r⟩
  | drop s => exact fun R r => ⟨F, Same.refl F, R.drop s, r⟩
  | lst h =>
    intro R r
    cases r
    obtain ⟨_, o, ho, c⟩ := R.cel _ _ h
    cases c with
    | lst rl =>
      obtain ⟨R', s⟩ := R.freeze h ho
      exact ⟨_, s, R', .lst upd_same (rl.mono s)⟩
  | dct h =>
    intro R r
    cases r
    obtain ⟨_, o, ho, c⟩ := R.cel _ _ h
    cases c with
    | dct rl =>
      obtain ⟨R', s⟩ := R.freeze h ho
      exact ⟨_, s, R', .dct upd_same (rl.mono s)⟩
  | ins h =>
    intro R r
    cases r
    obtain ⟨_, o, ho, c⟩ := R.cel _ _ h
    cases c with
    | ins rl =>
      obtain ⟨R', s⟩ := R.freeze h ho
      exact ⟨_, s, R', .ins upd_same (rl.mono s)⟩
  | trans _ _ i1 i2 =>
    intro R r
    obtain ⟨F1, s1, R1, r1⟩ := i1 R r
    obtain ⟨F2, s2, R2, r2⟩ := i2 R1 r1
    exact ⟨F2, s1.trans s2, R2, r2⟩
end G
namespace G
open PySem PySem.Spec PyProof.Rows L2

/-! ### blocks and small statements -/
def dNext : DS := fun D ρ C => D.nx ρ C
def dSeq (t u : DS) : DS := fun D ρ C => t { D with nx := u D } ρ C
def dDrop (te : DE) : DS := fun D ρ C => te ρ C fun _ C1 => D.nx ρ C1
def dRet (te : DE) : DS := fun D ρ C => te ρ C D.rt
def dIfS (c : DT) (t u : DS) : DS := fun D ρ C => c ρ C fun b C1 => if b = true then t D ρ C1 else u D ρ C1
section
variable {X : Cx} {cl : NmB} {st : Stmt} {rest : List Stmt} {t u : DS} {e : Expr} {te : DE} {pos : Pos}
theorem dss_nil : PSsd X cl [] dNext := weakSs pss_nil fun De σ H ⟨ρ, C, F, Dd, R, h, k⟩ => k.nx ρ C F σ H (Same.refl F) R h
theorem dss_cons (h1 : PSd X cl st t) (h2 : PSsd X cl rest u) : PSsd X cl (st :: rest) (dSeq t u) := by
  refine weakSs (pss_cons h1 h2) fun De σ H ⟨ρ, C, F, Dd, R, h, k⟩ => ?_
  exact ⟨ρ, C, F, { Dd with nx := u Dd }, R, h, ⟨fun ρ' C' F' σ' H' s R' q => ⟨ρ', C', F', Dd, R', q, k.at s⟩, k.bk, k.ct, k.rt⟩⟩
theorem dss_one (h1 : PSd X cl st t) : PSsd X cl [st] t := pss_one h1
theorem ds_ret (he : PEd X cl e te) : PSd X cl (.Return (some e) pos) (dRet te) := by
  refine weakS (ps_ret he) fun De σ H ⟨ρ, C, F, Dd, R, h, k⟩ => ?_
  exact ⟨ρ, C, F, _, R, h, fun v d C1 H1 F1 s1 R1 r1 q1 => k.rt v d C1 F1 H1 s1 R1 r1 q1⟩
theorem ds_if {c : Expr} {a b : List Stmt} {tc : DT} (hc : PTd X cl c tc) (ha : PSsd X cl a t) (hb : PSsd X cl b u) : PSd X cl (.If c a b pos) (dIfS tc t u) := by
  refine weakS (ps_if hc ha hb) fun De σ H ⟨ρ, C, F, Dd, R, h, k⟩ => ?_
  refine ⟨ρ, C, F, _, R, h, fun d C1 H1 F1 s1 R1 q1 => ?_⟩
  cases d with
  | true =>
    rw [if_pos rfl] at q1 ⊢
    exact ⟨ρ, C1, F1, Dd, R.next s1 R1, q1, k.at s1⟩
  | false =>
    rw [if_neg Bool.false_ne_true] at q1 ⊢
    exact ⟨ρ, C1, F1, Dd, R.next s1 R1, q1, k.at s1⟩
end

/-! ### a name, seen otherwise -/
/-! ### targets -/
abbrev DG := D → DEnv → Cl → (DEnv → Cl → Prop) → Prop
abbrev DGs := List D → DEnv → Cl → (DEnv → Cl → Prop) → Prop
def lowG (K : PySem.W.Frag) (cl : NmB) (g : DG) : TG := fun v σ H Q => ∃ d ρ C F Qd, RS K cl ρ C F σ H ∧ Rep K cl F v d ∧ g d ρ C Qd ∧ ∀ ρ' C' F' σ' H', Same F F' → RS K cl ρ' C' F' σ' H' → Qd ρ' C' → Q σ' H'
abbrev PGd (X : Cx) (cl : NmB) (tg : Expr) (g : DG) : Prop := PG X tg (lowG X.K cl g)
theorem weakG {X : Cx} {e : Expr} {t t' : TG} (h : PG X e t) (w : ∀ v σ H Q, t' v σ H Q → t v σ H Q) : PG X e t' := ⟨fun pins s σ H v u Q I r q => h.run pins s σ H v u Q I r (w v σ H Q q)⟩
theorem weakGs {X : Cx} {e : List Expr} {t t' : TGs} (h : PGs X e t) (w : ∀ v σ H Q, t' v σ H Q → t v σ H Q) : PGs X e t' := ⟨fun pins s σ H v u Q I r q => h.run pins s σ H v u Q I r (w v σ H Q q)⟩
def dName (i : Nat) : DG := fun d ρ C Q => Q (ρ.set i (some d)) C
def dgNil : DGs := fun ds ρ C Q => ds = [] ∧ Q ρ C
def dgCons (t : DG) (u : DGs) : DGs := fun ds ρ C Q => ∃ d r, ds = d :: r ∧ t d ρ C fun ρ' C' => u r ρ' C' Q
def dgTup (n : Nat) (t : DGs) : DG := fun d ρ C Q => ∃ ds, d = .tup ds ∧ ds.length = n ∧ t ds ρ C Q
section
variable {X : Cx} {cl : NmB} {pos : Pos}
theorem dg_name (i : Nat) {x : Str} (hN : X.N.Nodup) (hi : X.N[i]? = some x := by rfl) (hx : Loc X.env.scope x := by first | exact Or.inl rfl | exact Or.inr rfl) (hf : X.fn x = true ∨ X.env.scope.names.lookup x = some .local := by first | exact .inl rfl | exact .inr rfl | assumption) : PGd X cl (.Name x pos) (dName i) := by
  refine weakG (pg_name hN hi hx hf) fun v σ H Q ⟨d, ρ, C, F, Qd, R, r, q, k⟩ => ?_
  exact k _ C F _ H (Same.refl F) (R.set i r) q
/-- o[i] = v -/
abbrev RSet := D → D → D → Cl → (Cl → Prop) → Prop
def lowSet (K : PySem.W.Frag) (cl : Nm) (rd : RSet) : TSet := fun o i v H Q => ∃ dO dI dV C F Qd, RC K cl C F H ∧ Rep K cl F o dO ∧ Rep K cl F i dI ∧ Rep K cl F v dV ∧ rd dO dI dV C Qd ∧ ∀ C' F' H', Same F F' → RC K cl C' F' H' → Qd C' → Q H'
abbrev SetD (X : Cx) (cl : Nm) (rd : RSet) : Prop := PSet X (lowSet X.K cl rd)
def dgSub (to ti : DE) (rd : RSet) : DG := fun d ρ C Q => to ρ C fun o C1 => ti ρ C1 fun i C2 => rd o i d C2 fun C3 => Q ρ C3
theorem dg_sub {o i : Expr} {to ti : DE} {rd : RSet} (ho : PEd X cl o to) (hi : PEd X cl i ti) (hs : SetD X cl rd)
    (ha : ∀ v, assign (.Subscript o i pos) X.env v = (do
      let ov ← holding [v] (eval o X.env)
      let iv ← holding [v, ov] (eval i X.env)
      standAt pos
      holding [v, ov, iv] (setItem ov iv v)
      release [v, ov, iv] []) := by intro _; rfl) : PGd X cl (.Subscript o i pos) (dgSub to ti rd) := by
  refine weakG (pg_sub ho hi hs ha) fun v σ H Q ⟨d, ρ, C, F, Qd, R, r, q, k⟩ => ?_
  refine ⟨ρ, C, F, _, R, q, fun vo dO C1 H1 F1 s1 R1 r1 q1 => ?_⟩
  refine ⟨ρ, C1, F1, _, R.next s1 R1, q1, fun vi dI C2 H2 F2 s2 R2 r2 q2 => ?_⟩
  refine ⟨dO, dI, d, C2, F2, _, R2, r1.mono s2, r2, r.mono (s1.trans s2), q2, fun C3 F3 H3 s3 R3 q3 => ?_⟩
  exact k ρ C3 F3 σ H3 (s1.trans (s2.trans s3)) (R.next (s1.trans (s2.trans s3)) R3) q3
/-- target = value -/
def dAsg (te : DE) (g : DG) : DS := fun D ρ C => te ρ C fun x C1 => g x ρ C1 D.nx
theorem ds_asg {tg e : Expr} {te : DE} {g : DG} (he : PEd X cl e te) (hg : PGd X cl tg g) (hs : swapsWithSole [tg] e pos.line X.env = pure false := by rfl) (hw : swappedStores [tg] e X.env = pure none := by rfl)
    (h1 : (assignEach [tg] X.env).map (·.2) = [assign tg X.env] := by rfl) : PSd X cl (.Assign [tg] e pos) (dAsg te g) := by
  refine weakS (ps_asg he hg hs hw h1) fun De σ H ⟨ρ, C, F, Dd, R, h, k⟩ => ?_
  refine ⟨ρ, C, F, _, R, h, fun v d C1 H1 F1 s1 R1 r1 q1 => ?_⟩
  exact ⟨d, ρ, C1, F1, _, R.next s1 R1, r1, q1, fun ρ2 C2 F2 σ2 H2 s2 R2 q2 => k.nx ρ2 C2 F2 σ2 H2 (s1.trans s2) R2 q2⟩
theorem ds_set (i : Nat) {x : Str} {e : Expr} {te : DE} {pos' : Pos} (hN : X.N.Nodup) (he : PEd X cl e te) (hi : X.N[i]? = some x := by rfl) (hx : Loc X.env.scope x := by first | exact Or.inl rfl | exact Or.inr rfl) (hs : swapsWith e (some (.Name x pos')) pos.line X.env = pure false := by rfl) (hf : X.fn x = true ∨ X.env.scope.names.lookup x = some .local := by first | exact .inl rfl | exact .inr rfl | assumption) :
    PSd X cl (.Assign [.Name x pos'] e pos) (dAsg te (dName i)) := by
  refine weakS (ps_set hN hi hx he hs hf) fun De σ H ⟨ρ, C, F, Dd, R, h, k⟩ => ?_
  refine ⟨ρ, C, F, _, R, h, fun v d C1 H1 F1 s1 R1 r1 q1 => ?_⟩
  exact k.nx _ C1 F1 _ H1 s1 ((R.next s1 R1).set i r1) q1
/-- a, b = x, y with plain names: stored from the right; no tuple is made -/
def dPar (i j : Nat) (t : DA) : DS := fun D ρ C => t ρ C fun ds C2 => ∃ v w, ds = [v, w] ∧ D.nx ((ρ.set i (some v)).set j (some w)) C2
theorem ds_par (i j : Nat) {x y : Str} {a b : Expr} {t : DA} {px py pt : Pos} {kt k2 pt2} (hN : X.N.Nodup) (ha : PAd X cl [a, b] t) (hij : i ≠ j := by decide) (hc : X.calm = true := by rfl) (hi : X.N[i]? = some x := by rfl) (hj : X.N[j]? = some y := by rfl)
    (hx : X.env.scope.names.lookup x = some .local := by rfl) (hy : X.env.scope.names.lookup y = some .local := by rfl)
    (hw : swappedStores [.Tuple [.Name x px, .Name y py] kt pt] (.Tuple [a, b] k2 pt2) X.env = pure (some [x, y]) := by rfl)
    (hs : swapsWithSole [.Tuple [.Name x px, .Name y py] kt pt] (.Tuple [a, b] k2 pt2) pos.line X.env = pure false := by rfl) :
    PSd X cl (.Assign [.Tuple [.Name x px, .Name y py] kt pt] (.Tuple [a, b] k2 pt2) pos) (dPar i j t) := by
  refine weakS (ps_par hc hN hi hj hij hx hy ha hw hs) fun De σ H ⟨ρ, C, F, Dd, R, h, k⟩ => ?_
  refine ⟨ρ, C, F, _, R, h, fun vs ds C1 H1 F1 s1 R1 r1 ⟨v, w, e, q1⟩ => ?_⟩
  subst e
  cases r1 with
  | cons ra rr =>
    cases rr with
    | cons rb rn =>
      cases rn
      exact ⟨_, _, rfl, k.nx _ C1 F1 _ H1 s1 (((R.next s1 R1).set i ra).set j rb) q1⟩
/-! ### loops -/
/-- J yields the items xs, one a turn -/
def Walk (K : PySem.W.Frag) (cl : Nm) (J : It) (xs : List D) (F : Hp) : Prop := ∀ i C F1 H, Same F F1 → RC K cl C F1 H →
  (∀ x, xs[i]? = some x → J.go i H ∧ ∀ v H', J.yld i H v H' → ∃ F2, Same F1 F2 ∧ RC K cl C F2 H' ∧ Rep K cl F2 v x) ∧ (xs.length = i → J.stop i H)
theorem Walk.at {K : PySem.W.Frag} {J : It} {xs : List D} {F F' : Hp} (w : Walk K cl J xs F) (s : Same F F') : Walk K cl J xs F' := fun i C F1 H s1 => w i C F1 H (s.trans s1)
abbrev DI := DEnv → Cl → (List D → Cl → Prop) → Prop
def lowI (K : PySem.W.Frag) (cl : NmB) (wi : DI) : TI := fun σ H R => ∃ ρ C F Qd, RS K cl ρ C F σ H ∧ wi ρ C Qd ∧ ∀ J xs C' H' F', Same F F' → RC K cl C' F' H' → Walk K cl J xs F' → Qd xs C' → R J H'
abbrev PId (X : Cx) (cl : NmB) (tg iter : Expr) (wi : DI) : Prop := PI X tg iter (lowI X.K cl wi)
theorem weakI {tg iter : Expr} {t t' : TI} (h : PI X tg iter t) (w : ∀ σ H Q, t' σ H Q → t σ H Q) : PI X tg iter t' := ⟨fun pins s σ H Q I q => h.run pins s σ H Q I (w σ H Q q)⟩
def dFor (wi : DI) (g : DG) (tb : DS) : DS := fun D ρ C => wi ρ C fun xs C1 => ∃ Pv : Nat → DEnv → Cl → Prop, Pv 0 ρ C1 ∧
  (∀ i x ρ C, xs[i]? = some x → Pv i ρ C → g x ρ C fun ρ2 C2 => tb { D with nx := Pv (i + 1), ct := Pv (i + 1), bk := D.nx } ρ2 C2) ∧ ∀ ρ C, Pv xs.length ρ C → D.nx ρ C
theorem ds_for {tg iter : Expr} {body : List Stmt} {wi : DI} {g : DG} {tb : DS} (hp : PassesOwn (model X.prog X.w) X.A X.env X.xe) (hi : PId X cl tg iter wi) (hg : PGd X cl tg g) (hb : PSsd X cl body tb) (hc : X.calm = true := by rfl)
    (hs : ∀ x, foldedSetIterable iter X.env x = pure x := by intro _; rfl) : PSd X cl (.For tg iter body [] pos) (dFor wi g tb) := by
  refine weakS (ps_for hp hc hi hg hb hs) fun De σ H ⟨ρ, C, F, Dd, R, h, k⟩ => ?_
  refine ⟨ρ, C, F, _, R, h, fun J xs C1 H1 F1 s1 R1 wk ⟨Pv, p0, ps, pd⟩ => ?_⟩
  refine ⟨fun i m σ H => m = xs.length - i ∧ i ≤ xs.length ∧ ∃ ρ C F', Same F1 F' ∧ RS X.K cl ρ C F' σ H ∧ Pv i ρ C, ⟨xs.length, by simp, Nat.zero_le _, ρ, C1, F1, Same.refl F1, R.next s1 R1, p0⟩, ?_⟩
  rintro i m σ2 H2 ⟨rfl, hi, ρ2, C2, F2, s2, R2, p2⟩
  obtain ⟨wy, we⟩ := wk i C2 F2 H2 s2 R2.rc
  by_cases hlt : i < xs.length
  · obtain ⟨go, yl⟩ := wy _ (List.getElem?_eq_getElem hlt)
    have again : ∀ ρ' C' F' σ' H', Same F1 F' → RS X.K cl ρ' C' F' σ' H' → Pv (i + 1) ρ' C' → ∃ ρ C F', Same F1 F' ∧ RS X.K cl ρ C F' σ' H' ∧ Pv (i + 1) ρ C := fun ρ' C' F' σ' H' s' R' p' => ⟨ρ', C', F', s', R', p'⟩
    refine .inr ⟨go, fun σ' H' => ∃ ρ C F', Same F1 F' ∧ RS X.K cl ρ C F' σ' H' ∧ Pv (i + 1) ρ C, fun σ' H' z => ⟨xs.length - (i + 1), by omega, rfl, hlt, z⟩, fun v H3 y => ?_⟩
    obtain ⟨F3, s3, R3, r3⟩ := yl v H3 y
    refine ⟨_, ρ2, C2, F3, _, R2.next s3 R3, r3, ps i _ ρ2 C2 (List.getElem?_eq_getElem hlt) p2, fun ρ4 C4 F4 σ4 H4 s4 R4 q4 => ?_⟩
    have sb : Same F1 F4 := s2.trans (s3.trans s4)
    exact ⟨ρ4, C4, F4, _, R4, q4, ⟨fun ρ' C' F' σ' H' s' => again ρ' C' F' σ' H' (sb.trans s'), fun ρ' C' F' σ' H' s' => k.nx ρ' C' F' σ' H' (s1.trans (sb.trans s')), fun ρ' C' F' σ' H' s' => again ρ' C' F' σ' H' (sb.trans s'), (k.at (s1.trans sb)).rt⟩⟩
  · have e : i = xs.length := by omega
    subst e
    exact .inl ⟨we rfl, k.nx ρ2 C2 F2 σ2 H2 (s1.trans s2) R2 (pd ρ2 C2 p2)⟩
end
end G
namespace G
open PySem PySem.Spec PyProof.Rows L2

/-! ### what is walked -/
section
variable {X : Cx} {cl : NmB} {tg e : Expr} {te : DE} {K : PySem.W.Frag}
/-- the items of a list that stands -/
def lstOf : D → Option (List D)
  | .lst ds => some ds
  | .rol ds => some ds
  | _ => none
theorem Rep.asL {F : Hp} {v : V} {d : D} {ds : List D} (r : Rep K cl F v d) (h : lstOf d = some ds) : ∃ a xs, v = .ref a ∧ SqL K F a xs ∧ RepL K cl F xs ds := by
  cases r with
  | lst h1 h2 => cases h; exact ⟨_, _, rfl, .of h1, h2⟩
  | rol h1 h2 => cases h; exact ⟨_, _, rfl, h1, h2⟩
  | _ => cases h
theorem walk_list {F : Hp} {a : Addr} {xs : List V} {ds : List D} (h : SqL K F a xs) (r : RepL K cl F xs ds) : Walk K cl (Itl K a) ds F := by
  intro i C F1 H s R
  have h1 : SqL K H a xs := R.sub.seq (s.seq h)
  refine ⟨fun x hx => ?_, fun hi => ⟨xs, h1, by rw [r.length]; exact Nat.le_of_eq hi⟩⟩
  obtain ⟨v, hv, rv⟩ := r.get hx
  refine ⟨⟨xs, v, h1, hv⟩, fun v' H' ⟨e, y⟩ => ?_⟩
  subst e
  have e2 := y xs h1
  rw [hv] at e2
  cases e2
  exact ⟨F1, Same.refl F1, R, rv.mono s⟩
def diList (te : DE) : DI := fun ρ C R => te ρ C fun x C1 => ∃ xs, lstOf x = some xs ∧ R xs C1
theorem di_list (he : PEd X cl e te) : PId X cl tg e (diList te) := by
  refine weakI (pi_list he) fun σ H R ⟨ρ, C, F, Rd, RR, h, k⟩ => ?_
  refine ⟨ρ, C, F, _, RR, h, fun v d C1 H1 F1 s1 R1 r1 ⟨xs, e, q1⟩ => ?_⟩
  obtain ⟨a, vs, rfl, hs, rl⟩ := r1.asL e
  exact ⟨a, rfl, ⟨vs, R1.sub.seq hs⟩, k _ xs C1 H1 F1 s1 R1 (walk_list hs rl) q1⟩
/-- the signs of a text -/
def signs (x : List Nat) : List D := x.map fun c => .str [c]
/-- lo, lo + 1, .. -/
def ranged (lo : Int) (n : Nat) : List D := (List.range n).map fun (i : Nat) => .int (lo + (i : Int))
theorem ranged_get {lo : Int} {n i : Nat} {d : D} (h : (ranged lo n)[i]? = some d) : i < n ∧ d = .int (lo + (i : Int)) := by
  unfold ranged at h
  rw [List.getElem?_map] at h
  by_cases hi : i < n
  · rw [List.getElem?_range hi] at h
    exact ⟨hi, (Option.some.inj h).symm⟩
  · rw [List.getElem?_eq_none (by simpa using hi)] at h; cases h
theorem ranged_length (lo : Int) (n : Nat) : (ranged lo n).length = n := by unfold ranged; simp
theorem walk_range {F : Hp} (lo : Int) (n : Nat) : Walk K cl (Itr lo n) (ranged lo n) F := by
  intro i C F1 H s R
  refine ⟨fun d hd => ?_, fun hi => by rw [ranged_length] at hi; exact Nat.le_of_eq hi⟩
  obtain ⟨hi, rfl⟩ := ranged_get hd
  refine ⟨hi, fun v H' ⟨e, ev⟩ => ?_⟩
  subst e
  subst ev
  exact ⟨F1, Same.refl F1, R, .int _⟩
def diRng1 (t : DA) : DI := fun ρ C R => t ρ C fun ds C1 => ∃ j : Int, ds = [.int j] ∧ (-(2 ^ 62) ≤ j ∧ j < 2 ^ 62) ∧ R (ranged 0 j.toNat) C1
theorem di_rng1 {a : Expr} {t : DA} {p pos : Pos} (hm : X.mg "range" = none) (ha : PAd X cl [a] t) (hg : Gl X "range" := by rfl) (hs : starEach [a] X.env = [(false, eval a X.env)] := by rfl) : PId X cl tg (.Call (.Name "range" p) [a] [] pos) (diRng1 t) := by
  refine weakI (pi_range1 hg hm ha hs) fun σ H R ⟨ρ, C, F, Rd, RR, h, k⟩ => ?_
  refine ⟨ρ, C, F, _, RR, h, fun vs ds C1 H1 F1 s1 R1 r1 ⟨j, e, b, q1⟩ => ?_⟩
  subst e
  cases r1 with
  | cons r rr =>
    cases rr
    cases r
    exact ⟨j, rfl, b.1, b.2, k _ _ C1 H1 F1 s1 R1 (walk_range 0 _) q1⟩
/-- pairs of a place and an item -/
def numbered (k : Nat) : List D → List D
  | [] => []
  | d :: ds => .tup [.int (k : Int), d] :: numbered (k + 1) ds
theorem numbered_length : ∀ (k : Nat) (ds : List D), (numbered k ds).length = ds.length
  | _, [] => rfl
  | k, _ :: ds => congrArg (· + 1) (numbered_length (k + 1) ds)
theorem numbered_get : ∀ {k i : Nat} {ds : List D} {x : D}, (numbered k ds)[i]? = some x → ∃ d, ds[i]? = some d ∧ x = .tup [.int ((k + i : Nat) : Int), d]
  | _, _, [], _, h => by simp [numbered] at h
  | k, 0, d :: ds, x, h => by
    have e : D.tup [.int (k : Int), d] = x := Option.some.inj h
    exact ⟨d, rfl, e.symm⟩
  | k, i + 1, d :: ds, x, h => by
    obtain ⟨d', h1, h2⟩ := numbered_get (k := k + 1) (i := i) (ds := ds) (x := x) (by simpa [numbered] using h)
    refine ⟨d', by simpa using h1, ?_⟩
    rw [h2, show k + 1 + i = k + (i + 1) by omega]
end
end G
namespace G
open PySem PySem.Spec PyProof.Rows L2

/-! ### a comprehension's own targets -/
def wipeD (ρ : DEnv) : List Nat → DEnv
  | [] => ρ
  | v :: vs => (wipeD ρ vs).set v none
section
variable {K : PySem.W.Frag} {cl : NmB} {C : Cl} {F H : Hp} {ρ : DEnv} {σ : L2.St}
theorem RS.wipe (R : RS K cl ρ C F σ H) : ∀ vs : List Nat, RS K cl (wipeD ρ vs) C F (wipe σ vs) H
  | [] => R
  | v :: vs => (R.wipe vs).unset v
theorem wipe_set {x : Option V} {i : Nat} : ∀ {vs : List Nat}, i ∈ vs → wipe (σ.set i x) vs = wipe σ vs
  | [], h => by simp at h
  | v :: vs, h => by
    unfold L2.wipe
    by_cases e : i = v
    · subst e
      by_cases hi : i ∈ vs
      · rw [wipe_set hi]
      · rw [wipe_comm hi, List.set_set]
    · have hi : i ∈ vs := by
        rcases List.mem_cons.mp h with z | z
        · exact absurd z e
        · exact z
      rw [wipe_set hi]
where
  wipe_comm {x : Option V} {i : Nat} {σ : L2.St} : ∀ {vs : List Nat}, i ∉ vs → wipe (σ.set i x) vs = (wipe σ vs).set i x
    | [], _ => rfl
    | v :: vs, h => by
      unfold L2.wipe
      have h1 : i ≠ v := fun z => h (by simp [z])
      have h2 : i ∉ vs := fun z => h (List.mem_cons_of_mem _ z)
      rw [wipe_comm h2, List.set_comm _ _ h1]
end
def lowO (K : PySem.W.Frag) (cl : NmB) (vs : List Nat) (g : DG) : TG := fun v σ H Q => ∃ d ρ C F Qd, RS K cl ρ C F σ H ∧ Rep K cl F v d ∧ g d ρ C Qd ∧ ∀ ρ' C' F' σ' H', Same F F' → RS K cl ρ' C' F' σ' H' → wipe σ' vs = wipe σ vs → Qd ρ' C' → Q σ' H'
def lowOs (K : PySem.W.Frag) (cl : NmB) (vs : List Nat) (g : DGs) : TGs := fun v σ H Q => ∃ d ρ C F Qd, RS K cl ρ C F σ H ∧ RepL K cl F v d ∧ g d ρ C Qd ∧ ∀ ρ' C' F' σ' H', Same F F' → RS K cl ρ' C' F' σ' H' → wipe σ' vs = wipe σ vs → Qd ρ' C' → Q σ' H'
abbrev POd (X : Cx) (cl : NmB) (vs : List Nat) (tg : Expr) (g : DG) : Prop := PG X tg (lowO X.K cl vs g)
abbrev POsd (X : Cx) (cl : NmB) (vs : List Nat) (tg : List Expr) (g : DGs) : Prop := PGs X tg (lowOs X.K cl vs g)
section
variable {X : Cx} {cl : NmB} {pos : Pos} {vs : List Nat}
theorem do_name (i : Nat) {x : Str} (hN : X.N.Nodup) (hi : X.N[i]? = some x := by rfl) (hx : Loc X.env.scope x := by first | exact Or.inl rfl | exact Or.inr rfl) (hv : i ∈ vs := by decide) (hf : X.fn x = true ∨ X.env.scope.names.lookup x = some .local := by first | exact .inl rfl | exact .inr rfl | assumption) : POd X cl vs (.Name x pos) (dName i) := by
  refine weakG (pg_name hN hi hx hf) fun v σ H Q ⟨d, ρ, C, F, Qd, R, r, q, k⟩ => ?_
  exact k _ C F _ H (Same.refl F) (R.set i r) (wipe_set hv) q
theorem dos_nil : POsd X cl vs [] dgNil := by
  refine weakGs pgs_nil fun v σ H Q ⟨d, ρ, C, F, Qd, R, r, ⟨e, q⟩, k⟩ => ?_
  subst e
  cases r
  exact ⟨rfl, k ρ C F σ H (Same.refl F) R rfl q⟩
theorem dos_cons {e : Expr} {es : List Expr} {t : DG} {u : DGs} (h1 : POd X cl vs e t) (h2 : POsd X cl vs es u)
    (hs : (assignEach (e :: es) X.env).map (·.2) = assign e X.env :: (assignEach es X.env).map (·.2) := by rfl) : POsd X cl vs (e :: es) (dgCons t u) := by
  refine weakGs (pgs_cons h1 h2 hs) fun v σ H Q ⟨ds, ρ, C, F, Qd, R, r, ⟨d, r', e, q⟩, k⟩ => ?_
  subst e
  cases r with
  | cons rd rr =>
    refine ⟨_, _, rfl, d, ρ, C, F, _, R, rd, q, fun ρ1 C1 F1 σ1 H1 s1 R1 w1 q1 => ?_⟩
    exact ⟨r', ρ1, C1, F1, Qd, R1, rr.mono s1, q1, fun ρ2 C2 F2 σ2 H2 s2 R2 w2 => k ρ2 C2 F2 σ2 H2 (s1.trans s2) R2 (w2.trans w1)⟩
theorem do_tup {es : List Expr} {j : Nat} {t : DGs} {n : Nat} (h : POsd X cl vs es t) (hc : X.calm = true := by rfl)
    (hn : (assignEach es X.env).length = n := by rfl) (hst : (assignEach es X.env).findIdx? (·.1) = none := by rfl) : POd X cl vs (.Tuple es j pos) (dgTup n t) := by
  refine weakG (pg_tup hc h hn hst) fun v σ H Q ⟨d, ρ, C, F, Qd, R, r, ⟨ds, e, hl, q⟩, k⟩ => ?_
  subst e
  cases r with
  | tup hq rl => exact ⟨_, _, rfl, sqT_mono R.rc.sub hq, rl.length.trans hl, ds, ρ, C, F, Qd, R, rl, q, k⟩

/-! ### list comprehensions -/
abbrev PTsd (X : Cx) (cl : NmB) (ifs : List Expr) (t : DT) : Prop := PTs X ifs (lowT X.K cl t)
def dYes : DT := fun _ C Q => Q true C
theorem dts_nil : PTsd X cl [] dYes := ⟨fun pins s σ H Q I ⟨ρ, C, F, Qd, R, q, k⟩ => pts_nil.run pins s σ H Q I (k true C H F (Same.refl F) R.rc q)⟩
/-- the list is a cell while it grows -/
def dLc (wi : DI) (g : DG) (tt : DT) (te : DE) (vs : List Nat) : DE := fun ρ C Q => wi ρ C fun xs C1 => ∀ p, C1 p = none → ∃ Pv : Nat → Cl → Prop, Pv 0 (updC C1 p (.lst [])) ∧
  (∀ i x C, xs[i]? = some x → Pv i C → g x (wipeD ρ vs) C fun ρ2 C2 => tt ρ2 C2 fun b C3 =>
    if b = true then te ρ2 C3 fun y C4 => ∃ acc, C4 p = some (.lst acc) ∧ acc.length < sizeLine ∧ Pv (i + 1) (updC C4 p (.lst (acc ++ [y]))) else Pv (i + 1) C3) ∧
  ∀ C, Pv xs.length C → Q (.ref p) C
theorem low_lc {K : PySem.W.Frag} {wi : DI} {g : DG} {tt : DT} {te : DE} {σ : L2.St} {H : Hp} {Q : VK} (h : lowE K cl (dLc wi g tt te vs) σ H Q) :
    tLc (lowI K cl wi) (lowO K cl vs g) (lowT K cl tt) (lowE K cl te) vs σ H Q := by
  obtain ⟨ρ, C, F, Qd, R, h, k⟩ := h
  refine ⟨ρ, C, F, _, R, h, fun J xs C1 H1 F1 s1 R1 wk q1 p np => ?_⟩
  obtain ⟨Pv, p0, ps, pd⟩ := q1 p (R1.freeC np)
  refine ⟨fun i m H => m = xs.length - i ∧ i ≤ xs.length ∧ ∃ C F', Same F1 F' ∧ RC K cl C F' H ∧ Pv i C, ⟨xs.length, by simp, Nat.zero_le _, _, F1, Same.refl F1, R1.cell np (.lst .nil), p0⟩, ?_⟩
  rintro i m H2 ⟨rfl, hi, C2, F2, s2, R2, p2⟩
  obtain ⟨wy, we⟩ := wk i C2 F2 H2 s2 R2
  by_cases hlt : i < xs.length
  · obtain ⟨go, yl⟩ := wy _ (List.getElem?_eq_getElem hlt)
    refine .inr ⟨go, fun H' => ∃ C F', Same F1 F' ∧ RC K cl C F' H' ∧ Pv (i + 1) C, fun H' z => ⟨xs.length - (i + 1), by omega, rfl, hlt, z⟩, fun v H3 y => ?_⟩
    obtain ⟨F3, s3, R3, r3⟩ := yl v H3 y
    have Rw : RS K cl (wipeD ρ vs) C2 F3 (wipe σ vs) H3 := (R.wipe vs).next (s1.trans (s2.trans s3)) R3
    refine ⟨_, _, C2, F3, _, Rw, r3, ps i _ C2 (List.getElem?_eq_getElem hlt) p2, fun ρ4 C4 F4 σ4 H4 s4 R4 w4 q4 => ⟨?_, ?_⟩⟩
    · rw [w4, wipe_wipe]
    refine ⟨ρ4, C4, F4, _, R4, q4, fun b C5 H5 F5 s5 R5 q5 => ?_⟩
    have sb : Same F1 F5 := s2.trans (s3.trans (s4.trans s5))
    cases b with
    | false =>
      rw [if_neg Bool.false_ne_true] at q5
      exact iteF ⟨C5, F5, sb, R5, q5⟩
    | true =>
      rw [if_pos rfl] at q5
      refine iteT ⟨ρ4, C5, F5, _, R4.next s5 R5, q5, fun u d C6 H6 F6 s6 R6 r6 ⟨acc, ha, hl, q6⟩ => ?_⟩
      obtain ⟨_, o, ho, cr⟩ := R6.cel p _ ha
      cases cr with
      | lst rl =>
        exact ⟨_, ho, by rw [rl.length]; exact hl, _, F6, sb.trans s6, R6.put ha (.lst (rl.append (.cons r6 .nil))), q6⟩
  · have e : i = xs.length := by omega
    subst e
    exact .inl ⟨we rfl, k (.ref p) (.ref p) C2 H2 F2 (s1.trans s2) R2 (.ref p) (pd C2 p2)⟩
where
  wipe_wipe {σ : L2.St} : ∀ {vs : List Nat}, wipe (wipe σ vs) vs = wipe σ vs
    | [] => rfl
    | v :: vs => by
      have e : wipe (wipe σ (v :: vs)) (v :: vs) = wipe (wipe σ (v :: vs)) (v :: vs) := rfl
      show (wipe ((wipe σ vs).set v none) vs).set v none = (wipe σ vs).set v none
      by_cases hv : v ∈ vs
      · rw [wipe_set hv, wipe_wipe]
      · rw [wipe_set.wipe_comm hv, wipe_wipe, List.set_set]
theorem de_lc {elt tg iter : Expr} {ifs : List Expr} {scope : Scope} {own : List (Str × Nat)} {wi : DI} {g : DG} {tt : DT} {te : DE} (hN : X.N.Nodup) (hi : PId X cl tg iter wi) (ok : BlkOk X.N X.env.scope scope own)
    (hg : ∀ (s : Shared) (H : Hp) (C : Addr) (l : List (Str × Addr)) (fp : List Addr), POd (X.blk s H scope (compEnvC scope l C X.env) fp) cl vs tg g) (ht : ∀ (s : Shared) (H : Hp) (C : Addr) (l : List (Str × Addr)) (fp : List Addr), PTsd (X.blk s H scope (compEnvC scope l C X.env) fp) cl ifs tt)
    (he : ∀ (s : Shared) (H : Hp) (C : Addr) (l : List (Str × Addr)) (fp : List Addr), PEd (X.blk s H scope (compEnvC scope l C X.env) fp) cl elt te) (hv : own.map (·.2) = vs := by rfl) (hc : X.calm = true := by rfl) (hs : ∀ x, foldedSetIterable iter X.env x = pure x := by intro _; rfl) :
    PEd X cl (.ListComp elt [⟨tg, iter, ifs, 0⟩] scope pos) (dLc wi g tt te vs) := by
  subst hv
  exact weakE (pe_lc hc hN hi ok hg ht he hs) fun _ _ _ h => low_lc h
end

/-- a list that has just been made, seen as a tree -/
def dFz (t : DE) : DE := fun ρ C Q => t ρ C fun d C1 => ∃ a ds, d = .ref a ∧ C1 a = some (.lst ds) ∧ Q (.lst ds) (delC C1 a)
theorem delC_new {C : Cl} {p : Addr} {c : Cell} (h : C p = none) : delC (updC C p c) p = C := by
  funext b
  unfold delC
  by_cases e : b = p
  · rw [if_pos e, e, h]
  · rw [if_neg e, updC_ne e]
section
variable {X : Cx} {cl : NmB} {pos : Pos} {K : PySem.W.Frag}
theorem low_fz {t : DE} {σ : L2.St} {H : Hp} {Q : VK} (h : lowE K cl (dFz t) σ H Q) : lowE K cl t σ H Q := by
  obtain ⟨ρ, C, F, Qd, R, h, k⟩ := h
  refine ⟨ρ, C, F, _, R, h, fun v d C1 H1 F1 s1 R1 r1 ⟨a, ds, e, hc, q⟩ => ?_⟩
  subst e
  obtain ⟨F2, s2, R2, r2⟩ := (Gh.lst hc).ok R1 r1
  exact k v _ _ H1 F2 (s1.trans s2) R2 r2 q
theorem de_fz {e : Expr} {t : DE} (h : PEd X cl e t) : PEd X cl e (dFz t) := weakE h fun _ _ _ h => low_fz h
end
theorem ds_setLcF {X : Cx} {cl : NmB} {pos : Pos} (i : Nat) {y : Str} {py : Pos} {elt tg iter : Expr} {ifs : List Expr} {scope : Scope} {own : List (Str × Nat)} {spos : Pos} {vs : List Nat} {wi : DI} {g : DG} {tt : DT} {te : DE} (hN : X.N.Nodup) (hi : PId X cl tg iter wi) (ok : BlkOk X.N X.env.scope scope own)
    (hg : ∀ (s : Shared) (H : Hp) (C : Addr) (l : List (Str × Addr)) (fp : List Addr), POd (X.blk s H scope (compEnvC scope l C X.env) fp) cl vs tg g) (ht : ∀ (s : Shared) (H : Hp) (C : Addr) (l : List (Str × Addr)) (fp : List Addr), PTsd (X.blk s H scope (compEnvC scope l C X.env) fp) cl ifs tt)
    (he : ∀ (s : Shared) (H : Hp) (C : Addr) (l : List (Str × Addr)) (fp : List Addr), PEd (X.blk s H scope (compEnvC scope l C X.env) fp) cl elt te) (hsw : swapsWith (.ListComp elt [⟨tg, iter, ifs, 0⟩] scope pos) (some (.Name y py)) spos.line X.env = pure true) (hv : own.map (·.2) = vs := by rfl) (hc : X.calm = true := by rfl) (hy : X.N[i]? = some y := by rfl) (hyl : X.env.scope.names.lookup y = some .local := by rfl) (hs : ∀ x, foldedSetIterable iter X.env x = pure x := by intro _; rfl) :
    PSd X cl (.Assign [.Name y py] (.ListComp elt [⟨tg, iter, ifs, 0⟩] scope pos) spos) (dAsg (dFz (dLc wi g tt te vs)) (dName i)) := by
  subst hv
  refine weakS (ps_setLc (g := lowO X.K cl (own.map (·.2)) g) (tt := lowT X.K cl tt) (te := lowE X.K cl te) hc hN hy hyl hsw hi ok hg ht he hs) fun De σ H ⟨ρ, C, F, Dd, R, h, k⟩ => ?_
  exact low_lc (low_fz ⟨ρ, C, F, _, R, h, fun v d C1 H1 F1 s1 R1 r1 q1 => k.nx _ C1 F1 _ H1 s1 ((R.next s1 R1).set i r1) q1⟩)
/-- a comprehension whose elements are told one by one, each leaving the cells as they are -/
theorem lc_map {xs : List D} {C1 : Cl} {ρ : DEnv} {g : DG} {te : DE} {vs : List Nat} {Q : DQ} (f : D → D) (hl : xs.length ≤ sizeLine)
    (h : ∀ (i : Nat) (x : D) (C : Cl) (N : DQ), xs[i]? = some x → SubC C1 C → N (f x) C → g x (wipeD ρ vs) C fun ρ2 C2 => te ρ2 C2 N) (hq : Q (.lst (xs.map f)) C1) :
    ∀ p, C1 p = none → ∃ Pv : Nat → Cl → Prop, Pv 0 (updC C1 p (.lst [])) ∧
      (∀ i x C, xs[i]? = some x → Pv i C → g x (wipeD ρ vs) C fun ρ2 C2 => dYes ρ2 C2 fun b C3 =>
        if b = true then te ρ2 C3 fun y C4 => ∃ acc, C4 p = some (.lst acc) ∧ acc.length < sizeLine ∧ Pv (i + 1) (updC C4 p (.lst (acc ++ [y]))) else Pv (i + 1) C3) ∧
      ∀ C, Pv xs.length C → ∃ a ds, D.ref p = .ref a ∧ C a = some (.lst ds) ∧ Q (.lst ds) (delC C a) := by
  intro p np
  refine ⟨fun i C => C = updC C1 p (.lst ((xs.take i).map f)), by simp, fun i x C hx e => ?_, fun C e => ?_⟩
  · subst e
    refine h i x _ _ hx ((SubC.refl C1).new np) ⟨_, updC_same, ?_, ?_⟩
    · have := (List.getElem?_eq_some_iff.mp hx).1
      rw [List.length_map, List.length_take]
      omega
    · show updC (updC C1 p _) p _ = updC C1 p (.lst ((xs.take (i + 1)).map f))
      rw [updC_updC, List.take_add_one, hx, List.map_append]
      rfl
  · subst e
    refine ⟨p, _, rfl, updC_same, ?_⟩
    rw [delC_new np, List.take_length]
    exact hq
/-! ### calls -/
abbrev RDC := List D → Cl → DQ → Prop
def lowC (K : PySem.W.Frag) (cl : Nm) (rd : RDC) : List V → Hp → VK → Prop := fun xs H Q => ∃ ds C F Qd, RC K cl C F H ∧ RepL K cl F xs ds ∧ rd ds C Qd ∧ Fin K cl F Qd Q
abbrev CallD (X : Cx) (cl : Nm) (f : Value) (rd : RDC) : Prop := CallR X f (lowC X.K cl rd)
def dCB (rd : RDC) (t : DA) : DE := fun ρ C Q => t ρ C fun ds C1 => rd ds C1 Q
abbrev RDM := D → List D → Cl → DQ → Prop
def lowM (K : PySem.W.Frag) (cl : Nm) (rd : RDM) : V → List V → Hp → VK → Prop := fun x xs H Q => ∃ dx ds C F Qd, RC K cl C F H ∧ Rep K cl F x dx ∧ RepL K cl F xs ds ∧ rd dx ds C Qd ∧ Fin K cl F Qd Q
abbrev MtD (X : Cx) (cl : Nm) (id : String) (rd : RDM) : Prop := MtR X id (lowM X.K cl rd)
/-- the value is of that built-in type -/
def tyD (T : String) (d : D) (C : Cl) : Prop := match d with
  | .str _ => T = "str"
  | .int _ => T = "int"
  | .lst _ => T = "list"
  | .rol _ => T = "list"
  | .dct _ => T = "dict"
  | .ref a => (T = "list" ∧ ∃ ds, C a = some (.lst ds)) ∨ (T = "dict" ∧ ((∃ ds, C a = some (.dic ds)) ∨ ∃ ds, C a = some (.dct ds)))
  | _ => False
theorem tyD_ok {K : PySem.W.Frag} {cl : Nm} {T : String} {d : D} {v : V} {C : Cl} {F H : Hp} (R : RC K cl C F H) (r : Rep K cl F v d) (h : tyD T d C) : tyV K T v H := by
  cases r with
  | str x => exact h
  | int x => exact h
  | lst h1 _ => exact .inl ⟨h, _, .of (R.sub _ _ h1)⟩
  | rol h1 _ => exact .inl ⟨h, _, R.sub.seq h1⟩
  | dic h1 _ => exact h.elim
  | dct h1 _ => exact .inr (.inr (.inl ⟨h, .inr ⟨_, R.sub _ _ h1⟩⟩))
  | ref a =>
    rcases h with ⟨e, ds, hc⟩ | ⟨e, ⟨ds, hc⟩ | ⟨ds, hc⟩⟩
    · obtain ⟨_, o, ho, c⟩ := R.cel _ _ hc
      cases c
      exact .inl ⟨e, _, .of ho⟩
    · obtain ⟨_, o, ho, c⟩ := R.cel _ _ hc
      cases c
      exact .inr (.inr (.inl ⟨e, .inl ⟨_, ho⟩⟩))
    · obtain ⟨_, o, ho, c⟩ := R.cel _ _ hc
      cases c
      exact .inr (.inr (.inl ⟨e, .inr ⟨_, ho⟩⟩))
  | _ => exact h.elim
def dBM (T : String) (rd : RDM) (to : DE) (t : DA) : DE := fun ρ C Q => to ρ C fun x C1 => tyD T x C1 ∧ t ρ C1 fun ds C2 => rd x ds C2 Q
def dBM0 (T : String) (rd : RDM) (to : DE) : DE := fun ρ C Q => to ρ C fun x C1 => tyD T x C1 ∧ rd x [] C1 Q
def dCall (sp : DSp) (ds : List D) (t : DA) : DE := fun ρ C Q => t ρ C fun xs C1 => sp (xs ++ ds) C1 Q fun _ _ _ => False
section
variable {X : Cx} {cl : NmB} {e o : Expr} {es : List Expr} {t : DA} {to : DE} {pos cpos apos p : Pos} {K : PySem.W.Frag} {x name : Str}
theorem low_cb {rd : RDC} {σ : L2.St} {H : Hp} {Q : VK} (h : lowE K cl (dCB rd t) σ H Q) : tCB (lowC K cl rd) (lowA K cl t) σ H Q := by
  obtain ⟨ρ, C, F, Qd, R, h, k⟩ := h
  exact ⟨ρ, C, F, _, R, h, fun vs ds C1 H1 F1 s1 R1 r1 q1 => ⟨ds, C1, F1, Qd, R1, r1, q1, k.at s1⟩⟩
theorem de_callB {rd : RDC} {id : String} (hc : CallD X cl (.builtin id) rd) (hm : X.mg x = none) (hv : bootBuiltins x = some (.builtin id)) (ha : PAd X cl (e :: es) t) (hg : Gl X x := by rfl) (hn : x ≠ "__name__" := by decide) (hdb : (x == ("__debug__" : Str)) = false := by decide)
    (he : starEach (e :: es) X.env = (false, eval e X.env) :: starEach es X.env := by rfl) (hpl : (backTo pos (starEach es X.env)).any (·.1) = false := by rfl) : PEd X cl (.Call (.Name x p) (e :: es) [] pos) (dCB rd t) :=
  weakE (pe_callB hc hg hm hv ha hn hdb he hpl) fun _ _ _ h => low_cb h
theorem de_callTy {rd : RDC} {T : String} (hc : CallD X cl (.type T) rd) (hm : X.mg x = none) (hv : bootBuiltins x = some (.type T)) (ha : PAd X cl (e :: es) t) (hg : Gl X x := by rfl) (hn : x ≠ "__name__" := by decide) (hdb : (x == ("__debug__" : Str)) = false := by decide)
    (he : starEach (e :: es) X.env = (false, eval e X.env) :: starEach es X.env := by rfl) (hpl : (backTo pos (starEach es X.env)).any (·.1) = false := by rfl) : PEd X cl (.Call (.Name x p) (e :: es) [] pos) (dCB rd t) :=
  weakE (pe_callTy hc hg hm hv ha hn hdb he hpl) fun _ _ _ h => low_cb h
theorem de_bm {rd : RDM} {T id : String} (pa : PlainAttrs T) (slot : Slot T name id) (hty : typeOf (.builtin id) = pure (.type "method_descriptor")) (hm : MtD X cl id rd) (ho : PEd X cl o to) (ha : PAd X cl (e :: es) t)
    (hbase : attributeBase o name X.env (eval o X.env) = eval o X.env := by rfl)
    (hfew : ((backTo cpos (starEach (e :: es) X.env)).all (fun x => !x.1) && (backToKw cpos (keywordEach [] X.env)).all (fun x => x.1.isSome)
      && decide ((e :: es).length + ([] : List Keyword).length + (if ([] : List Keyword).isEmpty then 0 else 1) < 30)) = true := by rfl)
    (hline : (apos.endLine == cpos.line) = true := by rfl) (hs : starEach (e :: es) X.env = (false, eval e X.env) :: starEach es X.env := by rfl) (hplain : (backTo cpos (starEach es X.env)).any (·.1) = false := by rfl) : PEd X cl (.Call (.Attribute o name apos) (e :: es) [] cpos) (dBM T rd to t) := by
  refine weakE (pe_bm pa slot hty hm ho ha hbase hfew hline hs hplain) fun σ H Q ⟨ρ, C, F, Qd, R, h, k⟩ => ?_
  refine ⟨ρ, C, F, _, R, h, fun v d C1 H1 F1 s1 R1 r1 ⟨ty, q1⟩ => ⟨tyD_ok R1 r1 ty, ?_⟩⟩
  exact ⟨ρ, C1, F1, _, R.next s1 R1, q1, fun vs ds C2 H2 F2 s2 R2 r2 q2 => ⟨d, ds, C2, F2, Qd, R2, r1.mono s2, r2, q2, k.at (s1.trans s2)⟩⟩
variable {f : Addr} {fd : FuncData} {ps : List Str} {sp : DSp} {n : Nat}
/-- a def that lets nothing out -/
abbrev FnD (P : Program) (w : World) (K : PySem.W.Frag) (cl : Nm) (mg : Str → Option Value) (base : Heap) (n : Nat) (f : Addr) (fd : FuncData) (ps : List Str) (sp : DSp) : Prop := FnOk P w K mg base CX0 n f fd ps (lowSp K cl sp)
theorem de_call {dv : List Value} {vs : List V} {ds : List D} (FG : FnD X.prog X.w X.K cl X.mg X.base n f fd ps sp) (hr : Room n X.A) (hm : X.mg x = some (.ref f)) (hk : PySem.W.keepIn X.K (.ref f) = true) (hb : Binds X.K fd ps dv) (hd : Vals vs dv) (hv : ∀ F, RepL X.K cl F vs ds)
    (ha : PAd X cl (e :: es) t) (hg : Gl X x := by rfl) (hdb : (x == ("__debug__" : Str)) = false := by decide) (he : starEach (e :: es) X.env = (false, eval e X.env) :: starEach es X.env := by rfl) (hpl : (backTo pos (starEach es X.env)).any (·.1) = false := by rfl) :
    PEd X cl (.Call (.Name x p) (e :: es) [] pos) (dCall sp ds t) := by
  refine weakE (pe_callG (E := E0) FG hr hg hm hk hb hd pass0 ha hdb he hpl) fun σ H Q ⟨ρ, C, F, Qd, R, h, k⟩ => ?_
  refine ⟨ρ, C, F, _, R, h, fun us es C1 H1 F1 s1 R1 r1 q1 => ?_⟩
  exact ⟨es ++ ds, C1, F1, Qd, _, R1, r1.append (hv F1), q1, k.at s1, fun _ _ _ _ _ _ _ _ _ _ z => z.elim⟩
theorem de_call0 {dv : List Value} {vs : List V} {ds : List D} (FG : FnD X.prog X.w X.K cl X.mg X.base n f fd ps sp) (hr : Room n X.A) (hm : X.mg x = some (.ref f)) (hk : PySem.W.keepIn X.K (.ref f) = true) (hb : Binds X.K fd ps dv) (hd : Vals vs dv) (hv : ∀ F, RepL X.K cl F vs ds)
    (hg : Gl X x := by rfl) (hdb : (x == ("__debug__" : Str)) = false := by decide) :
    PEd X cl (.Call (.Name x p) [] [] pos) (dCall sp ds dNil) := by
  refine weakE (pe_callG0 (E := E0) FG hr hg hm hk hb hd pass0 hdb) fun σ H Q ⟨ρ, C, F, Qd, R, h, k⟩ => ?_
  exact ⟨ds, C, F, Qd, _, R.rc, hv F, h, k, fun _ _ _ _ _ _ _ _ _ _ z => z.elim⟩
end

/-! ### a def -/
def startD (N : List Str) (ds : List D) : DEnv := ds.map some ++ List.replicate (N.length - ds.length) none
/-- what a def's body is to reach -/
def endsD (Q : DQ) : DEnds := { nx := fun _ C => ∃ C', SubC C' C ∧ Q .non C', rt := fun d C => ∃ d' C', Gh d C d' C' ∧ Q d' C' }
theorem RS.startB {K : PySem.W.Frag} {cl : NmB} {C : Cl} {F H : Hp} {vs : List V} {ds : List D} (N : List Str) (R : RC K cl C F H) (r : RepL K cl F vs ds) (hb : Same cl.bs F) : RS K cl (startD N ds) C F (start N vs) H where
  rc := R
  bs := hb
  len := by unfold startD L2.start; simp [r.length]
  env := fun i d e => by
    unfold startD at e
    unfold L2.start
    by_cases h : i < ds.length
    · rw [List.getElem?_append_left (by simpa using h), List.getElem?_map] at e
      cases q : ds[i]? with
      | none => rw [q] at e; cases e
      | some d' =>
        rw [q] at e
        have e' : d' = d := Option.some.inj (Option.some.inj e)
        subst e'
        obtain ⟨v, hv, rv⟩ := r.get q
        refine ⟨v, ?_, rv⟩
        rw [List.getElem?_append_left (by simpa [r.length] using h), List.getElem?_map, hv]
        rfl
    · rw [List.getElem?_append_right (by simpa using h), List.getElem?_replicate] at e
      split at e <;> cases e
theorem RS.start {K : PySem.W.Frag} {cl : Nm} {C : Cl} {F H : Hp} {vs : List V} {ds : List D} (N : List Str) (R : RC K cl C F H) (r : RepL K cl F vs ds) : RS K (nb cl) (startD N ds) C F (start N vs) H := RS.startB N R r fun _ _ z => nomatch z
section
variable {P : Program} {w : World} {K : PySem.W.Frag} {cl : Nm} {mg : Str → Option Value} {base : Heap}
theorem fn_d {x qual : Str} {st : Stmt} {f : Addr} {fd : FuncData} {N ps : List Str} {k : Nat} {sp : DSp} {td : DS} (Fu : Fun K x qual st f fd) (S : FnScope N ps (defScope st)) (len : ∀ ds C Q E, sp ds C Q E → ds.length = ps.length)
    (pure : ∀ ds C Q E, sp ds C Q E → td (endsD Q) (startD N ds) C)
    (body : ∀ (cdv : Value) (A : Around) (outer : List Env) (s : Shared) (H : Hp) (E : XK), Room k (A.deeper (envOfC qual (defScope st) s.heap.objs.size f cdv)) → PSsd (cxOf CX0 P w K mg base N qual (defScope st) f cdv A outer s H E).nox (nb cl) (defBody st) td) :
    FnD P w K cl mg base (k + 1) f fd ps sp := by
  refine funOk Fu S (fun vs H Q E ⟨ds, C, F, Qd, Ed, R, r, h, _, _⟩ => r.length.trans (len ds C Qd Ed h)) fun cdv A outer s H vs Q E hr ⟨ds, C, F, Qd, Ed, R, r, h, kq, kx⟩ => ?_
  refine ⟨_, body cdv A outer s H E hr, startD N ds, C, F, _, RS.start N R r, pure ds C Qd Ed h, ?_⟩
  refine ⟨fun ρ C1 F1 σ H1 s1 R1 ⟨C2, sc, q⟩ => kq .non .non C2 H1 F1 s1 (R1.rc.drop sc) .non q, fun _ _ _ _ _ _ _ z => z.elim, fun _ _ _ _ _ _ _ z => z.elim, fun v d C1 F1 H1 s1 R1 r1 ⟨d', C2, g, q⟩ => ?_⟩
  obtain ⟨F2, s2, R2, r2⟩ := g.ok R1 r1
  exact kq v d' C2 H1 F2 (s1.trans s2) R2 r2 q
end
end G
namespace G
open PySem PySem.Spec PyProof.Rows L2

def szD : D → Prop
  | .str l => l.length ≤ sizeLine
  | .tup ds => ds.length ≤ sizeLine
  | .lst ds => ds.length ≤ sizeLine
  | _ => True
def rOf (f : D → D → Option D) : RD2 := fun x y C Q => ∃ z, f x y = some z ∧ szD z ∧ Q z C
theorem str_app (a b : List Nat) : ((⟨a.toArray⟩ : Str) ++ ⟨b.toArray⟩) = ⟨(a ++ b).toArray⟩ := TL.ext_tl (by rw [TL.tl_append])
theorem len_mk (a : List Nat) : (⟨a.toArray⟩ : Str).length = a.length := by rw [TL.len_tl]
/-! ### arithmetic -/
def addF : D → D → Option D
  | .int i, .int j => some (.int (i + j))
  | .int i, .bl k => some (.int (i + b2i k))
  | .str a, .str b => some (.str (a ++ b))
  | .tup a, .tup b => some (.tup (a ++ b))
  | .lst a, .lst b => some (.lst (a ++ b))
  | _, _ => none
section
variable {X : Cx} {cl : NmB}
theorem od_add : OpD X cl (binaryOp .Add) (rOf addF) := by
  intro pins s σ H x y v u Q I rx ry ⟨dx, dy, C, F, Qd, R, r1, r2, ⟨z, e, sz, q⟩, k⟩
  have ss := Same.refl F
  unfold addF at e
  split at e
  · cases e; cases r1; cases r2
    exact op_add pins s σ H _ _ v u Q I rx ry ⟨_, _, rfl, rfl, k _ _ C H F ss R (.int _) q⟩
  · cases e; cases r1; cases r2
    exact op_add_ib pins s σ H _ _ v u Q I rx ry ⟨_, _, rfl, rfl, k _ _ C H F ss R (.int _) q⟩
  · rename_i a b
    cases e; cases r1; cases r2
    refine op_add_str pins s σ H _ _ v u Q I rx ry ⟨_, _, rfl, rfl, ?_, ?_⟩
    · rw [len_mk, len_mk, ← List.length_append]; exact sz
    · rw [str_app]; exact k _ _ C H F ss R (.str _) q
  · rename_i a b
    cases e
    cases r1 with
    | tup h1 l1 =>
      cases r2 with
      | tup h2 l2 =>
        rename_i p1 xs p2 ys
        refine op_catA pins s σ H _ _ v u Q I rx ry ⟨_, _, xs, ys, rfl, rfl, sqT_mono R.sub h1, sqT_mono R.sub h2, ?_, fun e => ?_, fun _ e => ?_, fun _ _ p np => ?_⟩
        · rw [l1.length, l2.length, ← List.length_append]; exact sz
        · subst e
          cases l1
          exact k _ _ C H F ss R (.tup h2 l2) q
        · subst e
          cases l2
          rw [List.append_nil] at q
          exact k _ _ C H F ss R (.tup h1 l1) q
        · have s2 := same_upd (o := .tup (xs ++ ys)) (R.freeF np)
          exact k _ _ C _ _ s2 (R.new np) (.tup (.of upd_same) ((l1.append l2).mono s2)) q
  · rename_i a b
    cases e
    cases r1 with
    | lst h1 l1 =>
      cases r2 with
      | lst h2 l2 =>
        rename_i p1 xs p2 ys
        refine op_cat pins s σ H _ _ v u Q I rx ry ⟨_, _, xs, ys, rfl, rfl, R.sub _ _ h1, R.sub _ _ h2, ?_, fun p np => ?_⟩
        · rw [l1.length, l2.length, ← List.length_append]; exact sz
        · have s2 := same_upd (o := .lst (xs ++ ys)) (R.freeF np)
          exact k _ _ C _ _ s2 (R.new np) (.lst upd_same ((l1.append l2).mono s2)) q
  · cases e
def ioF (g : Int → Int → Int) : D → D → Option D
  | .int i, .int j => some (.int (g i j))
  | _, _ => none
theorem ioF_inv {g : Int → Int → Int} {x y z : D} (h : ioF g x y = some z) : ∃ i j, x = .int i ∧ y = .int j ∧ z = .int (g i j) := by
  unfold ioF at h
  split at h
  · exact ⟨_, _, rfl, rfl, (Option.some.inj h).symm⟩
  · cases h
theorem od_sub : OpD X cl (binaryOp .Sub) (rOf (ioF fun i j => i - j)) := by
  intro pins s σ H x y v u Q I rx ry ⟨dx, dy, C, F, Qd, R, r1, r2, ⟨z, e, sz, q⟩, k⟩
  obtain ⟨i, j, rfl, rfl, rfl⟩ := ioF_inv e
  cases r1; cases r2
  exact op_sub pins s σ H _ _ v u Q I rx ry ⟨_, _, rfl, rfl, k _ _ C H F (Same.refl F) R (.int _) q⟩
/-- ints under a condition -/
def rIC (P : Int → Int → Prop) (g : Int → Int → Int) : RD2 := fun x y C Q => ∃ i j, x = .int i ∧ y = .int j ∧ P i j ∧ Q (.int (g i j)) C
theorem od_ic {f : Value → Value → Sem Value} {P : Int → Int → Prop} {g : Int → Int → Int} (h : OpR X f (rI P fun i j => .int (g i j))) : OpD X cl f (rIC P g) := by
  intro pins s σ H x y v u Q I rx ry ⟨dx, dy, C, F, Qd, R, r1, r2, ⟨i, j, e1, e2, p, q⟩, k⟩
  subst e1 e2
  cases r1; cases r2
  exact h pins s σ H _ _ v u Q I rx ry ⟨_, _, rfl, rfl, p, k _ _ C H F (Same.refl F) R (.int _) q⟩
theorem od_fdiv : OpD X cl (binaryOp .FloorDiv) (rIC CDivW fun i j => i / j) := od_ic op_fdivW
theorem od_mod : OpD X cl (binaryOp .Mod) (rIC (fun _ j => 0 < j) fun i j => i % j) := od_ic op_mod
theorem od_pow : OpD X cl (binaryOp .Pow) (rIC CPow fun i j => i ^ j.toNat) := od_ic op_pow
/-- a text so many times -/
def repL (l : List Nat) (n : Nat) : List Nat := (List.replicate n l).flatten
def rMul : RD2 := fun x y C Q => (∃ i j, x = .int i ∧ y = .int j ∧ CMul i j ∧ Q (.int (i * j)) C) ∨ (∃ l j, x = .str l ∧ y = .int j ∧ (j ≤ 1000000 ∧ l.length ≤ 1000000 ∧ l.length * j.toNat ≤ 1000000) ∧ -1000000 ≤ j ∧ Q (.str (repL l j.toNat)) C)
theorem rep_cps (x : Str) : ∀ (n : Nat) (acc : Array Nat), ((List.replicate n x.cps).foldl (· ++ ·) acc).toList = acc.toList ++ (List.replicate n x.cps.toList).flatten
  | 0, acc => by simp
  | n + 1, acc => by
    rw [List.replicate_succ, List.foldl_cons, rep_cps x n, List.replicate_succ, List.flatten_cons, Array.toList_append, List.append_assoc]
theorem txt_mul (l : List Nat) (j : Int) : Txt.mul ⟨l.toArray⟩ j = ⟨(repL l j.toNat).toArray⟩ := by
  apply TL.ext_tl
  unfold Txt.mul repL
  by_cases h1 : j < 1
  · rw [if_pos h1, show j.toNat = 0 by omega]
    rfl
  · rw [if_neg h1]
    by_cases h2 : (j == 1 || (⟨l.toArray⟩ : Str).length == 0) = true
    · rw [if_pos h2]
      rw [Bool.or_eq_true] at h2
      rcases h2 with h2 | h2
      · have e : j = 1 := eq_of_beq h2
        subst e
        show l = ([l] : List (List Nat)).flatten
        simp
      · have e : (⟨l.toArray⟩ : Str).length = 0 := eq_of_beq h2
        rw [len_mk] at e
        have e : l = [] := List.length_eq_zero_iff.mp e
        subst e
        show ([] : List Nat) = _
        simp
    · rw [if_neg h2]
      exact rep_cps ⟨l.toArray⟩ j.toNat #[]
theorem mul_ok {l : List Nat} {j : Int} (h : j ≤ 1000000 ∧ l.length ≤ 1000000 ∧ l.length * j.toNat ≤ 1000000) (h2 : -1000000 ≤ j) : MulOk ⟨l.toArray⟩ j := by
  obtain ⟨h0, h1, h3⟩ := h
  refine ⟨?_, fun hn _ => ?_, fun hn _ => ?_⟩
  · rw [Bool.or_eq_false_iff]
    exact ⟨decide_eq_false (by omega), decide_eq_false (by omega)⟩
  · rw [len_mk]
    have e : (2 : Int) ^ 63 - 1 = 9223372036854775807 := by decide
    rw [e]
    have hj : (0 : Int) < j := by omega
    have key : (l.length : Int) ≤ 9223372036854775807 / j := by
      rw [Int.le_ediv_iff_mul_le hj]
      have e2 : (l.length : Int) * j = ((l.length * j.toNat : Nat) : Int) := by
        rw [Int.natCast_mul]
        congr 1
        omega
      rw [e2]
      omega
    omega
  · rw [len_mk]
    unfold Builtin.Str.tooLong
    exact decide_eq_false (by
      have : ∀ n : Nat, n ≤ 1000000 → ¬ n > 16777216 := fun n hn => by omega
      first
        | exact this _ h3
        | (intro hx; have := h3; simp at hx; omega))
theorem od_mul : OpD X cl (binaryOp .Mult) rMul := by
  intro pins s σ H x y v u Q I rx ry ⟨dx, dy, C, F, Qd, R, r1, r2, h, k⟩
  rcases h with ⟨i, j, e1, e2, p, q⟩ | ⟨l, j, e1, e2, p, p2, q⟩
  · subst e1 e2
    cases r1; cases r2
    exact op_mul pins s σ H _ _ v u Q I rx ry ⟨_, _, rfl, rfl, p, k _ _ C H F (Same.refl F) R (.int _) q⟩
  · subst e1 e2
    cases r1; cases r2
    obtain ⟨t, rfl⟩ := rx
    obtain ⟨t', rfl⟩ := ry
    refine SB.mul (mul_ok p p2) fun t2 k2 => ?_
    rw [txt_mul]
    exact ⟨.str _, H, I.tok _, ⟨_, rfl⟩, k _ _ C H F (Same.refl F) R (.str _) q⟩
/-! ### comparisons -/
def flatEq : D → D → Option Bool
  | .non, .non => some true
  | .int a, .int b => some (decide (a = b))
  | .bl a, .bl b => some (decide (a = b))
  | .str a, .str b => some (decide (a = b))
  | .non, .int _ => some false | .int _, .non => some false | .non, .bl _ => some false | .bl _, .non => some false | .non, .str _ => some false | .str _, .non => some false
  | .int _, .str _ => some false | .str _, .int _ => some false | .bl _, .str _ => some false | .str _, .bl _ => some false
  | _, _ => none
theorem flatEq_ok {K : PySem.W.Frag} {F : Hp} {x y : V} {dx dy : D} {b : Bool} (r1 : Rep K cl F x dx) (r2 : Rep K cl F y dy) (h : flatEq dx dy = some b) : scal x y = true ∧ decide (x = y) = b := by
  unfold flatEq at h
  split at h <;> first
    | (cases h; cases r1; cases r2; exact ⟨rfl, by first | rfl | (simp)⟩)
    | cases h
/-! #### data as a whole -/
mutual
def toPy : D → PyData
  | .bl b => .bool b
  | .int i => .int i
  | .str l => .str ⟨l.toArray⟩
  | .tup ds => .tuple (toPyL ds)
  | .lst ds => .list (toPyL ds)
  | .rol ds => .list (toPyL ds)
  | _ => .none
def toPyL : List D → List PyData
  | [] => []
  | d :: ds => toPy d :: toPyL ds
end
mutual
def plain : D → Bool
  | .non => true
  | .bl _ => true
  | .int _ => true
  | .str _ => true
  | .tup ds => plainL ds
  | .lst ds => plainL ds
  | .rol ds => plainL ds
  | _ => false
def plainL : List D → Bool
  | [] => true
  | d :: ds => plain d && plainL ds
end
mutual
theorem Rep.dp {K : PySem.W.Frag} {F H : Hp} (s : Same F H) : ∀ {v : V} {d : D}, Rep K cl F v d → plain d = true → Dp K H v (toPy d)
  | _, _, .non, _ => by unfold toPy; exact .non
  | _, _, .bl b, _ => by unfold toPy; exact .bl b
  | _, _, .int i, _ => by unfold toPy; exact .int i
  | _, _, .str l, _ => by unfold toPy; exact .str _
  | _, _, .ref a, h => by unfold plain at h; cases h
  | _, _, .ty n, h => by unfold plain at h; cases h
  | _, _, .tup h1 h2, h => by unfold plain at h; unfold toPy; exact .tup (sqT_mono s h1) (RepL.dp s h2 h)
  | _, _, .lst h1 h2, h => by unfold plain at h; unfold toPy; exact .lst (.of (s _ _ h1)) (RepL.dp s h2 h)
  | _, _, .rol h1 h2, h => by unfold plain at h; unfold toPy; exact .lst (s.seq h1) (RepL.dp s h2 h)
  | _, _, .dic h1 h2, h => by unfold plain at h; cases h
  | _, _, .dct h1 h2, h => by unfold plain at h; cases h
  | _, _, .ins h1 h2, h => by unfold plain at h; cases h
theorem RepL.dp {K : PySem.W.Frag} {F H : Hp} (s : Same F H) : ∀ {vs : List V} {ds : List D}, RepL K cl F vs ds → plainL ds = true → DpAll K H vs (toPyL ds)
  | _, _, .nil, _ => by unfold toPyL; exact .nil
  | _, _, .cons h r, e => by
    unfold plainL at e
    rw [Bool.and_eq_true] at e
    unfold toPyL
    exact .cons (Rep.dp s h e.1) (RepL.dp s r e.2)
end
/-- what == of two plain things is -/
def eqT (x y : D) : Bool := PyData.eqv (toPy x) (toPy y)
def shp (x : D) : Bool := plain x && SeqAt.shaped (toPy x)
def rEqD : RD2 := fun x y C Q => (∃ b, flatEq x y = some b ∧ Q (.bl b) C) ∨ (shp x = true ∧ shp y = true ∧ Q (.bl (eqT x y)) C)
def rNeD : RD2 := fun x y C Q => (∃ b, flatEq x y = some b ∧ Q (.bl (!b)) C) ∨ (shp x = true ∧ shp y = true ∧ Q (.bl (!eqT x y)) C)
theorem od_eq {n : Nat} (hr : Room n X.A) : OpD X cl (compareOp .Eq) rEqD := by
  intro pins s σ H x y v u Q I rx ry ⟨dx, dy, C, F, Qd, R, r1, r2, h, k⟩
  rcases h with ⟨b, e, q⟩ | ⟨h1, h2, q⟩
  · obtain ⟨hs, hd⟩ := flatEq_ok r1 r2 e
    refine op_eq pins s σ H _ _ v u Q I rx ry ⟨hs, ?_⟩
    rw [hd]
    exact k _ _ C H F (Same.refl F) R (.bl _) q
  · unfold shp at h1 h2
    rw [Bool.and_eq_true] at h1 h2
    exact op_eqD hr.units pins s σ H _ _ v u Q I rx ry ⟨_, _, r1.dp R.sub h1.1, r2.dp R.sub h2.1, h1.2, h2.2, k _ _ C H F (Same.refl F) R (.bl _) q⟩
theorem od_ne {n : Nat} (hr : Room n X.A) : OpD X cl (compareOp .NotEq) rNeD := by
  intro pins s σ H x y v u Q I rx ry ⟨dx, dy, C, F, Qd, R, r1, r2, h, k⟩
  rcases h with ⟨b, e, q⟩ | ⟨h1, h2, q⟩
  · obtain ⟨hs, hd⟩ := flatEq_ok r1 r2 e
    refine op_ne pins s σ H _ _ v u Q I rx ry ⟨hs, ?_⟩
    rw [hd]
    exact k _ _ C H F (Same.refl F) R (.bl _) q
  · unfold shp at h1 h2
    rw [Bool.and_eq_true] at h1 h2
    exact op_neD hr.units pins s σ H _ _ v u Q I rx ry ⟨_, _, r1.dp R.sub h1.1, r2.dp R.sub h2.1, h1.2, h2.2, k _ _ C H F (Same.refl F) R (.bl _) q⟩
/-- order of ints, of texts -/
def ordF (p : Int → Int → Bool) (q : List Nat → List Nat → Bool) : D → D → Option D
  | .int i, .int j => some (.bl (p i j))
  | .str a, .str b => some (.bl (q a b))
  | _, _ => none
theorem od_ord {op : CmpOp} {p : Int → Int → Bool} {q : List Nat → List Nat → Bool} (h1 : OpR X (compareOp op) (rI0 fun i j => .bl (p i j)))
    (h2 : OpR X (compareOp op) (fun x y H Q => ∃ i j, x = .str i ∧ y = .str j ∧ Q (.bl (q i.cps.toList j.cps.toList)) H)) : OpD X cl (compareOp op) (rOf (ordF p q)) := by
  intro pins s σ H x y v u Q I rx ry ⟨dx, dy, C, F, Qd, R, r1, r2, ⟨z, e, sz, qq⟩, k⟩
  unfold ordF at e
  split at e
  · cases e; cases r1; cases r2
    exact h1 pins s σ H _ _ v u Q I rx ry ⟨_, _, rfl, rfl, k _ _ C H F (Same.refl F) R (.bl _) qq⟩
  · cases e; cases r1; cases r2
    exact h2 pins s σ H _ _ v u Q I rx ry ⟨_, _, rfl, rfl, k _ _ C H F (Same.refl F) R (.bl _) qq⟩
  · cases e
abbrev ltF := ordF (fun i j => decide (i < j)) (fun a b => decide (a < b))
abbrev gtF := ordF (fun i j => decide (j < i)) (fun a b => decide (b < a))
abbrev geF := ordF (fun i j => decide (j ≤ i)) (fun a b => !decide (a < b))
theorem od_lt : OpD X cl (compareOp .Lt) (rOf ltF) := od_ord op_lt op_lt_str
theorem od_gt : OpD X cl (compareOp .Gt) (rOf gtF) := od_ord op_gt op_gt_str
theorem od_ge : OpD X cl (compareOp .GtE) (rOf geF) := od_ord op_ge op_ge_str
end
end G
namespace G
open PySem PySem.Spec PyProof.Rows L2

/-! ### texts as lists of signs -/
/-- a stands in z -/
def subIn (a z : List Nat) : Bool := (List.range (z.length + 1)).any fun i => (z.drop i).take a.length == a
theorem drop_takeWhile (g : Nat → Bool) : ∀ l : List Nat, l.drop (l.takeWhile g).length = l.dropWhile g
  | [] => rfl
  | c :: l => by
    cases h : g c with
    | true =>
      rw [List.takeWhile_cons_of_pos h, List.dropWhile_cons_of_pos h]
      exact drop_takeWhile g l
    | false =>
      rw [List.takeWhile_cons_of_neg (by rw [h]; exact Bool.false_ne_true), List.dropWhile_cons_of_neg (by rw [h]; exact Bool.false_ne_true)]
      rfl
/-- without the signs of y at the end -/
def rdrop (g : Nat → Bool) (l : List Nat) : List Nat := (l.reverse.dropWhile g).reverse
/-- a ends z -/
def ends (a z : List Nat) : Bool := decide (a.length ≤ z.length) && z.drop (z.length - a.length) == a
end G
namespace G
open PySem PySem.Spec PyProof.Rows L2

/-! ### sequences -/
def cellL (C : Cl) (a : Addr) : Option (List D) :=
  match C a with
  | some (.lst ds) => some ds
  | _ => none
theorem cellL_eq {C : Cl} {a : Addr} {ds : List D} (h : cellL C a = some ds) : C a = some (.lst ds) := by
  unfold cellL at h
  split at h
  · rename_i e; cases h; exact e
  · cases h
theorem cellL_of {C : Cl} {a : Addr} {ds : List D} (h : C a = some (.lst ds)) : cellL C a = some ds := by
  unfold cellL
  rw [h]
def seqOf (C : Cl) : D → Option (List D)
  | .tup ds => some ds
  | .lst ds => some ds
  | .rol ds => some ds
  | .ref a => cellL C a
  | _ => none
section
variable {K : PySem.W.Frag} {cl : Nm} {C : Cl} {F H : Hp} {v : V} {d : D} {ds : List D}
theorem seq_ok (R : RC K cl C F H) (r : Rep K cl F v d) (h : seqOf C d = some ds) : ∃ a xs, v = .ref a ∧ (SqL K H a xs ∨ SqT K H a xs) ∧ RepL K cl F xs ds := by
  cases r with
  | tup h1 h2 => cases h; exact ⟨_, _, rfl, .inr (sqT_mono R.sub h1), h2⟩
  | lst h1 h2 => cases h; exact ⟨_, _, rfl, .inl (.of (R.sub _ _ h1)), h2⟩
  | rol h1 h2 => cases h; exact ⟨_, _, rfl, .inl (R.sub.seq h1), h2⟩
  | ref a =>
    obtain ⟨_, o, ho, c⟩ := R.cel _ _ (cellL_eq h)
    cases c with
    | lst rl => exact ⟨_, _, rfl, .inl (.of ho), rl⟩
  | _ => cases h
end
/-- == of flat things -/
def eqFl : D → D → Bool
  | .non, .non => true
  | .bl a, .bl b => a == b
  | .bl a, .int b => (if a then 1 else 0) == b
  | .int a, .bl b => a == (if b then 1 else 0)
  | .int a, .int b => a == b
  | .str a, .str b => a == b
  | _, _ => false
section
variable {K : PySem.W.Frag} {cl : Nm} {F : Hp}
end
section
variable {X : Cx} {cl : NmB}
/-! ### subscripts, slices -/
theorem atI_map {α β : Type} {R : α → β → Prop} {xs : List α} {ds : List β} (hl : xs.length = ds.length) (hg : ∀ (i : Nat) d, ds[i]? = some d → ∃ v, xs[i]? = some v ∧ R v d) {i : Int} {d : β} (h : atI ds i = some d) : ∃ v, atI xs i = some v ∧ R v d := by
  unfold atI at h ⊢
  rw [hl]
  cases e : ixN ds.length i with
  | none => rw [e] at h; cases h
  | some j =>
    rw [e] at h
    obtain ⟨v, h1, h2⟩ := hg j d h
    exact ⟨v, h1, h2⟩
def rIx : RD2 := fun x y C Q => ∃ i, y = .int i ∧ ((∃ l c, x = .str l ∧ l.length ≤ sizeLine ∧ atI l i = some c ∧ Q (.str [c]) C) ∨ (∃ ds d, seqOf C x = some ds ∧ atI ds i = some d ∧ Q d C))
theorem ix_ok : IxR X (lowR X.K cl rIx) := by
  intro value slice pins s σ H x y v u Q I rx ry ⟨dx, dy, C, F, Qd, R, r1, r2, ⟨i, e, h⟩, k⟩ hs
  subst e
  cases r2
  rcases h with ⟨l, c, e, hl, ha, q⟩ | ⟨ds, d, e, ha, q⟩
  · subst e
    cases r1
    refine ix_seq value slice pins s σ H _ _ v u Q I rx ry (.inr (.inr ⟨_, _, c, rfl, rfl, ?_, ha, k _ _ C H F (Same.refl F) R (.str [c]) q⟩)) hs
    rw [len_mk]; exact hl
  · obtain ⟨p, xs, rfl, hq, rl⟩ := seq_ok R r1 e
    obtain ⟨w, hw, rw'⟩ := atI_map (R := Rep X.K cl F) rl.length (fun j d hd => rl.get hd) ha
    have fin := k w d C H F (Same.refl F) R rw' q
    rcases hq with hq | hq
    · exact ix_seq value slice pins s σ H _ _ v u Q I rx ry (.inl ⟨p, xs, _, w, rfl, rfl, hq, hw, fin⟩) hs
    · exact ix_seq value slice pins s σ H _ _ v u Q I rx ry (.inr (.inl ⟨p, xs, _, w, rfl, rfl, hq, hw, fin⟩)) hs
theorem de_ix {a b : Expr} {ta tb : DE} {pos : Pos} (ha : PEd X cl a ta) (hb : PEd X cl b tb) (hs : PlainIx b := by intro _ _; rfl) : PEd X cl (.Subscript a b pos) (dOp rIx ta tb) :=
  weakE (pe_ix ix_ok ha hb hs) fun _ _ _ h => low_op h
/-- l[lo:hi] -/
def cutL {α : Type} (l : List α) (lo hi : Option Int) : List α := (l.drop (HT.sIx l.length 0 lo)).take (HT.sIx l.length l.length hi - HT.sIx l.length 0 lo)
abbrev DO := DEnv → Cl → (Option Int → Cl → Prop) → Prop
def dNoPart : DO := fun _ C Q => Q none C
def dPart (t : DE) : DO := fun ρ C Q => t ρ C fun x C1 => ∃ i, x = .int i ∧ Q (some i) C1
/-- what is cut out of x -/
def slF (C : Cl) (x : D) (lo hi : Option Int) : Option D :=
  match x with
  | .str l => some (.str (cutL l lo hi))
  | .tup ds => some (.tup (cutL ds lo hi))
  | .lst ds => some (.lst (cutL ds lo hi))
  | .rol ds => some (.lst (cutL ds lo hi))
  | .ref a => (cellL C a).map fun ds => .lst (cutL ds lo hi)
  | _ => none
def srcOk : D → Prop
  | .str l => l.length ≤ sizeLine
  | _ => True
abbrev RSl := D → Option Int → Option Int → Cl → DQ → Prop
theorem RepL.cut {K : PySem.W.Frag} {F : Hp} {xs : List V} {ds : List D} (lo hi : Option Int) (r : RepL K cl F xs ds) : RepL K cl F (cutV xs lo hi) (cutL ds lo hi) := by
  unfold cutV cutL
  rw [r.length]
  exact (r.drop _).take _
def dSl (rd : RSl) (te : DE) (tl th : DO) : DE := fun ρ C Q => te ρ C fun x C1 => tl ρ C1 fun l C2 => th ρ C2 fun u C3 => rd x l u C3 Q
/-- xs[i] = v -/
def rSetL : RSet := fun o i v C Q => ∃ a k j ds, o = .ref a ∧ i = .int k ∧ C a = some (.lst ds) ∧ ixN ds.length k = some j ∧ Q (updC C a (.lst (ds.set j v)))
theorem st_list : SetD X cl rSetL := by
  intro pins s σ H o i v ov iv u Q I r1 r2 r3 ⟨dO, dI, dV, C, F, Qd, R, p1, p2, p3, ⟨a, kk, j, ds, e1, e2, hc, hj, q⟩, k⟩
  subst e1 e2
  cases p1; cases p2
  obtain ⟨_, ob, ho, c⟩ := R.cel _ _ hc
  cases c with
  | lst rl =>
    exact set_list pins s σ H _ _ v ov iv u Q I r1 r2 r3 ⟨a, _, kk, j, rfl, rfl, ho, by rw [rl.length]; exact hj, k _ F _ (Same.refl F) (R.put hc (.lst (rl.set p3 j))) q⟩

/-! ### built-in calls -/
def lenF (C : Cl) : D → Option Nat
  | .str l => some l.length
  | .tup ds => some ds.length
  | .lst ds => some ds.length
  | .rol ds => some ds.length
  | .ref a => (cellL C a).map List.length
  | _ => none
def rLen : RDC := fun xs C Q => ∃ x n, xs = [x] ∧ lenF C x = some n ∧ srcOk x ∧ Q (.int n) C
theorem cd_len : CallD X cl (.builtin "len") rLen := by
  intro pins s σ H xs us Q I r ⟨ds, C, F, Qd, R, rl, ⟨x, n, e, hn, so, q⟩, k⟩
  subst e
  cases rl with
  | cons r1 rr =>
    cases rr
    refine call_len pins s σ H _ us Q I r ⟨_, n, rfl, ?_, k _ _ C H F (Same.refl F) R (.int _) q⟩
    cases r1 with
    | str l => cases hn; exact ⟨by rw [len_mk]; exact so, by rw [len_mk]⟩
    | tup h1 h2 => cases hn; exact .inr ⟨_, sqT_mono R.sub h1, h2.length.symm⟩
    | lst h1 h2 => cases hn; exact .inl ⟨_, .of (R.sub _ _ h1), h2.length.symm⟩
    | rol h1 h2 => cases hn; exact .inl ⟨_, R.sub.seq h1, h2.length.symm⟩
    | ref a =>
      have e' : (cellL C a).map List.length = some n := hn
      cases hh : cellL C a with
      | none => rw [hh] at e'; cases e'
      | some d' =>
        rw [hh] at e'
        cases e'
        obtain ⟨_, o, ho, c⟩ := R.cel _ _ (cellL_eq hh)
        cases c with
        | lst rl => exact .inl ⟨_, .of ho, rl.length.symm⟩
    | _ => cases hn
def rAbs : RDC := fun xs C Q => ∃ i, xs = [.int i] ∧ Q (.int (if i < 0 then -i else i)) C
theorem cd_abs : CallD X cl (.builtin "abs") rAbs := by
  intro pins s σ H xs us Q I r ⟨ds, C, F, Qd, R, rl, ⟨i, e, q⟩, k⟩
  subst e
  cases rl with
  | cons r1 rr =>
    cases rr; cases r1
    exact call_abs pins s σ H _ us Q I r ⟨i, rfl, k _ _ C H F (Same.refl F) R (.int _) q⟩
def rInt : RDC := fun xs C Q => (∃ i, xs = [.int i] ∧ Q (.int i) C) ∨ (∃ b, xs = [.bl b] ∧ Q (.int (if b then 1 else 0)) C)
theorem cd_int : CallD X cl (.type "int") rInt := by
  intro pins s σ H xs us Q I r ⟨ds, C, F, Qd, R, rl, h, k⟩
  rcases h with ⟨i, e, q⟩ | ⟨i, e, q⟩
  all_goals
    subst e
    cases rl with
    | cons r1 rr =>
      cases rr; cases r1
      first
        | exact call_int1 pins s σ H _ us Q I r (.inl ⟨i, rfl, k _ _ C H F (Same.refl F) R (.int _) q⟩)
        | exact call_int1 pins s σ H _ us Q I r (.inr ⟨i, rfl, k _ _ C H F (Same.refl F) R (.int _) q⟩)
def rMin2 : RDC := fun xs C Q => ∃ i j, xs = [.int i, .int j] ∧ Q (.int (if j < i then j else i)) C
theorem cd_min (hc : X.calm = true := by rfl) : CallD X cl (.builtin "min") rMin2 := by
  intro pins s σ H xs us Q I r ⟨ds, C, F, Qd, R, rl, ⟨i, j, e, q⟩, k⟩
  subst e
  cases rl with
  | cons r1 rr =>
    cases rr with
    | cons r2 rr =>
      cases rr; cases r1; cases r2
      exact call_min2 hc pins s σ H _ us Q I r ⟨i, j, rfl, k _ _ C H F (Same.refl F) R (.int _) q⟩
def rMax2 : RDC := fun xs C Q => ∃ i j, xs = [.int i, .int j] ∧ Q (.int (if j > i then j else i)) C
theorem cd_max (hc : X.calm = true := by rfl) : CallD X cl (.builtin "max") rMax2 := by
  intro pins s σ H xs us Q I r ⟨ds, C, F, Qd, R, rl, ⟨i, j, e, q⟩, k⟩
  subst e
  cases rl with
  | cons r1 rr =>
    cases rr with
    | cons r2 rr =>
      cases rr; cases r1; cases r2
      exact call_max2 hc pins s σ H _ us Q I r ⟨i, j, rfl, k _ _ C H F (Same.refl F) R (.int _) q⟩
/-- a list of truth values -/
def bls (bs : List Bool) : List D := bs.map D.bl
theorem rep_bls {K : PySem.W.Frag} {F : Hp} : ∀ {bs : List Bool} {xs : List V}, RepL K cl F xs (bls bs) → xs = bs.map V.bl
  | [], _, .nil => rfl
  | b :: bs, _, .cons r rr => by
    cases r
    rw [rep_bls rr]
    rfl
def rAllL : RDC := fun xs C Q => ∃ x bs, xs = [x] ∧ lstOf x = some (bls bs) ∧ Q (.bl (bs.all id)) C
theorem cd_all (hc : X.calm = true := by rfl) : CallD X cl (.builtin "all") rAllL := by
  intro pins s σ H xs us Q I r ⟨ds, C, F, Qd, R, rl, ⟨x, bs, e, hb, q⟩, k⟩
  subst e
  cases rl with
  | cons r1 rr =>
    cases rr
    obtain ⟨a, ys, rfl, hs, hl⟩ := r1.asL hb
    have e := rep_bls hl
    subst e
    exact cr_all hc pins s σ H _ us Q I r ⟨a, bs, rfl, R.sub.seq hs, k _ _ C H F (Same.refl F) R (.bl _) q⟩
/-- tuple(x) -/
def rTuple : RDC := fun xs C Q => ∃ x ds, xs = [x] ∧ seqOf C x = some ds ∧ Q (.tup ds) C
theorem cd_tuple : CallD X cl (.type "tuple") rTuple := by
  intro pins s σ H xs us Q I r ⟨ds, C, F, Qd, R, rl, ⟨x, es, e, hb, q⟩, k⟩
  subst e
  cases rl with
  | cons r1 rr =>
    cases rr
    have r1' := r1
    obtain ⟨a, ys, rfl, hs, hl⟩ := seq_ok R r1 hb
    have onT : ∀ zs, SqT X.K F a zs → RepL X.K cl F zs es → wpAny (model X.prog X.w) X.A (call (.type "tuple") us) (EP X pins σ Q) X.xe s := fun zs h1 h2 =>
      call_tuple_of pins s σ H _ us Q I r ⟨a, zs, rfl, .inr ⟨sqT_mono R.sub h1, k _ _ C H F (Same.refl F) R (.tup h1 h2) q⟩⟩
    have onL : ∀ zs, SqL X.K H a zs → RepL X.K cl F zs es → wpAny (model X.prog X.w) X.A (call (.type "tuple") us) (EP X pins σ Q) X.xe s := fun zs h1 h2 => by
      refine call_tuple_of pins s σ H _ us Q I r ⟨a, zs, rfl, .inl ⟨h1, fun p np => ?_⟩⟩
      have s2 := same_upd (o := .tup zs) (R.freeF np)
      exact k _ _ C _ _ s2 (R.new np) (.tup (.of upd_same) (h2.mono s2)) q
    cases r1' with
    | tup h1 h2 => cases hb; exact onT _ h1 h2
    | lst h1 h2 => cases hb; exact onL _ (.of (R.sub _ _ h1)) h2
    | rol h1 h2 => cases hb; exact onL _ (R.sub.seq h1) h2
    | ref a' =>
      obtain ⟨_, o, ho, c⟩ := R.cel _ _ (cellL_eq hb)
      cases c with
      | lst rl => exact onL _ (.of ho) rl
    | _ => cases hb
end
end G
namespace G
open PySem PySem.Spec PyProof.Rows L2

section
variable {X : Cx} {cl : NmB}
/-- a text's three parts at the first sep -/
def parts3 (a b : List Nat) : List Nat × List Nat × List Nat := match TL.par b [] a with
  | some (x, y) => (x, b, y)
  | none => (a, [], [])
def txts (ls : List (List Nat)) : List D := ls.map D.str
theorem of_txts {K : PySem.W.Frag} {F : Hp} : ∀ {ls : List (List Nat)} {xs : List V}, RepL K cl F xs (txts ls) → xs = (ls.map fun l => (⟨l.toArray⟩ : Str)).map V.str
  | [], _, .nil => rfl
  | l :: ls, _, .cons r rr => by
    cases r
    rw [of_txts rr]
    rfl
/-- joined texts -/
theorem join_ok (a : List Nat) (ls : List (List Nat)) : Txt.join ⟨a.toArray⟩ (ls.map fun l => (⟨l.toArray⟩ : Str)) = ⟨(TL.joinL a ls).toArray⟩ := by
  apply TL.ext_tl
  rw [TL.join_eq, TL.tl_join, List.map_map]
  show TL.joinL a (ls.map (TL.tl ∘ fun l : List Nat => (⟨l.toArray⟩ : Str))) = TL.joinL a ls
  rw [show (TL.tl ∘ fun l : List Nat => (⟨l.toArray⟩ : Str)) = id from rfl, List.map_id]
def rJoin : RDM := fun x xs C Q => ∃ a y ls, x = .str a ∧ xs = [y] ∧ seqOf C y = some (txts ls) ∧ (ls.map List.length).sum + ls.length * a.length ≤ 16777216 ∧ Q (.str (TL.joinL a ls)) C
theorem md_join : MtD X cl "str.join" rJoin := by
  intro pins s σ H x xs v us Q I rx rs ⟨dx, ds, C, F, Qd, R, r1, rl, ⟨a, y, ls, e1, e2, hy, hl, q⟩, k⟩
  subst e1 e2
  cases r1
  cases rl with
  | cons r2 rr =>
    cases rr
    obtain ⟨p, ys, rfl, hs, hr⟩ := seq_ok R r2 hy
    have e := of_txts hr
    subst e
    refine mt_join pins s σ H _ _ v us Q I rx rs ⟨_, p, _, rfl, rfl, hs, ?_, ?_⟩
    · rw [List.map_map, List.length_map, len_mk]
      rw [show ((fun x : Str => x.length) ∘ fun l : List Nat => (⟨l.toArray⟩ : Str)) = List.length from by funext l; exact len_mk l]
      exact hl
    · rw [join_ok]
      exact k _ _ C H F (Same.refl F) R (.str _) q
/-! ### isinstance of a built-in class -/
def tyNm : D → Cl → Option String
  | .non, _ => some "NoneType"
  | .bl _, _ => some "bool"
  | .int _, _ => some "int"
  | .str _, _ => some "str"
  | .lst _, _ => some "list"
  | .rol _, _ => some "list"
  | .tup _, _ => some "tuple"
  | .dic _, _ => some "dict"
  | .dct _, _ => some "dict"
  | .ref a, C => match C a with
    | some (.lst _) => some "list"
    | some (.dic _) => some "dict"
    | some (.dct _) => some "dict"
    | _ => none
  | _, _ => none
/-- is a thing of the built-in class n of the class m -/
def isSub (n m : String) : Bool := n == m || (n == "bool" && m == "int")
end
end G
namespace G
open PySem PySem.Spec PyProof.Rows L2

/-! ### short words for readings -/
abbrev dAdd (a b : DE) : DE := dOp (rOf addF) a b
abbrev dSub (a b : DE) : DE := dOp (rOf (ioF fun i j => i - j)) a b
abbrev dMul (a b : DE) : DE := dOp rMul a b
abbrev dFdiv (a b : DE) : DE := dOp (rIC CDivW fun i j => i / j) a b
abbrev dMod (a b : DE) : DE := dOp (rIC (fun _ j => 0 < j) fun i j => i % j) a b
abbrev dPow (a b : DE) : DE := dOp (rIC CPow fun i j => i ^ j.toNat) a b
abbrev rLtD : RD2 := rOf ltF
abbrev rGtD : RD2 := rOf gtF
abbrev rGeD : RD2 := rOf geF
theorem boot_len_ : bootBuiltins "len" = some (.builtin "len") := by decide +kernel
theorem boot_abs_ : bootBuiltins "abs" = some (.builtin "abs") := by decide +kernel
theorem boot_min_ : bootBuiltins "min" = some (.builtin "min") := by decide +kernel
theorem boot_max_ : bootBuiltins "max" = some (.builtin "max") := by decide +kernel
theorem boot_all_ : bootBuiltins "all" = some (.builtin "all") := by decide +kernel
theorem boot_int_ : bootBuiltins "int" = some (.type "int") := by decide +kernel
theorem boot_tuple_ : bootBuiltins "tuple" = some (.type "tuple") := by decide +kernel
section
variable {X : Cx} {cl : NmB} {pos : Pos}
end
/-- tests whose answer is a proposition's -/
theorem ite_d {p : Prop} [Decidable p] {A B : Prop} (h1 : p → A) (h2 : ¬ p → B) : if decide p = true then A else B := by
  by_cases h : p
  · rw [decide_eq_true h]; exact iteT (h1 h)
  · rw [decide_eq_false h]; exact iteF (h2 h)
/-! ### the bag of a law: three numbers in a list that changes -/
abbrev bagC (x y z : Int) : Cell := .lst [.int x, .int y, .int z]
structure Bag (x y z : Int) (n : Nat) : Prop where
  x0 : 0 ≤ x
  y0 : 0 ≤ y
  y1 : y ≤ 12000000000000000000
  z0 : 0 ≤ z
  z1 : z ≤ n
def BagAt (C : Cl) (b : Addr) (n : Nat) : Prop := ∃ x y z, C b = some (bagC x y z) ∧ Bag x y z n
/-- C' is C but for the bag at b -/
def Bagged (C : Cl) (b : Addr) (C' : Cl) (n : Nat) : Prop := ∃ x y z, C' = updC C b (bagC x y z) ∧ Bag x y z n
theorem Bag.mono {x y z : Int} {n m : Nat} (h : Bag x y z n) (l : n ≤ m) : Bag x y z m := ⟨h.x0, h.y0, h.y1, h.z0, by have := h.z1; omega⟩
theorem Bagged.at {C C' : Cl} {b : Addr} {n : Nat} (h : Bagged C b C' n) : BagAt C' b n := by
  obtain ⟨x, y, z, rfl, g⟩ := h
  exact ⟨x, y, z, updC_same, g⟩
theorem BagAt.mono {C : Cl} {b : Addr} {n m : Nat} (h : BagAt C b n) (l : n ≤ m) : BagAt C b m := by
  obtain ⟨x, y, z, e, g⟩ := h
  exact ⟨x, y, z, e, g.mono l⟩
theorem Bagged.mono {C C' : Cl} {b : Addr} {n m : Nat} (h : Bagged C b C' n) (l : n ≤ m) : Bagged C b C' m := by
  obtain ⟨x, y, z, e, g⟩ := h
  exact ⟨x, y, z, e, g.mono l⟩
theorem Bagged.trans {C C1 C2 : Cl} {b : Addr} {n m : Nat} (h : Bagged C b C1 n) (k : Bagged C1 b C2 m) : Bagged C b C2 m := by
  obtain ⟨x, y, z, rfl, g⟩ := h
  obtain ⟨x', y', z', rfl, g'⟩ := k
  exact ⟨x', y', z', updC_updC, g'⟩
theorem Bagged.ne {C C' : Cl} {b : Addr} {n : Nat} (h : Bagged C b C' n) {a : Addr} (e : a ≠ b) : C' a = C a := by
  obtain ⟨x, y, z, rfl, g⟩ := h
  exact updC_ne e
theorem updC_self {C : Cl} {a : Addr} {c : Cell} (h : C a = some c) : updC C a c = C := by
  funext b
  unfold updC
  by_cases e : b = a
  · rw [if_pos e, e, h]
  · rw [if_neg e]
theorem BagAt.self {C : Cl} {b : Addr} {n : Nat} (h : BagAt C b n) : Bagged C b C n := by
  obtain ⟨x, y, z, e, g⟩ := h
  exact ⟨x, y, z, (updC_self e).symm, g⟩
end G
namespace G
open PySem PySem.Spec PyProof.Rows L2
/-! ### callees with keywords; instances -/
abbrev DSp2 := List D → List D → Cl → DQ → DX → Prop
abbrev noX : DX := fun _ _ _ => False
section
variable (K : PySem.W.Frag) (cl : Nm)
def lowC2 (sp : DSp2) (vs zs : List V) (H : Hp) (Q : VK) (E : XK) : Prop := ∃ ds es C F Qd Ed, RC K cl C F H ∧ RepL K cl F vs ds ∧ RepL K cl F zs es ∧ sp ds es C Qd Ed ∧ Fin K cl F Qd Q ∧ FinX K cl F Ed E
end
/-- a def that is called with the keywords ks -/
def Cee (P : Program) (w : World) (K : PySem.W.Frag) (cl : Nm) (mg : Str → Option Value) (base : Heap) (CX : CXT) (k : Nat) (f : Addr) (ks : List Str) (sp : DSp2) : Prop :=
  ∀ (A : Around) (outer : List Env) (s : Shared) (H : Hp) (us ws : List Value) (vs zs : List V) (Q : VK) (E : XK), Room k A → Env0 P w K mg base A outer s H → Vals vs us → Vals zs ws → lowC2 K cl sp vs zs H Q E →
    codeAny (model P w) A (.call (.ref f) ⟨us, ks.zip ws⟩) (CR CX outer P w H s Q E) s
section
variable {P : Program} {w : World} {K : PySem.W.Frag} {cl : Nm} {mg : Str → Option Value} {base : Heap} {CX : CXT} {k n : Nat} {f : Addr} {fd : FuncData} {ps ks : List Str} {sp : DSp}
theorem Cee.mono {sp : DSp2} {j : Nat} (c : Cee P w K cl mg base CX j f ks sp) (h : j ≤ k) : Cee P w K cl mg base CX k f ks sp := fun A outer s H us ws vs zs Q E hr => c A outer s H us ws vs zs Q E (hr.mono h)
theorem Cee.imp {sp sp' : DSp2} (c : Cee P w K cl mg base CX k f ks sp) (h : ∀ ds es C Q E, sp' ds es C Q E → sp ds es C Q E) : Cee P w K cl mg base CX k f ks sp' :=
  fun A outer s H us ws vs zs Q E hr e0 r rz ⟨ds, es, C, F, Qd, Ed, R, r1, r2, hq, k1, k2⟩ => c A outer s H us ws vs zs Q E hr e0 r rz ⟨ds, es, C, F, Qd, Ed, R, r1, r2, h _ _ _ _ _ hq, k1, k2⟩
/-- all parameters written, but for defaults dd at the end -/
theorem Cee.pos {dv : List Value} {dw : List V} {dd : List D} (FG : FnOk P w K mg base CX k f fd ps (lowSp K cl sp)) (hb : Binds K fd ps dv) (hd : Vals dw dv) (hv : ∀ F, RepL K cl F dw dd) :
    Cee P w K cl mg base CX k f [] (fun ds es C Q E => es = [] ∧ sp (ds ++ dd) C Q E) := by
  rintro A outer s H us ws vs zs Q E hr e0 r rz ⟨ds, es, C, F, Qd, Ed, R, r1, r2, ⟨rfl, hq⟩, k1, k2⟩
  have hsp : lowSp K cl sp (vs ++ dw) H Q E := ⟨ds ++ dd, C, F, Qd, Ed, R, r1.append (hv F), hq, k1, k2⟩
  have r3 : Vals (vs ++ dw) (us ++ dv) := r.append hd
  have hl : (us ++ dv).length = ps.length := by rw [← r3.length]; exact FG.len _ _ _ _ hsp
  exact FG.run A outer s H ⟨us, []⟩ (us ++ dv) (vs ++ dw) Q E hr e0 (hb s us (e0.mod.kin.keeps fun b o e => (e0.bs b o e).1) hl) r3 hsp
/-- keywords -/
theorem Cee.kw {g : List Value → List Value → List Value} {gV : List V → List V → List V} {gD : List D → List D → List D} (FG : FnOk P w K mg base CX k f fd ps (lowSp K cl sp)) (hb : KBn K fd ps n ks g gV)
    (hg : ∀ F vs zs ds es, RepL K cl F vs ds → RepL K cl F zs es → ds.length = n → es.length = ks.length → RepL K cl F (gV vs zs) (gD ds es)) :
    Cee P w K cl mg base CX k f ks (fun ds es C Q E => ds.length = n ∧ es.length = ks.length ∧ sp (gD ds es) C Q E) := by
  rintro A outer s H us ws vs zs Q E hr e0 r rz ⟨ds, es, C, F, Qd, Ed, R, r1, r2, ⟨l1, l2, hq⟩, k1, k2⟩
  have hsp : lowSp K cl sp (gV vs zs) H Q E := ⟨gD ds es, C, F, Qd, Ed, R, hg F vs zs ds es r1 r2 l1 l2, hq, k1, k2⟩
  have n1 : us.length = n := by rw [← r.length, r1.length, l1]
  have n2 : ws.length = ks.length := by rw [← rz.length, r2.length, l2]
  exact FG.run A outer s H ⟨us, ks.zip ws⟩ (g us ws) (gV vs zs) Q E hr e0 (hb.to s us ws (e0.mod.kin.keeps fun b o e => (e0.bs b o e).1) n1 n2) (hb.rel r rz) hsp
end
section
variable {X : Cx} {cl : NmB} {CX : CXT} {k n : Nat} {f : Addr} {ks : List Str} {sp : DSp2} {E : XK} {pins : List (Addr × Obj)} {σ : L2.St} {H : Hp} {s : Shared}
theorem Cee.go {A : Around} {us ws : List Value} {vs zs : List V} {Q : VK} (c : Cee X.prog X.w X.K cl X.mg X.base CX k f ks sp) (hr : Room k A) (hf : A.frames = X.A.frames) (hx : Passes CX X E) (I : Inv X pins σ H s) (r : Vals vs us) (rz : Vals zs ws)
    (h : lowC2 X.K cl sp vs zs H Q E) : wpAny (model X.prog X.w) A (call (.ref f) us (ks.zip ws)) (EP X pins σ Q) X.xe s := by
  have e0 : Env0 X.prog X.w X.K X.mg X.base A X.stack s H := by
    have e := I.env0
    exact ⟨by rw [hf]; exact e.frames, e.mod, e.bs, e.bsz, e.funs, e.frf, e.hok, e.bare⟩
  refine wpAny_call (codeAny_mono (c A X.stack s H us ws vs zs Q E hr e0 r rz h) fun r s' hq => ?_)
  cases r with
  | error e => exact hx pins σ H s e s' I hq
  | ok fl =>
    cases fl with
    | ret u => exact I.after hq
    | next => exact False.elim hq
    | brk => exact False.elim hq
    | cont => exact False.elim hq
/-- the same as code, wanted at the reading's level, nothing let out -/
theorem Cee.code {A : Around} {us : List Value} {vs : List V} {ds : List D} {C : Cl} {F : Hp} {Qd : DQ} {Q : VK} (c : Cee X.prog X.w X.K cl X.mg X.base CX k f [] sp) (hr : Room k A) (hf : A.frames = X.A.frames) (hx : Passes CX X E0) (I : Inv X pins σ H s) (r : Vals vs us)
    (R : RC X.K cl C F H) (rl : RepL X.K cl F vs ds) (h : sp ds [] C Qd noX) (hq : Fin X.K cl F Qd Q) :
    codeAny (model X.prog X.w) A (.call (.ref f) ⟨us, []⟩) (fun res s' => match res with
      | .ok (.ret u) => EP X pins σ Q u s'
      | .ok _ => False
      | .error e => X.xe e s') s := by
  have e0 : Env0 X.prog X.w X.K X.mg X.base A X.stack s H := by
    have e := I.env0
    exact ⟨by rw [hf]; exact e.frames, e.mod, e.bs, e.bsz, e.funs, e.frf, e.hok, e.bare⟩
  refine codeAny_mono (c A X.stack s H us [] vs [] Q E0 hr e0 r .nil ⟨ds, [], C, F, Qd, noX, R, rl, .nil, h, hq, fun _ _ _ _ _ _ _ _ _ _ z => z.elim⟩) fun res s' z => ?_
  cases res with
  | error e => exact hx pins σ H s e s' I z
  | ok fl =>
    cases fl with
    | ret u => exact I.after z
    | next => exact False.elim z
    | brk => exact False.elim z
    | cont => exact False.elim z
end

/-! ### instances: fields -/
def insOf (C : Cl) : D → Option (String × List (Str × D))
  | .ins c fs => some (c, fs)
  | .ref a => match C a with
    | some (.ins c fs) => some (c, fs)
    | _ => none
  | _ => none
section
variable {K : PySem.W.Frag} {cl : Nm} {C : Cl} {F H : Hp} {v : V} {d : D} {c : String} {fs : List (Str × D)}
theorem RepF.len : ∀ {vs : List (Str × V)} {ds : List (Str × D)}, RepF K cl F vs ds → vs.length = ds.length
  | _, _, .nil => rfl
  | _, _, .cons _ r => congrArg (· + 1) (RepF.len r)
def putD (f : Str) (v : D) : List (Str × D) → List (Str × D)
  | [] => [(f, v)]
  | (g, x) :: r => if g = f then (g, v) :: r else (g, x) :: putD f v r
theorem RepF.put {f : Str} {v : V} {d : D} (h : Rep K cl F v d) : ∀ {vs : List (Str × V)} {ds : List (Str × D)}, RepF K cl F vs ds → RepF K cl F (putF f v vs) (putD f d ds)
  | _, _, .nil => .cons h .nil
  | _, _, .cons (k := k) q r => by
    unfold putF putD
    by_cases e : k = f
    · rw [if_pos e, if_pos e]; exact .cons h r
    · rw [if_neg e, if_neg e]; exact .cons q (RepF.put h r)
end
section
variable {K : PySem.W.Frag} {cl : Nm} {f : Str}
end
section
variable {X : Cx} {cl : NmB} {e o : Expr} {te to : DE} {pos pos' : Pos} {f : Str} {cs : List String}
end

/-! ### calls of methods, of classes, of static methods -/
/-- C.m is a static method: its record at p, its def at g -/
structure SMet (K : PySem.W.Frag) (C : Addr) (mc : Value) (m : Str) (p g : Addr) : Prop where
  at_ : PySem.W.findCls K (.ref C) mc m = some (.get (.builtin "staticmethod.__get__") (.ref p) .none (.ref C))
  rc : ∃ rest, PySem.W.recIn K p "staticmethod" = some (.ref g :: rest)
  kp : PySem.W.keepIn K (.ref g) = true
section
variable {X : Cx} {cl : NmB} {CX : CXT} {k : Nat} {g : Addr} {ks : List Str} {sp : DSp2} {e o : Expr} {es : List Expr} {kws : List Keyword} {to : DE} {t tk : DA} {pos apos p : Pos} {x m : Str} {c : String} {te : DE}
end
end G
namespace G
open PySem PySem.Spec PyProof.Rows L2
/-! ### a new instance; own special methods -/
section
variable {X : Cx} {cl : NmB} {CX : CXT} {k : Nat} {g : Addr} {ks : List Str} {sp : DSp2} {e o : Expr} {es : List Expr} {kws : List Keyword} {to : DE} {t tk : DA} {pos apos p : Pos} {x m : Str} {c : String} {te : DE}
theorem Cee.make {us ws : List Value} {vs zs : List V} {ds es : List D} {C : Cl} {F H : Hp} {pins : List (Addr × Obj)} {s : Shared} {σ : L2.St} {Qd : DQ} {Q : VK} (fc : Cee X.prog X.w X.K cl X.mg X.base CX k g ks sp) (M : Mk X.K (cl c) g) (hr : Room (k + 1) X.A) (hx : Passes CX X E0)
    (I : Inv X pins σ H s) (r : Vals vs us) (rz : Vals zs ws) (R : RC X.K cl C F H) (rl : RepL X.K cl F vs ds) (rs : RepL X.K cl F zs es)
    (h : ∀ x, C x = none → sp (.ref x :: ds) es (updC C x (.ins c [])) (fun v C4 => v = .non ∧ Qd (.ref x) C4) noX) (kq : Fin X.K cl F Qd Q) :
    wpAny (model X.prog X.w) X.A (call (.ref (cl c)) us (ks.zip ws)) (EP X pins σ Q) X.xe s := by
  have n1 : H (s.heap.objs.size + 1) = none := I.hok.fresh (Nat.le_succ _)
  have n2 : H s.heap.objs.size = none := I.hok.fresh (Nat.le_refl _)
  have ne : s.heap.objs.size ≠ s.heap.objs.size + 1 := Nat.ne_of_lt (Nat.lt_succ_self _)
  have I2 := Inv.made (C := cl c) I
  have R1 : RC X.K cl C F (upd H s.heap.objs.size (.own (s.heap.objs.size + 1))) := R.over (same_upd n2)
  have n3 : (upd H s.heap.objs.size (.own (s.heap.objs.size + 1))) (s.heap.objs.size + 1) = none := by rw [upd_ne (Ne.symm ne)]; exact n1
  have R2 : RC X.K cl (updC C (s.heap.objs.size + 1) (.ins c [])) F (upd (upd H s.heap.objs.size (.own (s.heap.objs.size + 1))) (s.heap.objs.size + 1) (.ins (cl c) s.heap.objs.size [])) := R1.cell n3 (.ins .nil)
  have hq := h (s.heap.objs.size + 1) (R.freeC n1)
  have low : lowC2 X.K cl sp (V.ref (s.heap.objs.size + 1) :: vs) zs (upd (upd H s.heap.objs.size (.own (s.heap.objs.size + 1))) (s.heap.objs.size + 1) (.ins (cl c) s.heap.objs.size [])) (fun v H3 => v = .non ∧ Q (.ref (s.heap.objs.size + 1)) H3) E0 :=
    ⟨.ref (s.heap.objs.size + 1) :: ds, es, _, F, _, noX, R2, .cons (.ref _) rl, rs, hq, fun v d C3 H3 F3 s3 R3 r3 ⟨e3, q3⟩ => by subst e3; cases r3; exact ⟨rfl, kq _ _ C3 H3 F3 s3 R3 (.ref _) q3⟩, fun _ _ _ _ _ _ _ _ _ _ z => z.elim⟩
  refine wpAny_call (make_map (f := g) I.kIn M.makes M.init (beq_iff_eq.mp M.fn) (codeAny_mono (fc _ X.stack _ _ (Value.ref (s.heap.objs.size + 1) :: us) ws (V.ref (s.heap.objs.size + 1) :: vs) zs _ _ (hr.make (cl c) us (ks.zip ws)) (I2.env0.make (cl c) us (ks.zip ws)) (.cons rfl r) rz low) fun rr s' hq' => ?_))
  cases rr with
  | error er => exact hx pins σ _ _ er s' I2 hq'
  | ok fl =>
    cases fl with
    | ret u =>
      obtain ⟨v, H', I3, rv, ev, q3⟩ := I2.after hq'
      subst ev
      exact ⟨rv, ⟨V.ref (s.heap.objs.size + 1), H', I3, rfl, q3⟩⟩
    | next => exact False.elim hq'
    | brk => exact False.elim hq'
    | cont => exact False.elim hq'
/-- an own special method m of the class c: its def at g -/
structure Spc (K : PySem.W.Frag) (cl : Nm) (c : String) (m : Str) (g : Addr) : Prop where
  at_ : PySem.W.findIn K (.ref (cl c)) m = some (some (.ref g))
  fn : PySem.W.isFn K (.ref g) = true
end
end G
namespace G
open PySem PySem.Spec PyProof.Rows L2
/-! ### how the values written stand to the parameters -/
def pos2 (sp : DSp) (dd : List D) : DSp2 := fun ds es C Q E => es = [] ∧ sp (ds ++ dd) C Q E
section
variable {P : Program} {w : World} {K : PySem.W.Frag} {cl : Nm} {mg : Str → Option Value} {base : Heap} {CX : CXT} {k n : Nat} {f : Addr} {fd : FuncData} {ps ks : List Str} {sp : DSp}
end

/-! ### three names at once -/
theorem boot_repr_ : bootBuiltins "repr" = some (.builtin "repr") := by decide +kernel
/-! ### names of classes, their constants -/
section
variable {X : Cx} {cl : NmB} {x f : Str} {c : String} {pos p : Pos}
/-! ### isinstance of own classes -/
/-- what isinstance wants of an own class whose instances are asked for -/
structure OwnTy (K : PySem.W.Frag) (cl : Nm) (c : String) : Prop where
  cls : Cls K (cl c)
  ha : PySem.W.findIn K (.ref (cl c)) "__class__" = some (some (.builtin "object.__class__"))
  hn : PySem.W.specialIn K (.builtin "object.__class__") "__get__" = some (some (.builtin "getset_descriptor.__get__"))
  tk : PySem.W.takesIn K (.builtin "object.__class__") = some true
  hm : PySem.W.mroIn K (cl c) (.type "object") = some true
/-- the built-in things are no instances of c; those of cs are told -/
structure IsiOwn (K : PySem.W.Frag) (cl : Nm) (c : String) (cs : List String) : Prop where
  blt : ∀ n ∈ (["NoneType", "bool", "int", "str", "list", "tuple", "dict"] : List String), PySem.W.kitOne K (.type n) (.ref (cl c)) = some false
  own : ∀ b ∈ cs, OwnTy K cl b ∧ PySem.W.kitOne K (.ref (cl b)) (.ref (cl c)) = some (b == c)
end

/-! ### f-strings -/
section
variable {X : Cx} {cl : NmB} {e : Expr} {te : DE} {pos : Pos} {K : PySem.W.Frag}
end
end G
namespace G
open PySem PySem.Spec PyProof.Rows L2
/-! ### new lists that are to change -/
section
variable {X : Cx} {cl : NmB}
end
end G
namespace G
open PySem PySem.Spec PyProof.Rows L2
/-! ### things that can be compared whole -/
def Sh (n : Nat) (d : D) : Prop := plain d = true ∧ (toPy d).canLay0 = true ∧ (toPy d).depth ≤ n
def ShL (n : Nat) (ds : List D) : Prop := plainL ds = true ∧ PyData.canLayAll0 (toPyL ds) = true ∧ PyData.depthAll (toPyL ds) ≤ n
theorem sh_nil {n : Nat} : ShL n [] := by
  refine ⟨by unfold plainL; rfl, by unfold toPyL PyData.canLayAll0; rfl, ?_⟩
  unfold toPyL PyData.depthAll
  exact Nat.zero_le _
theorem sh_cons {n : Nat} {d : D} {ds : List D} (h : Sh n d) (r : ShL n ds) : ShL n (d :: ds) := by
  obtain ⟨a1, a2, a3⟩ := h
  obtain ⟨b1, b2, b3⟩ := r
  refine ⟨by unfold plainL; rw [a1, b1]; rfl, by unfold toPyL PyData.canLayAll0; rw [a2, b2]; rfl, ?_⟩
  unfold toPyL PyData.depthAll
  exact Nat.max_le.mpr ⟨a3, b3⟩
theorem sh_tup {n : Nat} {ds : List D} (h : ShL n ds) : Sh (n + 1) (.tup ds) := by
  obtain ⟨a1, a2, a3⟩ := h
  refine ⟨by unfold plain; exact a1, by unfold toPy PyData.canLay0; exact a2, ?_⟩
  unfold toPy PyData.depth
  omega
theorem sh_lst {n : Nat} {ds : List D} (h : ShL n ds) : Sh (n + 1) (.lst ds) := by
  obtain ⟨a1, a2, a3⟩ := h
  refine ⟨by unfold plain; exact a1, by unfold toPy PyData.canLay0; exact a2, ?_⟩
  unfold toPy PyData.depth
  omega
theorem sh_non {n : Nat} : Sh n .non := ⟨by unfold plain; rfl, by unfold toPy PyData.canLay0; rfl, by unfold toPy PyData.depth; omega⟩
theorem sh_bl {n : Nat} {b : Bool} : Sh n (.bl b) := ⟨by unfold plain; rfl, by unfold toPy PyData.canLay0; rfl, by unfold toPy PyData.depth; omega⟩
theorem sh_int {n : Nat} {i : Int} : Sh n (.int i) := ⟨by unfold plain; rfl, by unfold toPy PyData.canLay0; rfl, by unfold toPy PyData.depth; omega⟩
def small (l : List Nat) : Bool := l.all fun c => decide (c < 1114112)
theorem sh_str {n : Nat} {l : List Nat} (h : small l = true) : Sh n (.str l) := by
  refine ⟨by unfold plain; rfl, ?_, by unfold toPy PyData.depth; omega⟩
  unfold toPy PyData.canLay0 PyData.strOk
  rw [List.all_toArray]
  exact h
theorem Sh.mono {n m : Nat} {d : D} (h : Sh n d) (e : n ≤ m) : Sh m d := ⟨h.1, h.2.1, Nat.le_trans h.2.2 e⟩
theorem Sh.shp {n : Nat} {d : D} (h : Sh n d) (e : n ≤ 64 := by decide) : shp d = true := by
  unfold G.shp SeqAt.shaped
  rw [h.1, h.2.1, decide_eq_true (Nat.le_trans h.2.2 e)]
  rfl
theorem eqT_self {n : Nat} {d : D} (h : Sh n d) : eqT d d = true := SeqAt.eqv_refl _ h.2.1
theorem ne_self {n : Nat} {d : D} {C : Cl} {Q : DQ} (h : Sh n d) (hq : Q (.bl false) C) (e : n ≤ 64 := by decide) : rNeD d d C Q := .inr ⟨h.shp e, h.shp e, by rw [eqT_self h]; exact hq⟩
theorem sh_txts {n : Nat} : ∀ {ls : List (List Nat)}, (∀ l ∈ ls, small l = true) → ShL n (txts ls)
  | [], _ => sh_nil
  | l :: ls, h => sh_cons (sh_str (h l (by simp))) (sh_txts fun z hz => h z (by simp [hz]))
end G
set_option maxHeartbeats 4000000
namespace PySem.W
open Lean Elab Tactic Meta PySem PySem.Spec PySem.Calls PyProof.Rows
section
variable {prog : Program} {w : World} {M : Model} {A : Around} {E : Value → Shared → Prop} {s : Shared} {K : Frag} {x C f L : Addr} {h₀ : Heap} {m : Str → Option Value} {ox : Obj} {od : Option Obj} {b tb : Value}
end
end PySem.W
namespace G
open PySem PySem.Spec PyProof.Rows L2
/-! ### own == and != -/
/-- what != wants of a class with its own ==: object's != , == at g -/
structure NeO (K : PySem.W.Frag) (cl : Nm) (c : String) : Prop where
  ne : PySem.W.findIn K (.ref (cl c)) "__ne__" = some (some (.builtin "object.__ne__"))
  hm : PySem.W.mroIn K (cl c) (.type "object") = some true
section
variable {X : Cx} {cl : NmB} {CX : CXT} {k : Nat} {g : Addr} {sp : DSp2} {c : String}
end
end G
namespace G
open PySem PySem.Spec PyProof.Rows L2
/-! ### dicts -/
/-- a key -/
def keyD : D → Option Key
  | .int i => some (.inl i)
  | .str l => some (.inr ⟨l.toArray⟩)
  | _ => none
section
variable {κ : Type} [DecidableEq κ]
def valD (kvs : List (κ × D)) (k : κ) : Option D := (kvs.find? fun kv => decide (kv.1 = k)).map (·.2)
end
section
variable {K : PySem.W.Frag} {cl : Nm} {F : Hp}
theorem RepK.length : ∀ {vs : List (Key × V)} {ds : List (Key × D)}, RepK K cl F vs ds → vs.length = ds.length
  | _, _, .nil => rfl
  | _, _, .cons _ t => congrArg (· + 1) (RepK.length t)
theorem RepT.length : ∀ {vs : List (List Key × V)} {ds : List (List Key × D)}, RepT K cl F vs ds → vs.length = ds.length
  | _, _, .nil => rfl
  | _, _, .cons _ t => congrArg (· + 1) (RepT.length t)
end
/-- the entries of a dict that stands, or that changes -/
def dicOf (C : Cl) : D → Option (List (Key × D))
  | .dic kvs => some kvs
  | .ref a => match C a with
    | some (.dic kvs) => some kvs
    | some (.dil _ _ kvs) => some kvs
    | _ => none
  | _ => none
section
variable {K : PySem.W.Frag} {cl : Nm} {C : Cl} {F H : Hp} {v : V} {d : D}
end
/-! readings -/
section
variable {X : Cx} {cl : NmB} {o i e f : Expr} {es : List Expr} {to tk tv tx : DE} {t : DA} {pos pos' kpos apos cpos : Pos} {kk : Nat} {n : Nat}
end
end G
set_option maxHeartbeats 4000000
namespace PySem.W
open Lean Elab Tactic Meta PySem PySem.Calls PyProof.Rows PyProof.V PySem.Spec
section
variable {prog : Program} {w : World} {K : Type} [DecidableEq K] {knd : HeapKind prog w K} {A : Around} {E : Value → Shared → Prop} {s : Shared}
/-- the entries of one dict, looked up in another one -/
inductive GHits {K : Type} [DecidableEq K] (A : Around) (s : Shared) (kb : List (K × Addr × Value)) : List (K × Addr × Value) → Bool → Prop
  | nil : GHits A s kb [] true
  | miss {k : K} {p : Addr × Value} {r : List (K × Addr × Value)} : atKey kb k = none → GHits A s kb ((k, p) :: r) false
  | hit {k : K} {p q : Addr × Value} {r : List (K × Addr × Value)} {e b : Bool} : atKey kb k = some q → SeqAt.EqAt A s p.2 q.2 e → GHits A s kb r b → GHits A s kb ((k, p) :: r) (e && b)
end
end PySem.W
set_option maxHeartbeats 4000000
namespace G
open PySem PySem.Spec PyProof.Rows L2
/-! ### == of a tree and itself, whatever stands in it; == of dicts -/
section
variable {X : Cx} {cl : NmB} {CX : CXT} {k n : Nat} {g : Addr} {sp : DSp2} {c : String}
/-! dicts with keys of texts and texts as values -/
end
end G
set_option maxHeartbeats 4000000
namespace G
open PySem PySem.Spec PyProof.Rows L2
/-! ### reversed, [::-1] -/
section
variable {X : Cx} {cl : NmB} {tg e : Expr} {te : DE} {K : PySem.W.Frag} {pos : Pos}
end
/-! ### own operators -/
section
variable {X : Cx} {cl : NmB} {CX : CXT} {k : Nat} {g : Addr} {sp : DSp2} {c : String}
end
/-! ### properties, classmethods, a class in a local name -/
section
variable {X : Cx} {cl : NmB} {CX : CXT} {k : Nat} {g p : Addr} {fd : FuncData} {sp : DSp} {sp2 : DSp2} {c : String} {e o : Expr} {es : List Expr} {te to : DE} {t tk : DA} {pos apos : Pos} {f m : Str}
end
end G
set_option maxHeartbeats 4000000
namespace PySem
open Sem (wp)
open PyProof.Rows Builtin
set_option maxHeartbeats 4000000 in
theorem gen_meets_enumerate_newB {v : Value} {o : Obj} {H : Heap → Prop} (B : Begins v o H) :
    Meets (Builtin.«enumerate.__new__» ⟨[.type "enumerate", v], []⟩) (fun _ R s => H s.heap ∧
      R (.ok (.ret (.ref (s.heap.push o).objs.size))) { s with heap := (s.heap.push o).push { cls := .type "enumerate", data := .fields #[.none, .bool false, .ref s.heap.objs.size, rawInt 0, .none, .none] } }) :=
  .of_wp fun prog w A R s h => by
    obtain ⟨hp, g, d, tk, os⟩ := s; obtain ⟨h1, h⟩ := h
    have hsub := sub_enumerate
    have q1 : ∀ {A' : Around} {E : Value → Shared → Prop} {Q : Value → Shared → Prop}, Q (.ref hp.objs.size) ⟨hp.push o, g, d, tk, os⟩ → wpAny (model prog w) A' (pyIter v) Q E ⟨hp, g, d, tk, os⟩ :=
      fun q => B.iter prog w _ _ ⟨hp, g, d, tk, os⟩ _ h1 q
    wp_walk using q1
    refine wpAny_stack_any fun st => wpAny_pure ?_
    split
    · rename_i c _ _ _ _ _
      cases (c == Value.type "enumerate")
      · wp_walk using q1
        exact ⟨_, rfl, h⟩
      · wp_walk using q1
        exact ⟨_, rfl, h⟩
    · wp_walk using q1
      exact ⟨_, rfl, h⟩
section
variable {prog : Program} {w : World} {A : Around} {E : Value → Shared → Prop} {s : Shared}
theorem gen_enum_begins {v : Value} {o : Obj} {H : Heap → Prop} {Q : Value → Shared → Prop} (B : Begins v o H) (h1 : H s.heap)
    (h : ∀ h', IsEnum h' (s.heap.objs.size + 1) s.heap.objs.size 0 .none → h'.get? s.heap.objs.size = some o → h'.objs.size = s.heap.objs.size + 2 →
      (∀ b o, s.heap.get? b = some o → h'.get? b = some o) → Q (.ref (s.heap.objs.size + 1)) { s with heap := h' }) :
    wpAny (model prog w) A (call (.type "enumerate") [v]) Q E s := by
  refine callType_new F.called_enumerate (by decide) (F.typeCall_enumerate_1 _) (F.newCall_enumerate_1 _) (fun obj => F.args_object_init_2 obj _) F.entry_enumerate_new
    (gen_meets_enumerate_newB B) ⟨h1, ?_⟩
  have hz : (s.heap.push o).objs.size = s.heap.objs.size + 1 := Heap.size_push ..
  show _ ∧ _
  rw [hz]
  have he : IsEnum ((s.heap.push o).push { cls := .type "enumerate", data := .fields #[.none, .bool false, .ref s.heap.objs.size, rawInt 0, .none, .none] }) (s.heap.objs.size + 1) s.heap.objs.size 0 .none := by
    have := Heap.get?_push_size (s.heap.push o) (o := { cls := .type "enumerate", data := .fields #[.none, .bool false, .ref s.heap.objs.size, rawInt 0, .none, .none] }) rfl
    rw [hz] at this; exact this
  refine ⟨⟨_, he, rfl⟩, h _ he (Heap.get?_push_of_some _ (Heap.get?_push_size _ B.free)) (by rw [Heap.size_push, hz]) fun b o x => Heap.get?_push_of_some _ (Heap.get?_push_of_some _ x)⟩
end
end PySem
namespace G
open PySem PySem.Spec PyProof.Rows L2
/-! ### what an iterator walks: a list, a tuple, a text -/
inductive ItS where
  | lst (a : Addr)
  | tup (a : Addr)
  | txt (x : Str) (t : Tok)
def ItS.at (j : ItS) (h : Heap) (it : Addr) (i : Nat) : Prop := match j with
  | .lst a => h.IsListIter it a i
  | .tup a => h.IsTupleIter it a i
  | .txt x t => h.IsStrIter it (strIterType x) x t i
def ItS.src (K : PySem.W.Frag) (H : Hp) (j : ItS) (xs : List V) : Prop := match j with
  | .lst a => SqL K H a xs
  | .tup a => SqT K H a xs
  | .txt x _ => xs = x.cps.toList.map fun c => V.str ⟨#[c]⟩
def ItS.fp (j : ItS) (it : Addr) : List Addr := match j with
  | .lst a => [it, a]
  | .tup a => [it, a]
  | .txt _ _ => [it]
def ItS.val : ItS → Value
  | .lst a => .ref a
  | .tup a => .ref a
  | .txt x t => .str x t
/-- the cell of the thing walked is not that address -/
def ItS.off (j : ItS) (b : Addr) : Prop := match j with
  | .lst a => a ≠ b
  | .tup a => a ≠ b
  | .txt _ _ => True
theorem Vals.getV' : ∀ {xs : List V} {us : List Value} {i : Nat} {u : Value}, Vals xs us → us[i]? = some u → ∃ x, xs[i]? = some x ∧ RelV x u
  | _, _, _, _, .nil, e => by simp at e
  | _, _, 0, _, .cons r _, e => by simp at e; subst e; exact ⟨_, rfl, r⟩
  | _, _, i + 1, x, .cons _ t, e => by
    obtain ⟨u, h1, h2⟩ := Vals.getV' (i := i) (u := x) t (by simpa using e)
    exact ⟨u, by simpa using h1, h2⟩
section
variable {X : Cx} {pins : List (Addr × Obj)} {σ : L2.St} {H : Hp} {s : Shared}
theorem ItS.inj {j : ItS} (I : Inv X pins σ H s) {xs ys : List V} (h : j.src X.K H xs) (k : j.src X.K H ys) : xs = ys := by
  cases j with
  | lst a => exact I.list_inj h k
  | tup a => exact I.tuple_inj h k
  | txt x t => exact h.trans k.symm
theorem ItS.keep {j : ItS} {h h' : Heap} {it : Addr} {i : Nat} (st : j.at h it i) (k : ∀ o, h.get? it = some o → h'.get? it = some o) : j.at h' it i := by
  cases j with
  | lst a => exact Heap.IsListIter.at st k
  | tup a => exact Heap.IsTupleIter.at st k
  | txt x t => obtain ⟨o, e, c⟩ := st; exact ⟨o, k o e, c⟩
theorem ItS.obj {j : ItS} {h : Heap} {it : Addr} {i : Nat} (st : j.at h it i) : ∃ o, h.get? it = some o ∧ ∀ v, o.data ≠ .cell v := by
  cases j with
  | lst a => obtain ⟨o, e, _, d⟩ := st; exact ⟨o, e, fun v q => by rw [d] at q; cases q⟩
  | tup a => obtain ⟨o, e, _, d⟩ := st; exact ⟨o, e, fun v q => by rw [d] at q; cases q⟩
  | txt x t => obtain ⟨o, e, _, d⟩ := st; exact ⟨o, e, fun v q => by rw [d] at q; cases q⟩
theorem ItS.draw {j : ItS} {A : Around} {it : Addr} {i : Nat} {xs : List V} (I : Inv X pins σ H s) (hh : A.handled = none) (ne : j.off it) (h : j.src X.K H xs) (st : j.at s.heap it i) :
    ∃ n P St, Draws X.prog X.w A it (j.fp it) n P St ∧ n = xs.length ∧ St i s.heap ∧ (∀ x, P i x → ∃ v, xs[i]? = some v ∧ RelV v x) ∧ ∀ k h', St k h' → j.at h' it k := by
  cases j with
  | lst a =>
    obtain ⟨its, rv, p, hz⟩ := I.list h
    refine ⟨_, _, _, Draws.list hh it a ne its.toArray, ?_, ⟨st, p.isList⟩, fun x hx => ?_, fun k h' q => q.1⟩
    · simpa using rv.length.symm
    · exact Vals.getV' rv (by simpa using hx)
  | tup a =>
    obtain ⟨its, rv, p, hz⟩ := I.tuple h
    refine ⟨_, _, _, Draws.tuple hh it a ne its.toArray, ?_, ⟨st, show s.heap.IsTuple a its.toArray from p⟩, fun x hx => ?_, fun k h' q => q.1⟩
    · simpa using rv.length.symm
    · exact Vals.getV' rv (by simpa using hx)
  | txt x t =>
    refine ⟨_, _, _, Draws.text hh it x t, ?_, st, fun y ⟨c, u, hc, e⟩ => ?_, fun k h' q => q⟩
    · rw [show xs = _ from h]; simp
    · rw [show xs = _ from h]
      refine ⟨.str ⟨#[c]⟩, ?_, ⟨u, e⟩⟩
      rw [List.getElem?_map, Array.getElem?_toList, hc]; rfl
theorem ItS.lt {j : ItS} {xs : List V} (I : Inv X pins σ H s) (h : j.src X.K H xs) : ∀ b, s.heap.objs.size ≤ b → j.off b ∧ b ∉ (match j with | .lst a => [a] | .tup a => [a] | .txt _ _ => []) := by
  intro b hb
  cases j with
  | lst a =>
    obtain ⟨its, rv, p, hz⟩ := I.list h
    have : a < s.heap.objs.size := p.lt
    have ne : a ≠ b := Nat.ne_of_lt (Nat.lt_of_lt_of_le this hb)
    exact ⟨ne, fun m => ne (List.mem_singleton.mp m).symm⟩
  | tup a =>
    obtain ⟨its, rv, ⟨o, e, _⟩, hz⟩ := I.tuple h
    have : a < s.heap.objs.size := Heap.lt_size e
    have ne : a ≠ b := Nat.ne_of_lt (Nat.lt_of_lt_of_le this hb)
    exact ⟨ne, fun m => ne (List.mem_singleton.mp m).symm⟩
  | txt x t => exact ⟨trivial, by simp⟩
theorem ItS.mem_fp {j : ItS} {it b : Addr} (h : b ∈ j.fp it) : b = it ∨ b ∈ (match j with | .lst a => [a] | .tup a => [a] | .txt _ _ => ([] : List Addr)) := by
  cases j <;> simpa [ItS.fp] using h
end
def ItE (K : PySem.W.Frag) (j : ItS) : It :=
  ⟨fun i H => ∃ xs x, j.src K H xs ∧ xs[i]? = some x, fun i H v H' => ∃ T x, v = .ref T ∧ H T = none ∧ H' = upd H T (.tup [.int (i : Nat), x]) ∧ ∀ xs, j.src K H xs → xs[i]? = some x, fun i H => ∃ xs, j.src K H xs ∧ xs.length = i⟩
theorem turn_enumS {P : Program} {w : World} {K : PySem.W.Frag} {elts : List Expr} {kk : Nat} {tpos : Pos} (j : ItS) (e it : Addr) :
    Turn P w K (.Tuple elts kk tpos) (ItE K j) [e, it] e (fun i h => (∃ old, IsEnum h e it ((i : Nat) : Int) old) ∧ j.at h it i ∧ e ≠ it ∧ e ∉ j.fp it ∧ j.off it) where
  mem := by simp
  obj := fun i h st b hb => by
    obtain ⟨⟨old, he⟩, hit, _⟩ := st
    have e' : b = e ∨ b = it := by simpa using hb
    rcases e' with z | z
    · rw [z]; exact ⟨_, he, fun v q => nomatch q⟩
    · rw [z]; exact ItS.obj hit
  keep := fun i h h' st k => let ⟨⟨old, he⟩, hi, hne⟩ := st; ⟨⟨old, k e (by simp) _ he⟩, ItS.keep hi fun o q => k it (by simp) o q, hne⟩
  item := by
    intro X hP hw hK hc i pins s σ H E I hf st hg
    subst hP hw hK
    obtain ⟨⟨old, he⟩, hit, hne, hnf, hoff⟩ := st
    obtain ⟨xs, x, hq, hx⟩ := hg
    obtain ⟨n, P, St, D, hn, hst, hP, hback⟩ := ItS.draw (A := X.A.in1) I (show X.A.in1.handled = none from I.ok.hd hc) hoff hq hit
    have hel : e < s.heap.objs.size := Heap.lt_size he
    have hil : it < s.heap.objs.size := by obtain ⟨_, q, _⟩ := ItS.obj hit; exact Heap.lt_size q
    have hlt : i < n := by rw [hn]; exact (List.getElem?_eq_some_iff.mp hx).1
    refine wpAny_pyNext_enum_itemD D he hst hlt hne hnf fun u h' tk hPu ho hst' hT hsz hk => ?_
    obtain ⟨x', hx', ru⟩ := hP u hPu
    rw [hx] at hx'; cases hx'
    refine ⟨_, rfl, wpAny_letOwnedTupleGo_enum (s := { s with heap := h', toks := tk + 1 }) ho fun h'' he' sb => ?_⟩
    have hT2 : h''.get? s.heap.objs.size = some { cls := .type "tuple", data := .seq #[.int i tk, u] } := (sb.2 _ (Nat.ne_of_gt hel)).trans hT
    have new : ObjOk X.prog X.w (upd H s.heap.objs.size (.tup [.int (i : Nat), x])) h'' s.heap.objs.size (.tup [.int (i : Nat), x]) :=
      ⟨by show 2 ≤ sizeLine; decide, [.int i tk, u], .cons ⟨_, rfl⟩ (.cons ru .nil), ⟨_, hT2, rfl, _, rfl⟩⟩
    have I1 : Inv X pins σ (upd H s.heap.objs.size (.tup [.int (i : Nat), x])) { s with heap := h'', toks := tk + 1 } :=
      I.turnedNew (ch := [e, it]) (fun b ob hb q => (sb.2 b (fun z => hb (by simp [z]))).trans (hk b ob (fun z => hb (by simp [z])) (fun z => hb (by simp [z])) q)) hf (Nat.le_refl _) new
    refine ⟨.ref s.heap.objs.size, _, I1, rfl, ⟨_, x, rfl, I.hok.fresh (Nat.le_refl _), rfl, fun ys hy => by rw [ItS.inj I hy hq]; exact hx⟩, ⟨⟨u, ?_⟩, ItS.keep (hback _ _ hst') fun o q => (sb.2 it (Ne.symm hne)).trans q, hne, hnf, hoff⟩, fun b hb => ?_⟩
    · have e1 : ((i + 1 : Nat) : Int) = (i : Int) + 1 := by omega
      rw [e1]; exact he'
    · have hb' : b < s.heap.objs.size := by
        have e' : b = e ∨ b = it := by simpa using hb
        rcases e' with z | z
        · rw [z]; exact hel
        · rw [z]; exact hil
      rw [upd_ne (Nat.ne_of_lt hb')]
      exact (hf b hb).1
  done := by
    intro X hP hw hK hc i pins s σ H E I hf st hg
    subst hP hw hK
    obtain ⟨⟨old, he⟩, hit, hne, hnf, hoff⟩ := st
    obtain ⟨xs, hq, hx⟩ := hg
    obtain ⟨n, P, St, D, hn, hst, hP, hback⟩ := ItS.draw (A := X.A.in1) I (show X.A.in1.handled = none from I.ok.hd hc) hoff hq hit
    obtain ⟨f0, f1, f2, f3, f4, f5⟩ := hf it (by simp)
    rw [hn, hx] at D
    exact wpAny_pyNext_enum_endD D he hst fun h' eb => ⟨rfl, I.turned (t' := s.toks) (fun b o hb q => eb b o hb q) f0 f1 f3 f4 f5⟩
  self := fun A i s Q E st h => let ⟨⟨_, he⟩, _⟩ := st; wpAny_pyIter_enum he h
/-- a value that is walked, and what is wanted of the walk -/
def SrcR (K : PySem.W.Frag) (H : Hp) (v : V) (xs : List V) (R : ItS → Prop) : Prop := (∃ a, v = .ref a ∧ SqL K H a xs ∧ R (.lst a)) ∨ (∃ a, v = .ref a ∧ SqT K H a xs ∧ R (.tup a)) ∨ ∃ x : Str, v = .str x ∧ xs = (x.cps.toList.map fun c => V.str ⟨#[c]⟩) ∧ ∀ t, R (.txt x t)
theorem SrcR.it {X : Cx} {pins : List (Addr × Obj)} {σ : L2.St} {H : Hp} {s : Shared} {v : V} {u : Value} {xs : List V} {R : ItS → Prop} (I : Inv X pins σ H s) (h : SrcR X.K H v xs R) (r : RelV v u) :
    ∃ (j : ItS) (o : Obj) (Hd : Heap → Prop), u = j.val ∧ j.src X.K H xs ∧ Begins u o Hd ∧ Hd s.heap ∧ (∀ h it, h.get? it = some o → j.at h it 0) ∧ R j := by
  rcases h with ⟨a, rfl, h, q⟩ | ⟨a, rfl, h, q⟩ | ⟨x, rfl, rfl, q⟩
  · cases r
    obtain ⟨its, rv, p, hz⟩ := I.list h
    exact ⟨.lst a, _, _, rfl, h, begins_list a its.toArray, p.isList, fun h it e => ⟨_, e, rfl, rfl⟩, q⟩
  · cases r
    obtain ⟨its, rv, p, hz⟩ := I.tuple h
    exact ⟨.tup a, _, _, rfl, h, begins_tuple a its.toArray, show s.heap.IsTuple a its.toArray from p, fun h it e => ⟨_, e, rfl, rfl⟩, q⟩
  · obtain ⟨t, rfl⟩ := (show ∃ t, u = Value.str x t from r)
    exact ⟨.txt x t, _, _, rfl, rfl, begins_text x t, trivial, fun h it e => ⟨_, e, rfl, rfl⟩, q t⟩
def iEnumS (K : PySem.W.Frag) (ta : TA) : TI := fun σ H R => ta σ H fun vs H1 => ∃ v xs, vs = [v] ∧ SrcR K H1 v xs fun j => R (ItE K j) H1
theorem pi_enumS {X : Cx} {e : Expr} {ta : TA} {p pos tpos : Pos} {elts : List Expr} {kk : Nat} (hg : Gl X "enumerate") (hm : X.mg "enumerate" = none) (ha : PA X [e] ta) (hs : starEach [e] X.env = [(false, eval e X.env)] := by rfl) :
    PI X (.Tuple elts kk tpos) (.Call (.Name "enumerate" p) [e] [] pos) (iEnumS X.K ta) := by
  refine ⟨fun pins s σ H R I h => ?_⟩
  refine Call_ (ld_blt I hg hm boot_enumerate (PyProof.Rows.callWith_type1 (thn (ha.run pos pins s σ H _ I h) fun us s1 ⟨vs, H1, I1, r1, q1⟩ => ?_) hs rfl))
  obtain ⟨v, xs, ex, hq⟩ := q1
  subst ex
  cases r1 with
  | cons r rr =>
    rename_i u _
    cases rr
    obtain ⟨j, o, Hd, hu, hsrc, B, h1, hat, qq⟩ := hq.it I1 r
    have hoff := ItS.lt I1 hsrc
    refine gen_enum_begins B h1 fun h' he ho hsz hk => wpAny_pyIter_enum he ?_
    have I2 : Inv X pins σ H1 { s1 with heap := h' } := I1.kept (t' := s1.toks) hk
    refine ⟨s1.heap.objs.size + 1, [s1.heap.objs.size + 1, s1.heap.objs.size], _, _, H1, rfl, I2, turn_enumS j (s1.heap.objs.size + 1) s1.heap.objs.size, ⟨⟨.none, he⟩, hat _ _ ho, Nat.succ_ne_self _, fun z => ?_, (hoff _ (Nat.le_refl _)).1⟩, fun b hb => ?_, qq⟩
    · rcases ItS.mem_fp z with z | z
      · exact Nat.succ_ne_self _ z
      · exact (hoff _ (Nat.le_succ _)).2 z
    · have e' : b = s1.heap.objs.size + 1 ∨ b = s1.heap.objs.size := by simpa using hb
      have hle : s1.heap.objs.size ≤ b := by
        rcases e' with z | z
        · rw [z]; exact Nat.le_add_right _ _
        · rw [z]; exact Nat.le_refl _
      exact I1.fpOk hle (I1.hok.fresh hle)
/-! zip -/
/-! as trees -/
def srcOf : D → Option (List D)
  | .lst ds => some ds
  | .rol ds => some ds
  | .tup ds => some ds
  | .str l => some (signs l)
  | _ => none
section
variable {K : PySem.W.Frag} {cl : Nm} {F H : Hp} {v : V} {d : D} {ds : List D}
theorem rep_signs : ∀ l : List Nat, RepL K cl F (l.map fun c => V.str ⟨#[c]⟩) (signs l)
  | [] => .nil
  | c :: l => .cons (.str [c]) (rep_signs l)
theorem src_mono {j : ItS} {xs : List V} (s : Same F H) (h : j.src K F xs) : j.src K H xs := by
  cases j with
  | lst a => exact s.seq (show SqL K F a xs from h)
  | tup a => exact sqT_mono s (show SqT K F a xs from h)
  | txt x t => exact h
theorem src_ok (r : Rep K cl F v d) (h : srcOf d = some ds) : ∃ xs, RepL K cl F xs ds ∧ ∀ (H : Hp) (R : ItS → Prop), Same F H → (∀ j : ItS, j.src K F xs → R j) → SrcR K H v xs R := by
  cases r with
  | lst h1 h2 => cases h; exact ⟨_, h2, fun H R s k => .inl ⟨_, rfl, s.seq (.of h1), k (.lst _) (SqL.of h1)⟩⟩
  | rol h1 h2 => cases h; exact ⟨_, h2, fun H R s k => .inl ⟨_, rfl, s.seq h1, k (.lst _) h1⟩⟩
  | tup h1 h2 => cases h; exact ⟨_, h2, fun H R s k => .inr (.inl ⟨_, rfl, sqT_mono s h1, k (.tup _) h1⟩)⟩
  | str l => cases h; exact ⟨_, rep_signs l, fun H R s k => .inr (.inr ⟨_, rfl, rfl, fun t => k (.txt _ t) rfl⟩)⟩
  | _ => cases h
theorem walk_enumS {j : ItS} {xs : List V} (h : j.src K F xs) (r : RepL K cl F xs ds) : Walk K cl (ItE K j) (numbered 0 ds) F := by
  intro i C F1 H s R
  have h1 : j.src K H xs := src_mono (s.trans R.sub) h
  refine ⟨fun x hx => ?_, fun hi => ⟨xs, h1, by rw [r.length]; rw [numbered_length] at hi; exact hi⟩⟩
  obtain ⟨d, hd, rfl⟩ := numbered_get hx
  obtain ⟨v, hv, rv⟩ := r.get hd
  refine ⟨⟨xs, v, h1, hv⟩, fun v' H' ⟨T, x, e1, nT, e2, y⟩ => ?_⟩
  subst e1 e2
  have e2 := y xs h1
  rw [hv] at e2
  cases e2
  have s2 := same_upd (o := .tup [.int (i : Nat), v]) (R.freeF nT)
  refine ⟨_, s2, R.new nT, .tup (.of upd_same) ?_⟩
  rw [Nat.zero_add]
  exact .cons (.int _) (.cons ((rv.mono s).mono s2) .nil)
end
section
variable {X : Cx} {cl : NmB} {tg e e2 : Expr} {t : DA} {p pos tpos : Pos} {elts : List Expr} {kk : Nat}
/-- enumerate(x) of a list, a tuple, a text -/
def diEnumS (t : DA) : DI := fun ρ C R => t ρ C fun ds C1 => ∃ x xs, ds = [x] ∧ srcOf x = some xs ∧ R (numbered 0 xs) C1
theorem di_enumS (hm : X.mg "enumerate" = none) (ha : PAd X cl [e] t) (hg : Gl X "enumerate" := by rfl) (hs : starEach [e] X.env = [(false, eval e X.env)] := by rfl) :
    PId X cl (.Tuple elts kk tpos) (.Call (.Name "enumerate" p) [e] [] pos) (diEnumS t) := by
  refine weakI (pi_enumS hg hm ha hs) fun σ H R ⟨ρ, C, F, Rd, RR, h, k⟩ => ?_
  refine ⟨ρ, C, F, _, RR, h, fun vs ds C1 H1 F1 s1 R1 r1 ⟨x, xs, e1, e2, q1⟩ => ?_⟩
  subst e1
  cases r1 with
  | cons r rr =>
    cases rr
    obtain ⟨ys, rl, w⟩ := src_ok r e2
    exact ⟨_, ys, rfl, w H1 _ R1.sub fun j hj => k _ _ C1 H1 F1 s1 R1 (walk_enumS hj rl) q1⟩
end
end G
namespace G
open PySem PySem.Spec PyProof.Rows L2
/-! ### a comprehension over a list that is to change later -/
section
variable {X : Cx} {cl : NmB} {pos : Pos} {vs : List Nat} {K : PySem.W.Frag}
end
end G
set_option maxHeartbeats 1000000
namespace G
open PySem PySem.Spec PyProof.Rows L2
/-! ### walks over lists that stand, or over cells that stay as they are while they are walked -/
def WalkC (K : PySem.W.Frag) (cl : Nm) (J : It) (xs : List D) (F : Hp) (G : Cl → Prop) : Prop := ∀ i C F1 H, Same F F1 → RC K cl C F1 H → G C →
  (∀ x, xs[i]? = some x → J.go i H ∧ ∀ v H', J.yld i H v H' → ∃ F2, Same F1 F2 ∧ RC K cl C F2 H' ∧ Rep K cl F2 v x) ∧ (xs.length = i → J.stop i H)
theorem Walk.c {K : PySem.W.Frag} {cl : Nm} {J : It} {xs : List D} {F : Hp} (w : Walk K cl J xs F) (G : Cl → Prop) : WalkC K cl J xs F G := fun i C F1 H s R _ => w i C F1 H s R
/-- what x tells when it is walked, as long as G holds -/
def Walks (C : Cl) (x : D) (xs : List D) (G : Cl → Prop) : Prop := (lstOf x = some xs ∧ G = fun _ => True) ∨ ∃ a, x = .ref a ∧ C a = some (.lst xs) ∧ G = fun C => C a = some (.lst xs)
theorem Walks.here {C : Cl} {x : D} {xs : List D} {G : Cl → Prop} (w : Walks C x xs G) : G C := by
  rcases w with ⟨_, rfl⟩ | ⟨a, _, h, rfl⟩
  · trivial
  · exact h
theorem Walks.new {C : Cl} {x : D} {xs : List D} {G : Cl → Prop} {p : Addr} {c : Cell} (w : Walks C x xs G) (hp : C p = none) : G (updC C p c) := by
  rcases w with ⟨_, rfl⟩ | ⟨a, _, h, rfl⟩
  · trivial
  · show updC C p c a = _
    rw [updC_ne (fun z => by rw [z, hp] at h; cases h)]; exact h
theorem Walks.seq {C : Cl} {x : D} {xs : List D} {G : Cl → Prop} (w : Walks C x xs G) : seqOf C x = some xs := by
  rcases w with ⟨h, _⟩ | ⟨a, rfl, h, _⟩
  · cases x <;> first | exact h | cases h
  · show (match C a with | some (.lst ds) => some ds | _ => none) = _
    rw [h]
section
variable {K : PySem.W.Frag} {cl : NmB} {F : Hp}
end
section
variable {X : Cx} {cl : NmB} {tg e : Expr} {te : DE} {t : DA} {pos p tpos : Pos} {elts : List Expr} {kk : Nat}
variable {vs : List Nat}
end
/-! ### steps -/
/-! ### == of lists that may be cells -/
section
variable {X : Cx} {cl : NmB}
end
end G
namespace G
open PySem PySem.Spec PyProof.Rows L2
/-! ### d.setdefault(k, v) -/
section
variable {X : Cx} {cl : NmB} {o e f : Expr} {to tk tx : DE} {apos cpos : Pos}
end
end G
set_option maxHeartbeats 1000000
namespace G
open PySem PySem.Spec PyProof.Rows L2
/-! ### exceptions of one's own: what may leave, calls that may raise, raise -/
/-- the readings' exception end keeps the wish W -/
def FinW (K : PySem.W.Frag) (cl : NmB) (Ex : DEnv → DX) (W : WX) : Prop :=
  ∀ (ρ : DEnv) (σ : L2.St) (c : String) (ds : List (Str × D)) (cv : Value) (d : Option Addr) (C : Cl) (F H : Hp), RS K cl ρ C F σ H → ExcRep K cl F c ds cv d H → Ex ρ c ds C → W cv d σ H
theorem FinW.at {K : PySem.W.Frag} {cl : NmB} {Ex : DEnv → DX} {W : WX} (k : FinW K cl Ex W) {ρ : DEnv} {C : Cl} {F F1 : Hp} {σ : L2.St} {H : Hp} (R : RS K cl ρ C F σ H) (s : Same F F1) : FinX K cl F1 (Ex ρ) (WE W σ) :=
  fun c ds cv d C2 H2 F2 s2 R2 x h => k ρ σ c ds cv d C2 F2 H2 (R.next (s.trans s2) R2) x h

section
variable {X : Cx} {cl : NmB} {CX : CXT} {k n : Nat} {f : Addr} {ks : List Str} {sp : DSp2} {E : XK} {pins : List (Addr × Obj)} {σ : L2.St} {H : Hp} {s : Shared}
end
section
variable {X : Cx} {cl : NmB} {k : Nat} {g : Addr} {ks : List Str} {sp : DSp2} {e o : Expr} {es : List Expr} {kws : List Keyword} {to : DE} {t tk : DA} {pos apos p : Pos} {x m : Str} {c : String} {te : DE} {Ex : DEnv → DX} {W : WX}
end

/-! ### a def that may raise -/
section
variable {P : Program} {w : World} {K : PySem.W.Frag} {cl : Nm} {mg : Str → Option Value} {base : Heap}
end

/-! ### raise c(e, ..) -/
/-- a value whose text is short -/
def ShowD (d : PyData) : Prop := d.showable = true ∧ d.hasDict = false ∧ d.depth ≤ 60 ∧ d.shown.length ≤ 1000000
/-- what a text can hold of an argument -/
def PrV (K : PySem.W.Frag) (H : Hp) (y : V) : Prop := (∃ z : Str, y = .str z ∧ z.length ≤ 1000000) ∨ (∃ i : Int, y = .int i ∧ i.natAbs.log2 < 1920) ∨ y = .non ∨ (∃ b, y = .bl b) ∨ ∃ a d, y = .ref a ∧ Dp K H y d ∧ ShowD d
def PrD (x : D) : Prop := (∃ l : List Nat, x = .str l ∧ l.length ≤ 1000000) ∨ (∃ i : Int, x = .int i ∧ i.natAbs.log2 < 1920) ∨ x = .non ∨ (∃ b, x = .bl b) ∨ (plain x = true ∧ ShowD (toPy x) ∧ ((∃ ds, x = .tup ds) ∨ (∃ ds, x = .lst ds) ∨ ∃ ds, x = .rol ds))
/-- an own exception's __init__: its fields are its arguments -/
def spXi (K : PySem.W.Frag) (C : Addr) (fs : List Str) : Sp := fun vs H Q E => ∃ a ys, vs = .ref a :: ys ∧ ys.length = fs.length ∧ OexC K C ∧ (∀ f ∈ fs, PySem.W.findIn K (.ref C) f = some none) ∧ H a = some (exo a C none) ∧ (∀ y ∈ ys, PrV K H y) ∧
  ∀ dx, H dx = none → dx ≠ a → Q .non (upd (upd H dx (exd dx (fs.zip ys).reverse)) a (exo a C (some dx)))
theorem RepF.append {K : PySem.W.Frag} {cl : Nm} {F : Hp} : ∀ {as bs : List (Str × V)} {ds es : List (Str × D)}, RepF K cl F as ds → RepF K cl F bs es → RepF K cl F (as ++ bs) (ds ++ es)
  | _, _, _, _, .nil, s => s
  | _, _, _, _, .cons h r, s => .cons h (RepF.append r s)
theorem RepF.reverse {K : PySem.W.Frag} {cl : Nm} {F : Hp} : ∀ {as : List (Str × V)} {ds : List (Str × D)}, RepF K cl F as ds → RepF K cl F as.reverse ds.reverse
  | _, _, .nil => .nil
  | _, _, .cons h r => by rw [List.reverse_cons, List.reverse_cons]; exact (RepF.reverse r).append (.cons h .nil)
theorem RepF.zip {K : PySem.W.Frag} {cl : Nm} {F : Hp} : ∀ (fs : List Str) {vs : List V} {ds : List D}, RepL K cl F vs ds → RepF K cl F (fs.zip vs) (fs.zip ds)
  | [], _, _, _ => by rw [List.zip_nil_left, List.zip_nil_left]; exact .nil
  | _ :: _, _, _, .nil => .nil
  | _ :: fs, _, _, .cons h r => .cons h (RepF.zip fs r)
theorem prv_one {K : PySem.W.Frag} {cl : Nm} {F H : Hp} (sub : Same F H) {v : V} {d : D} (r : Rep K cl F v d) (p : PrD d) : PrV K H v := by
  rcases p with ⟨l, e1, e2⟩ | ⟨i, e1, e2⟩ | e1 | ⟨b, e1⟩ | ⟨pl, sh, k⟩
  · subst e1
    cases r
    exact .inl ⟨_, rfl, by simpa [Str.length] using e2⟩
  · subst e1
    cases r
    exact .inr (.inl ⟨_, rfl, e2⟩)
  · subst e1
    cases r
    exact .inr (.inr (.inl rfl))
  · subst e1
    cases r
    exact .inr (.inr (.inr (.inl ⟨_, rfl⟩)))
  · have q := Rep.dp (cl := nb cl) sub r pl
    rcases k with ⟨ds, e1⟩ | ⟨ds, e1⟩ | ⟨ds, e1⟩
    · subst e1
      cases r
      exact .inr (.inr (.inr (.inr ⟨_, _, rfl, q, sh⟩)))
    · subst e1
      cases r
      exact .inr (.inr (.inr (.inr ⟨_, _, rfl, q, sh⟩)))
    · subst e1
      cases r
      exact .inr (.inr (.inr (.inr ⟨_, _, rfl, q, sh⟩)))
theorem prv_of {K : PySem.W.Frag} {cl : Nm} {F H : Hp} (sub : Same F H) : ∀ {vs : List V} {ds : List D}, RepL K cl F vs ds → (∀ x ∈ ds, PrD x) → ∀ y ∈ vs, PrV K H y
  | _, _, .nil, _ => nofun
  | _, _, .cons h r, k => fun y hy => by
    rcases List.mem_cons.mp hy with e | e
    · subst e
      exact prv_one sub h (k _ List.mem_cons_self)
    · exact prv_of sub r (fun x hx => k x (List.mem_cons_of_mem _ hx)) y e
section
variable {X : Cx} {cl : NmB} {k : Nat} {fI : Addr} {fd : FuncData} {ps fs : List Str} {c : String} {e : Expr} {es : List Expr} {t : DA} {x : Str} {p pos pos2 : Pos} {Ex : DEnv → DX} {W : WX}
end
end G
set_option maxHeartbeats 1000000
namespace G
open PySem PySem.Spec PyProof.Rows L2
/-! ### an own exception's __init__ -/
section
variable {X : Cx} {C G0 : Addr} {mc : Value} {e : Expr} {es : List Expr} {ta : TA} {x : Str} {p1 p2 pos : Pos}
/-- G.__init__(self, ..), G an own class over ValueError without an own __init__ -/
theorem pe_ginit {pl : Sem Bool} (hm : X.mg x = some (.ref G0)) (r : ClX.CRead X.K G0 mc) (vV : PySem.W.findCls X.K (.ref G0) mc "__init__" = some (.val (.builtin "ValueError.__init__"))) (ha : PA X (e :: es) ta)
    (hc : eval (.Call (.Attribute (.Name x p1) "__init__" p2) (e :: es) [] pos) X.env = (do
      let ov ← eval (.Name x p1) X.env
      standAt p2.atName
      let (f, first) ← holding [ov] (getMethod ov "__init__" pl)
      callWith pos f first (backTo pos (starEach (e :: es) X.env)) (backToKw pos (keywordEach [] X.env))) := by rfl)
    (hg : Gl X x := by rfl) (hdb : (x == ("__debug__" : Str)) = false := by decide)
    (he : starEach (e :: es) X.env = (false, eval e X.env) :: starEach es X.env := by rfl) (hpl : (backTo pos (starEach es X.env)).any (·.1) = false := by rfl) :
    PE X (.Call (.Attribute (.Name x p1) "__init__" p2) (e :: es) [] pos) (tVeI X.K ta) := by
  refine ⟨fun pins s σ H Q I h => ?_⟩
  refine PySem.W.methodCall_KW (pl := pl) (ld_glob I hg hm ?_ hdb) hc
  refine PySem.W.method_cls I.kIn r.ga (PySem.W.cls_value I.kIn r.rd vV (by decide +kernel) ?_)
  show wpAny _ _ (callWith pos (Value.builtin "ValueError.__init__") [] (backTo pos (starEach (e :: es) X.env)) []) _ _ _
  refine PyProof.Rows.callWith_method1 (thn (ha.run pos pins _ σ H _ (I.tok _) h) fun us s1 ⟨vs, H1, I1, r1, a, C, ws, ev, hl, T, ea, q⟩ => ?_) he hpl
  subst ev
  cases r1 with
  | @cons _ u0 _ ur ra rw' =>
    obtain rfl : u0 = Value.ref a := ra
    have hlen : ur.length ≤ sizeLine := by
      rw [← Paired.length rw', sizeLine_eq]
      omega
    exact oinit_ok T I1 ea hlen fun s' J => ⟨.non, H1, J, rfl, q⟩
end
/-- {x}: any such value, some short text -/
def tFmtD (K : PySem.W.Frag) (te : TE) : TE := fun σ H Q => te σ H fun x H1 => PrV K H1 x ∧ ∀ y : Str, y.length ≤ 1000000 → Q (.str y) H1
theorem pe_fmtD {X : Cx} {e : Expr} {te : TE} {pos : Pos} {k : Nat} (hr : Room k X.A) (he : PE X e te) : PE X (.FormattedValue e (-1) none pos) (tFmtD X.K te) := by
  refine ⟨fun pins s σ H Q I h => ?_⟩
  refine wpAny_FormattedValue_plain (thn (he.run pins s σ H _ I h) fun v s1 ⟨x, H1, I1, r1, pr, q⟩ => ?_)
  rcases pr with ⟨z, rfl, hz⟩ | ⟨i, rfl, hz⟩ | rfl | ⟨b, rfl⟩ | ⟨a, d, rfl, hd, s1', s2, s3, s4⟩
  · obtain ⟨t, rfl⟩ := r1
    exact wpAny_formatField_str ⟨.str z, H1, I1, ⟨t, rfl⟩, q z hz⟩ ⟨.str z, H1, I1.tok _, ⟨_, rfl⟩, q z hz⟩ (szl (by omega))
  · obtain ⟨t, rfl⟩ := r1
    exact wpAny_formatField_int hz ⟨.str (toString i), H1, I1.tok _, ⟨_, rfl⟩, q _ (Nat.le_trans (int_text_len_1921 hz) (by decide))⟩
  · obtain rfl : v = Value.none := r1
    exact wpAny_formatField_none ⟨.str "None", H1, I1.tok _, ⟨_, rfl⟩, q _ (by decide)⟩
  · obtain rfl : v = Value.bool b := r1
    refine wpAny_formatField_bool ⟨.str (if b then "True" else "False"), H1, I1.tok _, ⟨_, rfl⟩, q _ ?_⟩
    cases b <;> decide
  · obtain rfl : v = Value.ref a := r1
    obtain ⟨as, rd⟩ := Dp.reads I1 d (.ref a) (.ref a) hd rfl
    refine formatField_of_reads rd s1' (fun z => by rw [s2] at z; cases z) hr.gd (by have := hr.un; omega) (fun b o e => e) (fun h' u tk kp => ⟨.str d.shown, H1, I1.kept kp, ⟨u, rfl⟩, q _ s4⟩) (szl (by omega))
/-- a part of a short text, nothing changed -/
def Pl (σ : L2.St) (H : Hp) (t : TE) : Prop := ∀ Q : VK, (∀ y : Str, y.length ≤ 1000000 → Q (.str y) H) → t σ H Q
theorem pl_c {σ : L2.St} {H : Hp} {y : Str} (h : y.length ≤ 1000000) : Pl σ H (tC (.str y)) := fun Q k => k y h
theorem pl_fmt {K : PySem.W.Frag} {σ : L2.St} {H : Hp} {i : Nat} {y : V} (e : σ[i]? = some (some y)) (h : PrV K H y) : Pl σ H (tFmtD K (tVar i)) := fun Q k => ⟨_, e, h, k⟩
theorem js_pl {σ : L2.St} {H : Hp} {Q : Str → Hp → Prop} (hq : ∀ out, Q out H) : ∀ (ts : List TE) (acc : Str), (∀ t ∈ ts, Pl σ H t) → acc.length + ts.length * 1000000 ≤ 16000000 → tJs ts acc σ H Q
  | [], acc, _, _ => hq acc
  | t :: ts, acc, h, l => h t List.mem_cons_self _ fun y hy => by
    have e : (acc ++ y).length = acc.length + y.length := by
      show (acc ++ y).cps.size = acc.cps.size + y.cps.size
      exact Array.size_append
    rw [List.length_cons] at l
    exact ⟨y, rfl, szl (by omega), js_pl hq ts (acc ++ y) (fun x hx => h x (List.mem_cons_of_mem _ hx)) (by omega)⟩
/-- the readings of such an __init__ : the text's parts ts, then the fields -/
def tXi (K : PySem.W.Frag) (ts : List TE) (u : TS) : TS := tSeq (tDrop (tVeI K (tCons (tVar 0) (tCons (fun σ H Q => tJs ts Str.empty σ H fun out H1 => Q (.str out) H1) tNil)))) u
section
variable {P : Program} {w : World} {K : PySem.W.Frag} {mg : Str → Option Value} {base : Heap} {q : Str} {st : Stmt} {f : Addr} {fd : FuncData} {k : Nat} {C : Addr}
theorem xi_1 {N : List Str} {n f1 : Str} {ts : List TE} (Fu : Fun K "__init__" q st f fd) (S : FnScope N ["self", n] (defScope st)) (hN : N = (["self", n] : List Str)) (hts : ∀ (σ : L2.St) (H : Hp) (y : V), σ[1]? = some (some y) → PrV K H y → ∀ t ∈ ts, Pl σ H t) (hl : ts.length ≤ 16)
    (body : ∀ (cdv : Value) (A : Around) (outer : List Env) (s : Shared) (H : Hp) (E : XK), Room k (A.deeper (envOfC q (defScope st) s.heap.objs.size f cdv)) → PSs (cxOf CX0 P w K mg base N q (defScope st) f cdv A outer s H E).nox (defBody st) (tXi K ts (tSeq (tOst K f1 (tVar 0) (tVar 1)) tNext))) :
    FnOk P w K mg base CX0 (k + 1) f fd ["self", n] (spXi K C [f1]) := by
  subst hN
  refine funOk Fu S (fun vs H Q E ⟨a, ys, e, l, _⟩ => by rw [e, List.length_cons, l]; rfl) fun cdv A outer s H vs Q E hr ⟨a, ys, e, l, T, nf, ha, pr, hq⟩ => ⟨_, body cdv A outer s H E hr, ?_⟩
  subst e
  match ys, l with
  | [y], _ =>
    have h0 : (start (["self", n] : List Str) [V.ref a, y])[0]? = some (some (V.ref a)) := rfl
    have h1 : (start (["self", n] : List Str) [V.ref a, y])[1]? = some (some y) := rfl
    refine ⟨_, h0, js_pl (fun out => ?_) ts Str.empty (hts _ _ y h1 (pr y List.mem_cons_self)) (by show 0 + _ ≤ _; omega)⟩
    refine ⟨a, C, [.str out], rfl, by show (1 : Nat) ≤ 1000; decide, T, ha, ?_⟩
    exact ⟨y, h1, _, h0, a, C, rfl, T, nf f1 List.mem_cons_self, .inl ⟨ha, fun dx n1 n2 => hq dx n1 n2⟩⟩
theorem xi_2 {N : List Str} {n m f1 f2 : Str} {ts : List TE} (Fu : Fun K "__init__" q st f fd) (S : FnScope N ["self", n, m] (defScope st)) (hN : N = (["self", n, m] : List Str)) (hts : ∀ (σ : L2.St) (H : Hp) (y z : V), σ[1]? = some (some y) → PrV K H y → σ[2]? = some (some z) → PrV K H z → ∀ t ∈ ts, Pl σ H t) (hl : ts.length ≤ 16)
    (body : ∀ (cdv : Value) (A : Around) (outer : List Env) (s : Shared) (H : Hp) (E : XK), Room k (A.deeper (envOfC q (defScope st) s.heap.objs.size f cdv)) → PSs (cxOf CX0 P w K mg base N q (defScope st) f cdv A outer s H E).nox (defBody st) (tXi K ts (tSeq (tOst K f1 (tVar 0) (tVar 1)) (tSeq (tOst K f2 (tVar 0) (tVar 2)) tNext)))) :
    FnOk P w K mg base CX0 (k + 1) f fd ["self", n, m] (spXi K C [f1, f2]) := by
  subst hN
  refine funOk Fu S (fun vs H Q E ⟨a, ys, e, l, _⟩ => by rw [e, List.length_cons, l]; rfl) fun cdv A outer s H vs Q E hr ⟨a, ys, e, l, T, nf, ha, pr, hq⟩ => ⟨_, body cdv A outer s H E hr, ?_⟩
  subst e
  match ys, l with
  | [y, z], _ =>
    have h0 : (start (["self", n, m] : List Str) [V.ref a, y, z])[0]? = some (some (V.ref a)) := rfl
    have h1 : (start (["self", n, m] : List Str) [V.ref a, y, z])[1]? = some (some y) := rfl
    have h2 : (start (["self", n, m] : List Str) [V.ref a, y, z])[2]? = some (some z) := rfl
    refine ⟨_, h0, js_pl (fun out => ?_) ts Str.empty (hts _ _ y z h1 (pr y List.mem_cons_self) h2 (pr z (List.mem_cons_of_mem _ List.mem_cons_self))) (by show 0 + _ ≤ _; omega)⟩
    refine ⟨a, C, [.str out], rfl, by show (1 : Nat) ≤ 1000; decide, T, ha, ?_⟩
    refine ⟨y, h1, _, h0, a, C, rfl, T, nf f1 List.mem_cons_self, .inl ⟨ha, fun dx n1 n2 => ?_⟩⟩
    refine ⟨z, h2, _, h0, a, C, rfl, T, nf f2 (List.mem_cons_of_mem _ List.mem_cons_self), .inr ⟨dx, [(f1, y)], upd_same, by rw [upd_ne n2, upd_same], by show (1 : Nat) ≤ 900; decide, ?_⟩⟩
    have e : upd (upd (upd H dx (exd dx [(f1, y)])) a (exo a C (some dx))) dx (exd dx [(f2, z), (f1, y)]) = upd (upd H dx (exd dx [(f2, z), (f1, y)])) a (exo a C (some dx)) := by
      funext b
      by_cases h : b = dx
      · subst h; rw [upd_same, upd_ne n2, upd_same]
      · rw [upd_ne h]
        by_cases g : b = a
        · subst g; rw [upd_same, upd_same]
        · rw [upd_ne g, upd_ne g, upd_ne h, upd_ne h]
    show Q .non _
    rw [e]
    exact hq dx n1 n2
end

/-! ### try: body, except c as n: suite -/
theorem FinS.base {K : PySem.W.Frag} {cl : NmB} {F : Hp} {Dd : DEnds} {De : Ends} (k : FinS K cl F Dd De) (hb : Same cl.bs F) {F2 : Hp} (s2 : Same F F2) (G0 : Hp) : FinS K ⟨cl.f, G0⟩ F2 Dd De :=
  ⟨fun ρ C F' σ H s R q => k.nx ρ C F' σ H (s2.trans s) ⟨R.rc, R.len, R.env, hb.trans (s2.trans s)⟩ q, fun ρ C F' σ H s R q => k.bk ρ C F' σ H (s2.trans s) ⟨R.rc, R.len, R.env, hb.trans (s2.trans s)⟩ q,
    fun ρ C F' σ H s R q => k.ct ρ C F' σ H (s2.trans s) ⟨R.rc, R.len, R.env, hb.trans (s2.trans s)⟩ q, fun v d C F' H s R r q => k.rt v d C F' H (s2.trans s) R r q⟩
section
variable {X : Cx} {cl : NmB} {x n : Str} {cx : String} {cs : List (String × Bool)} {i : Nat} {body suite : List Stmt} {b₀ : Stmt} {np pos pos' : Pos} {tb : (DEnv → DX) → DS} {ts : Addr → String → List (Str × D) → DS} {Ex : DEnv → DX} {W : WX}
end
/-! ### in an except suite: e.f, isinstance(e, c) -/
section
variable {X : Cx} {cl : NmB} {a dd : Addr} {oe : Obj} {pn : List (Addr × Obj)} {c : String} {fs : List (Str × V)} {ds : List (Str × D)} {e : Expr} {te : DE} {pos : Pos} {f : Str} {F0 : Hp}
theorem xis_own {X : Cx} {x : Str} {D : Addr} {p : Pos} (hm : X.mg x = some (.ref D)) (hg : Gl X x := by rfl) (hdb : (x == ("__debug__" : Str)) = false := by decide) : PE X (.Name x p) (tC (.ref D)) := pe_glob hg hm rfl hdb
theorem rel_ref {D : Addr} : ∀ u, RelV (.ref D) u → u = .ref D := fun _ h => h
end
end G
set_option maxHeartbeats 1000000
namespace G
open PySem PySem.Spec PyProof.Rows L2
/-! ### what the text must tell of an own exception's class -/
abbrev veTl : List Value := [.type "ValueError", .type "Exception", .type "BaseException", .type "object"]
theorem refsVE_of : ∀ l : List Value, PySem.W.excTail veTl l = true → PySem.HandSPX.refsVE l = true
  | l, e => by
    induction l with
    | nil => cases e
    | cons a r ih =>
      rcases PySem.W.excTail_cases (a :: r) e with ⟨c, r', q, h⟩ | q
      · obtain ⟨rfl, rfl⟩ := List.cons.inj q
        exact ih h
      · rw [q]; decide +kernel
theorem oexC_of {K : PySem.W.Frag} {C : Addr} (h : PySem.W.excInitIn K C veTl "ValueError.__new__" = true) (hd : PySem.W.hasDictIn K C = true) (sa : PySem.W.findIn K (.ref C) "__setattr__" = some (some (.builtin "object.__setattr__"))) (exC : PySem.W.subIn K (.ref C) (.type "BaseException") = some true)
    (tyC : PySem.W.typeIn K (.ref C) = some (.type "type")) (kC : PySem.W.keepIn K (.ref C) = true) : OexC K C := by
  refine ⟨?_, sa, exC, tyC, kC⟩
  obtain ⟨cd0, hc0, hd0⟩ := PySem.W.any_some hd
  unfold PySem.W.excInitIn at h
  split at h
  · rename_i dd cd sl ho
    split at h
    · rename_i C' bm k0 k1 k2 k3 n k5 hm hs
      simp only [Bool.and_eq_true, beq_iff_eq, Bool.not_eq_true'] at h
      obtain ⟨⟨⟨rfl, rfl⟩, hdel⟩, ht⟩ := h
      unfold PySem.W.clsIn at hc0
      rw [ho] at hc0
      have e0 := Option.some.inj hc0
      subst e0
      obtain ⟨nm, bs, mro, ns, qn, hd', sn, sub, ab, col, del⟩ := cd
      dsimp only at hm hdel hd0
      subst hm hdel hd0
      have hsl : sl = #[k0, k1, k2, k3, some (.builtin "ValueError.__new__"), k5] := by
        obtain ⟨l⟩ := sl
        simp only at hs
        rw [hs]
      subst hsl
      exact ⟨nm, qn, ns, bs, bm, sn, sub, ab, col, dd, k0, k1, k2, k3, k5, ho, refsVE_of _ ht⟩
    · cases h
  · cases h
theorem ck_of {K : PySem.W.Frag} {C : Addr} (h : PySem.W.hasDictIn K C = true) : (PySem.W.clsIn K C).isSome = true := by
  obtain ⟨cd, hc, _⟩ := PySem.W.any_some h
  rw [hc]; rfl
theorem xis_blt {X : Cx} {x : Str} {n : String} {p : Pos} (hm : X.mg x = none) (hv : bootBuiltins x = some (.type n)) (hg : Gl X x := by rfl) (hn : x ≠ "__name__" := by decide) (hdb : (x == ("__debug__" : Str)) = false := by decide) : PE X (.Name x p) (tC (.ty n)) := pe_bltn hg hm hv rfl hn hdb
theorem rel_ty {n : String} : ∀ u, RelV (.ty n) u → u = .type n := fun _ h => h
theorem nf_nil {P : Str → Prop} : ∀ f ∈ ([] : List Str), P f := nofun
theorem nf_cons {P : Str → Prop} {g : Str} {l : List Str} (h : P g) (r : ∀ f ∈ l, P f) : ∀ f ∈ g :: l, P f := fun f hf => by
  rcases List.mem_cons.mp hf with e | e
  · rw [e]; exact h
  · exact r f e
/-! ### steps -/
section
variable {ρ : DEnv} {C : Cl} {Q : DQ} {te : DE} {Ex : DEnv → DX}
end
end G
set_option maxHeartbeats 4000000
/-! own exceptions over any built-in class (LookupError): the same as over ValueError, at the library's general lemmas -/
namespace PySem
namespace OXL
open PySem.W PySem.Calls PyProof.Rows
section
open Builtin Builtin.ObjectAttr
variable {prog : Program} {w : World} {A : Around} {E : Value → Shared → Prop} {R : Result → Shared → Prop} {hp : Heap} {g : Array GenState} {d : Drawn} {t : Nat} {os : OsState} {B : String} {bmB : List Value}
/-- the first field -/
theorem osa_first {K : W.Frag} {name : Str} {tk : Tok} {v : Value} {x C : Addr} {fv : Array Value} (SF : StoreFacts B bmB "object.__setattr__" "object")
    (X : K.In hp) (hx : hp.get? x = some { cls := .ref C, data := .fields fv }) (ov : W.excOver K C bmB = true) (hd : W.hasDictIn K C = true) (ha : W.findIn K (.ref C) name = some none)
    (hq : ∀ h' tk' dx, (∀ b o, b ≠ x → hp.get? b = some o → h'.get? b = some o) → hp.objs.size ≤ dx → dx ≠ x → h'.get? x = some { cls := .ref C, dict := some dx, data := .fields fv } →
      h'.Ns1 dx (fun y => if y = name then some v else none) → R (.ok (.ret .none)) ⟨h', g, d, tk', os⟩) :
    codeAny (model prog w) A (.call (.builtin "object.__setattr__") ⟨[.ref x, .str name tk, v], []⟩) R ⟨hp, g, d, t, os⟩ := by
  have I : W.InstAt hp x { cls := .ref C, data := .fields fv } C none := ⟨hx, rfl, rfl, trivial⟩
  obtain ⟨cd, hcd, hh⟩ := W.any_some hd
  have hcls : W.Looks (model prog w) hp (classData C) cd := W.looks_clsIn X hcd
  have hxs : x ≠ hp.objs.size := Nat.ne_of_lt (Heap.lt_size hx)
  refine W.osa_openX (s := ⟨hp, g, d, t, os⟩) (r := none) SF X I ov (by unfold W.takerIn; rw [ha]; rfl) fun b => ?_
  dsimp only
  obtain ⟨nm, bs, mro, ns, qn, hd', sn, sb, ab, col, del⟩ := cd
  dsimp only at hh
  subst hh
  unfold storeInOwnDict ownDictForStores
  repeat (first | with_reducible refine HandSPX.store_in_new ?_ ?_ | with_reducible refine wpAny_loadPart_at hx ?_ | with_reducible refine hcls.at ?_ | wp_step)
  · exact ⟨_, #[], _, (Heap.get?_update_ne _ _ _ _ hxs.symm).trans (Heap.get?_push_at rfl rfl), rfl, fun e he => absurd he (by simp), fun _ => rfl⟩
  · intro h' tk' hn' hs
    have hx₁ : (hp.push { cls := .type "dict", data := .dict #[] }).get? x = some { cls := .ref C, data := .fields fv } := Heap.get?_push_of_some _ hx
    refine hq h' tk' hp.objs.size (fun b o hb ho => ?_) (Nat.le_refl _) hxs.symm ?_ hn'
    · exact (hs.2 b (Nat.ne_of_lt (Heap.lt_size ho))).trans ((Heap.get?_update_ne _ _ _ _ hb).trans (Heap.get?_push_of_some _ ho))
    · exact (hs.2 x hxs).trans (Heap.get?_update_self _ hx₁ rfl)
end
end OXL
end PySem
set_option maxHeartbeats 4000000
namespace G
open PySem PySem.Spec PyProof.Rows L2
/-! ### own exceptions over LookupError -/
abbrev leTail : List Value := [.type "LookupError", .type "Exception", .type "BaseException", .type "object"]
/-- what the text must tell of such a class -/
structure OexL (K : PySem.W.Frag) (C : Addr) : Prop where
  q : PySem.W.excInitIn K C leTail "LookupError.__new__" = true
  ov : PySem.W.excOver K C leTail = true
  hd : PySem.W.hasDictIn K C = true
  sa : PySem.W.findIn K (.ref C) "__setattr__" = some (some (.builtin "object.__setattr__"))
  exC : PySem.W.subIn K (.ref C) (.type "BaseException") = some true
  tyC : PySem.W.typeIn K (.ref C) = some (.type "type")
  kC : PySem.W.keepIn K (.ref C) = true
section
variable {X : Cx} {pins : List (Addr × Obj)} {σ : L2.St} {H : Hp} {s : Shared} {a C dx : Addr} {f : Str} {y : V} {u : Value} {fs : List (Str × V)} {Q : Unit → Shared → Prop} {E : Value → Shared → Prop} {A : Around}
theorem ostL_new (T : OexL X.K C) (I : L2.Inv X pins σ H s) (e : H a = some (exo a C none)) (hno : PySem.W.findIn X.K (.ref C) f = some none) (ry : RelV y u)
    (h : ∀ dx s', H dx = none → dx ≠ a → L2.Inv X pins σ (upd (upd H dx (exd dx [(f, y)])) a (exo a C (some dx))) s' → Q () s') : wpAny (model X.prog X.w) A (setAttr (.ref a) f u) Q E s := by
  obtain ⟨t1, ho⟩ := exo_at I.hok e
  obtain ⟨hp, g, d, t, os⟩ := s
  refine PySem.W.set_plain I.kIn (ox := { cls := .ref C, dict := none, data := .fields #[.ref t1, .none, .none, .none, .bool false, .none] }) (od := none) ⟨ho, rfl, rfl, trivial⟩ T.sa ?_
  refine PySem.OXL.osa_first PySem.F.store_LookupError I.kIn ho T.ov T.hd hno (fun h' tk' dx k dn dne hx hn => ?_)
  have hnd : H dx = none := I.hok.fresh dn
  have nd : ∀ {b : Addr} {o : Obj}, hp.get? b = some o → b ≠ dx := fun {b o} q => Nat.ne_of_lt (Nat.lt_of_lt_of_le (Heap.lt_size q) dn)
  have na : ∀ {b : Addr}, H b = none → b ≠ a := fun {b} n z => by
    rw [z, e] at n
    cases n
  have Un1 : Un X.fs [] H (upd (upd H dx (exd dx [(f, y)])) a (exo a C (some dx))) hp h' := {
    keep := fun b o q n _ _ => k b o (na n) q
    slot := fun b o q n _ _ => ⟨o.slots, k b o (na n) q⟩
    free := fun b o q n _ => by rw [upd_ne (na n), upd_ne (nd q)]; exact n
    there := fun b o q _ => by
      by_cases hb : b = a
      · exact ⟨_, by rw [hb]; exact hx⟩
      · exact ⟨o, k b o hb q⟩
    tups := fun b xs q => by rw [upd_ne (at_ne e q exo_tup), upd_ne (ne_of_none q hnd)]; exact q
    frzs := fun b o v q => by rw [upd_ne (at_ne e q exo_frz), upd_ne (ne_of_none q hnd)]; exact q
    tbls := fun b ps q => ⟨#[], by rw [upd_ne (at_ne e q exo_tbl), upd_ne (ne_of_none q hnd), q]; simp⟩ }
  refine h dx _ hnd dne (I.un (t' := tk') Un1 fun b o q => ?_)
  by_cases hb : b = a
  · subst hb
    rw [upd_same] at q
    cases q
    exact exo_ok hx
  · rw [upd_ne hb] at q
    by_cases hd : b = dx
    · subst hd
      rw [upd_same] at q
      cases q
      exact exd_ok hn (relO_put (fs := []) ry fun g => True.intro)
    · rw [upd_ne hd] at q
      exact (I.hok b o q).stay (fun c v hc z => k c v (by
          rcases hc with hc | hc
          · rw [hc]
            exact hb
          · exact at_ne e hc exo_own) z)
        (fun c hc => by rw [upd_ne (at_ne e hc exo_own), upd_ne (ne_of_none hc hnd)]; exact hc) (fun c xs hc => by rw [upd_ne (at_ne e hc exo_tup), upd_ne (ne_of_none hc hnd)]; exact hc)
theorem oinitL_ok {us : List Value} {Q : Value → Shared → Prop} (T : OexL X.K C) (I : L2.Inv X pins σ H s) (e : H a = some (exo a C none)) (hl : us.length ≤ sizeLine) (h : ∀ s', L2.Inv X pins σ H s' → Q .none s') :
    wpAny (model X.prog X.w) A (call (.builtin "LookupError.__init__") (.ref a :: us)) Q E s := by
  obtain ⟨nm, N, qn, bs, bm, hdct, sn, sub, ab, col, dd, k0, k1, k2, k3, k5, hC, hT⟩ := PySem.W.excInit_of I.kIn T.q
  obtain ⟨t1, ho⟩ := exo_at I.hok e
  obtain ⟨hp, g, d, t, os⟩ := s
  refine wpAny_call (PySem.HandSPX.init_base PySem.F.excBase_LookupError hT hC ho hl fun h' t2 k hx => ?_)
  have J := I.write (t' := t) (x := a) (e := a) (o := exo a C none) (by rw [e]; exact True.intro) (.inl rfl) k ⟨_, hx⟩ (exo_ok hx)
  have eu : upd H a (exo a C none) = H := by
    funext b
    by_cases hb : b = a
    · rw [hb, upd_same, e]
    · rw [upd_ne hb]
  rw [eu] at J
  exact h _ J
end
/-- LookupError.__init__(self, ..) -/
def tLeI (K : PySem.W.Frag) (ta : TA) : TE := fun σ H Q => ta σ H fun vs H1 => ∃ (a C : Addr) (ws : List V), vs = .ref a :: ws ∧ ws.length ≤ 1000 ∧ OexL K C ∧ H1 a = some (exo a C none) ∧ Q .non H1
/-- self.f = e, the first field -/
def tOstL (K : PySem.W.Frag) (f : Str) (to te : TE) : TS := fun D σ H => te σ H fun y H1 => to σ H1 fun x H2 => ∃ a C : Addr, x = .ref a ∧ OexL K C ∧ PySem.W.findIn K (.ref C) f = some none ∧
  H2 a = some (exo a C none) ∧ ∀ dx, H2 dx = none → dx ≠ a → D.nx σ (upd (upd H2 dx (exd dx [(f, y)])) a (exo a C (some dx)))
theorem typ_LE : typeOf (.type "LookupError") = pure (.type "type") := by kernel_rfl
section
variable {X : Cx} {o e : Expr} {es : List Expr} {to te : TE} {ta : TA} {f : Str} {p p' p1 p2 pos : Pos}
theorem pe_leinit {pl : Sem Bool} (hm : X.mg "LookupError" = none) (vV : PySem.W.findCls X.K (.type "LookupError") (.type "type") "__init__" = some (.val (.builtin "LookupError.__init__"))) (ha : PA X (e :: es) ta) (hg : Gl X "LookupError" := by rfl)
    (hc : eval (.Call (.Attribute (.Name "LookupError" p1) "__init__" p2) (e :: es) [] pos) X.env = (do
      let ov ← eval (.Name "LookupError" p1) X.env
      standAt p2.atName
      let (f, first) ← holding [ov] (getMethod ov "__init__" pl)
      callWith pos f first (backTo pos (starEach (e :: es) X.env)) (backToKw pos (keywordEach [] X.env))) := by rfl)
    (he : starEach (e :: es) X.env = (false, eval e X.env) :: starEach es X.env := by rfl) (hpl : (backTo pos (starEach es X.env)).any (·.1) = false := by rfl) :
    PE X (.Call (.Attribute (.Name "LookupError" p1) "__init__" p2) (e :: es) [] pos) (tLeI X.K ta) := by
  refine ⟨fun pins s σ H Q I h => ?_⟩
  refine PySem.W.methodCall_KW (ld_blt I hg hm PyProof.Rows.Boot.«LookupError» ?_ (by decide) (by decide)) hc
  obtain ⟨m, fr⟩ := I.fr
  refine PySem.W.method_type fr I.ok.mod.kin typ_LE (by decide +kernel) vV (by decide +kernel) ?_
  show wpAny _ _ (callWith pos (Value.builtin "LookupError.__init__") [] (backTo pos (starEach (e :: es) X.env)) []) _ _ _
  refine PyProof.Rows.callWith_method1 (thn (ha.run pos pins _ σ H _ (I.tok _) h) fun us s1 ⟨vs, H1, I1, r1, a, C, ws, ev, hl, T, ea, q⟩ => ?_) he hpl
  subst ev
  cases r1 with
  | @cons _ u0 _ ur ra rw' =>
    obtain rfl : u0 = Value.ref a := ra
    have hlen : ur.length ≤ sizeLine := by
      rw [← Paired.length rw', sizeLine_eq]
      omega
    exact oinitL_ok T I1 ea hlen fun s' J => ⟨.non, H1, J, rfl, q⟩
theorem ps_ostL (ho : PE X o to) (he : PE X e te) (hs : swapsWith e (some (.Attribute o f p')) pos.line X.env = pure false := by rfl) : PS X (.Assign [.Attribute o f p'] e pos) (tOstL X.K f to te) := by
  refine ⟨fun pins s σ H D I h => ?_⟩
  refine plainObj_wpAny_Assign_Attribute (thn (he.run pins s σ H _ I h) fun v s1 ⟨y, H1, I1, r1, q1⟩ => thn (ho.run pins s1 σ H1 _ I1 q1) fun u s2 ⟨x, H2, I2, r2, a, C, ex, T, hno, ea, q⟩ => ?_) hs
  subst ex
  obtain rfl : u = Value.ref a := r2
  exact ostL_new T I2 ea hno r1 fun dx s' n ne J => ⟨σ, _, J, q dx n ne⟩
end
end G
set_option maxHeartbeats 1000000
namespace G
open PySem PySem.Spec PyProof.Rows L2
/-- the __init__ of an own exception over LookupError with one field -/
def spXl (K : PySem.W.Frag) (C : Addr) (f : Str) : Sp := fun vs H Q E => ∃ a y, vs = [.ref a, y] ∧ OexL K C ∧ PySem.W.findIn K (.ref C) f = some none ∧ H a = some (exo a C none) ∧ PrV K H y ∧
  ∀ dx, H dx = none → dx ≠ a → Q .non (upd (upd H dx (exd dx [(f, y)])) a (exo a C (some dx)))
section
variable {X : Cx} {cl : NmB} {k : Nat} {fI : Addr} {fd : FuncData} {ps : List Str} {f : Str} {c : String} {e : Expr} {es : List Expr} {t : DA} {x : Str} {p pos pos2 : Pos} {Ex : DEnv → DX} {W : WX}
end
section
variable {P : Program} {w : World} {K : PySem.W.Frag} {mg : Str → Option Value} {base : Heap} {q : Str} {st : Stmt} {f : Addr} {fd : FuncData} {k : Nat} {C : Addr}
def tXl (K : PySem.W.Frag) (ts : List TE) (u : TS) : TS := tSeq (tDrop (tLeI K (tCons (tVar 0) (tCons (fun σ H Q => tJs ts Str.empty σ H fun out H1 => Q (.str out) H1) tNil)))) u
theorem xl_1 {N : List Str} {n f1 : Str} {ts : List TE} (Fu : Fun K "__init__" q st f fd) (S : FnScope N ["self", n] (defScope st)) (hN : N = (["self", n] : List Str)) (hts : ∀ (σ : L2.St) (H : Hp) (y : V), σ[1]? = some (some y) → PrV K H y → ∀ t ∈ ts, Pl σ H t) (hl : ts.length ≤ 16)
    (body : ∀ (cdv : Value) (A : Around) (outer : List Env) (s : Shared) (H : Hp) (E : XK), Room k (A.deeper (envOfC q (defScope st) s.heap.objs.size f cdv)) → PSs (cxOf CX0 P w K mg base N q (defScope st) f cdv A outer s H E).nox (defBody st) (tXl K ts (tSeq (tOstL K f1 (tVar 0) (tVar 1)) tNext))) :
    FnOk P w K mg base CX0 (k + 1) f fd ["self", n] (spXl K C f1) := by
  subst hN
  refine funOk Fu S (fun vs H Q E ⟨a, y, e, _⟩ => by rw [e]; rfl) fun cdv A outer s H vs Q E hr ⟨a, y, e, T, nf, ha, pr, hq⟩ => ⟨_, body cdv A outer s H E hr, ?_⟩
  subst e
  have h0 : (start (["self", n] : List Str) [V.ref a, y])[0]? = some (some (V.ref a)) := rfl
  have h1 : (start (["self", n] : List Str) [V.ref a, y])[1]? = some (some y) := rfl
  refine ⟨_, h0, js_pl (fun out => ?_) ts Str.empty (hts _ _ y h1 pr) (by show 0 + _ ≤ _; omega)⟩
  refine ⟨a, C, [.str out], rfl, by show (1 : Nat) ≤ 1000; decide, T, ha, ?_⟩
  exact ⟨y, h1, _, h0, a, C, rfl, T, nf, ha, fun dx n1 n2 => hq dx n1 n2⟩
end
end G
set_option maxHeartbeats 1000000
namespace G
open PySem PySem.Spec PyProof.Rows L2
/-! ### o[i] of an own class, its def may raise -/
section
variable {X : Cx} {cl : NmB} {k : Nat} {g : Addr} {sp : DSp2} {c : String} {ta tb : DE} {a b : Expr} {pos : Pos} {Ex : DEnv → DX} {W : WX}
end
end G
set_option maxHeartbeats 1000000
namespace GQ2
open PySem PySem.SeqAt

open MeetsSeq MeetsSeq2 MeetsSeq3 SeqRoads2
section
variable {prog : Program} {w : World} {A : Around} {R : Result → Shared → Prop}
end
section
variable {prog : Program} {w : World} {A : Around} {E : Value → Shared → Prop} {s : Shared}
end
end GQ2
namespace G
open PySem PySem.Spec PyProof.Rows L2
/-! ### == of tuples of instances, alike or not -/
/-- below the running body, with room -/
structure SubG (X : Cx) (n : Nat) (A : Around) : Prop where
  room : Room n A
  fr : A.frames = X.A.frames
theorem SubG.in1 {X : Cx} {n : Nat} {A : Around} (s : SubG X (n + 1) A) : SubG X n A.in1 := ⟨s.room.in1, s.fr⟩
section
variable {X : Cx} {cl : NmB} {CX : CXT} {k : Nat} {g : Addr} {sp : DSp2} {c : String}
end
/-! ### x op y of two instances, the def may raise -/
section
variable {X : Cx} {cl : NmB} {k : Nat} {g : Addr} {sp : DSp2} {c : String} {ta tb : DE} {a b : Expr} {pos : Pos} {Ex : DEnv → DX} {W : WX} {op : Operator}
end
end G
set_option maxHeartbeats 4000000
namespace L2
open PySem PySem.Spec PyProof.Rows
/-! ### try with several clauses that name the exception alike -/
inductive HdsAs (X : Cx) (n : Str) : List ExceptHandler → List (Value × (Addr → Value → Option Addr → TS)) → Prop
  | nil : HdsAs X n [] []
  | cons {x : Str} {c : Value} {ts : Addr → Value → Option Addr → TS} {b₀ : Stmt} {suite : List Stmt} {np pos' : Pos} {hds : List ExceptHandler} {l : List (Value × (Addr → Value → Option Addr → TS))} (hc : Names X x c)
      (hsu : ∀ (a : Addr) (oe : Obj) (cls : Value) (d : Option Addr) (pn : List (Addr × Obj)), Zc cls d oe → (∃ vs, oe.data = .fields vs) → PSs (X.suite a ((a, oe) :: pn)) (b₀ :: suite) (ts a cls d)) (r : HdsAs X n hds l) :
      HdsAs X n (.ExceptHandler (some (.Name x np)) (some n) (b₀ :: suite) pos' :: hds) ((c, ts) :: l)
section
variable {X : Cx} {n : Str} {i : Nat} {body : List Stmt} {h₀ : ExceptHandler} {hds : List ExceptHandler} {l : List (Value × (Addr → Value → Option Addr → TS))} {pos : Pos} {tb : WX → TS} {Wout : WX}
end
end L2
namespace G
open PySem PySem.Spec PyProof.Rows L2
section
variable {X : Cx} {cl : NmB} {x x1 x2 n : Str} {cx cx1 cx2 : String} {cs cs1 cs2 : List (String × Bool)} {i : Nat} {body suite suite1 suite2 : List Stmt} {b₀ b1 b2 : Stmt} {np np1 np2 pos pos' pos1 pos2' : Pos} {tb : (DEnv → DX) → DS} {ts ts1 ts2 : Addr → String → List (Str × D) → DS} {Ex : DEnv → DX} {W : WX}
end
end G
set_option maxHeartbeats 1000000
namespace G
open PySem PySem.Spec PyProof.Rows L2
/-! ### a new instance whose __init__ may raise -/
section
variable {X : Cx} {cl : NmB} {k : Nat} {g : Addr} {ks : List Str} {sp : DSp2} {e : Expr} {es : List Expr} {kws : List Keyword} {t tk : DA} {pos p : Pos} {x : Str} {c : String} {Ex : DEnv → DX} {W : WX}
end
end G
set_option maxHeartbeats 1000000
namespace G
open PySem PySem.Spec PyProof.Rows L2
/-! ### repr of plain trees -/
/-- a tree of depth n whose text has at most m signs -/
def Shw (n m : Nat) (d : D) : Prop := Sh n d ∧ (toPy d).showable = true ∧ (toPy d).shown.length ≤ m
def ShwL (n m : Nat) (ds : List D) : Prop := ShL n ds ∧ PyData.showableAll (toPyL ds) = true ∧ ((PyData.shownAll (toPyL ds)).map (·.length)).sum + 2 * ds.length ≤ m
def reprD (d : D) : List Nat := (toPy d).shown.cps.toList
theorem shw_nil {n m : Nat} : ShwL n m [] := ⟨sh_nil, by unfold toPyL PyData.showableAll; rfl, by unfold toPyL PyData.shownAll; simp⟩
theorem shw_cons {n m m' : Nat} {d : D} {ds : List D} (h : Shw n m d) (r : ShwL n m' ds) : ShwL n (m + m' + 2) (d :: ds) := by
  obtain ⟨a1, a2, a3⟩ := h
  obtain ⟨b1, b2, b3⟩ := r
  refine ⟨sh_cons a1 b1, by unfold toPyL PyData.showableAll; rw [a2, b2]; rfl, ?_⟩
  unfold toPyL PyData.shownAll
  rw [List.map_cons, List.sum_cons, List.length_cons]
  omega
theorem toPyL_lenR : ∀ ds : List D, (toPyL ds).length = ds.length
  | [] => by unfold toPyL; rfl
  | d :: ds => by unfold toPyL; rw [List.length_cons, List.length_cons, toPyL_lenR ds]
theorem shw_tup {n m : Nat} {ds : List D} (h : ShwL n m ds) : Shw (n + 1) (m + 3) (.tup ds) := by
  obtain ⟨b1, b2, b3⟩ := h
  refine ⟨sh_tup b1, by unfold toPy PyData.showable; exact b2, ?_⟩
  unfold toPy PyData.shown
  have e := tupleText_len_le (PyData.shownAll (toPyL ds))
  rw [PyData.shownAll_length, toPyL_lenR] at e
  omega
theorem shw_lst {n m : Nat} {ds : List D} (h : ShwL n m ds) : Shw (n + 1) (m + 3) (.lst ds) := by
  obtain ⟨b1, b2, b3⟩ := h
  refine ⟨sh_lst b1, by unfold toPy PyData.showable; exact b2, ?_⟩
  unfold toPy PyData.shown
  have e := listText_len_le (PyData.shownAll (toPyL ds))
  rw [PyData.shownAll_length, toPyL_lenR] at e
  omega
theorem shw_non {n : Nat} : Shw n 4 .non := ⟨sh_non, by unfold toPy PyData.showable; rfl, by unfold toPy PyData.shown; decide⟩
theorem shw_bl {n : Nat} {b : Bool} : Shw n 5 (.bl b) := ⟨sh_bl, by unfold toPy PyData.showable; rfl, by unfold toPy PyData.shown; cases b <;> decide⟩
theorem shw_int {n : Nat} {i : Int} (h : i.natAbs.log2 < 1920) : Shw n 1921 (.int i) := ⟨sh_int, by unfold toPy PyData.showable; exact decide_eq_true h, by unfold toPy PyData.shown; exact int_text_len_1921 h⟩
theorem shw_str {n : Nat} {l : List Nat} (h : small l = true) : Shw n (10 * l.length + 2) (.str l) := by
  refine ⟨sh_str h, by unfold toPy PyData.showable; rfl, ?_⟩
  unfold toPy PyData.shown
  refine Nat.le_trans (StrLaws.reprText_len _ fun c hc => ?_) (by simp [Str.length])
  have := of_decide_eq_true (List.all_eq_true.mp h c (by simpa using hc))
  omega
theorem Shw.mono {n n' m m' : Nat} {d : D} (h : Shw n m d) (e : n ≤ n') (e' : m ≤ m') : Shw n' m' d := ⟨h.1.mono e, h.2.1, Nat.le_trans h.2.2 e'⟩
theorem ShwL.mono {n m m' : Nat} {ds : List D} (h : ShwL n m ds) (e' : m ≤ m') : ShwL n m' ds := ⟨h.1, h.2.1, Nat.le_trans h.2.2 e'⟩
theorem shw_all {n m : Nat} : ∀ {ds : List D}, (∀ d ∈ ds, Shw n m d) → ShwL n ((m + 2) * ds.length) ds
  | [], _ => shw_nil
  | d :: ds, h => (shw_cons (h d (by simp)) (shw_all fun x hx => h x (by simp [hx]))).mono (by rw [List.length_cons, Nat.mul_add]; omega)
theorem Shw.show {n m : Nat} {d : D} (h : Shw n m d) (hn : n ≤ 60 := by decide) (hm : m ≤ 1000000 := by omega) : ShowD (toPy d) :=
  ⟨h.2.1, PyData.hasDict_of_canLay _ h.1.2.1, Nat.le_trans h.1.2.2 hn, Nat.le_trans h.2.2 hm⟩
/-- a raise may be handed such a tree -/
theorem prd_tup {n m : Nat} {ds : List D} (h : Shw n m (.tup ds)) (hn : n ≤ 60 := by decide) (hm : m ≤ 1000000 := by omega) : PrD (.tup ds) := .inr (.inr (.inr (.inr ⟨h.1.1, h.show hn hm, .inl ⟨ds, rfl⟩⟩)))
theorem prd_lst {n m : Nat} {ds : List D} (h : Shw n m (.lst ds)) (hn : n ≤ 60 := by decide) (hm : m ≤ 1000000 := by omega) : PrD (.lst ds) := .inr (.inr (.inr (.inr ⟨h.1.1, h.show hn hm, .inr (.inl ⟨ds, rfl⟩)⟩)))
def rRepr : RDC := fun xs C Q => ∃ x n m, xs = [x] ∧ Shw n m x ∧ n ≤ 60 ∧ m ≤ 1000000 ∧ Q (.str (reprD x)) C
theorem rep_str' {K : PySem.W.Frag} {cl : Nm} {F : Hp} (z : Str) : Rep K cl F (.str z) (.str z.cps.toList) := by
  have e : z = ⟨z.cps.toList.toArray⟩ := by simp
  have := Rep.str (K := K) (cl := cl) (F := F) z.cps.toList
  rw [← e] at this
  exact this
section
variable {X : Cx} {cl : NmB} {k : Nat}
theorem cd_repr (hg : X.A.guards = some []) (hu : X.A.units + 64 < cLine) : CallD X cl (.builtin "repr") rRepr := by
  intro pins s σ H xs us Q I r ⟨ds, C, F, Qd, R, rl, ⟨x, n, m, e, sh, hn, hm, q⟩, kq⟩
  subst e
  cases rl with
  | @cons v _ _ _ r1 rr =>
    cases rr
    cases r with
    | @cons _ u _ _ ru rr =>
      cases rr
      have sd := sh.show hn hm
      have fin : ∀ s', Inv X pins σ H s' → ∀ t, EP X pins σ Q (.str (toPy x).shown t) s' := fun s' I' t => ⟨.str (toPy x).shown, H, I', ⟨t, rfl⟩, kq _ _ C H F (Same.refl F) R (rep_str' _) q⟩
      have hd := Rep.dp (cl := nb cl.f) R.sub r1 sh.1.1
      have hz : (toPy x).shown.length ≤ sizeLine := szl (by have := sd.2.2.2; omega)
      obtain ⟨as, rd⟩ := Dp.reads I _ _ _ hd ru
      have whole : ∀ a, u = Value.ref a → wpAny (model X.prog X.w) X.A (call (.builtin "repr") [u]) (EP X pins σ Q) X.xe s := fun a e => by
        subst e
        exact repr_of_reads' rd sd.1 (fun z => by rw [sd.2.1] at z; cases z) hg (by have := sd.2.2.1; omega) (fun b o e => e) (fun h' t tk kp => fin _ (I.kept kp) t) hz
      cases r1 with
      | tup h1 h2 => exact whole _ ru
      | lst h1 h2 => exact whole _ ru
      | rol h1 h2 => exact whole _ ru
      | non =>
        obtain rfl : u = Value.none := ru
        have e : (toPy .non).shown = ("None" : Str) := by unfold toPy PyData.shown; rfl
        rw [e] at fin
        exact PySem.P.repr_of_none (fin _ (I.tok _) _)
      | bl b =>
        obtain rfl : u = Value.bool b := ru
        have e : (toPy (.bl b)).shown = (if b then ("True" : Str) else ("False" : Str)) := by unfold toPy PyData.shown; rfl
        rw [e] at fin
        exact PySem.P.repr_of_bool (fin _ (I.tok _) _)
      | int i =>
        obtain ⟨t, rfl⟩ := ru
        have e : (toPy (.int i)).shown = ((toString i : String) : Str) := by unfold toPy PyData.shown; rfl
        rw [e] at fin
        have hs := sd.1
        unfold toPy PyData.showable at hs
        exact PySem.P.repr_of_int (of_decide_eq_true hs) (fin _ (I.tok _) _)
      | str l =>
        obtain ⟨t, rfl⟩ := ru
        have e : (toPy (.str l)).shown = reprText ⟨l.toArray⟩ := by unfold toPy PyData.shown; rfl
        rw [e] at fin hz
        exact PySem.P.repr_of_str (fin _ (I.tok _) _) hz
      | ref a => have z := sh.1.1; unfold plain at z; cases z
      | ty n => have z := sh.1.1; unfold plain at z; cases z
      | cls c => have z := sh.1.1; unfold plain at z; cases z
      | dic h1 h2 => have z := sh.1.1; unfold plain at z; cases z
      | dct h1 h2 => have z := sh.1.1; unfold plain at z; cases z
      | ins h1 h2 => have z := sh.1.1; unfold plain at z; cases z
end
/-! ### == of any data, only the units told (in an except suite) -/
section
variable {X : Cx} {cl : NmB}
end
section
variable {C : Cl} {Q : DQ}
theorem v_repr {x : D} {n m : Nat} (h : Shw n m x) (hn : n ≤ 60) (hm : m ≤ 1000000) (q : Q (.str (reprD x)) C) : rRepr [x] C Q := ⟨x, n, m, rfl, h, hn, hm, q⟩
end
end G
set_option maxHeartbeats 1000000
namespace G
open PySem PySem.Spec PyProof.Rows L2
/-! ### str(o), o of an own class with __str__ -/
section
variable {X : Cx} {cl : NmB} {CX : CXT} {k : Nat} {g : Addr} {sp : DSp2} {c : String}
end
/-! ### in a suite: isinstance(e, (c1, c2)) -/
section
variable {X : Cx} {cl : NmB} {a dd : Addr} {oe : Obj} {pn : List (Addr × Obj)} {c : String} {fs : List (Str × V)} {ds : List (Str × D)} {e : Expr} {te : DE} {pos : Pos} {f : Str} {F0 : Hp}
end
/-! ### str of a text -/
end G
set_option maxHeartbeats 2000000
namespace G
open PySem PySem.Spec PyProof.Rows L2
/-! ### a lambda without parameters handed to a def that calls it -/
section
variable {X : Cx} {cl : NmB} {pins : List (Addr × Obj)} {σ : L2.St} {s : Shared}
end
section
variable {X : Cx} {cl : NmB}
end
/-! ### x op y, an own order that may raise -/
section
variable {X : Cx} {cl : NmB} {k : Nat} {g : Addr} {sp : DSp2} {c : String} {ta tb : DE} {a b : Expr} {pos : Pos} {Ex : DEnv → DX} {W : WX} {op : CmpOp}
end
end G
set_option maxHeartbeats 2000000
namespace G
open PySem PySem.Spec PyProof.Rows L2
/-! ### a lambda without parameters in a local, handed to a def that calls it; static methods that may raise -/
section
variable {X : Cx} {cl : NmB} {pins : List (Addr × Obj)} {σ : L2.St} {s : Shared}
end
section
variable {X : Cx} {cl : NmB}
end
/-! ### a, b, .. = a list of that length -/
section
variable {X : Cx} {cl : NmB} {pos : Pos}
end
/-! ### def f(a, .., *v) that may raise -/
end G
set_option maxHeartbeats 2000000
namespace G
open PySem PySem.Spec PyProof.Rows L2
/-! ### dicts of texts and numbers: list(d), walks, == -/
section
variable {X : Cx} {cl : NmB}
end
end G
set_option maxHeartbeats 2000000
namespace G
open PySem PySem.Spec PyProof.Rows L2
/-! ### dicts of texts and numbers that stand: locked for good, walked, their values, == -/
/-! walks -/
section
variable {X : Cx} {cl : NmB} {tg e : Expr} {te : DE} {pos p apos cpos : Pos}
/-! list(d.values()) -/
/-! == of dicts whose values are plain -/
end
end G
set_option maxHeartbeats 2000000
namespace G
open PySem PySem.Spec PyProof.Rows L2
/-! ### == of things with lists within that may change -/
section
variable {X : Cx} {cl : NmB}
end
end G
set_option maxHeartbeats 2000000
namespace G
open PySem PySem.Spec PyProof.Rows L2
/-! ### a comprehension in a comprehension -/
end G
set_option maxHeartbeats 2000000
namespace G
open PySem PySem.Spec PyProof.Rows L2
/-! ### words in capitals -/
end G
set_option maxHeartbeats 2000000
namespace G
open PySem PySem.Spec PyProof.Rows L2
/-! ### dicts that change, locked while they are walked -/
section
variable {X : Cx} {cl : NmB} {tg e : Expr} {te : DE}
end
end G
set_option maxHeartbeats 2000000
namespace G
open PySem PySem.Spec PyProof.Rows L2
/-! ### lists times numbers; own o[i] = v that may raise -/
def rRepL : RD2 := fun x y C Q => ∃ ds k, x = .lst ds ∧ y = .int k ∧ -(2 ^ 63) ≤ k ∧ k < 2 ^ 63 ∧ ds.length * k.toNat ≤ 1000000 ∧ Q (.lst (List.replicate k.toNat ds).flatten) C
theorem repL_rep {K : PySem.W.Frag} {cl : Nm} {F : Hp} {xs : List V} {ds : List D} (r : RepL K cl F xs ds) : ∀ n : Nat, RepL K cl F (List.replicate n xs).flatten (List.replicate n ds).flatten
  | 0 => .nil
  | n + 1 => by
    rw [List.replicate_succ, List.replicate_succ, List.flatten_cons, List.flatten_cons]
    exact r.append (repL_rep r n)
section
variable {X : Cx} {cl : NmB}
theorem od_repL : OpD X cl (binaryOp .Mult) rRepL := by
  intro pins s σ H x y v u Q I rx ry ⟨dx, dy, C, F, Qd, R, r1, r2, ⟨ds, k, e1, e2, h1, h2, hz, q⟩, kq⟩
  subst e1 e2
  cases r2
  cases r1 with
  | @lst _ xs _ hF rl =>
    refine op_rep pins s σ H _ _ v u Q I rx ry ⟨_, k, _, rfl, rfl, R.sub _ _ hF, h1, h2, ?_, fun p np => ?_⟩
    · rw [rl.length]
      exact Nat.le_trans hz (Nat.le_of_lt (Nat.lt_of_le_of_lt (Nat.le_refl 1000000) (by decide)))
    · have s2 := same_upd (o := .lst (List.replicate k.toNat xs).flatten) (R.freeF np)
      exact kq _ _ C _ _ s2 (R.new np) (.lst upd_same ((repL_rep rl k.toNat).mono s2)) q
end
section
variable {X : Cx} {cl : NmB} {k : Nat} {g : Addr} {sp : DSp2} {c : String} {to ti : DE} {o i : Expr} {pos : Pos} {Ex : DEnv → DX} {W : WX}
end
/-! zip(x, y), y may change later -/
section
variable {X : Cx} {cl : NmB} {tg e e2 : Expr} {t : DA} {p pos tpos : Pos} {elts : List Expr} {kk : Nat}
end
end G
set_option maxHeartbeats 1000000
namespace G
open PySem PySem.Spec PyProof.Rows L2
/-! ### list(range(n)) -/
section
variable {X : Cx} {cl : NmB} {a : Expr} {te : DE} {p p2 cpos pos : Pos}
end
/-! ### repr of a list that changes -/
section
variable {X : Cx} {cl : NmB} {k : Nat}
end
end G
set_option maxHeartbeats 4000000
namespace G
open PySem PySem.Spec PyProof.Rows L2
section
variable {X : Cx} {cl : NmB} {e : Expr} {te : DE} {p1 p2 pos : Pos} {j : Nat}
end
end G
set_option maxHeartbeats 4000000
namespace G
open PySem PySem.Spec PyProof.Rows L2
/-! ### {n:>6} for numbers of one digit -/
section
variable {X : Cx} {cl : NmB} {e : Expr} {te : DE} {p1 p2 pos : Pos} {j : Nat}
end
end G
set_option maxHeartbeats 1000000
namespace G
open PySem PySem.Spec PyProof.Rows L2
/-! ### str.ljust(n), str.rjust(n) -/
section
variable {X : Cx} {cl : NmB}
end
end G
set_option maxHeartbeats 4000000
namespace G
open PySem PySem.Spec PyProof.Rows L2
/-! ### str(n) of numbers of one digit -/
end G
set_option maxHeartbeats 2000000
namespace G
open PySem PySem.Spec PyProof.Rows L2
/-! ### x(e, ..), x an instance of an own class with __call__ -/
section
open PySem.W PySem.Calls
variable {M : Model} {A : Around} {E : Value → Shared → Prop} {s : Shared} {env : Env} {pos : Pos} {x : Addr} {first : List Value} {Q : Value → Shared → Prop}
end
section
variable {X : Cx} {cl : NmB} {CX : CXT} {k : Nat} {g : Addr} {sp : DSp2} {e : Expr} {es : List Expr} {to : DE} {t : DA} {pos p : Pos} {x : Str} {c : String} {Ex : DEnv → DX} {W : WX}
end
end G
set_option maxHeartbeats 2000000
namespace G
open PySem PySem.Spec PyProof.Rows L2
/-! ### def f(a, *, k = v, **rest), called with no further keyword: rest is a new empty dict -/
/-- looks at the keyword defaults, then what makes the dict -/
def KwT {α : Type} (D : Addr) : List (Str × Value) → Sem α → Sem α → Prop
  | [], t, T => t = T
  | q :: l, t, T => ∃ (β γ : Type) (k1 : Option Value → Sem β) (k2 : β → Sem γ) (k3 : γ → Sem α) (a : β), t = ((nsGet D q.1 >>= k1) >>= k2) >>= k3 ∧ k1 (some q.2) = pure a ∧ KwT D l (k2 a >>= k3) T
theorem KwT.run {α : Type} {K : PySem.W.Frag} {M : Model} {A : Around} {Q : α → Shared → Prop} {E : Value → Shared → Prop} {s : Shared} {D : Addr} (X : K.In s.heap) : ∀ {l : List (Str × Value)} {t T : Sem α}, (∀ q ∈ l, PySem.W.nsIn K D q.1 = some (some q.2)) → KwT D l t T → wpAny M A T Q E s → wpAny M A t Q E s
  | [], _, _, _, e, h => by subst e; exact h
  | q :: l, t, T, hl, e, h => by
    obtain ⟨β, γ, k1, k2, k3, a, e1, e2, e3⟩ := e
    have l1 : PySem.W.Looks M s.heap (nsGet D q.1 >>= k1) a := (PySem.W.looks_nsIn X (hl q (.head _))).andThen (PySem.W.Looks.of_pure e2)
    rw [e1, bind_assoc]
    exact wpAny_bind (l1.here (KwT.run X (fun p hp => hl p (.tail _ hp)) e3 h))
section
variable {P : Program} {w : World} {K : PySem.W.Frag} {cl : Nm} {mg : Str → Option Value} {base : Heap} {k n : Nat} {f : Addr} {fd : FuncData} {ps ks N : List Str} {sp : DSp}
end
end G
set_option maxHeartbeats 2000000
namespace G
open PySem PySem.Spec PyProof.Rows L2
/-! ### dict(d), xs.extend(ys) -/
section
variable {X : Cx} {cl : NmB}
end
end G
set_option maxHeartbeats 4000000
namespace G
open PySem PySem.Spec PyProof.Rows L2
/-! ### list(range(a, b)) -/
section
variable {X : Cx} {cl : NmB} {a b : Expr} {ta tb : DE} {p p2 cpos pos : Pos}
end
end G
set_option maxHeartbeats 4000000
namespace G
open PySem PySem.Spec PyProof.Rows L2
/-! ### raise X(..) from Y(..), where no exception is being handled -/
section
variable {X : Cx} {cl : NmB} {k : Nat} {fI : Addr} {fd : FuncData} {ps fs : List Str} {c : String} {e : Expr} {es : List Expr} {t : DA} {x : Str} {p pos pos2 : Pos} {Ex : DEnv → DX} {W : WX}
end
end G
set_option maxHeartbeats 2000000
namespace G
open PySem PySem.Spec PyProof.Rows L2
/-! ### bs.index(False), bs a list of truth values -/
end G
set_option maxHeartbeats 4000000
namespace G
open PySem PySem.Spec PyProof.Rows L2
/-! ### an exception that leaves from inside a list comprehension -/
section
variable {X : Cx} {pins : List (Addr × Obj)} {σ : L2.St} {H : Hp} {s s' : Shared} {W : WX} {E : XK}
end
/-- the same context, another wish about what leaves -/
abbrev Cx.wish (X : Cx) (xe : Value → Shared → Prop) : Cx := { X with xe := xe }
section
variable {X : Cx} {pos pos' : Pos}
end
end G
set_option maxHeartbeats 4000000
namespace G
open PySem PySem.Spec PyProof.Rows L2
/-! ### comprehensions whose element may raise: readings -/
section
variable {X : Cx} {cl : NmB} {pos : Pos} {vs : List Nat} {tg elt iter : Expr} {ifs : List Expr} {scope : Scope} {own : List (Str × Nat)} {g : DG} {tt : DT} {te : (DEnv → DX) → DE} {Ex : DEnv → DX} {W : WX}
end
section
variable {X : Cx} {cl : NmB} {k : Nat} {g : Addr} {ks : List Str} {sp : DSp2} {e o : Expr} {es : List Expr} {kws : List Keyword} {to : DE} {t tk : DA} {pos apos p : Pos} {x m : Str} {c : String} {te : DE} {Ex : DEnv → DX} {W : WX}
end
section
variable {P : Program} {w : World} {K : PySem.W.Frag} {mg : Str → Option Value} {base : Heap} {q : Str} {st : Stmt} {f : Addr} {fd : FuncData} {k : Nat} {C : Addr}
theorem exd_over {H : Hp} {a dx : Addr} {o : HO} {fs gs : List (Str × V)} (n : dx ≠ a) : upd (upd (upd H dx (exd dx fs)) a o) dx (exd dx gs) = upd (upd H dx (exd dx gs)) a o := by
  funext b
  by_cases h : b = dx
  · rw [h, upd_same, upd_ne n, upd_same]
  · rw [upd_ne h]
    by_cases z : b = a
    · rw [z, upd_same, upd_same]
    · rw [upd_ne z, upd_ne z, upd_ne h, upd_ne h]
/-- an own __init__ with three fields -/
theorem xi_3 {N : List Str} {n1 n2 n3 f1 f2 f3 : Str} {ts : List TE} (Fu : Fun K "__init__" q st f fd) (S : FnScope N ["self", n1, n2, n3] (defScope st)) (hN : N = (["self", n1, n2, n3] : List Str))
    (hts : ∀ (σ : L2.St) (H : Hp) (y1 y2 y3 : V), σ[1]? = some (some y1) → PrV K H y1 → σ[2]? = some (some y2) → PrV K H y2 → σ[3]? = some (some y3) → PrV K H y3 → ∀ t ∈ ts, Pl σ H t) (hl : ts.length ≤ 16)
    (body : ∀ (cdv : Value) (A : Around) (outer : List Env) (s : Shared) (H : Hp) (E : XK), Room k (A.deeper (envOfC q (defScope st) s.heap.objs.size f cdv)) → PSs (cxOf CX0 P w K mg base N q (defScope st) f cdv A outer s H E).nox (defBody st)
      (tXi K ts (tSeq (tOst K f1 (tVar 0) (tVar 1)) (tSeq (tOst K f2 (tVar 0) (tVar 2)) (tSeq (tOst K f3 (tVar 0) (tVar 3)) tNext))))) :
    FnOk P w K mg base CX0 (k + 1) f fd ["self", n1, n2, n3] (spXi K C [f1, f2, f3]) := by
  subst hN
  refine funOk Fu S (fun vs H Q E ⟨a, ys, e, l, _⟩ => by rw [e, List.length_cons, l]; rfl) fun cdv A outer s H vs Q E hr ⟨a, ys, e, l, T, nf, ha, pr, hq⟩ => ⟨_, body cdv A outer s H E hr, ?_⟩
  subst e
  match ys, l with
  | [y1, y2, y3], _ =>
    have h0 : (start (["self", n1, n2, n3] : List Str) [V.ref a, y1, y2, y3])[0]? = some (some (V.ref a)) := rfl
    have h1 : (start (["self", n1, n2, n3] : List Str) [V.ref a, y1, y2, y3])[1]? = some (some y1) := rfl
    have h2 : (start (["self", n1, n2, n3] : List Str) [V.ref a, y1, y2, y3])[2]? = some (some y2) := rfl
    have h3 : (start (["self", n1, n2, n3] : List Str) [V.ref a, y1, y2, y3])[3]? = some (some y3) := rfl
    refine ⟨_, h0, js_pl (fun out => ?_) ts Str.empty (hts _ _ y1 y2 y3 h1 (pr y1 (by simp)) h2 (pr y2 (by simp)) h3 (pr y3 (by simp))) (by show 0 + _ ≤ _; omega)⟩
    refine ⟨a, C, [.str out], rfl, by show (1 : Nat) ≤ 1000; decide, T, ha, ?_⟩
    refine ⟨y1, h1, _, h0, a, C, rfl, T, nf f1 (by simp), .inl ⟨ha, fun dx m1 m2 => ?_⟩⟩
    refine ⟨y2, h2, _, h0, a, C, rfl, T, nf f2 (by simp), .inr ⟨dx, [(f1, y1)], upd_same, by rw [upd_ne m2, upd_same], by show (1 : Nat) ≤ 900; decide, ?_⟩⟩
    rw [exd_over m2]
    refine ⟨y3, h3, _, h0, a, C, rfl, T, nf f3 (by simp), .inr ⟨dx, [(f2, y2), (f1, y1)], upd_same, by rw [upd_ne m2, upd_same], by show (2 : Nat) ≤ 900; decide, ?_⟩⟩
    rw [exd_over m2]
    exact hq dx m1 m2
end
end G
set_option maxHeartbeats 4000000
namespace G
open PySem PySem.Spec PyProof.Rows L2
/-! ### def f(a, *, k = v, **rest), called with further keywords -/
abbrev keyS (x : Str) : Key := .inr x
section
variable {P : Program} {w : World} {K : PySem.W.Frag} {mg : Str → Option Value} {base : Heap} {outer : List Env} {s : Shared} {H : Hp} {A : Around}
end
section
variable {P : Program} {w : World} {K : PySem.W.Frag} {cl : Nm} {mg : Str → Option Value} {base : Heap} {k n : Nat} {f : Addr} {fd : FuncData} {ps ks N : List Str} {sp : DSp}
end
end G
set_option maxHeartbeats 4000000
namespace G
open PySem PySem.Spec PyProof.Rows L2
/-! ### d.get(k) -/
def dGet1K (to tk : DE) : DE := fun ρ C Q => to ρ C fun x C1 => (∃ kvs, dicOf C1 x = some kvs) ∧ tk ρ C1 fun y C2 => ∃ kvs k, dicOf C2 x = some kvs ∧ keyD y = some k ∧ Q ((valD kvs k).getD .non) C2
section
variable {X : Cx} {cl : NmB} {n : Nat} {o e : Expr} {apos cpos : Pos} {to tk : DE}
end
theorem v_get1 {to tk : DE} {ρ : DEnv} {C : Cl} {Q : DQ} (h : to ρ C fun x C1 => (∃ kvs, dicOf C1 x = some kvs) ∧ tk ρ C1 fun y C2 => ∃ kvs k, dicOf C2 x = some kvs ∧ keyD y = some k ∧ Q ((valD kvs k).getD .non) C2) : dGet1K to tk ρ C Q := h
--@ v_get1 ?_
end G
set_option maxHeartbeats 4000000
namespace G
open PySem PySem.Spec PyProof.Rows L2
/-! ### {"a": x, "b": y} -/
abbrev DP := DEnv → Cl → (List (Key × D) → Cl → Prop) → Prop
def dPnil : DP := fun _ C R => R [] C
def dPcons (k : Str) (tv : DE) (r : DP) : DP := fun ρ C R => tv ρ C fun v C1 => r ρ C1 fun kvs C2 => R ((keyS k, v) :: kvs) C2
def dDictD (t : DP) : DE := fun ρ C Q => ∀ p, C p = none → t ρ (updC C p (.dic [])) fun kvs C2 => C2 p = some (.dic []) ∧ (kvs.map (·.1)).Nodup ∧ kvs.length ≤ 15 ∧ Q (.ref p) (updC C2 p (.dic kvs))
section
variable {X : Cx} {cl : NmB} {pos : Pos}
end
theorem v_dictD {t : DP} {ρ : DEnv} {C : Cl} {Q : DQ} (h : ∀ p, C p = none → t ρ (updC C p (.dic [])) fun kvs C2 => C2 p = some (.dic []) ∧ (kvs.map (·.1)).Nodup ∧ kvs.length ≤ 15 ∧ Q (.ref p) (updC C2 p (.dic kvs))) : dDictD t ρ C Q := h
theorem v_pcons {k : Str} {tv : DE} {r : DP} {ρ : DEnv} {C : Cl} {R : List (Key × D) → Cl → Prop} (h : tv ρ C fun v C1 => r ρ C1 fun kvs C2 => R ((keyS k, v) :: kvs) C2) : dPcons k tv r ρ C R := h
theorem v_pnil {ρ : DEnv} {C : Cl} {R : List (Key × D) → Cl → Prop} (h : R [] C) : dPnil ρ C R := h
--@ v_dictD ?_
--@ v_pcons ?_
--@ v_pnil ?_
end G
set_option maxHeartbeats 4000000
namespace G
open PySem PySem.Spec PyProof.Rows L2
/-! ### try: body, except c: suite (without a name) -/
def dCatchN (cs : List (String × Bool)) (ts : Addr → String → List (Str × D) → DS) (Ex : DEnv → DX) (D : DEnds) : DEnv → DX := fun ρ' c ds C' => ∃ b, cs.lookup c = some b ∧
    if b = true then ∀ a, C' a = none → ts a c ds D ρ' C' else Ex ρ' c ds C'
def dTryN (cs : List (String × Bool)) (tb : (DEnv → DX) → DS) (ts : Addr → String → List (Str × D) → DS) (Ex : DEnv → DX) : DS := fun D ρ C => tb (dCatchN cs ts Ex D) D ρ C
section
variable {X : Cx} {cl : NmB} {x : Str} {cx : String} {cs : List (String × Bool)} {body suite : List Stmt} {b₀ : Stmt} {np pos pos' : Pos} {tb : (DEnv → DX) → DS} {ts : Addr → String → List (Str × D) → DS} {Ex : DEnv → DX} {W : WX}
end
theorem v_tryN {cs : List (String × Bool)} {tb : (DEnv → DX) → DS} {ts : Addr → String → List (Str × D) → DS} {Ex : DEnv → DX} {ρ : DEnv} {C : Cl} {Dd : DEnds} (h : tb (dCatchN cs ts Ex Dd) Dd ρ C) : dTryN cs tb ts Ex Dd ρ C := h
--@ v_tryN ?_
end G
set_option maxHeartbeats 4000000
namespace G
open PySem PySem.Spec PyProof.Rows L2
/-! ### a class's constant, asked of an instance -/
section
variable {X : Cx} {cl : NmB} {e : Expr} {te : DE} {pos : Pos} {f : Str} {c : String} {ρ : DEnv} {C : Cl} {Q : DQ}
def dCon (c : String) (te : DE) (f : Str) (d : D) : DE := fun ρ C Q => te ρ C fun x C1 => ∃ fs, insOf C1 x = some (c, fs) ∧ fs.lookup f = none ∧ Q d C1
theorem v_con {d : D} (h : te ρ C fun x C1 => ∃ fs, insOf C1 x = some (c, fs) ∧ fs.lookup f = none ∧ Q d C1) : dCon c te f d ρ C Q := h
end
--@ v_con ?_
end G
set_option maxHeartbeats 4000000
namespace HT
open PySem PySem.Spec PyProof.Rows
section
variable {prog : Program} {w : World} {A : Around} {E : Value → Shared → Prop} {s : Shared}
end
end HT
namespace L2
open PySem PySem.Spec PyProof.Rows
variable {X : Cx}
end L2
namespace G
open PySem PySem.Spec PyProof.Rows L2
section
variable {X : Cx} {cl : NmB} {e : Expr} {te : DE} {pos : Pos}
end
end G
set_option maxHeartbeats 4000000
namespace G
open PySem PySem.Spec PyProof.Rows L2
/-! ### own [], instances left alone -/
section
variable {X : Cx} {cl : NmB} {CX : CXT} {k : Nat} {g : Addr} {sp : DSp2} {c : String}
end
/-! ### in a dict, as a test -/
section
variable {X : Cx} {cl : NmB} {o i e f : Expr} {es : List Expr} {to tk tv tx : DE} {t : DA} {pos pos' kpos apos cpos : Pos} {kk : Nat} {n : Nat}
end
end G
namespace G
open PySem PySem.Spec PyProof.Rows L2
/-! ### x in a list of plain things of any depth -/
section
variable {X : Cx} {cl : NmB} {n : Nat}
end
end G
set_option maxHeartbeats 4000000
namespace G
open PySem PySem.Spec PyProof.Rows L2
/-! ### x in a tuple of plain things of any depth -/
section
variable {X : Cx} {cl : NmB} {n : Nat}
end
end G
set_option maxHeartbeats 4000000
namespace G
open PySem PySem.Spec PyProof.Rows L2
/-! ### len of a dict -/
section
variable {X : Cx} {cl : NmB}
end
end G
set_option maxHeartbeats 4000000
namespace G
open PySem PySem.Spec PyProof.Rows L2
/-! ### {k: v for x in xs} -/
section
variable {X : Cx} {cl : NmB} {pos : Pos} {vs : List Nat}
end
end G
set_option maxHeartbeats 4000000
namespace G
open PySem PySem.Spec PyProof.Rows L2
/-! ### str of a number, int of a text, zfill -/
section
variable {X : Cx} {cl : NmB}
end
end G
set_option maxHeartbeats 4000000
namespace G
open PySem PySem.Spec PyProof.Rows L2
/-! ### a dict that stands as soon as it is there; sum of a list of numbers -/
section
variable {X : Cx} {cl : NmB} {e : Expr} {te : DE}
end
end G
set_option maxHeartbeats 1000000
namespace G
open PySem PySem.Spec PyProof.Rows L2
/-! ### exceptions as values -/
section
variable {X : Cx} {cl : NmB} {k : Nat} {fI : Addr} {fd : FuncData} {ps fs : List Str} {c : String} {e : Expr} {es : List Expr} {t : DA} {x : Str} {p pos : Pos}
/-- c(e, ..) as a value, c an own exception over ValueError -/
theorem pe_exv {CX : CXT} {C : Addr} {sp : Sp} {ta : TA} (T : OexC X.K C) (iC : PySem.W.findIn X.K (.ref C) "__init__" = some (some (.ref fI))) (tI : PySem.W.typeIn X.K (.ref fI) = some (.type "function"))
    (F1 : FnOk X.prog X.w X.K X.mg X.base CX k fI fd ps sp) (hr : Room (k + 1) X.A) (hb : Binds X.K fd ps []) (hx : Passes CX X (fun _ _ _ => False)) (hg : Gl X x) (hm : X.mg x = some (.ref C)) (ha : PA X (e :: es) ta)
    (hdb : (x == ("__debug__" : Str)) = false) (he : starEach (e :: es) X.env = (false, eval e X.env) :: starEach es X.env) (hpl : (backTo pos (starEach es X.env)).any (·.1) = false) :
    PE X (.Call (.Name x p) (e :: es) [] pos) (fun σ H Q => ta σ H fun vs H1 => vs.length ≤ 1000 ∧ ∀ a, H1 a = none → sp (.ref a :: vs) (upd H1 a (exo a C none)) (fun v H2 => v = .non ∧ Q (.ref a) H2) fun _ _ _ => False) := by
  refine ⟨fun pins s σ H Q I h => ?_⟩
  obtain ⟨nm, q, N, bs, bm, sn, sub, ab, col, dd, k0, k1, k2, k3, k5, hC, hbm⟩ := T.cls
  refine wpAny_Call_Name_kw (ld_glob I hg hm ?_ hdb)
  refine PySem.W.callWith_K (h₀ := X.base) I.ok.mod.kin T.kC (thn (ha.run pos pins s σ H _ I h) fun us s1 ⟨vs, H1, I1, r1, hz, q1⟩ => ⟨I1.kIn, ?_⟩) he hpl
  show wpAny _ _ (call (.ref C) us) _ _ _
  obtain ⟨hp, g, dr, tk, os⟩ := s1
  generalize hA : hp.objs.size + 1 = A0
  have big : hp.objs.size ≤ A0 := by omega
  have free : H1 A0 = none := I1.hok.fresh big
  have hq := q1 A0 free
  generalize hh : (hp.push (PySem.W.kdv_tup us)).push (PySem.HandSPX.excO C hp.objs.size) = h2
  have keep : ∀ b o, hp.get? b = some o → h2.get? b = some o := fun b o e => by rw [← hh]; exact Heap.get?_push_of_some _ (Heap.get?_push_of_some _ e)
  have hget : h2.get? A0 = some (PySem.HandSPX.excO C hp.objs.size) := by subst hh hA; heap_get
  have I2 : Inv X pins σ (upd H1 A0 (exo A0 C none)) ⟨h2, g, dr, tk, os⟩ := I1.laid (t' := tk) (a := A0) (o := exo A0 C none) (h' := h2) keep big (exo_ok hget)
  have r2 : Vals (V.ref A0 :: vs) (Value.ref A0 :: us) := .cons rfl r1
  have hl : (Value.ref A0 :: us).length = ps.length := r2.length.symm.trans (F1.len _ _ _ _ hq)
  have hus : us.length ≤ sizeLine := by
    have := r1.length
    rw [sizeLine_eq]
    omega
  have b := hb ⟨h2, g, dr, tk, os⟩ (Value.ref A0 :: us) I2.kIn (by rw [List.append_nil]; exact hl)
  rw [List.append_nil] at b
  have run := F1.run _ X.stack _ _ ⟨Value.ref A0 :: us, []⟩ (Value.ref A0 :: us) _ _ (fun _ _ _ => False) (hr.make C us []) (I2.env0.make C us []) b r2 hq
  subst hA hh
  refine wpAny_call (PySem.HandSPX.call_own F.excBase_ValueError (fun Y => PySem.HandSPX.refsVE_contains Y bm hbm) (I1.kIn _ _ hC) (PySem.W.looks_findIn I1.kIn iC) (fun self => PySem.W.bind_fn I1.kIn self tI) hus (codeAny_mono run fun r s' hq' => ?_))
  cases r with
  | error er => exact hx pins σ _ _ er s' I2 hq'
  | ok fl =>
    cases fl with
    | ret u =>
      obtain ⟨v, H2, os2, bare2, un2, hok2, rv, ev, q2⟩ := hq'
      subst ev
      exact ⟨rv, .ref _, H2, I2.call' (ch := []) os2 un2 hok2 bare2 (fun b z => by simp at z), rfl, q2⟩
    | next => exact hq'.elim
    | brk => exact hq'.elim
    | cont => exact hq'.elim
end
end G
set_option maxHeartbeats 1000000
namespace G
open PySem PySem.Spec PyProof.Rows L2
/-! ### exceptions as values: what is asked of them -/
theorem exheap2 {H : Hp} {a dx : Addr} {o o2 u : HO} (hd : dx ≠ a) : upd (upd (upd H a o) dx u) a o2 = upd (upd H dx u) a o2 := by
  funext b
  by_cases z : b = a
  · subst z; rw [upd_same, upd_same]
  · rw [upd_ne z, upd_ne z]
    by_cases h : b = dx
    · subst h; rw [upd_same, upd_same]
    · rw [upd_ne h, upd_ne h, upd_ne z]
/-- c(e, ..) as a value -/
def dExV (c : String) (fs : List Str) (t : DA) : DE := fun ρ C Q => t ρ C fun xs C1 => xs.length = fs.length ∧ xs.length ≤ 900 ∧ (∀ x ∈ xs, PrD x) ∧ ∀ a, C1 a = none → Q (.ref a) (updC C1 a (.exc a c (fs.zip xs).reverse))
/-- o.f, o such a value -/
def dExF (f : Str) (cs : List String) (te : DE) : DE := fun ρ C Q => te ρ C fun x C1 => ∃ a c fs v, x = .ref a ∧ C1 a = some (.exc a c fs) ∧ c ∈ cs ∧ fs.lookup f = some v ∧ Q v C1
/-- isinstance(o, c), o such a value; tb: the answers by its class -/
def dExI (tb : List (String × Bool)) (te : DE) : DE := fun ρ C Q => te ρ C fun x C1 => ∃ a c fs b, x = .ref a ∧ C1 a = some (.exc a c fs) ∧ tb.lookup c = some b ∧ Q (.bl b) C1
section
variable {X : Cx} {cl : NmB} {k : Nat} {fI : Addr} {fd : FuncData} {ps fs : List Str} {c : String} {e : Expr} {es : List Expr} {t : DA} {x : Str} {p pos : Pos}
/-- c(e, ..) as a value, c an own exception over LookupError -/
theorem pe_exvL {CX : CXT} {C : Addr} {sp : Sp} {ta : TA} (T : OexL X.K C) (iC : PySem.W.findIn X.K (.ref C) "__init__" = some (some (.ref fI))) (tI : PySem.W.typeIn X.K (.ref fI) = some (.type "function"))
    (F1 : FnOk X.prog X.w X.K X.mg X.base CX k fI fd ps sp) (hr : Room (k + 1) X.A) (hb : Binds X.K fd ps []) (hx : Passes CX X (fun _ _ _ => False)) (hg : Gl X x) (hm : X.mg x = some (.ref C)) (ha : PA X (e :: es) ta)
    (hdb : (x == ("__debug__" : Str)) = false) (he : starEach (e :: es) X.env = (false, eval e X.env) :: starEach es X.env) (hpl : (backTo pos (starEach es X.env)).any (·.1) = false) :
    PE X (.Call (.Name x p) (e :: es) [] pos) (fun σ H Q => ta σ H fun vs H1 => vs.length ≤ 1000 ∧ ∀ a, H1 a = none → sp (.ref a :: vs) (upd H1 a (exo a C none)) (fun v H2 => v = .non ∧ Q (.ref a) H2) fun _ _ _ => False) := by
  refine ⟨fun pins s σ H Q I h => ?_⟩
  refine wpAny_Call_Name_kw (ld_glob I hg hm ?_ hdb)
  refine PySem.W.callWith_K (h₀ := X.base) I.ok.mod.kin T.kC (thn (ha.run pos pins s σ H _ I h) fun us s1 ⟨vs, H1, I1, r1, hz, q1⟩ => ⟨I1.kIn, ?_⟩) he hpl
  show wpAny _ _ (call (.ref C) us) _ _ _
  obtain ⟨nm, N, qn, bs, bm, hdct, sn, sub, ab, col, dd, k0, k1, k2, k3, k5, hC, hT⟩ := PySem.W.excInit_of I1.kIn T.q
  obtain ⟨hp, g, dr, tk, os⟩ := s1
  have hsz : hp.objs.size ≤ hp.objs.size + 1 := Nat.le_succ _
  have hn : H1 (hp.objs.size + 1) = none := I1.hok.fresh hsz
  have hq := q1 (hp.objs.size + 1) hn
  have kk : ∀ b o, hp.get? b = some o → ((hp.push (PySem.W.kdv_tup us)).push (PySem.HandSPX.excO C hp.objs.size)).get? b = some o := fun b o e => Heap.get?_push_of_some _ (Heap.get?_push_of_some _ e)
  have hget : ((hp.push (PySem.W.kdv_tup us)).push (PySem.HandSPX.excO C hp.objs.size)).get? (hp.objs.size + 1) = some (PySem.HandSPX.excO C hp.objs.size) := by heap_get
  have I2 : L2.Inv X pins σ (upd H1 (hp.objs.size + 1) (exo (hp.objs.size + 1) C none)) ⟨(hp.push (PySem.W.kdv_tup us)).push (PySem.HandSPX.excO C hp.objs.size), g, dr, tk, os⟩ :=
    I1.laid (t' := tk) (a := hp.objs.size + 1) (o := exo (hp.objs.size + 1) C none) (h' := (hp.push (PySem.W.kdv_tup us)).push (PySem.HandSPX.excO C hp.objs.size)) kk hsz (exo_ok hget)
  have r2 : Vals (V.ref (hp.objs.size + 1) :: vs) (Value.ref (hp.objs.size + 1) :: us) := .cons rfl r1
  have hl : (Value.ref (hp.objs.size + 1) :: us).length = ps.length := by
    have e := r2.length
    rw [F1.len _ _ _ _ hq] at e
    exact e.symm
  have hus : us.length ≤ sizeLine := by
    rw [← Paired.length r1, sizeLine_eq]
    omega
  have b := hb ⟨(hp.push (PySem.W.kdv_tup us)).push (PySem.HandSPX.excO C hp.objs.size), g, dr, tk, os⟩ (Value.ref (hp.objs.size + 1) :: us) I2.kIn (by rw [List.append_nil]; exact hl)
  rw [List.append_nil] at b
  refine wpAny_call (PySem.HandSPX.call_own PySem.F.excBase_LookupError hT hC (PySem.W.looks_findIn I1.kIn iC) (fun self => PySem.W.bind_fn I1.kIn self tI) hus
    (codeAny_mono (F1.run _ X.stack _ _ ⟨Value.ref (hp.objs.size + 1) :: us, []⟩ (Value.ref (hp.objs.size + 1) :: us) _ _ (fun _ _ _ => False) (hr.make C us []) (I2.env0.make C us []) b r2 hq) fun r s' hq' => ?_))
  cases r with
  | error er => exact hx pins σ _ _ er s' I2 hq'
  | ok fl =>
    cases fl with
    | ret u =>
      obtain ⟨v, H2, os2, bare2, un2, hok2, rv, ev, q2⟩ := hq'
      subst ev
      exact ⟨rv, .ref _, H2, I2.call' (ch := []) os2 un2 hok2 bare2 (fun b z => by simp at z), rfl, q2⟩
    | next => exact hq'.elim
    | brk => exact hq'.elim
    | cont => exact hq'.elim
theorem de_exv (T : OexC X.K (cl c)) (iC : PySem.W.findIn X.K (.ref (cl c)) "__init__" = some (some (.ref fI))) (tI : PySem.W.typeIn X.K (.ref fI) = some (.type "function")) (nf : ∀ f ∈ fs, PySem.W.findIn X.K (.ref (cl c)) f = some none)
    (F1 : FnOk X.prog X.w X.K X.mg X.base CX0 k fI fd ps (spXi X.K (cl c) fs)) (hr : Room (k + 1) X.A) (hb : Binds X.K fd ps []) (hm : X.mg x = some (.ref (cl c))) (ha : PAd X cl (e :: es) t) (hg : Gl X x := by rfl)
    (hdb : (x == ("__debug__" : Str)) = false := by decide) (he : starEach (e :: es) X.env = (false, eval e X.env) :: starEach es X.env := by rfl) (hpl : (backTo pos (starEach es X.env)).any (·.1) = false := by rfl) :
    PEd X cl (.Call (.Name x p) (e :: es) [] pos) (dExV c fs t) := by
  refine weakE (pe_exv T iC tI F1 hr hb pass0 hg hm ha hdb he hpl) fun σ H Q ⟨ρ, C, F, Qd, R, h, k⟩ => ?_
  refine ⟨ρ, C, F, _, R, h, fun vs ds C1 H1 F1 s1 R1 r1 ⟨l1, l2, pr, hx⟩ => ⟨by rw [r1.length]; omega, fun a na => ⟨a, vs, rfl, by rw [r1.length, l1], T, nf, upd_same, prv_of (R1.sub.trans (same_upd na)) r1 pr, fun dx hd hda => ?_⟩⟩⟩
  have hd1 : H1 dx = none := by rw [upd_ne hda] at hd; exact hd
  refine ⟨rfl, ?_⟩
  rw [exheap2 hda]
  have fd : F1 dx = none := R1.freeF hd1
  have R2 : RC X.K cl C1 (upd F1 dx (exd dx (fs.zip vs).reverse)) (upd H1 dx (exd dx (fs.zip vs).reverse)) := R1.new hd1
  have na2 : upd H1 dx (exd dx (fs.zip vs).reverse) a = none := by rw [upd_ne (Ne.symm hda)]; exact na
  have ca : C1 a = none := R1.freeC na
  exact k _ _ _ _ _ (s1.trans (same_upd fd)) (R2.cell na2 (.exc upd_same ((RepF.zip fs r1).reverse.mono (same_upd fd)))) (.ref a) (hx a ca)
theorem de_exvL {f : Str} (T : OexL X.K (cl c)) (iC : PySem.W.findIn X.K (.ref (cl c)) "__init__" = some (some (.ref fI))) (tI : PySem.W.typeIn X.K (.ref fI) = some (.type "function")) (nf : ∀ g ∈ [f], PySem.W.findIn X.K (.ref (cl c)) g = some none)
    (F1 : FnOk X.prog X.w X.K X.mg X.base CX0 k fI fd ps (spXl X.K (cl c) f)) (hr : Room (k + 1) X.A) (hb : Binds X.K fd ps []) (hm : X.mg x = some (.ref (cl c))) (ha : PAd X cl (e :: es) t) (hg : Gl X x := by rfl)
    (hdb : (x == ("__debug__" : Str)) = false := by decide) (he : starEach (e :: es) X.env = (false, eval e X.env) :: starEach es X.env := by rfl) (hpl : (backTo pos (starEach es X.env)).any (·.1) = false := by rfl) :
    PEd X cl (.Call (.Name x p) (e :: es) [] pos) (dExV c [f] t) := by
  refine weakE (pe_exvL T iC tI F1 hr hb pass0 hg hm ha hdb he hpl) fun σ H Q ⟨ρ, C, F, Qd, R, h, k⟩ => ?_
  refine ⟨ρ, C, F, _, R, h, fun vs ds C1 H1 F1 s1 R1 r1 ⟨l1, l2, pr, hx⟩ => ⟨by rw [r1.length]; omega, fun a na => ?_⟩⟩
  have hv := prv_of (R1.sub.trans (same_upd (o := exo a (cl c) none) na)) r1 pr
  obtain ⟨y, rfl⟩ := List.length_eq_one_iff.mp (r1.length.trans l1)
  obtain ⟨d, rfl⟩ := List.length_eq_one_iff.mp l1
  refine ⟨a, y, rfl, T, nf f List.mem_cons_self, upd_same, hv y List.mem_cons_self, fun dx hd hda => ?_⟩
  have hd1 : H1 dx = none := by rw [upd_ne hda] at hd; exact hd
  refine ⟨rfl, ?_⟩
  rw [exheap2 hda]
  have fd : F1 dx = none := R1.freeF hd1
  have R2 : RC X.K cl C1 (upd F1 dx (exd dx [(f, y)])) (upd H1 dx (exd dx [(f, y)])) := R1.new hd1
  have na2 : upd H1 dx (exd dx [(f, y)]) a = none := by rw [upd_ne (Ne.symm hda)]; exact na
  have ca : C1 a = none := R1.freeC na
  cases r1 with
  | cons r0 rn =>
    exact k _ _ _ _ _ (s1.trans (same_upd fd)) (R2.cell na2 (.exc upd_same (.cons (r0.mono (same_upd fd)) .nil))) (.ref a) (hx a ca)
/-- what stands at such a value's place -/
theorem cell_exc {C : Cl} {F H : Hp} {a b : Addr} {c : String} {ds : List (Str × D)} (R : RC X.K cl C F H) (h : C a = some (.exc b c ds)) : ∃ d fs, H a = some (exo b (cl c) (some d)) ∧ F d = some (exd d fs) ∧ RepF X.K cl F fs ds := by
  obtain ⟨_, o, ho, r⟩ := R.cel a _ h
  cases r with
  | exc h1 h2 => exact ⟨_, _, ho, h1, h2⟩
theorem inst_exc {pins : List (Addr × Obj)} {σ : L2.St} {H : Hp} {s : Shared} {a D d : Addr} {fs : List (Str × V)} (I : Inv X pins σ H s) (ha : H a = some (exo a D (some d))) (hd : H d = some (exd d fs)) :
    ∃ o od, ∃ mA : Str → Option Value, PySem.W.InstAt s.heap a o D (some od) ∧ (∀ f, PySem.W.lookIn f od = some (mA f)) ∧ ∀ f, RelO (fs.lookup f) (mA f) := by
  obtain ⟨t1, hget⟩ := exo_at I.hok ha
  obtain ⟨mA, hns, hr⟩ := exd_at I.hok hd
  obtain ⟨od, ho, hl⟩ := lookIn_ns hns
  exact ⟨_, od, mA, ⟨hget, rfl, by unfold PySem.W.notCls; rfl, by exact ho⟩, hl, hr⟩
/-- what the text tells of the classes whose values' field f is read -/
def ExfOk (K : PySem.W.Frag) (cl : Nm) (f : Str) (cs : List String) : Prop := ∀ c ∈ cs, XfC K (cl c) ∧ PySem.W.findIn K (.ref (cl c)) f = some none
theorem exf_nil {K : PySem.W.Frag} {cl : Nm} {f : Str} : ExfOk K cl f [] := nofun
theorem exf_cons {K : PySem.W.Frag} {cl : Nm} {f : Str} {c : String} {cs : List String} (h1 : XfC K (cl c)) (h2 : PySem.W.findIn K (.ref (cl c)) f = some none) (h : ExfOk K cl f cs) : ExfOk K cl f (c :: cs) := fun z hz => by
  rcases List.mem_cons.mp hz with rfl | e
  · exact ⟨h1, h2⟩
  · exact h z e
theorem de_exf {te : DE} {f : Str} {cs : List String} (T : ExfOk X.K cl f cs) (he : PEd X cl e te) (hb : attributeBase e f X.env (eval e X.env) = eval e X.env := by rfl) : PEd X cl (.Attribute e f pos) (dExF f cs te) := by
  refine ⟨fun pins s σ H Q I ⟨ρ, C, F, Qd, R, h, k⟩ => ?_⟩
  refine attr_of hb (thn (he.run pins s σ H (fun v H1 => ∃ d C1 F1, Same F F1 ∧ RC X.K cl C1 F1 H1 ∧ Rep X.K cl F1 v d ∧ (∃ a c fs u, d = .ref a ∧ C1 a = some (.exc a c fs) ∧ c ∈ cs ∧ fs.lookup f = some u ∧ Qd u C1)) I ⟨ρ, C, F, _, R, h, fun v d C1 H1 F1 s1 R1 r1 q => ⟨d, C1, F1, s1, R1, r1, q⟩⟩) fun u s1 ⟨v, H1, I1, rv, d, C1, F1, sF, R1, r1, a, c, fs, y, e, ha, hc, lk, q⟩ => ?_)
  subst e
  cases r1
  obtain rfl : u = Value.ref a := rv
  obtain ⟨dd, vs, h1, h2, rf⟩ := cell_exc R1 ha
  obtain ⟨o, od, mA, J, hl, hr⟩ := inst_exc I1 h1 (R1.sub _ _ h2)
  obtain ⟨tX, hno⟩ := T c hc
  obtain ⟨z, lz, rz⟩ := rf.get lk
  obtain ⟨w, hw, rw'⟩ := RelO.some_of (v := z) (o := mA f) (by rw [← lz]; exact hr f)
  exact HandSPX.exc_get I1.kIn J tX.ga tX.gg tX.exC (PySem.W.findObj_own tX.hdC hno rfl (by rw [hl, hw])) (handed_of rw') ⟨z, H1, I1.tok _, rw', k z y C1 H1 F1 sF R1 rz q⟩
/-- what the text tells of the classes whose values are asked for -/
def ExiOk (K : PySem.W.Frag) (cl : Nm) (cv : Value) (tb : List (String × Bool)) : Prop := ∀ c b, tb.lookup c = some b → ExcC K (cl c) ∧ (PySem.W.clsIn K (cl c)).isSome = true ∧ PySem.W.kitOne K (.ref (cl c)) cv = some b
theorem exi_nil {K : PySem.W.Frag} {cl : Nm} {cv : Value} : ExiOk K cl cv [] := nofun
theorem exi_cons {K : PySem.W.Frag} {cl : Nm} {cv : Value} {c : String} {b : Bool} {tb : List (String × Bool)} (h1 : ExcC K (cl c)) (h2 : (PySem.W.clsIn K (cl c)).isSome = true) (h3 : PySem.W.kitOne K (.ref (cl c)) cv = some b) (h : ExiOk K cl cv tb) : ExiOk K cl cv ((c, b) :: tb) := fun z y hz => by
  rw [List.lookup_cons] at hz
  split at hz
  next e =>
    cases hz
    obtain rfl : z = c := by simpa using e
    exact ⟨h1, h2, h3⟩
  next => exact h z y hz
theorem call_exi {cv : Value} {v : V} (hcv : ∀ u, RelV v u → u = cv) :
    CallR X (.builtin "isinstance") (fun xs H Q => ∃ a D dd fs b, xs = [.ref a, v] ∧ H a = some (exo a D (some dd)) ∧ H dd = some (exd dd fs) ∧ ExcC X.K D ∧ (PySem.W.clsIn X.K D).isSome = true ∧ PySem.W.kitOne X.K (.ref D) cv = some b ∧ Q (.bl b) H) := by
  intro pins s σ H xs us Q I r ⟨a, D, dd, fs, b, e, ha, hd, C, hcl, kit, q⟩
  subst e
  cases r with
  | cons rx rr =>
    cases rr with
    | cons rt rr =>
      cases rr
      cases rx
      have ec := hcv _ rt
      subst ec
      obtain ⟨o, od, mA, J, hl, hr⟩ := inst_exc I ha hd
      exact PySem.W.kia_one (PySem.W.kitx_exc hcl C.hg C.hk C.hs C.ha C.hn C.ht C.hm) I.kIn J kit (fun z => nomatch z) fun tk => ⟨.bl b, H, I.kept (t' := tk) fun _ _ z => z, rfl, q⟩
theorem de_exi {te : DE} {cv : Value} {v : V} {e2 : Expr} {tb : List (String × Bool)} (T : ExiOk X.K cl cv tb) (hm : X.mg "isinstance" = none)
    (he : PEd X cl e te) (hc : PE X e2 (tC v)) (hcv : ∀ u, RelV v u → u = cv) (hg : Gl X "isinstance" := by rfl)
    (hs : starEach [e, e2] X.env = (false, eval e X.env) :: starEach [e2] X.env := by rfl) (hs2 : starEach [e2] X.env = (false, eval e2 X.env) :: starEach [] X.env := by rfl) (hpl : (backTo pos (starEach [e2] X.env)).any (·.1) = false := by rfl) :
    PEd X cl (.Call (.Name "isinstance" p) [e, e2] [] pos) (dExI tb te) := by
  refine weakE (pe_callB (call_exi hcv) hg hm boot_isinstance (pa_cons he (pa_cons hc pa_nil hs2) hs) (by decide) (by decide) hs hpl) fun σ H Q ⟨ρ, C, F, Qd, R, h, k⟩ => ?_
  refine ⟨ρ, C, F, _, R, h, fun u d C1 H1 F1 s1 R1 r1 ⟨a, c, fs, b, e1, ha, lk, q⟩ => ?_⟩
  subst e1
  cases r1
  obtain ⟨dd, vs, h1, h2, rf⟩ := cell_exc R1 ha
  obtain ⟨t1, t2, t3⟩ := T c b lk
  exact ⟨a, cl c, dd, vs, b, rfl, h1, R1.sub _ _ h2, t1, t2, t3, k _ _ C1 H1 F1 s1 R1 (.bl b) q⟩
end
theorem v_exv {c : String} {fs : List Str} {t : DA} {ρ : DEnv} {C : Cl} {Q : DQ} (h : t ρ C fun xs C1 => xs.length = fs.length ∧ xs.length ≤ 900 ∧ (∀ x ∈ xs, PrD x) ∧ ∀ a, C1 a = none → Q (.ref a) (updC C1 a (.exc a c (fs.zip xs).reverse))) : dExV c fs t ρ C Q := h
theorem v_exf {f : Str} {cs : List String} {te : DE} {ρ : DEnv} {C : Cl} {Q : DQ} (h : te ρ C fun x C1 => ∃ a c fs v, x = .ref a ∧ C1 a = some (.exc a c fs) ∧ c ∈ cs ∧ fs.lookup f = some v ∧ Q v C1) : dExF f cs te ρ C Q := h
theorem v_exi {tb : List (String × Bool)} {te : DE} {ρ : DEnv} {C : Cl} {Q : DQ} (h : te ρ C fun x C1 => ∃ a c fs b, x = .ref a ∧ C1 a = some (.exc a c fs) ∧ tb.lookup c = some b ∧ Q (.bl b) C1) : dExI tb te ρ C Q := h
end G
--@ v_exv ?_
--@ v_exf ?_
--@ v_exi ?_
set_option maxHeartbeats 1000000
namespace G
open PySem PySem.Spec PyProof.Rows L2
/-! ### the codes of a shown text -/
def okC (s : Str) : Prop := ∀ c ∈ s.cps.toList, c < 1114112
theorem okC_add {a b : Str} (h : okC a) (k : okC b) : okC (a ++ b) := fun c hc => by
  have e : (a ++ b).cps.toList = a.cps.toList ++ b.cps.toList := by
    show (a.cps ++ b.cps).toList = _
    exact Array.toList_append
  rw [e, List.mem_append] at hc
  exact hc.elim (h c) (k c)
theorem char_lt (c : Char) : c.toNat < 1114112 := by
  have h := c.valid
  unfold UInt32.isValidChar Nat.isValidChar at h
  show c.val.toNat < 1114112
  rcases h with h | ⟨_, h⟩ <;> omega
theorem okC_of (s : String) : okC (Str.ofString s) := fun c hc => by
  rw [Str.ofString_eq_toList] at hc
  obtain ⟨x, _, rfl⟩ := List.mem_map.mp (by simpa using hc)
  exact char_lt x
theorem okC_join {s : Str} (hs : okC s) : ∀ {ts : List Str}, (∀ t ∈ ts, okC t) → okC (Str.join s ts)
  | [], _ => by unfold Str.join; exact fun c hc => by simp [Str.empty] at hc
  | [x], h => by unfold Str.join; exact h x List.mem_cons_self
  | x :: y :: r, h => by
    unfold Str.join
    exact okC_add (okC_add (h x List.mem_cons_self) hs) (okC_join hs fun t ht => h t (List.mem_cons_of_mem _ ht))
theorem okC_from : ∀ (ts : List Str) (k : Nat) (acc : Str), okC acc → (∀ t ∈ ts, okC t) → okC (textFrom k acc ts)
  | [], _, _, h, _ => by unfold textFrom; exact h
  | t :: ts, k, acc, h, ht => by
    unfold textFrom
    exact okC_from ts _ _ (okC_add (okC_add h (okC_of _)) (ht t List.mem_cons_self)) fun x hx => ht x (List.mem_cons_of_mem _ hx)
theorem okC_hex (n c : Nat) : ∀ d ∈ List.replicate (n - ((Nat.toDigits 16 c).map Char.toNat).length) 48 ++ (Nat.toDigits 16 c).map Char.toNat, d < 1114112 := fun d hd => by
  rcases List.mem_append.mp hd with h | h
  · rw [(List.mem_replicate.mp h).2]
    decide
  · obtain ⟨x, _, rfl⟩ := List.mem_map.mp h
    exact char_lt x
theorem okC_char {q c : Nat} (h : c < 1114112) : ∀ d ∈ Builtin.Str.reprChar q c, d < 1114112 := by
  have h2 := okC_hex 2 c
  have h4 := okC_hex 4 c
  have h8 := okC_hex 8 c
  unfold Builtin.Str.reprChar
  dsimp only
  repeat' split
  all_goals intro d hd
  all_goals simp only [List.mem_append, List.mem_cons, List.not_mem_nil, or_false] at hd h2 h4 h8
  all_goals first
    | (rcases hd with rfl | rfl <;> omega)
    | (subst hd; omega)
    | (rcases hd with (rfl | rfl) | hd
       · decide
       · decide
       · first | exact h2 d hd | exact h4 d hd | exact h8 d hd)
theorem okC_fold (q : Nat) : ∀ (l : List Nat) (acc : Array Nat), (∀ c ∈ acc.toList, c < 1114112) → (∀ c ∈ l, c < 1114112) → ∀ c ∈ (l.foldl (fun out c => out ++ (Builtin.Str.reprChar q c).toArray) acc).toList, c < 1114112
  | [], acc, h, _ => h
  | c :: r, acc, h, hl => okC_fold q r _ (fun d hd => by
      rw [Array.toList_append, List.mem_append] at hd
      rcases hd with hd | hd
      · exact h d hd
      · exact okC_char (hl c List.mem_cons_self) d (by simpa using hd)) fun d hd => hl d (List.mem_cons_of_mem _ hd)
theorem okC_repr {x : Str} (h : okC x) : okC (reprText x) := fun c hc => by
  unfold reprText at hc
  have hq : reprQuote x < 1114112 := by unfold reprQuote; split <;> decide
  rw [← Array.foldl_toList] at hc
  rw [Array.toList_push, List.mem_append] at hc
  rcases hc with hc | hc
  · exact okC_fold _ _ _ (fun d hd => by simp at hd; rw [hd]; exact hq) h c hc
  · simp at hc
    rw [hc]
    exact hq
mutual
theorem okC_shown : ∀ d : PyData, d.canLay0 = true → okC d.shown
  | .none, _ => by unfold PyData.shown; exact okC_of _
  | .bool b, _ => by unfold PyData.shown; cases b <;> exact okC_of _
  | .int i, _ => by unfold PyData.shown; exact okC_of _
  | .str x, h => by
    unfold PyData.shown
    unfold PyData.canLay0 PyData.strOk at h
    refine okC_repr fun c hc => ?_
    have := Array.all_eq_true_iff_forall_mem.mp h c (by simpa using hc)
    simpa using this
  | .list xs, h => by
    unfold PyData.shown
    unfold PyData.canLay0 at h
    unfold listText
    exact okC_add (okC_from _ _ _ (okC_of _) (okC_shownL xs h)) (okC_of _)
  | .tuple xs, h => by
    unfold PyData.shown
    unfold PyData.canLay0 at h
    unfold tupleText
    exact okC_add (okC_add (okC_of _) (okC_join (okC_of _) (okC_shownL xs h))) (okC_of _)
  | .dict _, h => by unfold PyData.canLay0 at h; cases h
theorem okC_shownL : ∀ ds : List PyData, PyData.canLayAll0 ds = true → ∀ s ∈ PyData.shownAll ds, okC s
  | [], _ => by unfold PyData.shownAll; exact nofun
  | d :: ds, h => by
    unfold PyData.canLayAll0 at h
    rw [Bool.and_eq_true] at h
    unfold PyData.shownAll
    intro s hs
    rcases List.mem_cons.mp hs with e | e
    · rw [e]
      exact okC_shown d h.1
    · exact okC_shownL ds h.2 s e
end
theorem small_repr {n : Nat} {d : D} (h : Sh n d) : small (reprD d) = true := List.all_eq_true.mpr fun c hc => decide_eq_true (okC_shown _ h.2.1 c hc)
/-- nobody calls it -/
theorem fnD_no {P : Program} {w : World} {K : PySem.W.Frag} {cl : Nm} {mg : Str → Option Value} {base : Heap} {k : Nat} {f : Addr} {fd : FuncData} {ps : List Str} {sp : DSp} (h : ∀ ds C Q E, sp ds C Q E → False) : FnD P w K cl mg base k f fd ps sp :=
  ⟨fun _ _ _ _ ⟨_, _, _, _, _, _, _, z, _⟩ => (h _ _ _ _ z).elim, fun _ _ _ _ _ _ _ _ _ _ _ _ _ ⟨_, _, _, _, _, _, _, z, _⟩ => (h _ _ _ _ z).elim⟩
end G
namespace G
open PySem PySem.Spec PyProof.Rows L2
theorem txts_lenG (ls : List (List Nat)) : (txts ls).length = ls.length := by unfold txts; simp
/-! ### steps of a reading, one lemma a head (printed by g16.py) -/
section
variable {D' : DEnds} {n b c : DEnv → Cl → Prop} {r : DQ} {ρ : DEnv} {C : Cl} {Q : DQ} {t u : DS} {te ta tb tc : DE} {g : DG} {A B : Prop}
theorem v_ends {t : DS} (h : t ⟨fun _ C => ∃ C', SubC C' C ∧ Q .non C', fun d C => ∃ d' C', Gh d C d' C' ∧ Q d' C', fun _ _ => False, fun _ _ => False⟩ ρ C) : t (endsD Q) ρ C := h
theorem v_seq (h : t ⟨u ⟨n, r, b, c⟩, r, b, c⟩ ρ C) : dSeq t u ⟨n, r, b, c⟩ ρ C := h
theorem v_next (h : n ρ C) : dNext ⟨n, r, b, c⟩ ρ C := h
theorem v_asg (h : te ρ C fun x C1 => g x ρ C1 n) : dAsg te g ⟨n, r, b, c⟩ ρ C := h
theorem v_ret (h : te ρ C r) : dRet te ⟨n, r, b, c⟩ ρ C := h
theorem v_ifS {ct : DT} (h : ct ρ C fun k C1 => if k = true then t ⟨n, r, b, c⟩ ρ C1 else u ⟨n, r, b, c⟩ ρ C1) : dIfS ct t u ⟨n, r, b, c⟩ ρ C := h
theorem v_isvar {i : Nat} (h : dVar i ρ C Q) : dVar i ρ C Q := h
theorem v_isname {i : Nat} {d : D} {K : DEnv → Cl → Prop} (h : dName i d ρ C K) : dName i d ρ C K := h
theorem v_const {d : D} (h : Q d C) : dC d ρ C Q := h
theorem v_op {rd : RD2} (h : ta ρ C fun x C1 => tb ρ C1 fun y C2 => rd x y C2 Q) : dOp rd ta tb ρ C Q := h
theorem v_test {K : Bool → Cl → Prop} (h : te ρ C fun x C1 => ∃ k, x = .bl k ∧ K k C1) : dTest te ρ C K := h
theorem v_bl {x : Bool} {K : Bool → Prop} (h : K x) : ∃ k, D.bl x = .bl k ∧ K k := ⟨x, rfl, h⟩
theorem v_dnot {tA : DT} {K : Bool → Cl → Prop} (h : tA ρ C fun k C1 => K (!k) C1) : dNot tA ρ C K := h
theorem v_dor {tA tB : DT} {K : Bool → Cl → Prop} (h : tA ρ C fun k C1 => if k = true then K true C1 else tB ρ C1 K) : dOr tA tB ρ C K := h
theorem v_ifE {tA : DT} (h : tA ρ C fun k C1 => if k = true then ta ρ C1 Q else tb ρ C1 Q) : dIf tA ta tb ρ C Q := h
theorem v_ff (h : B) : if false = true then A else B := h
theorem v_ntt (h : B) : if (!true) = true then A else B := h
theorem v_ndt {p : Prop} [Decidable p] (hp : p) (h : B) : if (!decide p) = true then A else B := by rw [decide_eq_true hp]; exact h
theorem v_nil {K : List D → Cl → Prop} (h : K [] C) : dNil ρ C K := h
theorem v_cons {tr : DA} {K : List D → Cl → Prop} (h : ta ρ C fun x C1 => tr ρ C1 fun xs C2 => K (x :: xs) C2) : dCons ta tr ρ C K := h
theorem v_lst {tA : DA} (h : tA ρ C fun xs C1 => xs.length ≤ sizeLine ∧ Q (.lst xs) C1) : dLst tA ρ C Q := h
theorem v_cb {rd : RDC} {tA : DA} (h : tA ρ C fun ds C1 => rd ds C1 Q) : dCB rd tA ρ C Q := h
theorem v_bm {T : String} {rd : RDM} {tA : DA} (h : te ρ C fun x C1 => tyD T x C1 ∧ tA ρ C1 fun ds C2 => rd x ds C2 Q) : dBM T rd te tA ρ C Q := h
theorem v_tystr {l : List Nat} (h : A) : tyD "str" (.str l) C ∧ A := ⟨rfl, h⟩
theorem v_call0 {sp : DSp} {tA : DA} (h : tA ρ C fun xs C1 => sp xs C1 Q fun _ _ _ => False) : dCall sp [] tA ρ C Q := by
  show tA ρ C fun xs C1 => sp (xs ++ []) C1 Q fun _ _ _ => False
  simp only [List.append_nil]; exact h
theorem v_par (i j : Nat) {tA : DA} (h : tA ρ C fun ds C2 => ∃ v w, ds = [v, w] ∧ n ((ρ.set i (some v)).set j (some w)) C2) : dPar i j tA ⟨n, r, b, c⟩ ρ C := h
theorem v_par2 {i j : Nat} {v w : D} (h : n ((ρ.set i (some v)).set j (some w)) C) : ∃ v' w', [v, w] = [v', w'] ∧ n ((ρ.set i (some v')).set j (some w')) C := ⟨v, w, rfl, h⟩
/-- tuples of names -/
theorem v_gtup {k : Nat} {tG : DGs} {ds : List D} {K : DEnv → Cl → Prop} (hl : ds.length = k) (h : tG ds ρ C K) : dgTup k tG (.tup ds) ρ C K := ⟨ds, rfl, hl, h⟩
theorem v_gcons {tG : DG} {uG : DGs} {d : D} {ds : List D} {K : DEnv → Cl → Prop} (h : tG d ρ C fun ρ' C' => uG ds ρ' C' K) : dgCons tG uG (d :: ds) ρ C K := ⟨d, ds, rfl, h⟩
theorem v_gnil {K : DEnv → Cl → Prop} (h : K ρ C) : dgNil [] ρ C K := ⟨rfl, h⟩
theorem v_sameS {l : List Nat} (h : Q (.str l) C) : ∃ d' C', Gh (.str l) C d' C' ∧ Q d' C' := ⟨_, C, .same, h⟩
theorem v_sameB {x : Bool} (h : Q (.bl x) C) : ∃ d' C', Gh (.bl x) C d' C' ∧ Q d' C' := ⟨_, C, .same, h⟩
theorem v_sameI {x : Int} (h : Q (.int x) C) : ∃ d' C', Gh (.int x) C d' C' ∧ Q d' C' := ⟨_, C, .same, h⟩
theorem v_sameN (h : Q .non C) : ∃ d' C', Gh .non C d' C' ∧ Q d' C' := ⟨_, C, .same, h⟩
theorem v_sameT {ds : List D} (h : Q (.tup ds) C) : ∃ d' C', Gh (.tup ds) C d' C' ∧ Q d' C' := ⟨_, C, .same, h⟩
theorem v_sameL {ds : List D} (h : Q (.lst ds) C) : ∃ d' C', Gh (.lst ds) C d' C' ∧ Q d' C' := ⟨_, C, .same, h⟩
/-! operators on known things -/
theorem v_eqI {x y : Int} (h : Q (.bl (decide (x = y))) C) : rEqD (.int x) (.int y) C Q := .inl ⟨_, rfl, h⟩
theorem v_eqB {x y : Bool} (h : Q (.bl (decide (x = y))) C) : rEqD (.bl x) (.bl y) C Q := .inl ⟨_, rfl, h⟩
theorem v_neS {x y : List Nat} (h : Q (.bl (!decide (x = y))) C) : rNeD (.str x) (.str y) C Q := .inl ⟨_, rfl, h⟩
theorem v_neB {x y : Bool} (h : Q (.bl (!decide (x = y))) C) : rNeD (.bl x) (.bl y) C Q := .inl ⟨_, rfl, h⟩
theorem v_lt {x y : Int} (h : Q (.bl (decide (x < y))) C) : rLtD (.int x) (.int y) C Q := ⟨_, rfl, trivial, h⟩
theorem v_gt {x y : Int} (h : Q (.bl (decide (y < x))) C) : rGtD (.int x) (.int y) C Q := ⟨_, rfl, trivial, h⟩
theorem v_ge {x y : Int} (h : Q (.bl (decide (y ≤ x))) C) : rGeD (.int x) (.int y) C Q := ⟨_, rfl, trivial, h⟩
theorem v_addI {x y : Int} (h : Q (.int (x + y)) C) : rOf addF (.int x) (.int y) C Q := ⟨_, rfl, trivial, h⟩
theorem v_subI {x y : Int} (h : Q (.int (x - y)) C) : rOf (ioF fun i j => i - j) (.int x) (.int y) C Q := ⟨_, rfl, trivial, h⟩
theorem v_addS {x y : List Nat} (hl : (x ++ y).length ≤ sizeLine) (h : Q (.str (x ++ y)) C) : rOf addF (.str x) (.str y) C Q := ⟨_, rfl, hl, h⟩
theorem v_addL {x y : List D} (hl : (x ++ y).length ≤ sizeLine) (h : Q (.lst (x ++ y)) C) : rOf addF (.lst x) (.lst y) C Q := ⟨_, rfl, hl, h⟩
theorem v_tupleL {l : List D} (h : Q (.tup l) C) : rTuple [.lst l] C Q := ⟨_, _, rfl, rfl, h⟩
theorem v_ixL {l : List D} {i : Int} {d : D} (hi : atI l i = some d) (h : Q d C) : rIx (.lst l) (.int i) C Q := ⟨_, rfl, .inr ⟨_, _, rfl, hi, h⟩⟩
theorem v_allM {α : Type} {as : List α} {f : α → Bool} (h : Q (.bl (as.all f)) C) : rAllL [.lst (as.map fun a => .bl (f a))] C Q := by
  refine ⟨_, as.map f, rfl, ?_, ?_⟩
  · show some _ = some _; unfold bls; rw [List.map_map]; rfl
  · rw [List.all_map]; exact h
theorem v_forL {te : DE} {R : List D → Cl → Prop} (h : te ρ C fun x C1 => ∃ xs, lstOf x = some xs ∧ R xs C1) : diList te ρ C R := h
theorem v_lstO {l : List D} {R : List D → Prop} (h : R l) : ∃ xs, lstOf (.lst l) = some xs ∧ R xs := ⟨l, rfl, h⟩
theorem v_rng1 {tA : DA} {R : List D → Cl → Prop} (h : tA ρ C fun ds C1 => ∃ j : Int, ds = [.int j] ∧ (-(2 ^ 62) ≤ j ∧ j < 2 ^ 62) ∧ R (ranged 0 j.toNat) C1) : diRng1 tA ρ C R := h
theorem v_enumS {tA : DA} {R : List D → Cl → Prop} (h : tA ρ C fun ds C1 => ∃ x xs, ds = [x] ∧ srcOf x = some xs ∧ R (numbered 0 xs) C1) : diEnumS tA ρ C R := h
theorem v_var0 {d : D} {ρ : DEnv} (h : Q d C) : dVar 0 (some d :: ρ) C Q := ⟨d, rfl, h⟩
theorem v_var1 {x0 : Option D} {d : D} {ρ : DEnv} (h : Q d C) : dVar 1 (x0 :: some d :: ρ) C Q := ⟨d, rfl, h⟩
theorem v_name1 {x0 y : Option D} {d : D} {ρ : DEnv} {K : DEnv → Cl → Prop} (h : K (x0 :: some d :: ρ) C) : dName 1 d (x0 :: y :: ρ) C K := h
theorem v_var2 {x0 x1 : Option D} {d : D} {ρ : DEnv} (h : Q d C) : dVar 2 (x0 :: x1 :: some d :: ρ) C Q := ⟨d, rfl, h⟩
theorem v_wname2 {x0 x1 y : Option D} {d : D} {ρ : DEnv} {K : DEnv → Cl → Prop} (h : K (x0 :: x1 :: some d :: ρ) C) : dName 2 d (wipeD (x0 :: x1 :: y :: ρ) [2]) C K := h
theorem v_name2 {x0 x1 y : Option D} {d : D} {ρ : DEnv} {K : DEnv → Cl → Prop} (h : K (x0 :: x1 :: some d :: ρ) C) : dName 2 d (x0 :: x1 :: y :: ρ) C K := h
theorem v_var3 {x0 x1 x2 : Option D} {d : D} {ρ : DEnv} (h : Q d C) : dVar 3 (x0 :: x1 :: x2 :: some d :: ρ) C Q := ⟨d, rfl, h⟩
theorem v_name3 {x0 x1 x2 y : Option D} {d : D} {ρ : DEnv} {K : DEnv → Cl → Prop} (h : K (x0 :: x1 :: x2 :: some d :: ρ) C) : dName 3 d (x0 :: x1 :: x2 :: y :: ρ) C K := h
theorem v_var4 {x0 x1 x2 x3 : Option D} {d : D} {ρ : DEnv} (h : Q d C) : dVar 4 (x0 :: x1 :: x2 :: x3 :: some d :: ρ) C Q := ⟨d, rfl, h⟩
theorem v_wname4 {x0 x1 x2 x3 y : Option D} {d : D} {ρ : DEnv} {K : DEnv → Cl → Prop} (h : K (x0 :: x1 :: x2 :: x3 :: some d :: ρ) C) : dName 4 d (wipeD (x0 :: x1 :: x2 :: x3 :: y :: ρ) [4]) C K := h
theorem v_name4 {x0 x1 x2 x3 y : Option D} {d : D} {ρ : DEnv} {K : DEnv → Cl → Prop} (h : K (x0 :: x1 :: x2 :: x3 :: some d :: ρ) C) : dName 4 d (x0 :: x1 :: x2 :: x3 :: y :: ρ) C K := h
theorem v_var5 {x0 x1 x2 x3 x4 : Option D} {d : D} {ρ : DEnv} (h : Q d C) : dVar 5 (x0 :: x1 :: x2 :: x3 :: x4 :: some d :: ρ) C Q := ⟨d, rfl, h⟩
theorem v_name5 {x0 x1 x2 x3 x4 y : Option D} {d : D} {ρ : DEnv} {K : DEnv → Cl → Prop} (h : K (x0 :: x1 :: x2 :: x3 :: x4 :: some d :: ρ) C) : dName 5 d (x0 :: x1 :: x2 :: x3 :: x4 :: y :: ρ) C K := h
theorem v_var6 {x0 x1 x2 x3 x4 x5 : Option D} {d : D} {ρ : DEnv} (h : Q d C) : dVar 6 (x0 :: x1 :: x2 :: x3 :: x4 :: x5 :: some d :: ρ) C Q := ⟨d, rfl, h⟩
theorem v_name6 {x0 x1 x2 x3 x4 x5 y : Option D} {d : D} {ρ : DEnv} {K : DEnv → Cl → Prop} (h : K (x0 :: x1 :: x2 :: x3 :: x4 :: x5 :: some d :: ρ) C) : dName 6 d (x0 :: x1 :: x2 :: x3 :: x4 :: x5 :: y :: ρ) C K := h
theorem v_var7 {x0 x1 x2 x3 x4 x5 x6 : Option D} {d : D} {ρ : DEnv} (h : Q d C) : dVar 7 (x0 :: x1 :: x2 :: x3 :: x4 :: x5 :: x6 :: some d :: ρ) C Q := ⟨d, rfl, h⟩
theorem v_var8 {x0 x1 x2 x3 x4 x5 x6 x7 : Option D} {d : D} {ρ : DEnv} (h : Q d C) : dVar 8 (x0 :: x1 :: x2 :: x3 :: x4 :: x5 :: x6 :: x7 :: some d :: ρ) C Q := ⟨d, rfl, h⟩
theorem v_var9 {x0 x1 x2 x3 x4 x5 x6 x7 x8 : Option D} {d : D} {ρ : DEnv} (h : Q d C) : dVar 9 (x0 :: x1 :: x2 :: x3 :: x4 :: x5 :: x6 :: x7 :: x8 :: some d :: ρ) C Q := ⟨d, rfl, h⟩
theorem v_var10 {x0 x1 x2 x3 x4 x5 x6 x7 x8 x9 : Option D} {d : D} {ρ : DEnv} (h : Q d C) : dVar 10 (x0 :: x1 :: x2 :: x3 :: x4 :: x5 :: x6 :: x7 :: x8 :: x9 :: some d :: ρ) C Q := ⟨d, rfl, h⟩
theorem v_name10 {x0 x1 x2 x3 x4 x5 x6 x7 x8 x9 y : Option D} {d : D} {ρ : DEnv} {K : DEnv → Cl → Prop} (h : K (x0 :: x1 :: x2 :: x3 :: x4 :: x5 :: x6 :: x7 :: x8 :: x9 :: some d :: ρ) C) : dName 10 d (x0 :: x1 :: x2 :: x3 :: x4 :: x5 :: x6 :: x7 :: x8 :: x9 :: y :: ρ) C K := h
theorem v_var11 {x0 x1 x2 x3 x4 x5 x6 x7 x8 x9 x10 : Option D} {d : D} {ρ : DEnv} (h : Q d C) : dVar 11 (x0 :: x1 :: x2 :: x3 :: x4 :: x5 :: x6 :: x7 :: x8 :: x9 :: x10 :: some d :: ρ) C Q := ⟨d, rfl, h⟩
theorem v_wname11 {x0 x1 x2 x3 x4 x5 x6 x7 x8 x9 x10 y : Option D} {d : D} {ρ : DEnv} {K : DEnv → Cl → Prop} (h : K (x0 :: x1 :: x2 :: x3 :: x4 :: x5 :: x6 :: x7 :: x8 :: x9 :: x10 :: some d :: ρ) C) : dName 11 d (wipeD (x0 :: x1 :: x2 :: x3 :: x4 :: x5 :: x6 :: x7 :: x8 :: x9 :: x10 :: y :: ρ) [11]) C K := h
theorem v_name11 {x0 x1 x2 x3 x4 x5 x6 x7 x8 x9 x10 y : Option D} {d : D} {ρ : DEnv} {K : DEnv → Cl → Prop} (h : K (x0 :: x1 :: x2 :: x3 :: x4 :: x5 :: x6 :: x7 :: x8 :: x9 :: x10 :: some d :: ρ) C) : dName 11 d (x0 :: x1 :: x2 :: x3 :: x4 :: x5 :: x6 :: x7 :: x8 :: x9 :: x10 :: y :: ρ) C K := h
theorem v_var12 {x0 x1 x2 x3 x4 x5 x6 x7 x8 x9 x10 x11 : Option D} {d : D} {ρ : DEnv} (h : Q d C) : dVar 12 (x0 :: x1 :: x2 :: x3 :: x4 :: x5 :: x6 :: x7 :: x8 :: x9 :: x10 :: x11 :: some d :: ρ) C Q := ⟨d, rfl, h⟩
theorem v_name12 {x0 x1 x2 x3 x4 x5 x6 x7 x8 x9 x10 x11 y : Option D} {d : D} {ρ : DEnv} {K : DEnv → Cl → Prop} (h : K (x0 :: x1 :: x2 :: x3 :: x4 :: x5 :: x6 :: x7 :: x8 :: x9 :: x10 :: x11 :: some d :: ρ) C) : dName 12 d (x0 :: x1 :: x2 :: x3 :: x4 :: x5 :: x6 :: x7 :: x8 :: x9 :: x10 :: x11 :: y :: ρ) C K := h
/-! comprehensions whose things are known -/
theorem v_lcmap {wi : DI} {vs : List Nat} {xs : List D} (f : D → D) (hw : ∀ R : List D → Cl → Prop, R xs C → wi ρ C R) (hl : xs.length ≤ sizeLine)
    (hs : ∀ (i : Nat) (x : D) (C' : Cl) (N : DQ), xs[i]? = some x → SubC C C' → N (f x) C' → g x (wipeD ρ vs) C' fun ρ2 C2 => te ρ2 C2 N) (hq : Q (.lst (xs.map f)) C) : dFz (dLc wi g dYes te vs) ρ C Q :=
  hw _ (lc_map f hl hs hq)
/-- the same over things that a function names -/
theorem v_lcmapF {α : Type} {wi : DI} {vs : List Nat} {as : List α} {e : α → D} (f : α → D) (hw : ∀ R : List D → Cl → Prop, R (as.map e) C → wi ρ C R) (hl : as.length ≤ sizeLine)
    (hs : ∀ (i : Nat) (a : α) (C' : Cl) (N : DQ), as[i]? = some a → a ∈ as → SubC C C' → N (f a) C' → g (e a) (wipeD ρ vs) C' fun ρ2 C2 => te ρ2 C2 N) (hq : Q (.lst (as.map f)) C) : dFz (dLc wi g dYes te vs) ρ C Q := by
  refine hw _ fun p hp => ?_
  refine ⟨fun i C' => ∃ C1, C' = updC C1 p (.lst ((as.take i).map f)) ∧ C1 = C, ⟨C, rfl, rfl⟩, ?_, ?_⟩
  · rintro i x _ hx ⟨C1, rfl, rfl⟩
    rw [List.getElem?_map] at hx
    cases ha : as[i]? with
    | none => rw [ha] at hx; cases hx
    | some a =>
      rw [ha] at hx; cases hx
      have hi : i < as.length := (List.getElem?_eq_some_iff.mp ha).1
      refine hs i a _ _ ha (List.mem_of_getElem? ha) ((SubC.refl _).new hp) ⟨_, updC_same, ?_, _, ?_, rfl⟩
      · rw [List.length_map, List.length_take]; omega
      · rw [updC_updC, List.take_add_one, ha]; simp
  · rintro _ ⟨C1, rfl, rfl⟩
    rw [List.length_map, List.take_length]
    exact ⟨p, _, rfl, updC_same, by rw [delC_new hp]; exact hq⟩
/-! loops -/
end
end G
set_option maxHeartbeats 4000000
namespace G
open PySem PySem.Spec PyProof.Rows L2
/-! ### the helpers of every law: the bag, its draws -/
def sp_l_take : DSp := fun ds C Q _ => ∃ b m n, ds = [.ref b, .int m] ∧ 0 < m ∧ m < 2 ^ 200 ∧ BagAt C b n ∧ n < 100000000000 ∧ ∀ i C', 0 ≤ i → i < m → Bagged C b C' (n + 1) → Q (.int i) C'
def td_l_take : DS :=
  (dSeq (dIfS (dTest (dOp rGtD (dOp rIx (dVar 0) (dC (.int 0))) (dC (.int 0)))) (dSeq (dAsg (dMod (dCB rInt (dCons (dOp rIx (dVar 0) (dC (.int 0))) dNil)) (dVar 1)) (dName 2))
    (dSeq (dAsg (dFdiv (dOp rIx (dVar 0) (dC (.int 0))) (dVar 1)) (dgSub (dVar 0) (dC (.int 0)) rSetL))
    (dRet (dVar 2)))) dNext)
    (dSeq (dAsg (dAdd (dOp rIx (dVar 0) (dC (.int 2))) (dC (.int 1))) (dgSub (dVar 0) (dC (.int 2)) rSetL))
    (dSeq (dAsg (dMod (dCB rInt (dCons (dPow (dAdd (dOp rIx (dVar 0) (dC (.int 1))) (dMul (dC (.int 1000003)) (dOp rIx (dVar 0) (dC (.int 2))))) (dC (.int 3))) dNil)) (dC (.int 2305843009213693921))) (dName 3))
    (dSeq (dAsg (dMod (dCB rInt (dCons (dPow (dAdd (dVar 3) (dMul (dC (.int 15485863)) (dOp rIx (dVar 0) (dC (.int 2))))) (dC (.int 2))) dNil)) (dC (.int 2305843009213693951))) (dName 3))
    (dRet (dMod (dCB rInt (dCons (dFdiv (dVar 3) (dC (.int 4096))) dNil)) (dVar 1)))))))
theorem len_l_take (ds : List D) (C : Cl) (Q : DQ) (E : DX) (h : sp_l_take ds C Q E) : ds.length = 2 := by obtain ⟨_, _, _, rfl, _⟩ := h; rfl
theorem seq_ref {C : Cl} {a : Addr} {ds : List D} (h : C a = some (.lst ds)) : seqOf C (.ref a) = some ds := cellL_of h
theorem divw {m : Int} (h0 : 0 < m) (h : m < 2 ^ 200) : CDivW 0 m := wide_div (b := 200) h0 (by omega) (by decide) (by decide)
theorem pure_l_take (ds : List D) (C : Cl) (Q : DQ) (E : DX) (h : sp_l_take ds C Q E) : td_l_take (endsD Q) (startD ["_law_bag_here", "_law_many", "_law_digit", "_law_mixed"] ds) C := by
  obtain ⟨b, m, n, rfl, m0, m1, ⟨x, y, z, hc, g⟩, hn, hq⟩ := h
  obtain ⟨x0, y0, y1, z0, z1⟩ := g
  refine ⟨_, rfl, _, rfl, .inr ⟨_, .int x, seq_ref hc, rfl, _, rfl, trivial, _, rfl, ite_d (fun h => ?_) (fun h => ?_)⟩⟩
  · refine ⟨_, rfl, _, rfl, .inr ⟨_, .int x, seq_ref hc, rfl, .inl ⟨_, rfl, _, rfl, _, _, rfl, rfl, m0, ?_⟩⟩⟩
    refine ⟨_, rfl, _, rfl, .inr ⟨_, .int x, seq_ref hc, rfl, _, rfl, _, _, rfl, rfl, divw m0 m1, ?_⟩⟩
    refine ⟨_, rfl, _, 0, 0, _, rfl, rfl, hc, rfl, ?_⟩
    refine ⟨_, rfl, _, _, .same, hq _ _ (Int.emod_nonneg _ (by omega)) (Int.emod_lt_of_pos _ m0) ⟨x / m, y, z, rfl, Int.ediv_nonneg x0 (by omega), y0, y1, z0, by omega⟩⟩
  · refine ⟨_, rfl, _, rfl, .inr ⟨_, .int z, seq_ref hc, rfl, _, rfl, trivial, ?_⟩⟩
    refine ⟨_, rfl, _, 2, 2, _, rfl, rfl, hc, rfl, ?_⟩
    have hc' : (updC C b (bagC x y (z + 1))) b = some (bagC x y (z + 1)) := updC_same
    have zz : z ≤ 100000000000 := by omega
    refine ⟨_, rfl, _, rfl, .inr ⟨_, .int y, seq_ref hc', rfl, _, rfl, _, rfl, .inr ⟨_, .int (z + 1), seq_ref hc', rfl, ?_⟩⟩⟩
    refine .inl ⟨_, _, rfl, rfl, .inl ⟨by decide, by decide⟩, _, rfl, trivial, _, _, rfl, rfl, ⟨by decide, by decide, ?_⟩, .inl ⟨_, rfl, _, _, rfl, rfl, (show (0 : Int) < 2305843009213693921 by decide), ?_⟩⟩
    · (try dsimp only); omega
    have b0 := Int.emod_nonneg ((y + 1000003 * (z + 1)) ^ (3 : Int).toNat) (show (2305843009213693921 : Int) ≠ 0 by decide)
    have b1 := Int.emod_lt_of_pos ((y + 1000003 * (z + 1)) ^ (3 : Int).toNat) (show (0 : Int) < 2305843009213693921 by decide)
    dsimp only
    generalize (y + 1000003 * (z + 1)) ^ (3 : Int).toNat % 2305843009213693921 = v at *
    refine ⟨_, rfl, _, rfl, _, rfl, .inr ⟨_, .int (z + 1), seq_ref hc', rfl, ?_⟩⟩
    refine .inl ⟨_, _, rfl, rfl, .inl ⟨by decide, by decide⟩, _, rfl, trivial, _, _, rfl, rfl, ⟨by decide, by decide, ?_⟩, .inl ⟨_, rfl, _, _, rfl, rfl, (show (0 : Int) < 2305843009213693951 by decide), ?_⟩⟩
    · (try dsimp only); omega
    dsimp only
    generalize (v + 15485863 * (z + 1)) ^ (2 : Int).toNat % 2305843009213693951 = u at *
    refine ⟨_, rfl, _, _, rfl, rfl, wide_div (b := 13) (by decide) (by decide) (by decide) (by decide), .inl ⟨_, rfl, _, rfl, _, _, rfl, rfl, m0, ?_⟩⟩
    exact ⟨_, _, .same, hq _ _ (Int.emod_nonneg _ (by omega)) (Int.emod_lt_of_pos _ m0) ⟨x, y, z + 1, rfl, x0, y0, y1, by omega, by omega⟩⟩

/-- one of some things: the things stand as a sequence, or are a text's signs -/
def itemsOf (C : Cl) : D → Option (List D)
  | .str l => some (signs l)
  | d => seqOf C d
def sp_l_of : DSp := fun ds C Q _ => ∃ b s xs n, ds = [.ref b, s] ∧ itemsOf C s = some xs ∧ s ≠ .ref b ∧ xs ≠ [] ∧ xs.length ≤ 1000000 ∧ BagAt C b n ∧ n < 100000000000 ∧ ∀ d C', d ∈ xs → Bagged C b C' (n + 1) → Q d C'
def td_l_of : DS :=
  (dRet (dOp rIx (dVar 1) (dCall sp_l_take [] (dCons (dVar 0) (dCons (dCB rLen (dCons (dVar 1) dNil)) dNil)))))
theorem len_l_of (ds : List D) (C : Cl) (Q : DQ) (E : DX) (h : sp_l_of ds C Q E) : ds.length = 2 := by obtain ⟨_, _, _, _, rfl, _⟩ := h; rfl
theorem atI_mem {α : Type} {l : List α} {i : Int} (h0 : 0 ≤ i) (h1 : i < l.length) : ∃ d, atI l i = some d ∧ d ∈ l := by
  have hl : i.toNat < l.length := by omega
  refine ⟨l[i.toNat], ?_, List.getElem_mem hl⟩
  unfold atI ixN
  rw [if_pos h0, if_pos h1]
  exact List.getElem?_eq_getElem hl
theorem seqOf_ne {C C' : Cl} {s : D} {b : Addr} {xs : List D} (h : ∀ a, a ≠ b → C' a = C a) (e : s ≠ .ref b) (hs : seqOf C s = some xs) : seqOf C' s = some xs := by
  cases s with
  | ref a =>
    have : a ≠ b := fun z => e (by rw [z])
    show cellL C' a = some xs
    have hs : cellL C a = some xs := hs
    unfold cellL at hs ⊢
    rw [h a this]
    exact hs
  | _ => exact hs
theorem pure_l_of (ds : List D) (C : Cl) (Q : DQ) (E : DX) (h : sp_l_of ds C Q E) : td_l_of (endsD Q) (startD ["_law_bag_here", "_law_some"] ds) C := by
  obtain ⟨b, s, xs, n, rfl, hx, hs, hne, hl, hb, hn, hq⟩ := h
  have l0 : 0 < xs.length := List.length_pos_iff.mpr hne
  have hL : lenF C s = some xs.length ∧ srcOk s := by
    cases s with
    | str l =>
      cases hx
      rw [signs_length'] at *
      exact ⟨rfl, Nat.le_trans (by omega) (by rw [sizeLine_eq]; decide : 1000000 ≤ sizeLine)⟩
    | ref a =>
      have e : cellL C a = some xs := hx
      exact ⟨by show (cellL C a).map List.length = _; rw [e]; rfl, trivial⟩
    | tup ds => cases hx; exact ⟨rfl, trivial⟩
    | lst ds => cases hx; exact ⟨rfl, trivial⟩
    | rol ds => cases hx; exact ⟨rfl, trivial⟩
    | _ => cases hx
  refine ⟨_, rfl, _, rfl, _, rfl, _, _, rfl, hL.1, hL.2, b, (xs.length : Int), n, rfl, by omega, by omega, hb, hn, fun i C' i0 i1 hB => ?_⟩
  obtain ⟨d, hd, hm⟩ := atI_mem (l := xs) i0 i1
  refine ⟨i, rfl, ?_⟩
  have fin := hq d C' hm hB
  cases s with
  | str l =>
    cases hx
    refine .inl ⟨l, ?_⟩
    have i1' : i < l.length := by rw [signs_length'] at i1; exact i1
    obtain ⟨c, hc, hmc⟩ := atI_mem (l := l) i0 i1'
    have e : d = .str [c] := by
      unfold atI at hd hc
      rw [signs_length'] at hd
      unfold ixN at hd hc
      rw [if_pos i0, if_pos i1'] at hd hc
      have hd : (signs l)[i.toNat]? = some d := hd
      have hc : l[i.toNat]? = some c := hc
      unfold signs at hd
      rw [List.getElem?_map, hc] at hd
      exact (Option.some.inj hd).symm
    subst e
    exact ⟨c, rfl, Nat.le_trans (by rw [signs_length'] at hl; omega) (by rw [sizeLine_eq]; decide : 1000000 ≤ sizeLine), hc, _, _, .same, fin⟩
  | ref a => exact .inr ⟨xs, d, seqOf_ne (fun a e => hB.ne e) hs hx, hd, _, _, .same, fin⟩
  | tup ds => exact .inr ⟨xs, d, hx, hd, _, _, .same, fin⟩
  | lst ds => exact .inr ⟨xs, d, hx, hd, _, _, .same, fin⟩
  | rol ds => exact .inr ⟨xs, d, hx, hd, _, _, .same, fin⟩
  | _ => cases hx
where
  signs_length' {l : List Nat} : (signs l).length = l.length := by unfold signs; rw [List.length_map]
end G
namespace G
open PySem PySem.Spec PyProof.Rows L2
local macro_rules | `(tactic| walk_at "d") => `(tactic| dsimp only [dSeq, dAsg, dVar, dC, dOp, dCB, dBM, dBM0, dCons, dNil, dTest, dIf, dAnd, dOr, dNot, dAndV, dOrV, dNotV, dRet, dIfS, dNext, dName, dTup, dLst, dLstC, dCall, dSl, dPart, dNoPart, dUn, dgTup, dgCons, dgNil, dgSub, dDrop, dPar])

/-! ### texts of digits -/
def digits10 : List Nat := [48, 49, 50, 51, 52, 53, 54, 55, 56, 57]
def isDig (c : Nat) : Bool := decide (c ∈ digits10)
def digs (l : List Nat) : Bool := decide (l ≠ []) && l.all isDig
theorem all_map (p : Nat → Bool) (l : List Nat) : (l.map p).all id = l.all p := by rw [List.all_map]; rfl
end G
namespace G
open PySem PySem.Spec PyProof.Rows L2

/-! ### slices with plain bounds -/
/-! ### a text at its first point -/
theorem parts_none {l : List Nat} (h : 46 ∉ l) : parts3 l [46] = (l, [], []) := by
  unfold parts3
  rw [TL.par_none1 h]
theorem parts_dot {x y : List Nat} (h : 46 ∉ x) : parts3 (x ++ 46 :: y) [46] = (x, [46], y) := by
  unfold parts3
  rw [show x ++ 46 :: y = x ++ ([46] ++ y) from rfl, TL.par_part1 (S := []) h]
  rfl
/-! ### a number text's parts -/
def sgnOf (l : List Nat) : List Nat := if l.take 1 = [43] ∨ l.take 1 = [45] then l.take 1 else []
abbrev NumParts := Option (List Nat × List Nat × Option (List Nat))
def splitN (l : List Nat) : NumParts :=
  let p := parts3 (l.drop (sgnOf l).length) [46]
  if digs p.1 = true then
    if p.2.1 = [] then some (sgnOf l, p.1, none) else if digs p.2.2 = true then some (sgnOf l, p.1, some p.2.2) else none
  else none
/-- a number text put together -/
def tailN : Option (List Nat) → List Nat
  | none => []
  | some p => 46 :: p
theorem dig_dot {l : List Nat} (h : digs l = true) : 46 ∉ l := by
  intro hm
  unfold digs at h
  rw [Bool.and_eq_true] at h
  have := List.all_eq_true.mp h.2 46 hm
  revert this
  decide
theorem dig_ne {l : List Nat} (h : digs l = true) : l ≠ [] := by
  unfold digs at h
  rw [Bool.and_eq_true] at h
  exact of_decide_eq_true h.1
theorem dig_head {l : List Nat} (h : digs l = true) : ∃ c r, l = c :: r ∧ isDig c = true := by
  cases l with
  | nil => exact absurd rfl (dig_ne h)
  | cons c r =>
    unfold digs at h
    rw [Bool.and_eq_true, List.all_cons, Bool.and_eq_true] at h
    exact ⟨c, r, rfl, h.2.1⟩
theorem splitN_of {s w : List Nat} {o : Option (List Nat)} (hs : s = [] ∨ s = [43] ∨ s = [45]) (hw : digs w = true) (ho : ∀ p, o = some p → digs p = true) : splitN (s ++ w ++ tailN o) = some (s, w, o) := by
  obtain ⟨c, r, rfl, hc⟩ := dig_head hw
  have c43 : c ≠ 43 := by rintro rfl; revert hc; decide
  have c45 : c ≠ 45 := by rintro rfl; revert hc; decide
  have e1 : sgnOf (s ++ (c :: r) ++ tailN o) = s := by
    rcases hs with rfl | rfl | rfl
    · unfold sgnOf
      rw [if_neg]
      rintro (h | h)
      · exact c43 (by simpa using h)
      · exact c45 (by simpa using h)
    · rfl
    · rfl
  have e2 : (s ++ (c :: r) ++ tailN o).drop s.length = (c :: r) ++ tailN o := by
    rw [List.append_assoc, List.drop_left]
  unfold splitN
  rw [e1]
  dsimp only
  rw [e2]
  cases o with
  | none =>
    have e3 : parts3 ((c :: r) ++ tailN none) [46] = (c :: r, [], []) := by
      rw [show (c :: r) ++ tailN none = c :: r from List.append_nil _]
      exact parts_none (dig_dot hw)
    rw [e3]
    dsimp only
    rw [if_pos hw, if_pos rfl]
  | some p =>
    have e3 : parts3 ((c :: r) ++ tailN (some p)) [46] = (c :: r, [46], p) := parts_dot (dig_dot hw)
    rw [e3]
    dsimp only
    rw [if_pos hw, if_neg (by simp), if_pos (ho p rfl)]
/-! ### the law's own way to the parts -/
/-! ### the shortest text of a number -/
def isZ (c : Nat) : Bool := ([48] : List Nat).contains c
def wholeN (w : List Nat) : List Nat := if w.dropWhile isZ ≠ [] then w.dropWhile isZ else [48]
def shortN (s w p : List Nat) : List Nat :=
  let places := rdrop isZ p
  let number := if places ≠ [] then wholeN w ++ [46] ++ places else wholeN w
  if s = [45] ∧ number ≠ [48] then 45 :: number else number
def plainN (l : List Nat) : Option (List Nat) := (splitN l).map fun x => shortN x.1 x.2.1 (x.2.2.getD [])
theorem isZ_iff (c : Nat) : isZ c = true ↔ c = 48 := by unfold isZ; simp
end G
set_option maxHeartbeats 4000000
namespace G
open PySem PySem.Spec PyProof.Rows L2

/-! ### split_number -/
/-! ### shortest -/
theorem dropWhile_le (g : Nat → Bool) (l : List Nat) : (l.dropWhile g).length ≤ l.length := by
  rw [← drop_takeWhile, List.length_drop]
  omega
/-! ### plain_form -/
end G
set_option maxHeartbeats 4000000
namespace G
open PySem PySem.Spec PyProof.Rows L2
/-! ### a new bag -/
def sp_l_bag : DSp := fun ds C Q _ => ∃ (ns : List Int) (k : Nat), ds = [.rol (ns.map D.int), .int k] ∧ k ≤ 1000 ∧ ∀ b C', C b = none → Bagged C b C' 0 → Q (.ref b) C'
def td_l_bag : DS :=
  (dSeq (dAsg (dIf (dTest (dOp rLtD (dVar 1) (dCB rLen (dCons (dVar 0) dNil)))) (dOp rIx (dVar 0) (dVar 1)) (dC (.int 0))) (dName 2))
    (dSeq (dAsg (dIf (dTest (dOp rGeD (dCB rAbs (dCons (dVar 2) dNil)) (dPow (dC (.int 10)) (dC (.int 18))))) (dCB rAbs (dCons (dVar 2) dNil)) (dC (.int 0))) (dName 3))
    (dRet (dLstC (dCons (dVar 3) (dCons (dAdd (dAdd (dMul (dMod (dCB rInt (dCons (dVar 2) dNil)) (dC (.int 2305843009213693951))) (dC (.int 5))) (dMul (dC (.int 6571)) (dVar 1))) (dC (.int 3083))) (dCons (dC (.int 0)) dNil)))))))
theorem len_l_bag (ds : List D) (C : Cl) (Q : DQ) (E : DX) (h : sp_l_bag ds C Q E) : ds.length = 2 := by obtain ⟨_, _, rfl, _⟩ := h; rfl
theorem pure_l_bag (ds : List D) (C : Cl) (Q : DQ) (E : DX) (h : sp_l_bag ds C Q E) : td_l_bag (endsD Q) (startD ["_law_script", "_law_at", "_law_cell", "_law_row"] ds) C := by
  obtain ⟨ns, k, rfl, hk, hq⟩ := h
  have go : ∀ c : Int, (dSeq (dAsg (dIf (dTest (dOp rGeD (dCB rAbs (dCons (dVar 2) dNil)) (dPow (dC (.int 10)) (dC (.int 18))))) (dCB rAbs (dCons (dVar 2) dNil)) (dC (.int 0))) (dName 3))
    (dRet (dLstC (dCons (dVar 3) (dCons (dAdd (dAdd (dMul (dMod (dCB rInt (dCons (dVar 2) dNil)) (dC (.int 2305843009213693951))) (dC (.int 5))) (dMul (dC (.int 6571)) (dVar 1))) (dC (.int 3083))) (dCons (dC (.int 0)) dNil)))))) (endsD Q) [some (.rol (ns.map D.int)), some (.int k), some (.int c), none] C := by
    intro c
    have fin : ∀ r : Int, 0 ≤ r → dRet (dLstC (dCons (dVar 3) (dCons (dAdd (dAdd (dMul (dMod (dCB rInt (dCons (dVar 2) dNil)) (dC (.int 2305843009213693951))) (dC (.int 5))) (dMul (dC (.int 6571)) (dVar 1))) (dC (.int 3083))) (dCons (dC (.int 0)) dNil)))) (endsD Q) [some (.rol (ns.map D.int)), some (.int k), some (.int c), some (.int r)] C := by
      intro r r0
      have b0 := Int.emod_nonneg c (show (2305843009213693951 : Int) ≠ 0 by decide)
      have b1 := Int.emod_lt_of_pos c (show (0 : Int) < 2305843009213693951 by decide)
      refine ⟨_, rfl, _, rfl, .inl ⟨_, rfl, _, _, rfl, rfl, (show (0 : Int) < 2305843009213693951 by decide), .inl ⟨_, _, rfl, rfl, ?_, _, rfl, .inl ⟨_, _, rfl, rfl, ?_, _, rfl, trivial, _, rfl, trivial, szl (by simp), fun p hp => ?_⟩⟩⟩⟩
      · exact .inr ⟨by decide, by decide⟩
      · exact .inl ⟨by decide, by omega⟩
      refine ⟨_, _, .same, hq _ _ hp ⟨r, _, 0, rfl, r0, ?_, ?_, by omega, by omega⟩⟩
      · show 0 ≤ c % 2305843009213693951 * 5 + 6571 * (k : Int) + 3083; omega
      · show c % 2305843009213693951 * 5 + 6571 * (k : Int) + 3083 ≤ _; omega
    refine ⟨_, rfl, c, rfl, _, _, rfl, rfl, ⟨by decide, by decide, by decide⟩, _, rfl, trivial, _, rfl, ite_d (fun h => ?_) (fun h => ?_)⟩
    · refine ⟨_, rfl, _, rfl, fin _ ?_⟩
      split <;> omega
    · exact fin 0 (by omega)
  refine ⟨_, rfl, _, rfl, _, _, rfl, rfl, trivial, _, rfl, trivial, _, rfl, ite_d (fun h => ?_) (fun h => ?_)⟩
  · have hl : k < ns.length := by
      have : (ns.map D.int).length = ns.length := List.length_map ..
      omega
    refine ⟨_, rfl, _, rfl, _, rfl, .inr ⟨_, .int ns[k], rfl, ?_, go _⟩⟩
    unfold atI ixN
    rw [if_pos (by omega), List.length_map, if_pos (by omega)]
    show (ns.map D.int)[(k : Int).toNat]? = _
    rw [List.getElem?_map, Int.toNat_natCast, List.getElem?_eq_getElem hl]
    rfl
  · exact go 0

/-! ### drawn digits -/
def sp_l_digits : DSp := fun ds C Q _ => ∃ b lo hi n, ds = [.ref b, .int (lo : Nat), .int (hi : Nat)] ∧ lo ≤ hi ∧ hi ≤ 1000 ∧ BagAt C b n ∧ n < 10000000000 ∧ ∀ l C', l.all isDig = true → lo ≤ l.length → l.length ≤ hi → Bagged C b C' (n + 2000) → Q (.str l) C'
theorem len_l_digits (ds : List D) (C : Cl) (Q : DQ) (E : DX) (h : sp_l_digits ds C Q E) : ds.length = 3 := by obtain ⟨_, _, _, _, rfl, _⟩ := h; rfl
/-! ### a drawn number text -/
theorem digs_of {l : List Nat} (h : l.all isDig = true) (h1 : 1 ≤ l.length) : digs l = true := by
  unfold digs
  rw [h, Bool.and_true]
  cases l with
  | nil => exact absurd h1 (by simp)
  | cons => rfl
end G
set_option maxHeartbeats 4000000
namespace G
open PySem PySem.Spec PyProof.Rows L2
/-! ### the law's own number split -/
local macro_rules | `(tactic| walk_at "d") => `(tactic| dsimp only [dSeq, dAsg, dVar, dC, dOp, dCB, dBM, dBM0, dCons, dNil, dTest, dIf, dAnd, dOr, dNot, dAndV, dOrV, dNotV, dRet, dIfS, dNext, dName, dTup, dLst, dLstC, dCall, dSl, dPart, dNoPart, dUn, dgTup, dgCons, dgNil, dgSub, dDrop, dPar])
theorem txts_length (ps : List (List Nat)) : (txts ps).length = ps.length := List.length_map ..
theorem join_le : ∀ (ls : List (List Nat)), (TL.joinL [] ls).length ≤ (ls.map List.length).sum
  | [] => Nat.le_refl _
  | [x] => by simp [TL.joinL]
  | x :: y :: r => by
    have := join_le (y :: r)
    show (x ++ ([] ++ TL.joinL [] (y :: r))).length ≤ _
    rw [List.nil_append, List.length_append, List.map_cons, List.sum_cons]
    omega
end G
set_option maxHeartbeats 4000000
namespace G
open PySem PySem.Spec PyProof.Rows L2
/-! ### the law's own shortest -/
theorem wholeN_cons {c : Nat} {l : List Nat} (h : c = 48) (h1 : l ≠ []) : wholeN (c :: l) = wholeN l := by
  unfold wholeN
  rw [List.dropWhile_cons_of_pos (by rw [isZ_iff]; exact h)]
theorem wholeN_one {c : Nat} : wholeN [c] = [c] := by
  unfold wholeN
  by_cases h : c = 48
  · subst h; rfl
  · rw [List.dropWhile_cons_of_neg (by rw [isZ_iff]; exact h)]
    rfl
theorem wholeN_same {c : Nat} {l : List Nat} (h : c ≠ 48) : wholeN (c :: l) = c :: l := by
  unfold wholeN
  rw [List.dropWhile_cons_of_neg (by rw [isZ_iff]; exact h)]
  rfl
theorem ends_one (l : List Nat) : ends [48] l = true ↔ ∃ r, l = r ++ [48] := by
  unfold ends
  rw [Bool.and_eq_true, decide_eq_true_iff, beq_iff_eq]
  constructor
  · rintro ⟨h1, h2⟩
    exact ⟨l.take (l.length - 1), by rw [← h2]; exact (List.take_append_drop _ l).symm⟩
  · rintro ⟨r, rfl⟩
    simp
theorem rdrop_app {r : List Nat} : rdrop isZ (r ++ [48]) = rdrop isZ r := by
  unfold rdrop
  rw [List.reverse_append]
  rfl
theorem rdrop_same {l : List Nat} (h : ends [48] l = false) : rdrop isZ l = l := by
  unfold rdrop
  cases e : l.reverse with
  | nil => rw [List.reverse_eq_nil_iff.mp e]; rfl
  | cons c r =>
    have hl : l = r.reverse ++ [c] := by rw [← List.reverse_reverse l, e, List.reverse_cons]
    have hc : c ≠ 48 := by
      rintro rfl
      have := (ends_one l).mpr ⟨_, hl⟩
      rw [h] at this
      cases this
    rw [List.dropWhile_cons_of_neg (by rw [isZ_iff]; exact hc), List.reverse_cons]
    exact hl.symm
theorem shortN_eq (s w p : List Nat) : shortN s w p = if rdrop isZ p = [] ∧ wholeN w = [48] then [48] else (if s = [45] then [45] else []) ++ wholeN w ++ (if rdrop isZ p ≠ [] then [46] else []) ++ rdrop isZ p := by
  unfold shortN
  dsimp only
  generalize rdrop isZ p = q
  generalize wholeN w = v
  by_cases h1 : q = []
  · subst h1
    rw [if_neg (show ¬ ([] : List Nat) ≠ [] from fun h => h rfl), if_neg (show ¬ ([] : List Nat) ≠ [] from fun h => h rfl)]
    by_cases h2 : v = [48]
    · subst h2
      rw [if_neg (fun h => h.2 rfl), if_pos ⟨rfl, rfl⟩]
    · rw [if_neg (fun h : _ ∧ v = [48] => h2 h.2)]
      by_cases h3 : s = [45]
      · rw [if_pos ⟨h3, h2⟩, if_pos h3, List.append_nil, List.append_nil]; rfl
      · rw [if_neg (fun h => h3 h.1), if_neg h3, List.append_nil, List.append_nil]; rfl
  · rw [if_pos h1, if_pos h1, if_neg (fun h : q = [] ∧ _ => h1 h.1)]
    have hn : v ++ [46] ++ q ≠ [48] := by
      intro h
      have : (46 : Nat) ∈ ([48] : List Nat) := by rw [← h]; simp
      simp at this
    by_cases h3 : s = [45]
    · rw [if_pos ⟨h3, hn⟩, if_pos h3]; rfl
    · rw [if_neg (fun h => h3 h.1), if_neg h3]; rfl
/-! ### the law's own plain form -/
/-! ### plain forms -/
/-- a plain form: its sign, its digits ahead and behind -/
structure Canon (s w p : List Nat) : Prop where
  sg : s = [] ∨ s = [45]
  dw : digs w = true
  ww : wholeN w = w
  dp : p.all isDig = true
  pp : rdrop isZ p = p
  nz : ¬ (s = [45] ∧ w = [48] ∧ p = [])
def canT (s w p : List Nat) : List Nat := s ++ w ++ (if p ≠ [] then 46 :: p else [])
def ptail (p : List Nat) : Option (List Nat) := if p ≠ [] then some p else none
theorem canT_tail (s w p : List Nat) : canT s w p = s ++ w ++ tailN (ptail p) := by
  unfold canT ptail
  split <;> rfl
theorem all_dropWhile {g f : Nat → Bool} {l : List Nat} (h : l.all f = true) : (l.dropWhile g).all f = true := by
  rw [List.all_eq_true] at *
  exact fun x hx => h x ((List.dropWhile_sublist g).subset hx)
theorem all_rdrop {g f : Nat → Bool} {l : List Nat} (h : l.all f = true) : (rdrop g l).all f = true := by
  unfold rdrop
  rw [List.all_reverse]
  exact all_dropWhile (by rw [List.all_reverse]; exact h)
theorem rdrop_idem (l : List Nat) : rdrop isZ (rdrop isZ l) = rdrop isZ l := by
  apply rdrop_same
  cases e : ends [48] (rdrop isZ l) with
  | false => rfl
  | true =>
    obtain ⟨r, hr⟩ := (ends_one _).mp e
    unfold rdrop at hr
    have hr := congrArg List.reverse hr
    rw [List.reverse_reverse, List.reverse_append] at hr
    have : ∀ (x t : List Nat), x.dropWhile isZ ≠ 48 :: t := by
      intro x
      induction x with
      | nil => intro t h; cases h
      | cons c x ih =>
        intro t h
        by_cases hc : isZ c = true
        · rw [List.dropWhile_cons_of_pos hc] at h; exact ih t h
        · rw [List.dropWhile_cons_of_neg hc] at h
          cases h
          exact hc rfl
    exact absurd hr (this _ _)
theorem Canon.short {s w p : List Nat} (h : Canon s w p) {z : List Nat} (hz : rdrop isZ z = p) : shortN s w z = canT s w p := by
  rw [shortN_eq, hz, h.ww]
  unfold canT
  by_cases c : p = [] ∧ w = [48]
  · rw [if_pos c]
    have : s = [] := by
      rcases h.sg with e | e
      · exact e
      · exact absurd ⟨e, c.2, c.1⟩ h.nz
    rw [this, c.1, c.2]; rfl
  · rw [if_neg c, List.append_assoc]
    congr 1
    · congr 1
      rcases h.sg with e | e <;> rw [e] <;> rfl
    · split
      · rfl
      · rename_i h1
        rw [Classical.not_not.mp h1]; rfl
theorem Canon.split {s w p : List Nat} (h : Canon s w p) : splitN (canT s w p) = some (s, w, ptail p) := by
  rw [canT_tail]
  refine splitN_of ?_ h.dw ?_
  · rcases h.sg with e | e
    · exact .inl e
    · exact .inr (.inr e)
  · intro q hq
    unfold ptail at hq
    split at hq
    · rename_i hp
      cases hq
      unfold digs
      rw [h.dp, decide_eq_true hp]; rfl
    · cases hq
theorem ptail_get (p : List Nat) : (ptail p).getD [] = p := by
  unfold ptail
  split
  · rfl
  · rename_i h; exact (Classical.not_not.mp h).symm
theorem Canon.plain {s w p : List Nat} (h : Canon s w p) : plainN (canT s w p) = some (canT s w p) := by
  unfold plainN
  rw [h.split]
  show some (shortN s w ((ptail p).getD [])) = _
  rw [ptail_get, h.short h.pp]
theorem Canon.len {s w p : List Nat} (h : Canon s w p) : (canT s w p).length ≤ w.length + p.length + 2 := by
  unfold canT
  rcases h.sg with e | e <;> rw [e] <;> split <;> simp <;> omega
end G
set_option maxHeartbeats 4000000
namespace G
open PySem PySem.Spec PyProof.Rows L2
/-! ### padding -/
structure NumT (s w q : List Nat) : Prop where
  sg : s = [] ∨ s = [45]
  dw : digs w = true
  dq : q.all isDig = true
theorem Canon.num {s w p : List Nat} (h : Canon s w p) : NumT s w p := ⟨h.sg, h.dw, h.dp⟩
section
variable {s w q : List Nat} (h : NumT s w q)
include h
theorem NumT.head : 46 ∉ s ++ w := by
  rw [List.mem_append]
  rintro (z | z)
  · rcases h.sg with e | e <;> rw [e] at z <;> simp at z
  · exact dig_dot h.dw z
theorem NumT.behind : 46 ∉ q := by
  intro z
  have := List.all_eq_true.mp h.dq 46 z
  revert this
  decide
theorem NumT.parts : parts3 (canT s w q) [46] = (s ++ w, if q ≠ [] then [46] else [], q) := by
  unfold canT
  by_cases e : q = []
  · subst e
    show parts3 (s ++ w ++ []) [46] = (s ++ w, [], [])
    rw [List.append_nil, parts_none h.head]
  · rw [if_pos e, if_pos e, parts_dot h.head]
theorem NumT.split : splitN (canT s w q) = some (s, w, ptail q) := by
  rw [canT_tail]
  refine splitN_of ?_ h.dw ?_
  · rcases h.sg with e | e
    · exact .inl e
    · exact .inr (.inr e)
  · intro z hq
    unfold ptail at hq
    split at hq
    · rename_i hp
      cases hq
      unfold digs
      rw [h.dq, decide_eq_true hp]; rfl
    · cases hq
theorem NumT.plain : plainN (canT s w q) = some (shortN s w q) := by
  unfold plainN
  rw [h.split]
  show some (shortN s w ((ptail q).getD [])) = _
  rw [ptail_get]
theorem NumT.len : (canT s w q).length ≤ w.length + q.length + 2 := by
  unfold canT
  rcases h.sg with e | e <;> rw [e] <;> split <;> simp <;> omega
end
theorem rdrop_zeros (p : List Nat) : ∀ n, rdrop isZ (p ++ List.replicate n 48) = rdrop isZ p
  | 0 => by rw [List.replicate_zero, List.append_nil]
  | n + 1 => by rw [List.replicate_succ', ← List.append_assoc, rdrop_app, rdrop_zeros p n]
end G
set_option maxHeartbeats 4000000
namespace G
open PySem PySem.Spec PyProof.Rows L2
/-! ### a law: its script, its answer -/
def sp_law : DSp := fun ds C Q _ => ∃ ns : List Int, ds = [.rol (ns.map D.int)] ∧ ns.length ≤ 63 ∧ ∀ C', Q (.bl true) C'
theorem len_law (ds : List D) (C : Cl) (Q : DQ) (E : DX) (h : sp_law ds C Q E) : ds.length = 1 := by obtain ⟨_, rfl, _⟩ := h; rfl
theorem rep_nums {K : PySem.W.Frag} {cl : Nm} {F : Hp} : ∀ ns : List Int, RepL K cl F (ns.map V.int) (ns.map D.int)
  | [] => .nil
  | n :: ns => .cons (.int n) (rep_nums ns)
theorem law_in {K : PySem.W.Frag} {cl : Nm} {H : Hp} {a : Addr} {E : XK} (ns : List Int) (hl : ns.length ≤ 63) (hS : SqL K H a (ns.map V.int)) : lowSp K cl sp_law [.ref a] H (fun v _ => v = .bl true) E :=
  ⟨[.rol (ns.map D.int)], fun _ => none, H, fun d _ => d = .bl true, fun _ _ _ => False, ⟨Same.refl H, (fun _ _ e => nomatch e), (fun _ _ e => nomatch e)⟩, .cons (.rol hS (rep_nums ns)) .nil, ⟨ns, rfl, hl, fun _ => rfl⟩,
    fun v d C H F' s R r e => by subst e; cases r; rfl, fun _ _ _ _ _ _ _ _ _ _ z => z.elim⟩
/-- range(max(1, min(m, len(script)))) -/
theorem law_rng {ns : List Int} {m : Int} {ρ : DEnv} {C : Cl} {R : List D → Cl → Prop} (h0 : ρ[0]? = some (some (.rol (ns.map D.int)))) (hl : ns.length ≤ 63) (h : ∀ k, k ≤ 63 → R (ranged 0 k) C) :
    diRng1 (dCons (dCB rMax2 (dCons (dC (.int 1)) (dCons (dCB rMin2 (dCons (dC (.int m)) (dCons (dCB rLen (dCons (dVar 0) dNil)) dNil))) dNil))) dNil) ρ C R := by
  refine ⟨_, h0, _, _, rfl, rfl, trivial, _, _, rfl, _, _, rfl, _, rfl, ?_, ?_⟩
  · have : (ns.map D.int).length = ns.length := List.length_map ..
    repeat' split
    all_goals omega
  · refine h _ ?_
    have : (ns.map D.int).length = ns.length := List.length_map ..
    repeat' split
    all_goals omega
end G
namespace G
open PySem PySem.Spec PyProof.Rows L2
/-! ### the classes' addresses -/
def nm1 (c : String) (C : Addr) (r : Nm) : Nm := fun x => if x = c then C else r x
/-- the law's own promise does not look at classes -/
theorem law_cl {K : PySem.W.Frag} {cl cl' : Nm} {vs : List V} {H : Hp} {Q : VK} {E : XK} (h : lowSp K cl sp_law vs H Q E) : lowSp K cl' sp_law vs H Q E := by
  obtain ⟨ds, C, F, Qd, Ed, R, r, ⟨ns, rfl, hl, hq⟩, kq, kx⟩ := h
  cases r with
  | cons r1 rr =>
    cases rr
    cases r1 with
    | rol hs rl =>
      refine ⟨[.rol (ns.map D.int)], fun _ => none, F, fun d _ => d = .bl true, noX, ⟨R.sub, (fun _ _ e => nomatch e), (fun _ _ e => nomatch e)⟩, .cons (.rol hs ?_) .nil, ⟨ns, rfl, hl, fun _ => rfl⟩, ?_, fun _ _ _ _ _ _ _ _ _ _ z => z.elim⟩
      · clear hl hq hs
        rename_i a xs
        generalize hd : ns.map D.int = ds at rl
        clear kq kx
        induction ns generalizing xs ds with
        | nil => subst hd; cases rl; exact .nil
        | cons n ns ih =>
          subst hd
          cases rl with
          | cons q t => cases q; exact .cons (.int n) (ih _ rfl t)
      · intro v d C2 H2 F2 s2 R2 r2 e
        subst e
        cases r2
        exact kq (.bl true) (.bl true) (fun _ => none) H2 F2 s2 ⟨R2.sub, (fun _ _ e => nomatch e), (fun _ _ e => nomatch e)⟩ (.bl true) (hq _)
end G
namespace G
open PySem PySem.Spec PyProof.Rows L2
/-! ### a law some of whose defs make lambdas: the tables stand at the start -/
end G
set_option maxHeartbeats 4000000
namespace G
open PySem PySem.Spec PyProof.Rows L2
/-! ### lists of drawn things -/
theorem updC_comm {C : Cl} {a b : Addr} {c d : Cell} (h : a ≠ b) : updC (updC C a c) b d = updC (updC C b d) a c := by
  funext x
  unfold updC
  by_cases e : x = a
  · subst e; rw [if_neg h, if_pos rfl, if_pos rfl]
  · rw [if_neg e]
    by_cases e2 : x = b
    · rw [if_pos e2, if_neg e]
    · rw [if_neg e2, if_neg e]
theorem delC_updC {C : Cl} {p : Addr} {c : Cell} (h : C p = none) : delC (updC C p c) p = C := by
  funext x
  unfold delC
  by_cases e : x = p
  · rw [if_pos e, e, h]
  · rw [if_neg e, updC_ne e]
theorem BagAt.ne {C : Cl} {b p : Addr} {n : Nat} (h : BagAt C b n) (e : C p = none) : b ≠ p := by
  rintro rfl
  obtain ⟨x, y, z, hc, _⟩ := h
  rw [e] at hc; cases hc
theorem BagAt.upd {C : Cl} {b p : Addr} {c : Cell} {n : Nat} (h : BagAt C b n) (e : b ≠ p) : BagAt (updC C p c) b n := by
  obtain ⟨x, y, z, hc, g⟩ := h
  exact ⟨x, y, z, by rw [updC_ne e]; exact hc, g⟩
theorem lc_bag {g : DG} {te : DE} {ρ : DEnv} {vs : List Nat} {C1 : Cl} {b : Addr} {n k : Nat} {xs : List D} {Q : DQ} (Y : D → Prop) (hb : BagAt C1 b n) (hl : xs.length ≤ sizeLine)
    (h : ∀ i x C (N : DQ), xs[i]? = some x → BagAt C b (n + i * k) → (∀ a, C1 a ≠ none → a ≠ b → C a = C1 a) → (∀ y C', Y y → Bagged C b C' (n + (i + 1) * k) → N y C') → g x (wipeD ρ vs) C fun ρ2 C2 => te ρ2 C2 N)
    (hq : ∀ ys C', ys.length = xs.length → (∀ y ∈ ys, Y y) → Bagged C1 b C' (n + xs.length * k) → Q (.lst ys) C') :
    ∀ p, C1 p = none → ∃ Pv : Nat → Cl → Prop, Pv 0 (updC C1 p (.lst [])) ∧
      (∀ i x C, xs[i]? = some x → Pv i C → g x (wipeD ρ vs) C fun ρ2 C2 => dYes ρ2 C2 fun b C3 =>
        if b = true then te ρ2 C3 fun y C4 => ∃ acc, C4 p = some (.lst acc) ∧ acc.length < sizeLine ∧ Pv (i + 1) (updC C4 p (.lst (acc ++ [y]))) else Pv (i + 1) C3) ∧
      ∀ C, Pv xs.length C → ∃ a ds, D.ref p = .ref a ∧ C a = some (.lst ds) ∧ Q (.lst ds) (delC C a) := by
  intro p hp
  refine ⟨fun i C => ∃ ys C', C = updC C' p (.lst ys) ∧ ys.length = i ∧ (∀ y ∈ ys, Y y) ∧ Bagged C1 b C' (n + i * k), ⟨[], C1, rfl, rfl, nofun, by rw [Nat.zero_mul]; exact hb.self⟩, ?_, ?_⟩
  · rintro i x C hx ⟨ys, C', rfl, hyl, hY, B⟩
    have bp := hb.ne hp
    have i1 : i < xs.length := (List.getElem?_eq_some_iff.mp hx).1
    refine h i x _ _ hx (B.at.upd bp) (fun a ha hab => ?_) fun y C2 hy B2 => ?_
    · have : a ≠ p := by rintro rfl; exact ha hp
      rw [updC_ne this]
      exact B.ne hab
    · obtain ⟨u1, u2, u3, rfl, G2⟩ := B2
      obtain ⟨v1, v2, v3, rfl, G1⟩ := B
      refine ⟨ys, by rw [updC_ne (Ne.symm bp), updC_same], by omega, ys ++ [y], updC C1 b (bagC u1 u2 u3), ?_, by rw [List.length_append, hyl, List.length_singleton], ?_, ⟨u1, u2, u3, rfl, G2⟩⟩
      · rw [updC_comm (C := updC C1 b (bagC v1 v2 v3)) (Ne.symm bp), updC_updC, updC_updC]
      · intro z hz
        rcases List.mem_append.mp hz with e | e
        · exact hY z e
        · rw [List.mem_singleton.mp e]; exact hy
  · rintro C ⟨ys, C', rfl, hyl, hY, B⟩
    refine ⟨p, ys, rfl, updC_same, ?_⟩
    have bp := hb.ne hp
    rw [delC_updC (by rw [B.ne (Ne.symm bp), hp])]
    exact hq ys C' hyl hY B
/-- drawn texts put together -/
theorem txts_of {P : List Nat → Prop} : ∀ {ys : List D}, (∀ y ∈ ys, ∃ l, y = .str l ∧ P l) → ∃ ls : List (List Nat), ys = txts ls ∧ ∀ l ∈ ls, P l
  | [], _ => ⟨[], rfl, nofun⟩
  | y :: ys, h => by
    obtain ⟨l, rfl, hl⟩ := h y (by simp)
    obtain ⟨ls, rfl, hs⟩ := txts_of (P := P) (ys := ys) fun z hz => h z (by simp [hz])
    exact ⟨l :: ls, rfl, fun z hz => by
      rcases List.mem_cons.mp hz with e | e
      · rw [e]; exact hl
      · exact hs z e⟩
theorem sum_le {m : Nat} : ∀ {ls : List (List Nat)}, (∀ l ∈ ls, l.length ≤ m) → (ls.map List.length).sum ≤ ls.length * m
  | [], _ => Nat.zero_le _
  | l :: ls, h => by
    have := sum_le (m := m) (ls := ls) fun z hz => h z (by simp [hz])
    have := h l (by simp)
    simp only [List.map_cons, List.sum_cons, List.length_cons, Nat.add_mul]
    omega

/-! ### any sign, any text -/
def sgns1 : List Nat := [32, 33, 34, 35, 36, 38, 39, 40, 41, 42, 43, 44, 45, 46, 47, 48, 49, 50, 51, 52, 53, 54, 55, 56, 57, 58, 59, 60, 61, 62, 63, 64, 65, 66, 67, 68, 69, 70, 71, 72, 73, 74, 75, 76, 77, 78, 79, 80, 81, 82, 83, 84, 85, 86, 87, 88, 89, 90, 91, 92, 93, 94, 95]
def sgns2 : List Nat := [96, 97, 98, 99, 100, 101, 102, 103, 104, 105, 106, 107, 108, 109, 110, 111, 112, 113, 114, 115, 116, 117, 118, 119, 120, 121, 122, 123, 124, 125, 126]
def sp_l_signs : DSp := fun ds C Q _ => ds = [] ∧ Q (.str (sgns1 ++ sgns2)) C
def td_l_signs : DS :=
  (dSeq (dAsg (dC (.str [32, 33, 34, 35, 36, 38, 39, 40, 41, 42, 43, 44, 45, 46, 47, 48, 49, 50, 51, 52, 53, 54, 55, 56, 57, 58, 59, 60, 61, 62, 63, 64, 65, 66, 67, 68, 69, 70, 71, 72, 73, 74, 75, 76, 77, 78, 79, 80, 81, 82, 83, 84, 85, 86, 87, 88, 89, 90, 91, 92, 93, 94, 95])) (dName 0))
    (dRet (dAdd (dVar 0) (dC (.str [96, 97, 98, 99, 100, 101, 102, 103, 104, 105, 106, 107, 108, 109, 110, 111, 112, 113, 114, 115, 116, 117, 118, 119, 120, 121, 122, 123, 124, 125, 126])))))
theorem len_l_signs (ds : List D) (C : Cl) (Q : DQ) (E : DX) (h : sp_l_signs ds C Q E) : ds.length = 0 := by obtain ⟨rfl, _⟩ := h; rfl
theorem pure_l_signs (ds : List D) (C : Cl) (Q : DQ) (E : DX) (h : sp_l_signs ds C Q E) : td_l_signs (endsD Q) (startD ["_law_some"] ds) C := by
  obtain ⟨rfl, hq⟩ := h
  exact ⟨_, rfl, _, rfl, szl (by simp), _, _, .same, hq⟩
theorem mem_signs {l : List Nat} {d : D} (h : d ∈ signs l) : ∃ c, d = .str [c] ∧ c ∈ l := by
  unfold signs at h
  obtain ⟨c, hc, rfl⟩ := List.mem_map.mp h
  exact ⟨c, rfl, hc⟩
/-- signs that may stand in a text -/
def okSign (c : Nat) : Bool := decide (32 ≤ c ∧ c ≤ 126) && decide (c ≠ 37)
theorem all_join {p : Nat → Bool} : ∀ {ls : List (List Nat)}, (∀ l ∈ ls, l.all p = true) → (TL.joinL [] ls).all p = true
  | [], _ => rfl
  | [x], h => h x (by simp)
  | x :: y :: r, h => by
    have := all_join (p := p) (ls := y :: r) fun z hz => h z (by simp [hz])
    show (x ++ ([] ++ TL.joinL [] (y :: r))).all p = true
    rw [List.nil_append, List.all_append, h x (by simp), this]
    rfl
theorem dig_ok {l : List Nat} (h : digs l = true) : l.all okSign = true := by
  unfold digs at h
  rw [Bool.and_eq_true] at h
  rw [List.all_eq_true] at h ⊢
  intro c hc
  have := h.2 c hc
  unfold isDig digits10 at this
  have this := of_decide_eq_true this
  simp only [List.mem_cons, List.not_mem_nil, or_false] at this
  rcases this with rfl | rfl | rfl | rfl | rfl | rfl | rfl | rfl | rfl | rfl <;> decide
/-- a text that does not end with eight q -/
def noQ (l : List Nat) : Bool := !(l.reverse.take 8 == List.replicate 8 113)
theorem noQ_of {l : List Nat} (h : l.reverse.take 8 ≠ List.replicate 8 113) : noQ l = true := by
  unfold noQ
  rw [beq_eq_false_iff_ne.mpr h]; rfl
theorem noQ_short {l : List Nat} (h : l.length < 8) : noQ l = true := noQ_of fun e => by
  have := congrArg List.length e
  rw [List.length_take, List.length_reverse, List.length_replicate] at this
  omega
theorem noQ_mem {l : List Nat} (h : 113 ∉ l) : noQ l = true := noQ_of fun e => by
  have : 113 ∈ l.reverse.take 8 := by rw [e]; decide
  exact h (List.mem_reverse.mp (List.mem_of_mem_take this))
theorem dig_noQ {l : List Nat} (h : digs l = true) : 113 ∉ l := fun hm => by
  unfold digs at h
  rw [Bool.and_eq_true] at h
  have := List.all_eq_true.mp h.2 _ hm
  exact absurd this (by decide)
/-- any text of at most thirty signs -/
def sp_l_text : DSp := fun ds C Q _ => ∃ b n, ds = [.ref b] ∧ BagAt C b n ∧ n < 500000000 ∧ ∀ l C', l.length ≤ 30 → l.all okSign = true → noQ l = true → Bagged C b C' (n + 20000) → Q (.str l) C'
theorem len_l_text (ds : List D) (C : Cl) (Q : DQ) (E : DX) (h : sp_l_text ds C Q E) : ds.length = 1 := by obtain ⟨_, _, rfl, _⟩ := h; rfl
theorem getWipe {ρ : DEnv} {i v : Nat} {d x : D} (h : ρ[i]? = some (some d)) (e : i ≠ v) : ((wipeD ρ [v]).set v (some x))[i]? = some (some d) := by
  show ((ρ.set v none).set v (some x))[i]? = _
  rw [List.getElem?_set_ne (Ne.symm e), List.getElem?_set_ne (Ne.symm e)]
  exact h
end G
namespace GS
open PySem PySem.Spec PyProof.Rows
/-! ### set(texts): how many different ones -/
section
variable {prog : Program} {w : World} {A : Around} {R : Result → Shared → Prop} {I : Addr} {fp wr : List Addr} {G : Array GenState → Array GenState → Prop} {n : Nat} {P : Nat → Value → Prop} {St : Nat → Shared → Prop}
end
section
variable {prog : Program} {w : World} {A : Around} {E : Value → Shared → Prop} {s : Shared}
set_option maxHeartbeats 3200000 in
set_option maxHeartbeats 3200000 in
end
end GS
namespace G
open PySem PySem.Spec PyProof.Rows L2
/-! ### len(set(texts)) -/
end G
set_option maxHeartbeats 4000000
namespace G
open PySem PySem.Spec PyProof.Rows L2
/-! ### kinds: words, texts -/
def letters : List Nat := [97, 98, 99, 100, 101, 102, 103, 104, 105, 106, 107, 108, 109, 110, 111, 112, 113, 114, 115, 116, 117, 118, 119, 120, 121, 122]
def isLow (c : Nat) : Bool := decide (c ∈ letters)
def isWord (l : List Nat) : Bool := decide (1 ≤ l.length ∧ l.length ≤ 8) && l.all isLow
def isText (l : List Nat) : Bool := l.all okSign
/-- a thing of a built-in type, texts not too long -/
def Known (d : D) (C : Cl) : Prop := (∃ n, tyNm d C = some n) ∧ ∀ l, d = .str l → l.length ≤ 1000000
def onStr (f : List Nat → Bool) : D → Bool
  | .str l => f l
  | _ => false
local macro_rules | `(tactic| walk_at "d") => `(tactic| dsimp only [dSeq, dAsg, dVar, dC, dOp, dCB, dBM, dBM0, dCons, dNil, dTest, dIf, dAnd, dOr, dNot, dAndV, dOrV, dNotV, dRet, dIfS, dNext, dName, dTup, dLst, dLstC, dCall, dSl, dPart, dNoPart, dUn, dgTup, dgCons, dgNil, dgSub, dDrop, dPar])
/-- texts in a tuple -/
def areTexts (ls : List (List Nat)) (m : Nat) : Bool := decide (1 ≤ ls.length ∧ ls.length ≤ m) && (ls.all isText && decide ls.Nodup)
end G
set_option maxHeartbeats 4000000
namespace G
open PySem PySem.Spec PyProof.Rows L2
/-! ### kinds -/
structure KindR where
  name : List Nat
  fam : List Nat
  marks : List (List Nat) := []
  yes : List (List Nat) := []
  no : List (List Nat) := []
  digits : Option Nat := none
  point : Bool := false
  signs : List Nat := [45]
  zeros : Bool := true
  keep : Option Nat := none
  shown : Nat := 0
def optN : Option Nat → D
  | none => .non
  | some n => .int n
abbrev famMissing : List Nat := [109, 105, 115, 115, 105, 110, 103]
abbrev famTruth : List Nat := [116, 114, 117, 116, 104]
abbrev famNumber : List Nat := [110, 117, 109, 98, 101, 114]
abbrev famText : List Nat := [116, 101, 120, 116]
def kindFs (k : KindR) : List (Str × D) := [("name", .str k.name), ("family", .str k.fam), ("marks", .tup (txts k.marks)), ("yes", .tup (txts k.yes)), ("no", .tup (txts k.no)), ("digits", optN k.digits), ("point", .bl k.point), ("signs", .str k.signs), ("zeros", .bl k.zeros), ("keep", optN k.keep), ("shown", .int k.shown)]
def kindD (k : KindR) : D := .ins "Kind" (kindFs k)
section
variable (k : KindR)
end
end G
set_option maxHeartbeats 4000000
namespace G
open PySem PySem.Spec PyProof.Rows L2
/-! ### kinds made -/
theorem areTexts_len {ls : List (List Nat)} {m : Nat} (h : areTexts ls m = true) : 1 ≤ ls.length ∧ ls.length ≤ m ∧ ls.all isText = true ∧ ls.Nodup := by
  unfold areTexts at h
  rw [Bool.and_eq_true, Bool.and_eq_true, decide_eq_true_iff, decide_eq_true_iff] at h
  exact ⟨h.1.1, h.1.2, h.2.1, h.2.2⟩
local macro_rules | `(tactic| walk_at "d") => `(tactic| dsimp only [dSeq, dAsg, dVar, dC, dOp, dCB, dBM, dBM0, dCons, dNil, dTest, dIf, dAnd, dOr, dNot, dAndV, dOrV, dNotV, dRet, dIfS, dNext, dName, dTup, dLst, dLstC, dCall, dSl, dPart, dNoPart, dUn, dgTup, dgCons, dgNil, dgSub, dDrop, dPar])
/-! ### what a kind takes -/
instance (o : Option Nat) (n : Nat) : Decidable (∃ d, o = some d ∧ d < n) :=
  match o with
  | none => .isFalse fun ⟨_, h, _⟩ => nomatch h
  | some m => if h : m < n then .isTrue ⟨m, rfl, h⟩ else .isFalse fun ⟨_, e, z⟩ => by cases e; exact h z
def takesN (k : KindR) (l : List Nat) : Bool :=
  match splitN l with
  | none => false
  | some (s, w, o) =>
    if subIn s k.signs = false ∨ (o ≠ none ∧ k.point = false) then false
    else if (∃ d, k.digits = some d ∧ d < w.length) then false
    else k.zeros || (decide (w.length = 1) || decide (w.head? ≠ some 48))
end G
set_option maxHeartbeats 4000000
namespace G
open PySem PySem.Spec PyProof.Rows L2
/-- which texts a kind takes -/
def takes (k : KindR) (l : List Nat) : Bool :=
  if k.fam = famMissing then decide (l ∈ k.marks)
  else if k.fam = famTruth then decide (l ∈ k.yes) || decide (l ∈ k.no)
  else if k.fam = famText then isText l
  else takesN k l
end G
set_option maxHeartbeats 4000000
namespace G
open PySem PySem.Spec PyProof.Rows L2
/-! ### a text nearly another -/
/-- the same, told of the whole comprehension -/
theorem lc_bagW {wi : DI} {g : DG} {te : DE} {ρ : DEnv} {vs : List Nat} {C1 : Cl} {b : Addr} {n k : Nat} {xs : List D} {Q : DQ} (Y : D → Prop) (hw : ∀ R : List D → Cl → Prop, R xs C1 → wi ρ C1 R) (hb : BagAt C1 b n) (hl : xs.length ≤ sizeLine)
    (h : ∀ (i : Nat) (x : D) (C : Cl) (N : DQ), xs[i]? = some x → BagAt C b (n + i * k) → (∀ a, C1 a ≠ none → a ≠ b → C a = C1 a) → (∀ y C', Y y → Bagged C b C' (n + (i + 1) * k) → N y C') → g x (wipeD ρ vs) C fun ρ2 C2 => te ρ2 C2 N)
    (hq : ∀ ys C', ys.length = xs.length → (∀ y ∈ ys, Y y) → Bagged C1 b C' (n + xs.length * k) → Q (.lst ys) C') : dFz (dLc wi g dYes te vs) ρ C1 Q := hw _ (lc_bag Y hb hl h hq)
end G
set_option maxHeartbeats 4000000
namespace G
open PySem PySem.Spec PyProof.Rows L2
/-! ### drawn words -/
def keys7 : List Nat := [99, 103, 104, 105, 106, 108, 110]
/-- the same list comprehension where the things are in a name -/
theorem lc_of' {ρ : DEnv} {C : Cl} {b : Addr} {n ib iv is : Nat} {m : Int} {items : List D} {sv : D} {Q : DQ} (h0 : ρ[ib]? = some (some (.ref b))) (hi : ib ≠ iv) (hs : ρ[is]? = some (some sv)) (hi2 : is ≠ iv) (hb : BagAt C b n) (hn : n < 10000000000) (m0 : 0 < m) (m1 : m ≤ 1000)
    (hv : ∀ C', itemsOf C' sv = some items) (hr : sv ≠ .ref b) (he : items ≠ []) (hl : items.length ≤ 1000000)
    (hq : ∀ ys C', ys.length < m.toNat → (∀ y ∈ ys, y ∈ items) → Bagged C b C' (n + 1001) → Q (.lst ys) C') :
    dFz (dLc (diRng1 (dCons (dCall sp_l_take [] (dCons (dVar ib) (dCons (dC (.int m)) dNil))) dNil)) (dName iv) dYes (dCall sp_l_of [] (dCons (dVar ib) (dCons (dVar is) dNil))) [iv]) ρ C Q := by
  refine ⟨_, h0, b, m, n, rfl, m0, by omega, hb, by omega, fun i C1 i0 i1 B1 => ?_⟩
  refine ⟨i, rfl, ⟨by omega, by omega⟩, ?_⟩
  refine lc_bag (k := 1) (fun y => y ∈ items) B1.at (by rw [ranged_length]; exact szl (by omega)) (fun i' x C2 N hx hb2 _ hN => ?_) fun ys C2 hyl hY B2 => ?_
  · have hx := (ranged_get hx).1
    refine ⟨_, getWipe h0 hi, _, getWipe hs hi2, b, sv, items, _, rfl, hv _, hr, he, hl, hb2, by omega, fun d C3 hd B3 => hN d C3 hd (B3.mono (by omega))⟩
  · rw [ranged_length] at hyl B2
    exact hq ys C2 (by omega) hY ((B1.trans B2).mono (by omega))
/-- a word has one of the seven letters that tell words apart -/
def keyed (w : List Nat) : Prop := ∃ c ∈ keys7, c ∈ w
/-- no word is another one with one more letter behind that is none of the seven -/
def NoQs (ws : List (List Nat)) : Prop := ∀ v ∈ ws, ∀ w ∈ ws, ∀ c, c ∉ keys7 → w ≠ v ++ [c]
end G
set_option maxHeartbeats 4000000
namespace G
open PySem PySem.Spec PyProof.Rows L2
/-! ### texts that differ -/
end G
set_option maxHeartbeats 4000000
namespace G
open PySem PySem.Spec PyProof.Rows L2
/-! ### number kinds -/
structure GoodNum (k : KindR) : Prop where
  fam : k.fam = famNumber
  marks : k.marks = []
  yes : k.yes = []
  no : k.no = []
  digits : ∀ n, k.digits = some n → 1 ≤ n ∧ n ≤ 20
  keep : ∀ n, k.keep = some n → 1 ≤ n ∧ n ≤ 20
  signs : k.signs = [] ∨ k.signs = [45] ∨ k.signs = [43, 45]
  shown : k.shown ≤ 3
  point : k.shown > 0 → k.point = true
/-! ### drawn options -/
def optD (k : KindR) : D := .tup [optN k.digits, .bl k.point, .str k.signs, .bl k.zeros, optN k.keep, .int k.shown]
end G
set_option maxHeartbeats 4000000
namespace G
open PySem PySem.Spec PyProof.Rows L2
/-! ### kinds made by what was drawn -/
/-- a kind whose attributes go with its family; its options are told by o -/
inductive GoodK (o : D) : KindR → Prop
  | missing {l : List Nat} {ms : List (List Nat)} : isWord l = true → areTexts ms 4 = true → (∀ t ∈ ms, t.length ≤ 1000000) → GoodK o { name := l, fam := famMissing, marks := ms }
  | truth {l : List Nat} {ys ns : List (List Nat)} : isWord l = true → areTexts ys 4 = true → areTexts ns 4 = true → (∀ n ∈ ns, n ∉ ys) → (∀ t ∈ ys, t.length ≤ 1000000) → (∀ t ∈ ns, t.length ≤ 1000000) → GoodK o { name := l, fam := famTruth, yes := ys, no := ns }
  | text {l : List Nat} : isWord l = true → GoodK o { name := l, fam := famText }
  | number {k : KindR} : isWord k.name = true → GoodNum k → o = optD k → GoodK o k
/-! ### the law's own way to what a kind takes -/
end G
set_option maxHeartbeats 4000000
namespace G
open PySem PySem.Spec PyProof.Rows L2
/-! ### values of kinds, written -/
inductive Va where
  | miss
  | truth (b : Bool)
  | num (s w p : List Nat)
  | text (l : List Nat)
/-- a value that goes with the kind -/
def FitV (k : KindR) : Va → Prop
  | .miss => True
  | .truth _ => k.fam = famTruth ∧ k.yes ≠ [] ∧ k.no ≠ []
  | .num s w p => k.fam = famNumber ∧ NumT s w p ∧ w.length ≤ 1000 ∧ p.length ≤ 1000 ∧ k.shown ≤ 3
  | .text _ => k.fam = famText
end G
set_option maxHeartbeats 4000000
namespace G
open PySem PySem.Spec PyProof.Rows L2
/-! ### a kind, drawn -/
/-- the texts of a drawn kind: few, and none ends with eight q -/
def DrawnQ (k : KindR) : Prop := (∀ t ∈ k.marks ++ k.yes ++ k.no, noQ t = true) ∧ k.marks.length ≤ 3 ∧ k.yes.length ≤ 2 ∧ k.no.length ≤ 2
end G
section ZH
open PySem PySem.Spec PyProof.Rows L2 G
local macro_rules | `(tactic| sizeOf_list_dec) => `(tactic| exact szl (by first | omega | (simp only [List.length_append, List.length_cons, List.length_nil, List.length_map, List.length_reverse, List.length_singleton, txts_lenG]; omega) | (simp only [List.length_append, List.length_cons, List.length_nil, List.length_map, List.length_reverse, txts_lenG]; omega)))
local macro_rules | `(tactic| array_get_dec) => `(tactic| first | with_reducible refine v_seq ?_ | with_reducible refine v_next ?_ | with_reducible refine v_asg ?_ | (with_reducible refine v_isvar ?_; first | with_reducible refine v_var0 ?_ | with_reducible refine v_var1 ?_ | with_reducible refine v_var2 ?_ | with_reducible refine v_var3 ?_ | with_reducible refine v_var4 ?_ | with_reducible refine v_var5 ?_ | with_reducible refine v_var6 ?_ | with_reducible refine v_var7 ?_ | with_reducible refine v_var8 ?_ | with_reducible refine v_var9 ?_ | with_reducible refine v_var10 ?_ | with_reducible refine v_var11 ?_ | with_reducible refine v_var12 ?_ | with_reducible refine v_var13 ?_ | with_reducible refine v_var14 ?_ | with_reducible refine v_var15 ?_ | with_reducible refine v_var16 ?_ | with_reducible refine v_var17 ?_ | with_reducible refine v_var18 ?_ | with_reducible refine v_var19 ?_ | with_reducible refine v_var20 ?_ | with_reducible refine v_var21 ?_ | with_reducible refine v_var22 ?_ | with_reducible refine v_var23 ?_ | with_reducible refine v_var24 ?_ | with_reducible refine v_var25 ?_) | (with_reducible refine v_isname ?_; first | with_reducible refine v_name0 ?_ | with_reducible refine v_wname0 ?_ | with_reducible refine v_name1 ?_ | with_reducible refine v_wname1 ?_ | with_reducible refine v_name2 ?_ | with_reducible refine v_wname2 ?_ | with_reducible refine v_name3 ?_ | with_reducible refine v_wname3 ?_ | with_reducible refine v_name4 ?_ | with_reducible refine v_wname4 ?_ | with_reducible refine v_name5 ?_ | with_reducible refine v_wname5 ?_ | with_reducible refine v_name6 ?_ | with_reducible refine v_wname6 ?_ | with_reducible refine v_name7 ?_ | with_reducible refine v_wname7 ?_ | with_reducible refine v_name8 ?_ | with_reducible refine v_wname8 ?_ | with_reducible refine v_name9 ?_ | with_reducible refine v_wname9 ?_ | with_reducible refine v_name10 ?_ | with_reducible refine v_wname10 ?_ | with_reducible refine v_name11 ?_ | with_reducible refine v_wname11 ?_ | with_reducible refine v_name12 ?_ | with_reducible refine v_wname12 ?_ | with_reducible refine v_name13 ?_ | with_reducible refine v_wname13 ?_ | with_reducible refine v_name14 ?_ | with_reducible refine v_wname14 ?_ | with_reducible refine v_name15 ?_ | with_reducible refine v_wname15 ?_ | with_reducible refine v_name16 ?_ | with_reducible refine v_wname16 ?_ | with_reducible refine v_name17 ?_ | with_reducible refine v_wname17 ?_ | with_reducible refine v_name18 ?_ | with_reducible refine v_wname18 ?_ | with_reducible refine v_name19 ?_ | with_reducible refine v_wname19 ?_ | with_reducible refine v_name20 ?_ | with_reducible refine v_wname20 ?_ | with_reducible refine v_name21 ?_ | with_reducible refine v_wname21 ?_ | with_reducible refine v_name22 ?_ | with_reducible refine v_wname22 ?_ | with_reducible refine v_name23 ?_ | with_reducible refine v_wname23 ?_ | with_reducible refine v_name24 ?_ | with_reducible refine v_wname24 ?_ | with_reducible refine v_name25 ?_ | with_reducible refine v_wname25 ?_) | with_reducible refine v_drop ?_ | with_reducible refine v_ret ?_ | with_reducible refine v_ifS ?_ | with_reducible refine v_test ?_ | with_reducible refine v_bl ?_ | with_reducible refine v_const ?_ | with_reducible refine v_op ?_ | with_reducible refine v_cb ?_ | with_reducible refine v_nil ?_ | with_reducible refine v_cons ?_ | with_reducible refine v_fld ?_ | with_reducible refine v_meth ?_ | with_reducible refine v_cal ?_ | with_reducible refine v_call0 ?_ | with_reducible refine v_pos2 ?_ | with_reducible refine v_tt ?_ | with_reducible refine v_ff ?_ | with_reducible refine v_ntt ?_ | with_reducible refine v_nff ?_ | with_reducible refine v_dnot ?_ | with_reducible refine v_dand ?_ | with_reducible refine v_dor ?_ | with_reducible refine v_andV ?_ | with_reducible refine v_orV ?_ | with_reducible refine v_notV ?_ | with_reducible refine v_ifE ?_ | with_reducible refine v_bm0 ?_ | with_reducible refine v_eqS ?_ | with_reducible refine v_eqI ?_ | with_reducible refine v_neS ?_ | with_reducible refine v_neI ?_ | with_reducible refine v_eqB ?_ | with_reducible refine v_neB ?_ | with_reducible refine v_isNn ?_ | with_reducible refine v_isNs ?_ | with_reducible refine v_isNi ?_ | with_reducible refine v_isNt ?_ | with_reducible refine v_notNn ?_ | with_reducible refine v_notNs ?_ | with_reducible refine v_notNi ?_ | with_reducible refine v_notNt ?_ | with_reducible refine v_isN ?_ | with_reducible refine v_notN ?_ | with_reducible refine v_lt ?_ | with_reducible refine v_le ?_ | with_reducible refine v_gt ?_ | with_reducible refine v_ge ?_ | with_reducible refine v_addI ?_ | with_reducible refine v_subI ?_ | with_reducible refine v_lenT ?_ | with_reducible refine v_lenL ?_ | with_reducible refine v_chain ?_ | with_reducible refine v_un ?_ | with_reducible refine v_tup ?_ | with_reducible refine v_lst ?_ | with_reducible refine v_lstC ?_ | with_reducible refine v_gsub ?_ | with_reducible refine v_rng1 ?_ | with_reducible refine v_rng2 ?_ | with_reducible refine v_slice ?_ | with_reducible refine v_nopart ?_ | with_reducible refine v_part ?_ | with_reducible refine v_partI ?_ | with_reducible refine v_slT ?_ | with_reducible refine v_slL ?_ | with_reducible refine v_rev ?_ | with_reducible refine v_revO ?_ | with_reducible refine v_enumS ?_ | with_reducible refine v_enumL ?_ | with_reducible refine v_enumT ?_ | with_reducible refine v_zipS ?_ | with_reducible refine v_revL ?_ | with_reducible refine v_revT ?_ | with_reducible refine v_putT ?_ | with_reducible refine v_putK ?_ | with_reducible refine v_inT ?_ | with_reducible refine v_getT ?_ | with_reducible refine v_get2T ?_ | with_reducible refine v_make ?_ | with_reducible refine v_fldSet ?_ | with_reducible refine v_forL ?_ | with_reducible refine v_forT ?_ | with_reducible refine v_forS ?_ | with_reducible refine v_lstO ?_ | with_reducible refine v_rolO ?_ | with_reducible refine v_tupO ?_ | with_reducible refine v_strO ?_ | with_reducible refine v_listT ?_ | with_reducible refine v_listL ?_ | with_reducible refine v_tupleL ?_ | with_reducible refine v_tupleT ?_ | with_reducible refine v_isiS ?_ | with_reducible refine v_isiT ?_ | with_reducible refine v_isiL ?_ | with_reducible refine v_allM ?_ | with_reducible refine v_anyM ?_ | with_reducible refine v_eqNS ?_ | with_reducible refine v_neNS ?_ | with_reducible refine v_gcons ?_ | with_reducible refine v_gnil ?_ | with_reducible refine v_par2 ?_ | with_reducible refine v_par33 ?_ | with_reducible refine v_retN ?_ | with_reducible refine v_sameS ?_ | with_reducible refine v_sameB ?_ | with_reducible refine v_sameI ?_ | with_reducible refine v_sameN ?_ | with_reducible refine v_sameT ?_ | with_reducible refine v_sameL ?_ | with_reducible refine v_endN ?_ | with_reducible refine v_bm ?_ | with_reducible refine v_tystr ?_ | with_reducible refine v_break ?_ | with_reducible refine v_cont ?_ | ((with_reducible refine v_slS ?_ ?_); sizeOf_list_dec) | ((with_reducible refine v_lenS ?_ ?_); sizeOf_list_dec) | ((with_reducible refine v_addS ?_ ?_); sizeOf_list_dec) | ((with_reducible refine v_addT ?_ ?_); sizeOf_list_dec) | ((with_reducible refine v_addL ?_ ?_); sizeOf_list_dec) | (with_reducible refine v_par _ _ ?_) | (with_reducible refine v_par3 _ _ _ ?_) | ((with_reducible refine v_gtup ?_ ?_); rfl) | with_reducible refine v_ixT (by with_unfolding_all rfl) ?_ | with_reducible refine v_ixL (by with_unfolding_all rfl) ?_ | with_reducible refine v_ixR (by with_unfolding_all rfl) ?_ | ((with_reducible refine v_ixS ?_ (by with_unfolding_all rfl) ?_); sizeOf_list_dec) | ((with_reducible refine And.intro ?_ ?_); sizeOf_list_dec) | with_reducible refine v_dt (by first | assumption | with_unfolding_all rfl | omega | (simp only [List.length_map, List.length_append, List.length_cons, List.length_nil, List.length_reverse, txts_lenG]; first | done | omega)) ?_ | with_reducible refine v_ndt (by first | assumption | with_unfolding_all rfl | omega | (simp only [List.length_map, List.length_append, List.length_cons, List.length_nil, List.length_reverse, txts_lenG]; first | done | omega)) ?_ | with_reducible refine v_df (by first | assumption | omega | (with_unfolding_all decide) | (simp only [List.length_map, List.length_append, List.length_cons, List.length_nil, List.length_reverse, txts_lenG]; first | done | omega)) ?_ | with_reducible refine v_ndf (by first | assumption | omega | (with_unfolding_all decide) | (simp only [List.length_map, List.length_append, List.length_cons, List.length_nil, List.length_reverse, txts_lenG]; first | done | omega)) ?_ | decreasing_trivial_pre_omega | ((with_reducible refine v_isname ?_); dsimp only [wipeD, List.set]) | ((with_reducible refine v_isvar ?_); dsimp only [wipeD, List.set]))
local macro_rules | `(tactic| array_mem_dec) => `(tactic| repeat array_get_dec)
local macro_rules | `(tactic| bv_omega) => `(tactic| repeat' (first | array_get_dec | with_reducible refine ite_d (fun _ => ?_) (fun _ => ?_) | with_reducible refine ite_nd (fun _ => ?_) (fun _ => ?_) | with_reducible refine ite_b (fun _ => ?_) (fun _ => ?_) | with_reducible refine ite_nb (fun _ => ?_) (fun _ => ?_)))
set_option maxHeartbeats 4000000
namespace G
open PySem PySem.Spec PyProof.Rows L2

/-! ### books: names, kinds by names, what holds what -/
section
variable {k : KindR} {C : Cl} {Q : D → Prop}
end
local macro_rules | `(tactic| decreasing_trivial_pre_omega) => `(tactic| with_reducible refine kz_name ?_)
local macro_rules | `(tactic| decreasing_trivial_pre_omega) => `(tactic| with_reducible refine kz_family ?_)
local macro_rules | `(tactic| decreasing_trivial_pre_omega) => `(tactic| with_reducible refine kz_marks ?_)
local macro_rules | `(tactic| decreasing_trivial_pre_omega) => `(tactic| with_reducible refine kz_yes ?_)
local macro_rules | `(tactic| decreasing_trivial_pre_omega) => `(tactic| with_reducible refine kz_no ?_)
local macro_rules | `(tactic| decreasing_trivial_pre_omega) => `(tactic| with_reducible refine kz_digits ?_)
local macro_rules | `(tactic| decreasing_trivial_pre_omega) => `(tactic| with_reducible refine kz_point ?_)
local macro_rules | `(tactic| decreasing_trivial_pre_omega) => `(tactic| with_reducible refine kz_keep ?_)
def bookMeths : List Str := ["names", "kind_named", "holds", "is_triple", "given_joins", "all_joins", "own_name", "kind_of", "kind_of_column", "words", "first_unlisted", "samples", "shortest_columns", "reachable", "flaw", "flaw_of_two", "flaw_of_three"]
/-- the fields of a book, as far as they are made -/
structure BFs (fs : List (Str × D)) (ks : List KindR) : Prop where
  kinds : fs.lookup ("kinds" : Str) = some (.tup (ks.map kindD))
  no : ∀ m ∈ bookMeths, fs.lookup m = none
/-- a book at C -/
def BkAt (C : Cl) (x : D) (ks : List KindR) : Prop := ∃ fs, insOf C x = some ("Book", fs) ∧ BFs fs ks
theorem insOf_sub {C C' : Cl} {x : D} {c : String} {fs : List (Str × D)} (s : SubC C C') (h : insOf C x = some (c, fs)) : insOf C' x = some (c, fs) := by
  cases x with
  | ins c' fs' => exact h
  | ref a =>
    change (match C a with | some (.ins c fs) => some (c, fs) | _ => none) = some (c, fs) at h
    show (match C' a with | some (.ins c fs) => some (c, fs) | _ => none) = some (c, fs)
    cases e : C a with
    | none => rw [e] at h; cases h
    | some o => rw [s a o e]; rw [e] at h; exact h
  | _ => cases h
theorem BkAt.sub {C C' : Cl} {x : D} {ks : List KindR} (s : SubC C C') (h : BkAt C x ks) : BkAt C' x ks := let ⟨fs, h1, h2⟩ := h; ⟨fs, insOf_sub s h1, h2⟩
def namesK (ks : List KindR) : List (List Nat) := ks.map (·.name)
def findK (ks : List KindR) (l : List Nat) : Option KindR := ks.find? fun k => decide (k.name = l)
/-- whether a column of one kind can have cells of another one -/
def holdsK (h w : KindR) : Bool :=
  if h.name = w.name ∨ w.fam = famMissing ∨ h.fam = famText then true
  else if h.fam = famMissing ∨ w.fam = famText then false
  else if w.fam = famTruth then true
  else if h.fam = famTruth ∨ (w.point = true ∧ h.point = false) then false
  else match h.digits, w.digits with
    | none, _ => true
    | some _, none => false
    | some n, some m => decide (m ≤ n)
end G
set_option maxHeartbeats 4000000
namespace G
open PySem PySem.Spec PyProof.Rows L2
local macro_rules | `(tactic| decreasing_trivial_pre_omega) => `(tactic| first | with_reducible refine kz_keep ?_ | with_reducible refine kz_point ?_ | with_reducible refine kz_digits ?_ | with_reducible refine kz_no ?_ | with_reducible refine kz_yes ?_ | with_reducible refine kz_marks ?_ | with_reducible refine kz_family ?_ | with_reducible refine kz_name ?_)
/-! ### books: joins -/
abbrev T3 := List Nat × List Nat × List Nat
def tripD (t : T3) : D := .tup [.str t.1, .str t.2.1, .str t.2.2]
def tk (a b : List Nat) : List Key := [.inr ⟨a.toArray⟩, .inr ⟨b.toArray⟩]
/-- a triple that the book takes -/
structure OkT (ks : List KindR) (t : T3) : Prop where
  n1 : t.1 ∈ namesK ks
  n2 : t.2.1 ∈ namesK ks
  n3 : t.2.2 ∈ namesK ks
  ne : t.1 ≠ t.2.1
  h1 : ∀ c a, findK ks t.2.2 = some c → findK ks t.1 = some a → holdsK c a = true
  h2 : ∀ c a, findK ks t.2.2 = some c → findK ks t.2.1 = some a → holdsK c a = true
/-- is it a text that names a kind -/
def inB (ks : List KindR) (d : D) : Bool := onStr (fun l => decide (l ∈ namesK ks)) d
/-- what is no triple of a book's names -/
inductive NoTrip (ks : List KindR) : D → Cl → Prop
  | other {d : D} {C : Cl} (n : String) : tyNm d C = some n → isSub n "tuple" = false → NoTrip ks d C
  | len {es : List D} {C : Cl} : es.length ≠ 3 → es.length ≤ 100 → NoTrip ks (.tup es) C
  | name {a b c : D} {C : Cl} : (∀ d ∈ [a, b, c], ∀ C', Known d C') → [a, b, c].all (inB ks) = false → NoTrip ks (.tup [a, b, c]) C
  | same {t : T3} {C : Cl} : t.1 ∈ namesK ks → t.2.1 ∈ namesK ks → t.2.2 ∈ namesK ks → t.1 = t.2.1 → NoTrip ks (tripD t) C
/-- the triples that a book is made of -/
structure OkTs (ks : List KindR) (trs : List T3) : Prop where
  ok : ∀ t ∈ trs, OkT ks t
  nd : (trs.map fun t => (t.1, t.2.1)).Nodup
  len : trs.length ≤ 1000
end G
set_option maxHeartbeats 4000000
namespace G
open PySem PySem.Spec PyProof.Rows L2
local macro_rules | `(tactic| decreasing_trivial_pre_omega) => `(tactic| first | with_reducible refine kz_keep ?_ | with_reducible refine kz_point ?_ | with_reducible refine kz_digits ?_ | with_reducible refine kz_no ?_ | with_reducible refine kz_yes ?_ | with_reducible refine kz_marks ?_ | with_reducible refine kz_family ?_ | with_reducible refine kz_name ?_)
/-! ### books: the table of all joins, the making -/
/-- a book at C whose spare kind is known too -/
def BkSp (C : Cl) (x : D) (ks : List KindR) (s : List Nat) : Prop := ∃ fs, insOf C x = some ("Book", fs) ∧ BFs fs ks ∧ fs.lookup ("spare" : Str) = some (.str s)
theorem BkSp.bk {C : Cl} {x : D} {ks : List KindR} {s : List Nat} (h : BkSp C x ks s) : BkAt C x ks := let ⟨fs, h1, h2, _⟩ := h; ⟨fs, h1, h2⟩
theorem BkSp.sub {C C' : Cl} {x : D} {ks : List KindR} {sp : List Nat} (s : SubC C C') (h : BkSp C x ks sp) : BkSp C' x ks sp := let ⟨fs, h1, h2, h3⟩ := h; ⟨fs, insOf_sub s h1, h2, h3⟩
end G
set_option maxHeartbeats 4000000
namespace G
open PySem PySem.Spec PyProof.Rows L2
local macro_rules | `(tactic| decreasing_trivial_pre_omega) => `(tactic| first | with_reducible refine kz_keep ?_ | with_reducible refine kz_point ?_ | with_reducible refine kz_digits ?_ | with_reducible refine kz_no ?_ | with_reducible refine kz_yes ?_ | with_reducible refine kz_marks ?_ | with_reducible refine kz_family ?_ | with_reducible refine kz_name ?_)
/-! ### books made -/
/-- what a book is made of -/
structure OkB (ks : List KindR) (trs : List T3) : Prop where
  len1 : 1 ≤ ks.length
  len7 : ks.length ≤ 7
  nd : (namesK ks).Nodup
  nm : ∀ k ∈ ks, k.name.length ≤ 100
  txt : ∃ k ∈ ks, k.fam = famText
  mks : ∀ k ∈ ks, k.fam = famMissing → k.marks ≠ []
  js : OkTs ks trs
end G
set_option maxHeartbeats 4000000
namespace G
open PySem PySem.Spec PyProof.Rows L2
local macro_rules | `(tactic| decreasing_trivial_pre_omega) => `(tactic| first | with_reducible refine kz_keep ?_ | with_reducible refine kz_point ?_ | with_reducible refine kz_digits ?_ | with_reducible refine kz_no ?_ | with_reducible refine kz_yes ?_ | with_reducible refine kz_marks ?_ | with_reducible refine kz_family ?_ | with_reducible refine kz_name ?_)
/-! ### levels; kinds, books, levels compared -/
local macro_rules | `(tactic| decreasing_trivial_pre_omega) => `(tactic| with_reducible refine v_lenSet ?_)
/-! the parts of a kind -/
def partsD (k : KindR) : D := .tup [.str k.name, .str k.fam, .tup (txts k.marks), .tup (txts k.yes), .tup (txts k.no), optN k.digits, .bl k.point, .str k.signs, .bl k.zeros, optN k.keep, .int k.shown]
/-- texts whose signs are characters -/
structure SmK (k : KindR) : Prop where
  nm : small k.name = true
  fm : small k.fam = true
  mk' : ∀ l ∈ k.marks, small l = true
  ys : ∀ l ∈ k.yes, small l = true
  ns : ∀ l ∈ k.no, small l = true
  sg : small k.signs = true
theorem SmK.sh {k : KindR} (h : SmK k) : Sh 2 (partsD k) := by
  have sO : ∀ (n : Nat) (o : Option Nat), Sh n (optN o) := fun n o => by cases o <;> first | exact sh_non | exact sh_int
  exact sh_tup (sh_cons (sh_str h.nm) (sh_cons (sh_str h.fm) (sh_cons (sh_tup (sh_txts h.mk')) (sh_cons (sh_tup (sh_txts h.ys)) (sh_cons (sh_tup (sh_txts h.ns)) (sh_cons (sO _ _) (sh_cons sh_bl (sh_cons (sh_str h.sg) (sh_cons sh_bl (sh_cons (sO _ _) (sh_cons sh_int sh_nil)))))))))))
theorem small_ok {l : List Nat} (h : isText l = true) : small l = true := by
  unfold isText at h; unfold small
  rw [List.all_eq_true] at h ⊢
  intro c hc
  have := h c hc
  unfold okSign at this
  simp only [Bool.and_eq_true, decide_eq_true_eq] at this ⊢
  omega
local macro_rules | `(tactic| decreasing_trivial_pre_omega) => `(tactic| with_reducible refine kz_parts ?_)
/-! books compared -/
section
variable {ks : List KindR} {trs : List T3} {C : Cl} {Q : D → Prop}
end
local macro_rules | `(tactic| decreasing_trivial_pre_omega) => `(tactic| with_reducible refine bz_kinds ?_)
local macro_rules | `(tactic| decreasing_trivial_pre_omega) => `(tactic| with_reducible refine bz_spare ?_)
local macro_rules | `(tactic| decreasing_trivial_pre_omega) => `(tactic| with_reducible refine bz_joined ?_)
local macro_rules | `(tactic| decreasing_trivial_pre_omega) => `(tactic| with_reducible refine bz_mark ?_)
local macro_rules | `(tactic| decreasing_trivial_pre_omega) => `(tactic| with_reducible refine bz_meth (by decide) ?_)
/-! two kinds of one object are one kind -/
/-! levels -/
section
variable {ks : List KindR} {trs : List T3} {k : KindR} {C : Cl} {Q : D → Prop}
end
local macro_rules | `(tactic| decreasing_trivial_pre_omega) => `(tactic| with_reducible refine lz_book ?_)
local macro_rules | `(tactic| decreasing_trivial_pre_omega) => `(tactic| with_reducible refine lz_name ?_)
local macro_rules | `(tactic| decreasing_trivial_pre_omega) => `(tactic| with_reducible refine lz_kind ?_)
/-- the first kind that takes a text -/
def ownK (ks : List KindR) (l : List Nat) : Option KindR := ks.find? fun k => takes k l
end G
set_option maxHeartbeats 4000000
namespace G
open PySem PySem.Spec PyProof.Rows L2
local macro_rules | `(tactic| decreasing_trivial_pre_omega) => `(tactic| first | with_reducible refine lz_kind ?_ | with_reducible refine lz_name ?_ | with_reducible refine lz_book ?_ | with_reducible refine bz_meth (by decide) ?_ | with_reducible refine bz_mark ?_ | with_reducible refine bz_joined ?_ | with_reducible refine bz_spare ?_ | with_reducible refine bz_kinds ?_ | with_reducible refine kz_parts ?_ | with_reducible refine v_lenSet ?_ | with_reducible refine kz_keep ?_ | with_reducible refine kz_point ?_ | with_reducible refine kz_digits ?_ | with_reducible refine kz_no ?_ | with_reducible refine kz_yes ?_ | with_reducible refine kz_marks ?_ | with_reducible refine kz_family ?_ | with_reducible refine kz_name ?_)
/-! ### kinds of a book, drawn -/
structure OkS (ks : List KindR) (L : Nat) : Prop where
  good : ∀ k ∈ ks, GoodK (optD k) k
  txt : ∀ k ∈ ks, ∀ t ∈ k.marks ++ k.yes ++ k.no, isText t = true ∧ t.length ≤ 230
  nd : (namesK ks).Nodup
  has : ∃ k ∈ ks, k.fam = famText
  dg : ∀ k ∈ ks, ∀ d, k.digits = some d → d ≤ L
  key : ∀ k ∈ ks, keyed k.name
  dr : ∀ k ∈ ks, DrawnQ k
  nq : NoQs (namesK ks)
/-- what the laws' readings of a book's kinds need -/
structure OkW (ks : List KindR) : Prop where
  good : ∀ k ∈ ks, GoodK (optD k) k
  txt : ∀ k ∈ ks, ∀ t ∈ k.marks ++ k.yes ++ k.no, isText t = true ∧ t.length ≤ 230
  nd : (namesK ks).Nodup
  has : ∃ k ∈ ks, k.fam = famText
theorem OkS.w {ks : List KindR} {L : Nat} (h : OkS ks L) : OkW ks := ⟨h.good, h.txt, h.nd, h.has⟩
instance {ks : List KindR} {L : Nat} : CoeOut (OkS ks L) (OkW ks) := ⟨OkS.w⟩
end G
set_option maxHeartbeats 4000000
namespace G
open PySem PySem.Spec PyProof.Rows L2
local macro_rules | `(tactic| decreasing_trivial_pre_omega) => `(tactic| first | with_reducible refine lz_kind ?_ | with_reducible refine lz_name ?_ | with_reducible refine lz_book ?_ | with_reducible refine bz_meth (by decide) ?_ | with_reducible refine bz_mark ?_ | with_reducible refine bz_joined ?_ | with_reducible refine bz_spare ?_ | with_reducible refine bz_kinds ?_ | with_reducible refine kz_parts ?_ | with_reducible refine v_lenSet ?_ | with_reducible refine kz_keep ?_ | with_reducible refine kz_point ?_ | with_reducible refine kz_digits ?_ | with_reducible refine kz_no ?_ | with_reducible refine kz_yes ?_ | with_reducible refine kz_marks ?_ | with_reducible refine kz_family ?_ | with_reducible refine kz_name ?_)
/-! ### the law of a book's own kinds -/
theorem word_small {l : List Nat} (h : isWord l = true) : small l = true := by
  unfold isWord at h
  rw [Bool.and_eq_true] at h
  have h3 := h.2
  unfold small
  rw [List.all_eq_true] at h3 ⊢
  intro c hc
  have low : ∀ c ∈ letters, c < 1114112 := by decide
  exact decide_eq_true (low c (of_decide_eq_true (h3 c hc)))
theorem good_small {k : KindR} {o : D} (g : GoodK o k) : SmK k := by
  have ts : ∀ {ls : List (List Nat)} {m : Nat}, areTexts ls m = true → ∀ l ∈ ls, small l = true := fun h l hl => small_ok (List.all_eq_true.mp (areTexts_len h).2.2.1 l hl)
  cases g with
  | missing hw ha hm => exact ⟨word_small hw, show small famMissing = true by decide, ts ha, nofun, nofun, show small [45] = true by decide⟩
  | truth hw hy hn hd ly ln => exact ⟨word_small hw, show small famTruth = true by decide, nofun, ts hy, ts hn, show small [45] = true by decide⟩
  | text hw => exact ⟨word_small hw, show small famText = true by decide, nofun, nofun, nofun, show small [45] = true by decide⟩
  | number hw gn ho => exact ⟨word_small hw, by rw [gn.fam]; decide, by rw [gn.marks]; exact nofun, by rw [gn.yes]; exact nofun, by rw [gn.no]; exact nofun, by rcases gn.signs with e | e | e <;> rw [e] <;> decide⟩
theorem OkS.sm {ks : List KindR} {L : Nat} (h : OkS ks L) : ∀ k ∈ ks, SmK k := fun k hk => good_small (h.good k hk)
/-- a text has a kind -/
theorem OkS.own {ks : List KindR} {L : Nat} (h : OkS ks L) {l : List Nat} (hl : isText l = true) : ∃ k, ownK ks l = some k := by
  unfold ownK
  rw [← Option.isSome_iff_exists, List.find?_isSome]
  obtain ⟨k, hk, e⟩ := h.has
  refine ⟨k, hk, ?_⟩
  unfold takes
  rw [e, if_neg (by decide), if_neg (by decide), if_pos rfl]
  exact hl
theorem OkW.own {ks : List KindR} (h : OkW ks) {l : List Nat} (hl : isText l = true) : ∃ k, ownK ks l = some k := by
  unfold ownK
  rw [← Option.isSome_iff_exists, List.find?_isSome]
  obtain ⟨k, hk, e⟩ := h.has
  refine ⟨k, hk, ?_⟩
  unfold takes
  rw [e, if_neg (by decide), if_neg (by decide), if_pos rfl]
  exact hl
theorem OkW.sm {ks : List KindR} (h : OkW ks) : ∀ k ∈ ks, SmK k := fun k hk => good_small (h.good k hk)
end G
set_option maxHeartbeats 4000000
namespace G
open PySem PySem.Spec PyProof.Rows L2
local macro_rules | `(tactic| decreasing_trivial_pre_omega) => `(tactic| first | with_reducible refine lz_kind ?_ | with_reducible refine lz_name ?_ | with_reducible refine lz_book ?_ | with_reducible refine bz_meth (by decide) ?_ | with_reducible refine bz_mark ?_ | with_reducible refine bz_joined ?_ | with_reducible refine bz_spare ?_ | with_reducible refine bz_kinds ?_ | with_reducible refine kz_parts ?_ | with_reducible refine v_lenSet ?_ | with_reducible refine kz_keep ?_ | with_reducible refine kz_point ?_ | with_reducible refine kz_digits ?_ | with_reducible refine kz_no ?_ | with_reducible refine kz_yes ?_ | with_reducible refine kz_marks ?_ | with_reducible refine kz_family ?_ | with_reducible refine kz_name ?_)
/-! ### levels joined -/
local macro_rules | `(tactic| decreasing_trivial_pre_omega) => `(tactic| with_reducible refine v_intO ?_)
local macro_rules | `(tactic| decreasing_trivial_pre_omega) => `(tactic| with_reducible refine v_gh ?_)
section
variable {k : KindR} {C : Cl} {Q : DQ}
end
local macro_rules | `(tactic| decreasing_trivial_pre_omega) => `(tactic| with_reducible refine v_sp0 ?_)
local macro_rules | `(tactic| decreasing_trivial_pre_omega) => `(tactic| with_reducible refine v_sp1 ?_)
local macro_rules | `(tactic| decreasing_trivial_pre_omega) => `(tactic| with_reducible refine v_sp2 ?_)
local macro_rules | `(tactic| decreasing_trivial_pre_omega) => `(tactic| with_reducible refine v_sp3 ?_)
local macro_rules | `(tactic| decreasing_trivial_pre_omega) => `(tactic| with_reducible refine v_sp4 ?_)
local macro_rules | `(tactic| decreasing_trivial_pre_omega) => `(tactic| with_reducible refine v_sp5 ?_)
local macro_rules | `(tactic| decreasing_trivial_pre_omega) => `(tactic| with_reducible refine v_op0 ?_)
local macro_rules | `(tactic| decreasing_trivial_pre_omega) => `(tactic| with_reducible refine v_op1 ?_)
local macro_rules | `(tactic| decreasing_trivial_pre_omega) => `(tactic| with_reducible refine v_op4 ?_)
local macro_rules | `(tactic| decreasing_trivial_pre_omega) => `(tactic| with_reducible refine v_op5 ?_)
/-! what the law knows of a book -/
end G
set_option maxHeartbeats 4000000
namespace G
open PySem PySem.Spec PyProof.Rows L2
local macro_rules | `(tactic| decreasing_trivial_pre_omega) => `(tactic| first | with_reducible refine v_op5 ?_ | with_reducible refine v_op4 ?_ | with_reducible refine v_op1 ?_ | with_reducible refine v_op0 ?_ | with_reducible refine v_sp5 ?_ | with_reducible refine v_sp4 ?_ | with_reducible refine v_sp3 ?_ | with_reducible refine v_sp2 ?_ | with_reducible refine v_sp1 ?_ | with_reducible refine v_sp0 ?_ | with_reducible refine v_gh ?_ | with_reducible refine v_intO ?_ | with_reducible refine lz_kind ?_ | with_reducible refine lz_name ?_ | with_reducible refine lz_book ?_ | with_reducible refine bz_meth (by decide) ?_ | with_reducible refine bz_mark ?_ | with_reducible refine bz_joined ?_ | with_reducible refine bz_spare ?_ | with_reducible refine bz_kinds ?_ | with_reducible refine kz_parts ?_ | with_reducible refine v_lenSet ?_ | with_reducible refine kz_keep ?_ | with_reducible refine kz_point ?_ | with_reducible refine kz_digits ?_ | with_reducible refine kz_no ?_ | with_reducible refine kz_yes ?_ | with_reducible refine kz_marks ?_ | with_reducible refine kz_family ?_ | with_reducible refine kz_name ?_)
/-! ### what the law knows of a kind that holds another one; joins drawn -/
section
variable {A B : Prop} {n : Nat}
end
local macro_rules | `(tactic| decreasing_trivial_pre_omega) => `(tactic| with_reducible refine v_onN ?_)
local macro_rules | `(tactic| decreasing_trivial_pre_omega) => `(tactic| with_reducible refine v_onS ?_)
local macro_rules | `(tactic| decreasing_trivial_pre_omega) => `(tactic| with_reducible refine v_nonN ?_)
local macro_rules | `(tactic| decreasing_trivial_pre_omega) => `(tactic| with_reducible refine v_nonS ?_)
end G
set_option maxHeartbeats 4000000
namespace G
open PySem PySem.Spec PyProof.Rows L2
local macro_rules | `(tactic| decreasing_trivial_pre_omega) => `(tactic| first | with_reducible refine v_nonS ?_ | with_reducible refine v_nonN ?_ | with_reducible refine v_onS ?_ | with_reducible refine v_onN ?_ | with_reducible refine v_op5 ?_ | with_reducible refine v_op4 ?_ | with_reducible refine v_op1 ?_ | with_reducible refine v_op0 ?_ | with_reducible refine v_sp5 ?_ | with_reducible refine v_sp4 ?_ | with_reducible refine v_sp3 ?_ | with_reducible refine v_sp2 ?_ | with_reducible refine v_sp1 ?_ | with_reducible refine v_sp0 ?_ | with_reducible refine v_gh ?_ | with_reducible refine v_intO ?_ | with_reducible refine lz_kind ?_ | with_reducible refine lz_name ?_ | with_reducible refine lz_book ?_ | with_reducible refine bz_meth (by decide) ?_ | with_reducible refine bz_mark ?_ | with_reducible refine bz_joined ?_ | with_reducible refine bz_spare ?_ | with_reducible refine bz_kinds ?_ | with_reducible refine kz_parts ?_ | with_reducible refine v_lenSet ?_ | with_reducible refine kz_keep ?_ | with_reducible refine kz_point ?_ | with_reducible refine kz_digits ?_ | with_reducible refine kz_no ?_ | with_reducible refine kz_yes ?_ | with_reducible refine kz_marks ?_ | with_reducible refine kz_family ?_ | with_reducible refine kz_name ?_)
/-! ### joins drawn -/
/-- the pairs of the triples stand ahead of (i, j) -/
def Ahead (ks : List KindR) (trs : List T3) (i j : Nat) : Prop := ∀ t ∈ trs, ∃ (i' j' : Nat) (a b : KindR), ks[i']? = some a ∧ ks[j']? = some b ∧ t.1 = a.name ∧ t.2.1 = b.name ∧ (i' < i ∨ (i' = i ∧ j' < j))
theorem Ahead.mono {ks : List KindR} {trs : List T3} {i j i2 j2 : Nat} (h : Ahead ks trs i j) (l : i < i2 ∨ (i = i2 ∧ j ≤ j2)) : Ahead ks trs i2 j2 := fun t ht => by
  obtain ⟨i', j', a, b, h1, h2, h3, h4, h5⟩ := h t ht
  exact ⟨i', j', a, b, h1, h2, h3, h4, by omega⟩
end G
set_option maxHeartbeats 4000000
namespace G
open PySem PySem.Spec PyProof.Rows L2
local macro_rules | `(tactic| decreasing_trivial_pre_omega) => `(tactic| first | with_reducible refine v_nonS ?_ | with_reducible refine v_nonN ?_ | with_reducible refine v_onS ?_ | with_reducible refine v_onN ?_ | with_reducible refine v_op5 ?_ | with_reducible refine v_op4 ?_ | with_reducible refine v_op1 ?_ | with_reducible refine v_op0 ?_ | with_reducible refine v_sp5 ?_ | with_reducible refine v_sp4 ?_ | with_reducible refine v_sp3 ?_ | with_reducible refine v_sp2 ?_ | with_reducible refine v_sp1 ?_ | with_reducible refine v_sp0 ?_ | with_reducible refine v_gh ?_ | with_reducible refine v_intO ?_ | with_reducible refine lz_kind ?_ | with_reducible refine lz_name ?_ | with_reducible refine lz_book ?_ | with_reducible refine bz_meth (by decide) ?_ | with_reducible refine bz_mark ?_ | with_reducible refine bz_joined ?_ | with_reducible refine bz_spare ?_ | with_reducible refine bz_kinds ?_ | with_reducible refine kz_parts ?_ | with_reducible refine v_lenSet ?_ | with_reducible refine kz_keep ?_ | with_reducible refine kz_point ?_ | with_reducible refine kz_digits ?_ | with_reducible refine kz_no ?_ | with_reducible refine kz_yes ?_ | with_reducible refine kz_marks ?_ | with_reducible refine kz_family ?_ | with_reducible refine kz_name ?_)
/-! ### the table of joins, as the law makes it -/
local macro_rules | `(tactic| decreasing_trivial_pre_omega) => `(tactic| with_reducible refine v_trip0 ?_)
local macro_rules | `(tactic| decreasing_trivial_pre_omega) => `(tactic| with_reducible refine v_trip1 ?_)
end G
set_option maxHeartbeats 4000000
namespace G
open PySem PySem.Spec PyProof.Rows L2
local macro_rules | `(tactic| decreasing_trivial_pre_omega) => `(tactic| first | with_reducible refine v_trip1 ?_ | with_reducible refine v_trip0 ?_ | with_reducible refine v_nonS ?_ | with_reducible refine v_nonN ?_ | with_reducible refine v_onS ?_ | with_reducible refine v_onN ?_ | with_reducible refine v_op5 ?_ | with_reducible refine v_op4 ?_ | with_reducible refine v_op1 ?_ | with_reducible refine v_op0 ?_ | with_reducible refine v_sp5 ?_ | with_reducible refine v_sp4 ?_ | with_reducible refine v_sp3 ?_ | with_reducible refine v_sp2 ?_ | with_reducible refine v_sp1 ?_ | with_reducible refine v_sp0 ?_ | with_reducible refine v_gh ?_ | with_reducible refine v_intO ?_ | with_reducible refine lz_kind ?_ | with_reducible refine lz_name ?_ | with_reducible refine lz_book ?_ | with_reducible refine bz_meth (by decide) ?_ | with_reducible refine bz_mark ?_ | with_reducible refine bz_joined ?_ | with_reducible refine bz_spare ?_ | with_reducible refine bz_kinds ?_ | with_reducible refine kz_parts ?_ | with_reducible refine v_lenSet ?_ | with_reducible refine kz_keep ?_ | with_reducible refine kz_point ?_ | with_reducible refine kz_digits ?_ | with_reducible refine kz_no ?_ | with_reducible refine kz_yes ?_ | with_reducible refine kz_marks ?_ | with_reducible refine kz_family ?_ | with_reducible refine kz_name ?_)
local macro_rules | `(tactic| decreasing_trivial_pre_omega) => `(tactic| with_reducible refine v_iList ?_)
local macro_rules | `(tactic| decreasing_trivial_pre_omega) => `(tactic| with_reducible refine v_iEnum ?_)
/-! ### kinds of columns -/
/-- all texts have a kind -/
def Owned (ks : List KindR) (ts : List (List Nat)) : Prop := ∀ t ∈ ts, t.length ≤ 1000000 ∧ ∃ k, ownK ks t = some k
local macro_rules | `(tactic| decreasing_trivial_pre_omega) => `(tactic| with_reducible refine v_prop ?_)
local macro_rules | `(tactic| decreasing_trivial_pre_omega) => `(tactic| with_reducible refine bk_prop ?_)
theorem Owned.of {ks : List KindR} {ts : List (List Nat)} (h : OkW ks) (ht : ∀ t ∈ ts, isText t = true ∧ t.length ≤ 1000000) : Owned ks ts := fun t hm => ⟨(ht t hm).2, h.own (ht t hm).1⟩
end G
set_option maxHeartbeats 4000000
namespace G
open PySem PySem.Spec PyProof.Rows L2
/-! ### numbers cut -/
def seenN (s d : Nat) : Nat := if 0 < s ∨ d ≠ 48 then s + 1 else s
/-- digits with zeros behind the first n significant ones; s: how many were seen -/
def cutG (n : Nat) : Nat → List Nat → List Nat
  | _, [] => []
  | s, d :: ds => (if seenN s d ≤ n then d else 48) :: cutG n (seenN s d) ds
theorem cutG_len (n : Nat) : ∀ (s : Nat) (l : List Nat), (cutG n s l).length = l.length
  | _, [] => rfl
  | s, d :: ds => congrArg (· + 1) (cutG_len n _ ds)
theorem cutG_dig (n : Nat) : ∀ (s : Nat) (l : List Nat), l.all isDig = true → (cutG n s l).all isDig = true
  | _, [], _ => rfl
  | s, d :: ds, h => by
    rw [List.all_cons, Bool.and_eq_true] at h
    unfold cutG
    rw [List.all_cons, cutG_dig n _ ds h.2, Bool.and_true]
    split
    · exact h.1
    · rfl
theorem cutG_app (n : Nat) : ∀ (s : Nat) (l r : List Nat), cutG n s (l ++ r) = cutG n s l ++ cutG n (l.foldl seenN s) r
  | _, [], _ => rfl
  | s, d :: ds, r => by
    show (if seenN s d ≤ n then d else 48) :: cutG n (seenN s d) (ds ++ r) = _
    rw [cutG_app n _ ds r]; rfl
theorem rdrop_zeros_ex : ∀ p : List Nat, ∃ k, p = rdrop isZ p ++ List.replicate k 48 := by
  intro p
  have : ∀ r : List Nat, ∃ k, r = List.replicate k 48 ++ r.dropWhile isZ := by
    intro r
    induction r with
    | nil => exact ⟨0, rfl⟩
    | cons c r ih =>
      by_cases hc : isZ c = true
      · obtain ⟨k, e⟩ := ih
        refine ⟨k + 1, ?_⟩
        rw [List.dropWhile_cons_of_pos hc, List.replicate_succ, List.cons_append, ← e, (isZ_iff c).mp hc]
      · exact ⟨0, by rw [List.dropWhile_cons_of_neg hc]; rfl⟩
  obtain ⟨k, e⟩ := this p.reverse
  refine ⟨k, ?_⟩
  have := congrArg List.reverse e
  rw [List.reverse_reverse, List.reverse_append, List.reverse_replicate] at this
  exact this
def cutA (n : Nat) (w p : List Nat) : List Nat := cutG n 0 (w ++ p)
def cutW (n : Nat) (w p : List Nat) : List Nat := (cutA n w p).take w.length
def cutP (n : Nat) (w p : List Nat) : List Nat := rdrop isZ ((cutA n w p).drop w.length)
theorem cutW_eq (n : Nat) (w p : List Nat) : cutW n w p = cutG n 0 w := by
  unfold cutW cutA
  rw [cutG_app, ← cutG_len n 0 w, List.take_left]
theorem whole_first {w : List Nat} (h : wholeN w = w) (hd : digs w = true) : ∃ c t, w = c :: t ∧ (c ≠ 48 ∨ t = []) := by
  obtain ⟨c, t, rfl, _⟩ := dig_head hd
  refine ⟨c, t, rfl, ?_⟩
  by_cases e : c = 48
  · right
    cases t with
    | nil => rfl
    | cons x y =>
      exfalso
      rw [wholeN_cons e (by simp)] at h
      have h2 : (wholeN (x :: y)).length ≤ (x :: y).length := by
        unfold wholeN
        split
        · exact dropWhile_le _ _
        · simp
      rw [h] at h2
      simp at h2
      omega
  · exact .inl e
theorem Canon.cut {s w p : List Nat} (h : Canon s w p) {n : Nat} (hn : 1 ≤ n) : Canon s (cutW n w p) (cutP n w p) := by
  obtain ⟨c, t, hw, hc⟩ := whole_first h.ww h.dw
  have dw := h.dw
  unfold digs at dw
  rw [Bool.and_eq_true] at dw
  have e1 : cutW n w p = c :: cutG n (seenN 0 c) t := by
    rw [cutW_eq, hw]
    have : (if seenN 0 c ≤ n then c else 48) = c := by
      by_cases e : c = 48
      · subst e; split <;> rfl
      · have sd : seenN 0 c = 1 := if_pos (.inr e)
        rw [sd, if_pos hn]
    show (if seenN 0 c ≤ n then c else 48) :: cutG n (seenN 0 c) t = _
    rw [this]
  refine ⟨h.sg, ?_, ?_, ?_, rdrop_idem _, ?_⟩
  · unfold digs
    rw [cutW_eq, cutG_dig _ _ _ dw.2, decide_eq_true]
    · rfl
    · intro z
      have := congrArg List.length z
      rw [cutG_len, hw] at this
      simp at this
  · rw [e1]
    rcases hc with hc | rfl
    · exact wholeN_same hc
    · exact wholeN_one
  · refine all_rdrop ?_
    have : (cutA n w p).all isDig = true := cutG_dig _ _ _ (by rw [List.all_append, dw.2, h.dp]; rfl)
    rw [List.all_eq_true] at this ⊢
    intro x hx
    exact this x (List.mem_of_mem_drop hx)
  · rintro ⟨z1, z2, z3⟩
    rw [e1] at z2
    injection z2 with c0 t0
    have ht : t = [] := by
      have := congrArg List.length t0
      rw [cutG_len] at this
      exact List.length_eq_zero_iff.mp this
    subst ht
    have hp : p ≠ [] := fun z => h.nz ⟨z1, by rw [hw, c0], z⟩
    have e2 : (cutA n w p).drop w.length = cutG n 0 p := by
      unfold cutA
      rw [hw, c0]
      rfl
    unfold cutP at z3
    rw [e2] at z3
    have all0 : ∀ (l : List Nat), rdrop isZ (cutG n 0 l) = [] → ∃ k, l = List.replicate k 48 := by
      intro l
      induction l with
      | nil => exact fun _ => ⟨0, rfl⟩
      | cons d ds ih =>
        intro z
        by_cases e : d = 48
        · subst e
          have e3 : cutG n 0 (48 :: ds) = 48 :: cutG n 0 ds := by
            show (if seenN 0 48 ≤ n then 48 else 48) :: cutG n (seenN 0 48) ds = _
            rw [show seenN 0 48 = 0 from rfl]
            split <;> rfl
          rw [e3] at z
          have z2 : rdrop isZ (cutG n 0 ds) = [] := by
            obtain ⟨k, e4⟩ := rdrop_zeros_ex (48 :: cutG n 0 ds)
            rw [z, List.nil_append] at e4
            cases k with
            | zero => cases e4
            | succ k =>
              rw [List.replicate_succ] at e4
              injection e4 with _ e4
              rw [e4]
              have := rdrop_zeros [] k
              rw [List.nil_append] at this
              rw [this]; rfl
          obtain ⟨k, e5⟩ := ih z2
          exact ⟨k + 1, by rw [List.replicate_succ, e5]⟩
        · exfalso
          obtain ⟨k, e4⟩ := rdrop_zeros_ex (cutG n 0 (d :: ds))
          rw [z, List.nil_append] at e4
          have : cutG n 0 (d :: ds) = d :: cutG n 1 ds := by
            have sd : seenN 0 d = 1 := if_pos (.inr e)
            show (if seenN 0 d ≤ n then d else 48) :: cutG n (seenN 0 d) ds = _
            rw [sd, if_pos hn]
          rw [this] at e4
          cases k with
          | zero => cases e4
          | succ k =>
            rw [List.replicate_succ] at e4
            injection e4 with e4 _
            exact e e4
    obtain ⟨k, e6⟩ := all0 p z3
    have := h.pp
    rw [e6] at this
    have e7 := rdrop_zeros [] k
    rw [List.nil_append] at e7
    rw [e7] at this
    have : ([] : List Nat) = List.replicate k 48 := this
    rw [← this] at e6
    exact hp e6
end G
set_option maxHeartbeats 4000000
namespace G
open PySem PySem.Spec PyProof.Rows L2

/-! ### cut_number -/
end G
set_option maxHeartbeats 4000000
namespace G
open PySem PySem.Spec PyProof.Rows L2

/-! ### values of texts -/
local macro_rules | `(tactic| decreasing_trivial_pre_omega) => `(tactic| with_reducible refine kindD_fam ?_)
local macro_rules | `(tactic| decreasing_trivial_pre_omega) => `(tactic| with_reducible refine kindD_keep ?_)
local macro_rules | `(tactic| decreasing_trivial_pre_omega) => `(tactic| with_reducible refine kindD_yes ?_)
end G
set_option maxHeartbeats 4000000
namespace G
open PySem PySem.Spec PyProof.Rows L2
/-! ### kinds that hold others: the kind of a column holds the own kinds of its texts -/
end G
set_option maxHeartbeats 4000000
namespace G
open PySem PySem.Spec PyProof.Rows L2
local macro_rules | `(tactic| decreasing_trivial_pre_omega) => `(tactic| first | with_reducible refine kindD_yes ?_ | with_reducible refine kindD_keep ?_ | with_reducible refine kindD_fam ?_ | with_reducible refine bk_prop ?_ | with_reducible refine v_prop ?_ | with_reducible refine v_iEnum ?_ | with_reducible refine v_iList ?_ | with_reducible refine v_trip1 ?_ | with_reducible refine v_trip0 ?_ | with_reducible refine v_nonS ?_ | with_reducible refine v_nonN ?_ | with_reducible refine v_onS ?_ | with_reducible refine v_onN ?_ | with_reducible refine v_op5 ?_ | with_reducible refine v_op4 ?_ | with_reducible refine v_op1 ?_ | with_reducible refine v_op0 ?_ | with_reducible refine v_sp5 ?_ | with_reducible refine v_sp4 ?_ | with_reducible refine v_sp3 ?_ | with_reducible refine v_sp2 ?_ | with_reducible refine v_sp1 ?_ | with_reducible refine v_sp0 ?_ | with_reducible refine v_gh ?_ | with_reducible refine v_intO ?_ | with_reducible refine lz_kind ?_ | with_reducible refine lz_name ?_ | with_reducible refine lz_book ?_ | with_reducible refine bz_meth (by decide) ?_ | with_reducible refine bz_mark ?_ | with_reducible refine bz_joined ?_ | with_reducible refine bz_spare ?_ | with_reducible refine bz_kinds ?_ | with_reducible refine kz_parts ?_ | with_reducible refine v_lenSet ?_ | with_reducible refine kz_keep ?_ | with_reducible refine kz_point ?_ | with_reducible refine kz_digits ?_ | with_reducible refine kz_no ?_ | with_reducible refine kz_yes ?_ | with_reducible refine kz_marks ?_ | with_reducible refine kz_family ?_ | with_reducible refine kz_name ?_)
/-! ### values lifted, cells read -/
/-- a value that a column of the kind can have -/
def FitC (k : KindR) : Va → Prop
  | .miss => True
  | .truth _ => k.fam = famTruth
  | .num s w p => k.fam = famNumber ∧ Canon s w p ∧ w.length ≤ 1000 ∧ p.length ≤ 1000
  | .text l => k.fam = famText ∧ l.length ≤ 1000000 ∧ small l = true
theorem FitC.fit {o : D} {k : KindR} {v : Va} (g : GoodK o k) (h : FitC k v) : FitV k v := by
  cases v with
  | miss => trivial
  | truth b =>
    have hf : k.fam = famTruth := h
    cases g with
    | missing => exact absurd (show famMissing = famTruth from hf) (by decide)
    | text => exact absurd (show famText = famTruth from hf) (by decide)
    | number _ gn _ => rw [gn.fam] at hf; exact absurd hf (by decide)
    | truth hw hy hn hd ly ln =>
      refine ⟨rfl, fun z => ?_, fun z => ?_⟩
      · have := (areTexts_len hy).1; dsimp only at z; rw [z] at this; simp at this
      · have := (areTexts_len hn).1; dsimp only at z; rw [z] at this; simp at this
  | num s w p =>
    obtain ⟨hf, hc, h1, h2⟩ := h
    refine ⟨hf, hc.num, h1, h2, ?_⟩
    cases g with
    | missing => exact absurd (show famMissing = famNumber from hf) (by decide)
    | text => exact absurd (show famText = famNumber from hf) (by decide)
    | number _ gn _ => exact gn.shown
    | truth => exact absurd (show famTruth = famNumber from hf) (by decide)
  | text l => exact h.1
local macro_rules | `(tactic| decreasing_trivial_pre_omega) => `(tactic| with_reducible refine v_va0 ?_)
local macro_rules | `(tactic| decreasing_trivial_pre_omega) => `(tactic| with_reducible refine v_vaT ?_)
local macro_rules | `(tactic| decreasing_trivial_pre_omega) => `(tactic| with_reducible refine v_vaN ?_)
end G
set_option maxHeartbeats 4000000
namespace G
open PySem PySem.Spec PyProof.Rows L2
local macro_rules | `(tactic| decreasing_trivial_pre_omega) => `(tactic| first | with_reducible refine v_vaN ?_ | with_reducible refine v_vaT ?_ | with_reducible refine v_va0 ?_ | with_reducible refine kindD_yes ?_ | with_reducible refine kindD_keep ?_ | with_reducible refine kindD_fam ?_ | with_reducible refine bk_prop ?_ | with_reducible refine v_prop ?_ | with_reducible refine v_iEnum ?_ | with_reducible refine v_iList ?_ | with_reducible refine v_trip1 ?_ | with_reducible refine v_trip0 ?_ | with_reducible refine v_nonS ?_ | with_reducible refine v_nonN ?_ | with_reducible refine v_onS ?_ | with_reducible refine v_onN ?_ | with_reducible refine v_op5 ?_ | with_reducible refine v_op4 ?_ | with_reducible refine v_op1 ?_ | with_reducible refine v_op0 ?_ | with_reducible refine v_sp5 ?_ | with_reducible refine v_sp4 ?_ | with_reducible refine v_sp3 ?_ | with_reducible refine v_sp2 ?_ | with_reducible refine v_sp1 ?_ | with_reducible refine v_sp0 ?_ | with_reducible refine v_gh ?_ | with_reducible refine v_intO ?_ | with_reducible refine lz_kind ?_ | with_reducible refine lz_name ?_ | with_reducible refine lz_book ?_ | with_reducible refine bz_meth (by decide) ?_ | with_reducible refine bz_mark ?_ | with_reducible refine bz_joined ?_ | with_reducible refine bz_spare ?_ | with_reducible refine bz_kinds ?_ | with_reducible refine kz_parts ?_ | with_reducible refine v_lenSet ?_ | with_reducible refine kz_keep ?_ | with_reducible refine kz_point ?_ | with_reducible refine kz_digits ?_ | with_reducible refine kz_no ?_ | with_reducible refine kz_yes ?_ | with_reducible refine kz_marks ?_ | with_reducible refine kz_family ?_ | with_reducible refine kz_name ?_)
/-! ### columns -/
section
variable {ks : List KindR} {trs : List T3} {j : KindR} {vs : List Va} {C : Cl} {Q : D → Prop}
end
local macro_rules | `(tactic| decreasing_trivial_pre_omega) => `(tactic| with_reducible refine cz_level ?_)
local macro_rules | `(tactic| decreasing_trivial_pre_omega) => `(tactic| with_reducible refine cz_held ?_)
local macro_rules | `(tactic| decreasing_trivial_pre_omega) => `(tactic| with_reducible refine cz_meth (by decide) ?_)
end G
set_option maxHeartbeats 4000000
namespace G
open PySem PySem.Spec PyProof.Rows L2
local macro_rules | `(tactic| decreasing_trivial_pre_omega) => `(tactic| first | with_reducible refine kindD_yes ?_ | with_reducible refine kindD_keep ?_ | with_reducible refine kindD_fam ?_)
local macro_rules | `(tactic| decreasing_trivial_pre_omega) => `(tactic| with_reducible refine v_try ?_)
local macro_rules | `(tactic| decreasing_trivial_pre_omega) => `(tactic| with_reducible refine v_methX ?_)
local macro_rules | `(tactic| decreasing_trivial_pre_omega) => `(tactic| with_reducible refine v_calX ?_)
local macro_rules | `(tactic| decreasing_trivial_pre_omega) => `(tactic| with_reducible refine v_xfV (by with_unfolding_all rfl) (by with_unfolding_all rfl) ?_)
local macro_rules | `(tactic| decreasing_trivial_pre_omega) => `(tactic| with_reducible refine v_xisV (by with_unfolding_all rfl) ?_)
local macro_rules | `(tactic| decreasing_trivial_pre_omega) => `(tactic| with_reducible refine v_raise ?_)
/-! ### values of texts, or Unfit -/
local macro_rules | `(tactic| decreasing_trivial_pre_omega) => `(tactic| with_reducible refine kindD_name ?_)
end G
set_option maxHeartbeats 4000000
namespace G
open PySem PySem.Spec PyProof.Rows L2
local macro_rules | `(tactic| decreasing_trivial_pre_omega) => `(tactic| first | with_reducible refine kindD_name ?_ | with_reducible refine v_raise ?_ | with_reducible refine v_xisV (by with_unfolding_all rfl) ?_ | with_reducible refine v_xfV (by with_unfolding_all rfl) (by with_unfolding_all rfl) ?_ | with_reducible refine v_calX ?_ | with_reducible refine v_methX ?_ | with_reducible refine v_try ?_ | with_reducible refine kindD_yes ?_ | with_reducible refine kindD_keep ?_ | with_reducible refine kindD_fam ?_ | with_reducible refine lz_kind ?_ | with_reducible refine lz_name ?_ | with_reducible refine lz_book ?_ | with_reducible refine bz_meth (by decide) ?_ | with_reducible refine bz_mark ?_ | with_reducible refine bz_joined ?_ | with_reducible refine bz_spare ?_ | with_reducible refine bz_kinds ?_ | with_reducible refine kz_parts ?_ | with_reducible refine v_lenSet ?_ | with_reducible refine kz_keep ?_ | with_reducible refine kz_point ?_ | with_reducible refine kz_digits ?_ | with_reducible refine kz_no ?_ | with_reducible refine kz_yes ?_ | with_reducible refine kz_marks ?_ | with_reducible refine kz_family ?_ | with_reducible refine kz_name ?_)
/-! ### the law's own cut and value -/
local macro_rules | `(tactic| decreasing_trivial_pre_omega) => `(tactic| with_reducible refine v_oq4 ?_)
/-! ### digits cut -/
theorem Canon.ne {s w p : List Nat} (h : Canon s w p) : w ≠ [] := by
  obtain ⟨c, t, hw, hd⟩ := dig_head h.dw
  rw [hw]; exact List.cons_ne_nil _ _
local macro_rules | `(tactic| decreasing_trivial_pre_omega) => `(tactic| with_reducible refine v_sq0 ?_)
local macro_rules | `(tactic| decreasing_trivial_pre_omega) => `(tactic| with_reducible refine v_sq1 ?_)
local macro_rules | `(tactic| decreasing_trivial_pre_omega) => `(tactic| with_reducible refine v_sq2 ?_)
local macro_rules | `(tactic| decreasing_trivial_pre_omega) => `(tactic| with_reducible refine v_sq3 ?_)
local macro_rules | `(tactic| decreasing_trivial_pre_omega) => `(tactic| with_reducible refine v_sq4 ?_)
local macro_rules | `(tactic| decreasing_trivial_pre_omega) => `(tactic| with_reducible refine v_sq5 ?_)
theorem GoodK.texts {k : KindR} {o : D} (gk : GoodK o k) : (k.marks ++ k.yes ++ k.no).length ≤ 8 := by
  cases gk with
  | missing _ h => have := (areTexts_len h).2.1; simp only [List.append_nil]; omega
  | truth _ h1 h2 => have := (areTexts_len h1).2.1; have := (areTexts_len h2).2.1; simp only [List.nil_append, List.length_append]; omega
  | text => exact Nat.zero_le _
  | number _ g => rw [g.marks, g.yes, g.no]; exact Nat.zero_le _
end G
set_option maxHeartbeats 4000000
namespace G
open PySem PySem.Spec PyProof.Rows L2
local macro_rules | `(tactic| decreasing_trivial_pre_omega) => `(tactic| first | with_reducible refine kindD_name ?_ | with_reducible refine v_raise ?_ | with_reducible refine v_xisV (by with_unfolding_all rfl) ?_ | with_reducible refine v_xfV (by with_unfolding_all rfl) (by with_unfolding_all rfl) ?_ | with_reducible refine v_calX ?_ | with_reducible refine v_methX ?_ | with_reducible refine v_try ?_ | with_reducible refine kindD_yes ?_ | with_reducible refine kindD_keep ?_ | with_reducible refine kindD_fam ?_ | with_reducible refine kz_keep ?_ | with_reducible refine kz_point ?_ | with_reducible refine kz_digits ?_ | with_reducible refine kz_no ?_ | with_reducible refine kz_yes ?_ | with_reducible refine kz_marks ?_ | with_reducible refine kz_family ?_ | with_reducible refine kz_name ?_)
/-! ### kinds by name, or NoKind -/
end G
set_option maxHeartbeats 1000000
namespace G
open PySem PySem.Spec PyProof.Rows L2
/-! ### == of flat things where no room is told (in an except suite) -/
section
variable {X : Cx} {cl : NmB}
end
section
variable {C : Cl} {Q : DQ}
end
end G
set_option maxHeartbeats 4000000
namespace G
open PySem PySem.Spec PyProof.Rows L2
local macro_rules | `(tactic| decreasing_trivial_pre_omega) => `(tactic| first | with_reducible refine v_sq5 ?_ | with_reducible refine v_sq4 ?_ | with_reducible refine v_sq3 ?_ | with_reducible refine v_sq2 ?_ | with_reducible refine v_sq1 ?_ | with_reducible refine v_sq0 ?_ | with_reducible refine v_oq4 ?_ | with_reducible refine kindD_name ?_ | with_reducible refine v_raise ?_ | with_reducible refine v_xisV (by with_unfolding_all rfl) ?_ | with_reducible refine v_xfV (by with_unfolding_all rfl) (by with_unfolding_all rfl) ?_ | with_reducible refine v_calX ?_ | with_reducible refine v_methX ?_ | with_reducible refine v_try ?_ | with_reducible refine cz_meth (by decide) ?_ | with_reducible refine cz_held ?_ | with_reducible refine cz_level ?_ | with_reducible refine v_vaN ?_ | with_reducible refine v_vaT ?_ | with_reducible refine v_va0 ?_ | with_reducible refine kindD_yes ?_ | with_reducible refine kindD_keep ?_ | with_reducible refine kindD_fam ?_ | with_reducible refine bk_prop ?_ | with_reducible refine v_prop ?_ | with_reducible refine v_iEnum ?_ | with_reducible refine v_iList ?_ | with_reducible refine v_trip1 ?_ | with_reducible refine v_trip0 ?_ | with_reducible refine v_nonS ?_ | with_reducible refine v_nonN ?_ | with_reducible refine v_onS ?_ | with_reducible refine v_onN ?_ | with_reducible refine v_op5 ?_ | with_reducible refine v_op4 ?_ | with_reducible refine v_op1 ?_ | with_reducible refine v_op0 ?_ | with_reducible refine v_sp5 ?_ | with_reducible refine v_sp4 ?_ | with_reducible refine v_sp3 ?_ | with_reducible refine v_sp2 ?_ | with_reducible refine v_sp1 ?_ | with_reducible refine v_sp0 ?_ | with_reducible refine v_gh ?_ | with_reducible refine v_intO ?_ | with_reducible refine lz_kind ?_ | with_reducible refine lz_name ?_ | with_reducible refine lz_book ?_ | with_reducible refine bz_meth (by decide) ?_ | with_reducible refine bz_mark ?_ | with_reducible refine bz_joined ?_ | with_reducible refine bz_spare ?_ | with_reducible refine bz_kinds ?_ | with_reducible refine kz_parts ?_ | with_reducible refine v_lenSet ?_ | with_reducible refine kz_keep ?_ | with_reducible refine kz_point ?_ | with_reducible refine kz_digits ?_ | with_reducible refine kz_no ?_ | with_reducible refine kz_yes ?_ | with_reducible refine kz_marks ?_ | with_reducible refine kz_family ?_ | with_reducible refine kz_name ?_)
local macro_rules | `(tactic| decreasing_trivial_pre_omega) => `(tactic| with_reducible refine v_eqFI ?_)
local macro_rules | `(tactic| decreasing_trivial_pre_omega) => `(tactic| with_reducible refine v_eqFS ?_)
local macro_rules | `(tactic| decreasing_trivial_pre_omega) => `(tactic| with_reducible refine v_neFI ?_)
local macro_rules | `(tactic| decreasing_trivial_pre_omega) => `(tactic| with_reducible refine v_neFS ?_)
local macro_rules | `(tactic| decreasing_trivial_pre_omega) => `(tactic| with_reducible refine v_ixX ?_)
/-! ### columns by index, or NoRow; marks and texts of the law -/
end G
set_option maxHeartbeats 4000000
namespace G
open PySem PySem.Spec PyProof.Rows L2
local macro_rules | `(tactic| decreasing_trivial_pre_omega) => `(tactic| first | with_reducible refine v_sq5 ?_ | with_reducible refine v_sq4 ?_ | with_reducible refine v_sq3 ?_ | with_reducible refine v_sq2 ?_ | with_reducible refine v_sq1 ?_ | with_reducible refine v_sq0 ?_ | with_reducible refine v_oq4 ?_ | with_reducible refine kindD_name ?_ | with_reducible refine v_raise ?_ | with_reducible refine v_xisV (by with_unfolding_all rfl) ?_ | with_reducible refine v_xfV (by with_unfolding_all rfl) (by with_unfolding_all rfl) ?_ | with_reducible refine v_calX ?_ | with_reducible refine v_methX ?_ | with_reducible refine v_try ?_ | with_reducible refine v_vaN ?_ | with_reducible refine v_vaT ?_ | with_reducible refine v_va0 ?_ | with_reducible refine kindD_yes ?_ | with_reducible refine kindD_keep ?_ | with_reducible refine kindD_fam ?_ | with_reducible refine bk_prop ?_ | with_reducible refine v_prop ?_ | with_reducible refine v_iEnum ?_ | with_reducible refine v_iList ?_ | with_reducible refine v_trip1 ?_ | with_reducible refine v_trip0 ?_ | with_reducible refine v_nonS ?_ | with_reducible refine v_nonN ?_ | with_reducible refine v_onS ?_ | with_reducible refine v_onN ?_ | with_reducible refine v_op5 ?_ | with_reducible refine v_op4 ?_ | with_reducible refine v_op1 ?_ | with_reducible refine v_op0 ?_ | with_reducible refine v_sp5 ?_ | with_reducible refine v_sp4 ?_ | with_reducible refine v_sp3 ?_ | with_reducible refine v_sp2 ?_ | with_reducible refine v_sp1 ?_ | with_reducible refine v_sp0 ?_ | with_reducible refine v_gh ?_ | with_reducible refine v_intO ?_ | with_reducible refine lz_kind ?_ | with_reducible refine lz_name ?_ | with_reducible refine lz_book ?_ | with_reducible refine bz_meth (by decide) ?_ | with_reducible refine bz_mark ?_ | with_reducible refine bz_joined ?_ | with_reducible refine bz_spare ?_ | with_reducible refine bz_kinds ?_ | with_reducible refine kz_parts ?_ | with_reducible refine v_lenSet ?_ | with_reducible refine kz_keep ?_ | with_reducible refine kz_point ?_ | with_reducible refine kz_digits ?_ | with_reducible refine kz_no ?_ | with_reducible refine kz_yes ?_ | with_reducible refine kz_marks ?_ | with_reducible refine kz_family ?_ | with_reducible refine kz_name ?_)
/-! ### the law's own lift and read -/
end G
set_option maxHeartbeats 4000000
namespace G
open PySem PySem.Spec PyProof.Rows L2
local macro_rules | `(tactic| decreasing_trivial_pre_omega) => `(tactic| first | with_reducible refine v_ixX ?_ | with_reducible refine v_neFS ?_ | with_reducible refine v_neFI ?_ | with_reducible refine v_eqFS ?_ | with_reducible refine v_eqFI ?_ | with_reducible refine v_sq5 ?_ | with_reducible refine v_sq4 ?_ | with_reducible refine v_sq3 ?_ | with_reducible refine v_sq2 ?_ | with_reducible refine v_sq1 ?_ | with_reducible refine v_sq0 ?_ | with_reducible refine v_oq4 ?_ | with_reducible refine kindD_name ?_ | with_reducible refine v_raise ?_ | with_reducible refine v_xisV (by with_unfolding_all rfl) ?_ | with_reducible refine v_xfV (by with_unfolding_all rfl) (by with_unfolding_all rfl) ?_ | with_reducible refine v_calX ?_ | with_reducible refine v_methX ?_ | with_reducible refine v_try ?_ | with_reducible refine cz_meth (by decide) ?_ | with_reducible refine cz_held ?_ | with_reducible refine cz_level ?_ | with_reducible refine v_vaN ?_ | with_reducible refine v_vaT ?_ | with_reducible refine v_va0 ?_ | with_reducible refine kindD_yes ?_ | with_reducible refine kindD_keep ?_ | with_reducible refine kindD_fam ?_ | with_reducible refine bk_prop ?_ | with_reducible refine v_prop ?_ | with_reducible refine v_iEnum ?_ | with_reducible refine v_iList ?_ | with_reducible refine v_trip1 ?_ | with_reducible refine v_trip0 ?_ | with_reducible refine v_nonS ?_ | with_reducible refine v_nonN ?_ | with_reducible refine v_onS ?_ | with_reducible refine v_onN ?_ | with_reducible refine v_op5 ?_ | with_reducible refine v_op4 ?_ | with_reducible refine v_op1 ?_ | with_reducible refine v_op0 ?_ | with_reducible refine v_sp5 ?_ | with_reducible refine v_sp4 ?_ | with_reducible refine v_sp3 ?_ | with_reducible refine v_sp2 ?_ | with_reducible refine v_sp1 ?_ | with_reducible refine v_sp0 ?_ | with_reducible refine v_gh ?_ | with_reducible refine v_intO ?_ | with_reducible refine lz_kind ?_ | with_reducible refine lz_name ?_ | with_reducible refine lz_book ?_ | with_reducible refine bz_meth (by decide) ?_ | with_reducible refine bz_mark ?_ | with_reducible refine bz_joined ?_ | with_reducible refine bz_spare ?_ | with_reducible refine bz_kinds ?_ | with_reducible refine kz_parts ?_ | with_reducible refine v_lenSet ?_ | with_reducible refine kz_keep ?_ | with_reducible refine kz_point ?_ | with_reducible refine kz_digits ?_ | with_reducible refine kz_no ?_ | with_reducible refine kz_yes ?_ | with_reducible refine kz_marks ?_ | with_reducible refine kz_family ?_ | with_reducible refine kz_name ?_)
/-! ### the law's own columns -/
end G
set_option maxHeartbeats 4000000
namespace G
open PySem PySem.Spec PyProof.Rows L2
local macro_rules | `(tactic| decreasing_trivial_pre_omega) => `(tactic| first | with_reducible refine cz_meth (by decide) ?_ | with_reducible refine cz_held ?_ | with_reducible refine cz_level ?_ | with_reducible refine v_vaN ?_ | with_reducible refine v_vaT ?_ | with_reducible refine v_va0 ?_ | with_reducible refine kindD_yes ?_ | with_reducible refine kindD_keep ?_ | with_reducible refine kindD_fam ?_ | with_reducible refine bk_prop ?_ | with_reducible refine v_prop ?_ | with_reducible refine v_iEnum ?_ | with_reducible refine v_iList ?_ | with_reducible refine v_trip1 ?_ | with_reducible refine v_trip0 ?_ | with_reducible refine v_nonS ?_ | with_reducible refine v_nonN ?_ | with_reducible refine v_onS ?_ | with_reducible refine v_onN ?_ | with_reducible refine v_op5 ?_ | with_reducible refine v_op4 ?_ | with_reducible refine v_op1 ?_ | with_reducible refine v_op0 ?_ | with_reducible refine v_sp5 ?_ | with_reducible refine v_sp4 ?_ | with_reducible refine v_sp3 ?_ | with_reducible refine v_sp2 ?_ | with_reducible refine v_sp1 ?_ | with_reducible refine v_sp0 ?_ | with_reducible refine v_gh ?_ | with_reducible refine v_intO ?_ | with_reducible refine lz_kind ?_ | with_reducible refine lz_name ?_ | with_reducible refine lz_book ?_ | with_reducible refine bz_meth (by decide) ?_ | with_reducible refine bz_mark ?_ | with_reducible refine bz_joined ?_ | with_reducible refine bz_spare ?_ | with_reducible refine bz_kinds ?_ | with_reducible refine kz_parts ?_ | with_reducible refine v_lenSet ?_ | with_reducible refine kz_keep ?_ | with_reducible refine kz_point ?_ | with_reducible refine kz_digits ?_ | with_reducible refine kz_no ?_ | with_reducible refine kz_yes ?_ | with_reducible refine kz_marks ?_ | with_reducible refine kz_family ?_ | with_reducible refine kz_name ?_)
/-! ### columns, further; cells drawn -/
local macro_rules | `(tactic| decreasing_trivial_pre_omega) => `(tactic| with_reducible refine v_setdK ?_)
local macro_rules | `(tactic| decreasing_trivial_pre_omega) => `(tactic| with_reducible refine v_cmeth ?_)
end G
set_option maxHeartbeats 4000000
namespace G
open PySem PySem.Spec PyProof.Rows L2
/-! ### columns made and compared -/
end G
set_option maxHeartbeats 4000000
namespace G
open PySem PySem.Spec PyProof.Rows L2
local macro_rules | `(tactic| decreasing_trivial_pre_omega) => `(tactic| first | with_reducible refine kz_keep ?_ | with_reducible refine kz_point ?_ | with_reducible refine kz_digits ?_ | with_reducible refine kz_no ?_ | with_reducible refine kz_yes ?_ | with_reducible refine kz_marks ?_ | with_reducible refine kz_family ?_ | with_reducible refine kz_name ?_)
local macro_rules | `(tactic| decreasing_trivial_pre_omega) => `(tactic| with_reducible refine v_try ?_)
local macro_rules | `(tactic| decreasing_trivial_pre_omega) => `(tactic| with_reducible refine v_methX ?_)
local macro_rules | `(tactic| decreasing_trivial_pre_omega) => `(tactic| with_reducible refine v_makeX ?_)
local macro_rules | `(tactic| decreasing_trivial_pre_omega) => `(tactic| with_reducible refine v_calX ?_)
local macro_rules | `(tactic| decreasing_trivial_pre_omega) => `(tactic| with_reducible refine v_xfV (by with_unfolding_all rfl) (by with_unfolding_all rfl) ?_)
local macro_rules | `(tactic| decreasing_trivial_pre_omega) => `(tactic| with_reducible refine v_xisV (by with_unfolding_all rfl) ?_)
local macro_rules | `(tactic| decreasing_trivial_pre_omega) => `(tactic| with_reducible refine v_raise ?_)
/-! ### books refused -/
/-- all but the cell p stays -/
def SubX (C : Cl) (p : Addr) (C' : Cl) : Prop := ∀ a c, a ≠ p → C a = some c → C' a = some c
theorem SubX.of {C C' : Cl} {p : Addr} {c : Cell} (h : SubC (updC C p c) C') : SubX C p C' := fun a x ne e => h a x (by rw [updC_ne ne]; exact e)
theorem SubX.upd {C : Cl} {p : Addr} {c : Cell} : SubX C p (updC C p c) := SubX.of (SubC.refl _)
theorem SubX.refl {C : Cl} {p : Addr} : SubX C p C := fun _ _ _ e => e
end G
set_option maxHeartbeats 4000000
namespace G
open PySem PySem.Spec PyProof.Rows L2
local macro_rules | `(tactic| decreasing_trivial_pre_omega) => `(tactic| first | with_reducible refine v_raise ?_ | with_reducible refine v_xisV (by with_unfolding_all rfl) ?_ | with_reducible refine v_xfV (by with_unfolding_all rfl) (by with_unfolding_all rfl) ?_ | with_reducible refine v_calX ?_ | with_reducible refine v_makeX ?_ | with_reducible refine v_methX ?_ | with_reducible refine v_try ?_ | with_reducible refine cz_meth (by decide) ?_ | with_reducible refine cz_held ?_ | with_reducible refine cz_level ?_ | with_reducible refine v_vaN ?_ | with_reducible refine v_vaT ?_ | with_reducible refine v_va0 ?_ | with_reducible refine kindD_yes ?_ | with_reducible refine kindD_keep ?_ | with_reducible refine kindD_fam ?_ | with_reducible refine bk_prop ?_ | with_reducible refine v_prop ?_ | with_reducible refine v_iEnum ?_ | with_reducible refine v_iList ?_ | with_reducible refine v_trip1 ?_ | with_reducible refine v_trip0 ?_ | with_reducible refine v_nonS ?_ | with_reducible refine v_nonN ?_ | with_reducible refine v_onS ?_ | with_reducible refine v_onN ?_ | with_reducible refine v_op5 ?_ | with_reducible refine v_op4 ?_ | with_reducible refine v_op1 ?_ | with_reducible refine v_op0 ?_ | with_reducible refine v_sp5 ?_ | with_reducible refine v_sp4 ?_ | with_reducible refine v_sp3 ?_ | with_reducible refine v_sp2 ?_ | with_reducible refine v_sp1 ?_ | with_reducible refine v_sp0 ?_ | with_reducible refine v_gh ?_ | with_reducible refine v_intO ?_ | with_reducible refine lz_kind ?_ | with_reducible refine lz_name ?_ | with_reducible refine lz_book ?_ | with_reducible refine bz_meth (by decide) ?_ | with_reducible refine bz_mark ?_ | with_reducible refine bz_joined ?_ | with_reducible refine bz_spare ?_ | with_reducible refine bz_kinds ?_ | with_reducible refine kz_parts ?_ | with_reducible refine v_lenSet ?_ | with_reducible refine kz_keep ?_ | with_reducible refine kz_point ?_ | with_reducible refine kz_digits ?_ | with_reducible refine kz_no ?_ | with_reducible refine kz_yes ?_ | with_reducible refine kz_marks ?_ | with_reducible refine kz_family ?_ | with_reducible refine kz_name ?_)
/-! ### tables -/
local macro_rules | `(tactic| decreasing_trivial_pre_omega) => `(tactic| with_reducible refine v_listV ?_)
local macro_rules | `(tactic| decreasing_trivial_pre_omega) => `(tactic| with_reducible refine v_iKeys ?_)
/-- a name and its texts -/
abbrev Row := List Nat × List (List Nat)
def namesR (cols : List Row) : List (List Nat) := cols.map (·.1)
structure RowOk (m : Nat) (r : Row) : Prop where
  word : isWord r.1 = true
  len : r.2.length = m
  sm : ∀ t ∈ r.2, small t = true
  ln : ∀ t ∈ r.2, t.length ≤ 1000000
/-- what a table is made of -/
structure ColOk (cols : List Row) (m : Nat) : Prop where
  ne : cols ≠ []
  lc : cols.length ≤ 1000
  lm : m ≤ 1000000
  nd : (namesR cols).Nodup
  row : ∀ r ∈ cols, RowOk m r
/-! dicts of names -/
/-! == -/
theorem sh_texts {ls : List (List Nat)} (h : ∀ l ∈ ls, small l = true) : Sh 1 (.lst (txts ls)) := sh_lst (sh_txts h)
/-! what a table is made of, frozen or not -/
def RowAt (C : Cl) (d : D) (r : Row) : Prop := ∃ x, d = .tup [.str r.1, x] ∧ seqOf C x = some (txts r.2) ∧ ((x = .lst (txts r.2)) ∨ ∃ p, x = .ref p ∧ C p = some (.lst (txts r.2)))
def Keeps (C C' : Cl) : Prop := ∀ a ds, C a = some (.lst ds) → C' a = some (.lst ds)
theorem Keeps.refl (C : Cl) : Keeps C C := fun _ _ h => h
theorem Keeps.trans {A B C : Cl} (h : Keeps A B) (k : Keeps B C) : Keeps A C := fun a ds e => k a ds (h a ds e)
theorem Keeps.upd {C : Cl} {p : Addr} {c : Cell} (h : ∀ ds, C p ≠ some (.lst ds)) : Keeps C (updC C p c) := fun a ds e => by
  rw [updC_ne (fun z => h ds (by rw [← z]; exact e))]
  exact e
theorem rowAt_ref {C : Cl} {n : List Nat} {ts : List (List Nat)} {p : Addr} (h : C p = some (.lst (txts ts))) : RowAt C (.tup [.str n, .ref p]) (n, ts) := ⟨_, rfl, by show cellL C p = _; unfold cellL; rw [h], .inr ⟨p, rfl, h⟩⟩
theorem RowAt.keep {C C' : Cl} {d : D} {r : Row} (h : RowAt C d r) (k : Keeps C C') : RowAt C' d r := by
  obtain ⟨x, rfl, _, rfl | ⟨p, rfl, hp⟩⟩ := h
  · exact ⟨_, rfl, rfl, .inl rfl⟩
  · exact rowAt_ref (k _ _ hp)
def RowsAt (C : Cl) (xs : List D) (cols : List Row) : Prop := xs.length = cols.length ∧ ∀ (i : Nat) (d : D) (r : Row), xs[i]? = some d → cols[i]? = some r → RowAt C d r
theorem RowsAt.keep {C C' : Cl} {xs : List D} {cols : List Row} (h : RowsAt C xs cols) (k : Keeps C C') : RowsAt C' xs cols := ⟨h.1, fun i d r e1 e2 => (h.2 i d r e1 e2).keep k⟩
theorem Walks.keep {C C' : Cl} {x : D} {xs : List D} {G : Cl → Prop} (w : Walks C x xs G) (k : Keeps C C') : Walks C' x xs G := by
  rcases w with ⟨h, rfl⟩ | ⟨a, rfl, h, rfl⟩
  · exact .inl ⟨h, rfl⟩
  · exact .inr ⟨a, rfl, k _ _ h, rfl⟩
/-! ### what tables tell -/
end G
set_option maxHeartbeats 4000000
namespace G
open PySem PySem.Spec PyProof.Rows L2
local macro_rules | `(tactic| decreasing_trivial_pre_omega) => `(tactic| first | with_reducible refine v_iKeys ?_ | with_reducible refine v_listV ?_ | with_reducible refine v_raise ?_ | with_reducible refine v_xisV (by with_unfolding_all rfl) ?_ | with_reducible refine v_xfV (by with_unfolding_all rfl) (by with_unfolding_all rfl) ?_ | with_reducible refine v_calX ?_ | with_reducible refine v_makeX ?_ | with_reducible refine v_methX ?_ | with_reducible refine v_try ?_ | with_reducible refine v_cmeth ?_ | with_reducible refine v_setdK ?_ | with_reducible refine v_ixX ?_ | with_reducible refine v_neFS ?_ | with_reducible refine v_neFI ?_ | with_reducible refine v_eqFS ?_ | with_reducible refine v_eqFI ?_ | with_reducible refine v_sq5 ?_ | with_reducible refine v_sq4 ?_ | with_reducible refine v_sq3 ?_ | with_reducible refine v_sq2 ?_ | with_reducible refine v_sq1 ?_ | with_reducible refine v_sq0 ?_ | with_reducible refine v_oq4 ?_ | with_reducible refine kindD_name ?_ | with_reducible refine v_raise ?_ | with_reducible refine v_xisV (by with_unfolding_all rfl) ?_ | with_reducible refine v_xfV (by with_unfolding_all rfl) (by with_unfolding_all rfl) ?_ | with_reducible refine v_calX ?_ | with_reducible refine v_methX ?_ | with_reducible refine v_try ?_ | with_reducible refine cz_meth (by decide) ?_ | with_reducible refine cz_held ?_ | with_reducible refine cz_level ?_ | with_reducible refine v_vaN ?_ | with_reducible refine v_vaT ?_ | with_reducible refine v_va0 ?_ | with_reducible refine kindD_yes ?_ | with_reducible refine kindD_keep ?_ | with_reducible refine kindD_fam ?_ | with_reducible refine bk_prop ?_ | with_reducible refine v_prop ?_ | with_reducible refine v_iEnum ?_ | with_reducible refine v_iList ?_ | with_reducible refine v_trip1 ?_ | with_reducible refine v_trip0 ?_ | with_reducible refine v_nonS ?_ | with_reducible refine v_nonN ?_ | with_reducible refine v_onS ?_ | with_reducible refine v_onN ?_ | with_reducible refine v_op5 ?_ | with_reducible refine v_op4 ?_ | with_reducible refine v_op1 ?_ | with_reducible refine v_op0 ?_ | with_reducible refine v_sp5 ?_ | with_reducible refine v_sp4 ?_ | with_reducible refine v_sp3 ?_ | with_reducible refine v_sp2 ?_ | with_reducible refine v_sp1 ?_ | with_reducible refine v_sp0 ?_ | with_reducible refine v_gh ?_ | with_reducible refine v_intO ?_ | with_reducible refine lz_kind ?_ | with_reducible refine lz_name ?_ | with_reducible refine lz_book ?_ | with_reducible refine bz_meth (by decide) ?_ | with_reducible refine bz_mark ?_ | with_reducible refine bz_joined ?_ | with_reducible refine bz_spare ?_ | with_reducible refine bz_kinds ?_ | with_reducible refine kz_parts ?_ | with_reducible refine v_lenSet ?_ | with_reducible refine kz_keep ?_ | with_reducible refine kz_point ?_ | with_reducible refine kz_digits ?_ | with_reducible refine kz_no ?_ | with_reducible refine kz_yes ?_ | with_reducible refine kz_marks ?_ | with_reducible refine kz_family ?_ | with_reducible refine kz_name ?_)
/-! ### what the laws of readers draw -/
theorem join_ones : ∀ {ls : List (List Nat)}, (∀ l ∈ ls, l.length = 1) → (TL.joinL [] ls).length = ls.length
  | [], _ => rfl
  | [x], h => by show x.length = 1; exact h x (.head _)
  | x :: y :: r, h => by
    have := join_ones (ls := y :: r) fun l hl => h l (.tail _ hl)
    show (x ++ ([] ++ TL.joinL [] (y :: r))).length = _
    rw [List.nil_append, List.length_append, this, h x (.head _)]
    simp only [List.length_cons]
    omega
def td_l_digitsR : DS :=
  (dSeq (dAsg (dAdd (dVar 1) (dCall sp_l_take [] (dCons (dVar 0) (dCons (dAdd (dSub (dVar 2) (dVar 1)) (dC (.int 1))) dNil)))) (dName 3))
    (dRet (dBM "str" rJoin (dC (.str [])) (dCons (dFz (dLc (diRng1 (dCons (dVar 3) dNil)) (dName 4) dYes (dCall sp_l_of [] (dCons (dVar 0) (dCons (dC (.str [48, 48, 48, 49, 50, 51, 52, 53, 54, 55, 56, 57])) dNil))) [4])) dNil))))
theorem len_l_digitsR (ds : List D) (C : Cl) (Q : DQ) (E : DX) (h : sp_l_digits ds C Q E) : ds.length = 3 := len_l_digits ds C Q E h
theorem pure_l_digitsR (ds : List D) (C : Cl) (Q : DQ) (E : DX) (h : sp_l_digits ds C Q E) : td_l_digitsR (endsD Q) (startD ["_law_bag_here", "_law_least", "_law_most", "_law_many", "_law_turn"] ds) C := by
  obtain ⟨b, lo, hi, n, rfl, h1, h2, hb, hn, hq⟩ := h
  unfold td_l_digitsR
  refine v_ends ?_
  simp only [startD, List.map_cons, List.map_nil, List.length_cons, List.length_nil, Nat.reduceAdd, Nat.reduceSub, List.reduceReplicate, List.cons_append, List.nil_append]
  array_mem_dec
  refine ⟨b, (hi : Int) - lo + 1, n, rfl, by omega, by omega, hb, by omega, fun i C1 i0 i1 B1 => ?_⟩
  obtain ⟨k, ek⟩ : ∃ k : Nat, (lo : Int) + i = (k : Nat) := ⟨((lo : Int) + i).toNat, by omega⟩
  array_mem_dec
  rw [ek]
  refine lc_bagW (xs := ranged 0 k) (b := b) (k := 1) (fun y => ∃ l, y = .str l ∧ l.length = 1 ∧ l.all isDig = true) (fun R h => ?_) B1.at (szl (by rw [ranged_length]; omega)) (fun i' x C2 N hx B2 _ hN => ?_) fun ys C2 hyl hY B2 => ?_
  · array_mem_dec
    exact ⟨(k : Nat), rfl, ⟨by omega, by omega⟩, h⟩
  · obtain ⟨hi', rfl⟩ := ranged_get hx
    array_mem_dec
    refine ⟨b, _, signs [48, 48, 48, 49, 50, 51, 52, 53, 54, 55, 56, 57], _, rfl, rfl, nofun, by decide, by decide, B2, by omega, fun d C3 hm B3 => ?_⟩
    obtain ⟨c, rfl, hc⟩ := mem_signs hm
    refine hN _ C3 ⟨[c], rfl, rfl, ?_⟩ (B3.mono (by omega))
    rw [List.all_cons, List.all_nil, Bool.and_true]
    revert hc
    simp only [List.mem_cons, List.not_mem_nil, or_false]
    rintro (rfl | rfl | rfl | rfl | rfl | rfl | rfl | rfl | rfl | rfl | rfl | rfl) <;> decide
  · obtain ⟨ls, rfl, hs⟩ := txts_of (P := fun l => l.length = 1 ∧ l.all isDig = true) hY
    rw [txts_lenG, ranged_length] at hyl
    rw [ranged_length] at B2
    have hj := join_ones fun l hl => (hs l hl).1
    array_mem_dec
    refine ⟨[], _, ls, rfl, rfl, rfl, ?_, ?_⟩
    · have := sum_le (m := 1) fun l hl => Nat.le_of_eq (hs l hl).1
      rw [List.length_nil, Nat.mul_zero]
      omega
    · array_mem_dec
      exact hq _ _ (all_join fun l hl => (hs l hl).2) (by rw [hj]; omega) (by rw [hj]; omega) ((B1.trans B2).mono (by omega))
def td_l_textR : DS :=
  (dSeq (dAsg (dCall sp_l_take [] (dCons (dVar 0) (dCons (dC (.int 3)) dNil))) (dName 1))
    (dSeq (dIfS (dTest (dOp rEqD (dVar 1) (dC (.int 2)))) (dRet (dAdd (dAdd (dCall sp_l_of [] (dCons (dVar 0) (dCons (dLst (dCons (dC (.str [])) (dCons (dC (.str [])) (dCons (dC (.str [45])) (dCons (dC (.str [43])) dNil))))) dNil))) (dCall sp_l_digits [] (dCons (dVar 0) (dCons (dC (.int 1)) (dCons (dC (.int 4)) dNil))))) (dCall sp_l_of [] (dCons (dVar 0) (dCons (dLst (dCons (dC (.str [])) (dCons (dC (.str [46, 48])) (dCons (dC (.str [46, 53])) (dCons (dC (.str [46, 50, 53])) dNil))))) dNil))))) dNext)
    (dSeq (dAsg (dIf (dTest (dOp rEqD (dVar 1) (dC (.int 0)))) (dCall sp_l_signs [] dNil) (dC (.str [48, 48, 49, 57, 43, 45, 46, 32]))) (dName 2))
    (dRet (dBM "str" rJoin (dC (.str [])) (dCons (dFz (dLc (diRng1 (dCons (dCall sp_l_take [] (dCons (dVar 0) (dCons (dC (.int 7)) dNil))) dNil)) (dName 3) dYes (dCall sp_l_of [] (dCons (dVar 0) (dCons (dVar 2) dNil))) [3])) dNil))))))
theorem len_l_textR (ds : List D) (C : Cl) (Q : DQ) (E : DX) (h : sp_l_text ds C Q E) : ds.length = 1 := len_l_text ds C Q E h
theorem pure_l_textR (ds : List D) (C : Cl) (Q : DQ) (E : DX) (h : sp_l_text ds C Q E) : td_l_textR (endsD Q) (startD ["_law_bag_here", "_law_road", "_law_some", "_law_turn"] ds) C := by
  obtain ⟨b, n, rfl, hb, hn, hq⟩ := h
  unfold td_l_textR
  refine v_ends ?_
  simp only [startD, List.map_cons, List.map_nil, List.length_cons, List.length_nil, Nat.reduceAdd, Nat.reduceSub, List.reduceReplicate, List.cons_append, List.nil_append]
  array_mem_dec
  refine ⟨b, 3, n, rfl, by decide, by decide, hb, by omega, fun i C1 i0 i1 B1 => ?_⟩
  array_mem_dec
  refine ite_d (fun _ => ?_) (fun _ => ?_)
  · array_mem_dec
    refine ⟨b, _, txts [[], [], [45], [43]], _, rfl, rfl, nofun, by decide, by decide, B1.at, by omega, fun d C2 hm B2 => ?_⟩
    obtain ⟨s, hs, rfl⟩ := List.mem_map.mp hm
    have hs' : s.length ≤ 1 ∧ s.all okSign = true ∧ 113 ∉ s := by clear hm; revert s; decide
    array_mem_dec
    refine ⟨b, 1, 4, _, rfl, by decide, by decide, B2.at, by omega, fun w C3 w1 w2 w3 B3 => ?_⟩
    have hw := dig_ok (digs_of w1 w2)
    have hwq := dig_noQ (digs_of w1 w2)
    refine v_addS (szl (by rw [List.length_append]; omega)) ?_
    array_mem_dec
    refine ⟨b, _, txts [[], [46, 48], [46, 53], [46, 50, 53]], _, rfl, rfl, nofun, by decide, by decide, B3.at, by omega, fun d C4 hm2 B4 => ?_⟩
    obtain ⟨t, ht, rfl⟩ := List.mem_map.mp hm2
    have ht' : t.length ≤ 3 ∧ t.all okSign = true ∧ 113 ∉ t := by clear hm2; revert t; decide
    refine v_addS (szl (by rw [List.length_append, List.length_append]; omega)) ?_
    array_mem_dec
    refine hq _ _ (by rw [List.length_append, List.length_append]; omega) (by rw [List.all_append, List.all_append, hs'.2.1, hw, ht'.2.1]; rfl) (noQ_mem fun hm => ?_) ((((B1.trans B2).trans B3).trans B4).mono (by omega))
    simp only [List.mem_append] at hm
    rcases hm with (hm | hm) | hm
    · exact hs'.2.2 hm
    · exact hwq hm
    · exact ht'.2.2 hm
  · have fin : ∀ (zs : List Nat), zs.all okSign = true → zs ≠ [] → zs.length ≤ 1000 → ∀ ρ : DEnv, ρ = [some (.ref b), some (.int i), some (.str zs), none] → dRet (dBM "str" rJoin (dC (.str [])) (dCons (dFz (dLc (diRng1 (dCons (dCall sp_l_take [] (dCons (dVar 0) (dCons (dC (.int 7)) dNil))) dNil)) (dName 3) dYes (dCall sp_l_of [] (dCons (dVar 0) (dCons (dVar 2) dNil))) [3])) dNil)) { nx := fun x C_1 => ∃ C', SubC C' C_1 ∧ Q D.non C', rt := fun d C => ∃ d' C', Gh d C d' C' ∧ Q d' C' } ρ C1 := by
      rintro zs zok zne zl ρ rfl
      refine ⟨rfl, ?_⟩
      refine lc_of' (items := signs zs) (sv := .str zs) (is := 2) rfl (by decide) rfl (by decide) B1.at (by omega) (by decide) (by decide) (fun _ => rfl) nofun (fun z => zne (by unfold signs at z; exact List.map_eq_nil_iff.mp z)) (by unfold signs; rw [List.length_map]; omega) fun ys C2 hyl hY B2 => ?_
      obtain ⟨ls, rfl, hs⟩ := txts_of (P := fun l => l.length ≤ 1 ∧ l.all okSign = true) fun y hy => by
        obtain ⟨c, rfl, hc⟩ := mem_signs (hY y hy)
        exact ⟨[c], rfl, by simp, by rw [List.all_cons, List.all_nil, Bool.and_true]; exact List.all_eq_true.mp zok c hc⟩
      rw [txts_length] at hyl
      have hyl : ls.length < 7 := hyl
      have h1 := sum_le fun l hl => (hs l hl).1
      have h3 := all_join fun l hl => (hs l hl).2
      have h2 := join_le ls
      exact ⟨[], _, ls, rfl, rfl, rfl, by simp only [List.length_nil, Nat.mul_zero]; omega, _, _, .same, hq _ _ (by omega) h3 (noQ_short (by omega)) ((B1.trans B2).mono (by omega))⟩
    array_mem_dec
    refine ite_d (fun _ => ?_) (fun _ => ?_)
    · array_mem_dec
      refine ⟨rfl, ?_⟩
      array_mem_dec
      exact (fin (sgns1 ++ sgns2) (by decide) (by decide) (by decide) _ rfl).2
    · array_mem_dec
      exact (fin [48, 48, 49, 57, 43, 45, 46, 32] (by decide) (by decide) (by decide) _ rfl).2
/-- what a book asks of its kinds -/
structure OkM (ks : List KindR) : Prop extends OkW ks where
  m3 : ∀ k ∈ ks, k.marks.length ≤ 3
theorem OkS.m {ks : List KindR} {L : Nat} (h : OkS ks L) : OkM ks := ⟨h.w, fun k hk => (h.dr k hk).2.1⟩
instance {ks : List KindR} {L : Nat} : CoeOut (OkS ks L) (OkM ks) := ⟨OkS.m⟩
structure DrawnT (cols : List Row) (sz : Nat) : Prop where
  ok : ColOk cols sz
  l3 : cols.length ≤ 3
  tx : ∀ r ∈ cols, ∀ t ∈ r.2, isText t = true ∧ t.length ≤ 230
end G
set_option maxHeartbeats 1000000
namespace G
open PySem PySem.Spec PyProof.Rows L2
local macro_rules | `(tactic| decreasing_trivial_pre_omega) => `(tactic| first | with_reducible refine v_iKeys ?_ | with_reducible refine v_listV ?_ | with_reducible refine v_raise ?_ | with_reducible refine v_xisV (by with_unfolding_all rfl) ?_ | with_reducible refine v_xfV (by with_unfolding_all rfl) (by with_unfolding_all rfl) ?_ | with_reducible refine v_calX ?_ | with_reducible refine v_makeX ?_ | with_reducible refine v_methX ?_ | with_reducible refine v_try ?_ | with_reducible refine v_cmeth ?_ | with_reducible refine v_setdK ?_ | with_reducible refine v_ixX ?_ | with_reducible refine v_neFS ?_ | with_reducible refine v_neFI ?_ | with_reducible refine v_eqFS ?_ | with_reducible refine v_eqFI ?_ | with_reducible refine v_sq5 ?_ | with_reducible refine v_sq4 ?_ | with_reducible refine v_sq3 ?_ | with_reducible refine v_sq2 ?_ | with_reducible refine v_sq1 ?_ | with_reducible refine v_sq0 ?_ | with_reducible refine v_oq4 ?_ | with_reducible refine kindD_name ?_ | with_reducible refine v_raise ?_ | with_reducible refine v_xisV (by with_unfolding_all rfl) ?_ | with_reducible refine v_xfV (by with_unfolding_all rfl) (by with_unfolding_all rfl) ?_ | with_reducible refine v_calX ?_ | with_reducible refine v_methX ?_ | with_reducible refine v_try ?_ | with_reducible refine cz_meth (by decide) ?_ | with_reducible refine cz_held ?_ | with_reducible refine cz_level ?_ | with_reducible refine v_vaN ?_ | with_reducible refine v_vaT ?_ | with_reducible refine v_va0 ?_ | with_reducible refine kindD_yes ?_ | with_reducible refine kindD_keep ?_ | with_reducible refine kindD_fam ?_ | with_reducible refine bk_prop ?_ | with_reducible refine v_prop ?_ | with_reducible refine v_iEnum ?_ | with_reducible refine v_iList ?_ | with_reducible refine v_trip1 ?_ | with_reducible refine v_trip0 ?_ | with_reducible refine v_nonS ?_ | with_reducible refine v_nonN ?_ | with_reducible refine v_onS ?_ | with_reducible refine v_onN ?_ | with_reducible refine v_op5 ?_ | with_reducible refine v_op4 ?_ | with_reducible refine v_op1 ?_ | with_reducible refine v_op0 ?_ | with_reducible refine v_sp5 ?_ | with_reducible refine v_sp4 ?_ | with_reducible refine v_sp3 ?_ | with_reducible refine v_sp2 ?_ | with_reducible refine v_sp1 ?_ | with_reducible refine v_sp0 ?_ | with_reducible refine v_gh ?_ | with_reducible refine v_intO ?_ | with_reducible refine lz_kind ?_ | with_reducible refine lz_name ?_ | with_reducible refine lz_book ?_ | with_reducible refine bz_meth (by decide) ?_ | with_reducible refine bz_mark ?_ | with_reducible refine bz_joined ?_ | with_reducible refine bz_spare ?_ | with_reducible refine bz_kinds ?_ | with_reducible refine kz_parts ?_ | with_reducible refine v_lenSet ?_ | with_reducible refine kz_keep ?_ | with_reducible refine kz_point ?_ | with_reducible refine kz_digits ?_ | with_reducible refine kz_no ?_ | with_reducible refine kz_yes ?_ | with_reducible refine kz_marks ?_ | with_reducible refine kz_family ?_ | with_reducible refine kz_name ?_ | with_reducible refine v_exi ?_ | with_reducible refine v_exf ?_ | with_reducible refine v_exv ?_ | with_reducible refine v_con ?_ | with_reducible refine v_tryN ?_ | with_reducible refine v_pnil ?_ | with_reducible refine v_pcons ?_ | with_reducible refine v_dictD ?_ | with_reducible refine v_get1 ?_)
/-! ### drawn values -/
theorem ok_small {l : List Nat} (h : l.all okSign = true) : small l = true := List.all_eq_true.mpr fun c hc => by
  have := List.all_eq_true.mp h c hc
  unfold okSign at this
  simp at this
  exact decide_eq_true (by omega)
theorem log_ok {i : Int} (h : i.natAbs < 10 ^ 40) : i.natAbs.log2 < 1920 := by
  by_cases z : i.natAbs = 0
  · rw [z]
    decide
  · exact (Nat.log2_lt z).mpr (Nat.lt_trans h (by decide +kernel))
def Thg (n : Nat) (x : D) : Prop := Shw n (2000 * 4 ^ n) x ∧ PrD x
theorem Thg.mono {n m : Nat} {x : D} (h : Thg n x) (e : n ≤ m) : Thg m x := ⟨h.1.mono e (Nat.mul_le_mul_left _ (Nat.pow_le_pow_right (by decide) e)), h.2⟩
theorem thg_leaf {n m : Nat} {x : D} (h : Shw 0 m x) (hm : m ≤ 2000) (p : PrD x) : Thg n x := ⟨h.mono (Nat.zero_le _) (Nat.le_trans hm (Nat.le_mul_of_pos_right _ (Nat.pow_pos (by decide)))), p⟩
theorem thg_non {n : Nat} : Thg n .non := thg_leaf shw_non (by decide) (.inr (.inr (.inl rfl)))
theorem thg_bl {n : Nat} {b : Bool} : Thg n (.bl b) := thg_leaf shw_bl (by decide) (.inr (.inr (.inr (.inl ⟨b, rfl⟩))))
theorem thg_int {n : Nat} {i : Int} (h : i.natAbs.log2 < 1920) : Thg n (.int i) := thg_leaf (shw_int h) (by decide) (.inr (.inl ⟨i, rfl, h⟩))
theorem thg_str {n : Nat} {l : List Nat} (h : l.all okSign = true) (hl : l.length ≤ 30) : Thg n (.str l) := thg_leaf (shw_str (ok_small h)) (by omega) (.inl ⟨l, rfl, by omega⟩)
theorem thg_sum {n : Nat} {ds : List D} (hn : n ≤ 2) (hl : ds.length ≤ 3) (h : ∀ d ∈ ds, Thg n d) : Thg (n + 1) (.lst ds) ∧ Thg (n + 1) (.tup ds) := by
  have e : 2000 * 4 ^ (n + 1) = 4 * (2000 * 4 ^ n) := by rw [Nat.pow_succ]; omega
  have hp : 0 < 4 ^ n := Nat.pow_pos (by decide)
  have hq : 4 ^ n ≤ 4 ^ 2 := Nat.pow_le_pow_right (by decide) hn
  have hq : 4 ^ n ≤ 16 := hq
  have s : ShwL n ((2000 * 4 ^ n + 2) * ds.length) ds := shw_all fun d hd => (h d hd).1
  have hm : (2000 * 4 ^ n + 2) * ds.length ≤ (2000 * 4 ^ n + 2) * 3 := Nat.mul_le_mul_left _ hl
  have a := (shw_lst s).mono (Nat.le_refl _) (show _ ≤ 2000 * 4 ^ (n + 1) by omega)
  have b := (shw_tup s).mono (Nat.le_refl _) (show _ ≤ 2000 * 4 ^ (n + 1) by omega)
  exact ⟨⟨a, prd_lst a (by omega) (by omega)⟩, ⟨b, prd_tup b (by omega) (by omega)⟩⟩
theorem if_cc {p : Prop} [Decidable p] {x y : Int} {ρ : DEnv} {C : Cl} {Q : DQ} (h : ∀ m : Int, (m = x ∧ p ∨ m = y ∧ ¬ p) → Q (.int m) C) : if decide p = true then dC (.int x) ρ C Q else dC (.int y) ρ C Q := by
  by_cases z : p
  · rw [if_pos (decide_eq_true z)]
    exact h x (.inl ⟨rfl, z⟩)
  · rw [decide_eq_false z, if_neg Bool.false_ne_true]
    exact h y (.inr ⟨rfl, z⟩)
theorem v_fzlcQ {wi : DI} {g : DG} {te : DE} {vs : List Nat} {ρ : DEnv} {C : Cl} {Q : DQ} (h : wi ρ C fun xs C1 => dFz (dLc (fun _ C R => R xs C) g dYes te vs) ρ C1 Q) : dFz (dLc wi g dYes te vs) ρ C Q := h
def spR_l_thing : Nat → DSp
  | 0 => fun _ _ _ _ => False
  | n + 1 => fun ds C Q _ => ∃ (b : Addr) (d k : Nat), ds = [.ref b, .int (d : Nat)] ∧ d ≤ n ∧ n ≤ 2 ∧ BagAt C b k ∧ k + 30000 * 5 ^ d < 400000000 ∧ ∀ x C', Thg d x → Bagged C b C' (k + 30000 * 5 ^ d) → Q x C'
abbrev sp_l_thing : DSp := spR_l_thing 3
def td_l_thing (sp_r : DSp) : DS :=
  (dSeq (dAsg (dCall sp_l_take [] (dCons (dVar 0) (dCons (dIf (dTest (dOp rGtD (dVar 1) (dC (.int 0)))) (dC (.int 9)) (dC (.int 6))) dNil))) (dName 2))
    (dSeq (dIfS (dTest (dOp rEqD (dVar 2) (dC (.int 0)))) (dRet (dC .non)) dNext)
    (dSeq (dIfS (dTest (dOp rEqD (dVar 2) (dC (.int 1)))) (dRet (dOp rEqD (dCall sp_l_take [] (dCons (dVar 0) (dCons (dC (.int 2)) dNil))) (dC (.int 0)))) dNext)
    (dSeq (dIfS (dTest (dOp rEqD (dVar 2) (dC (.int 2)))) (dRet (dSub (dCall sp_l_take [] (dCons (dVar 0) (dCons (dC (.int 9)) dNil))) (dC (.int 3)))) dNext)
    (dSeq (dIfS (dTest (dOp rEqD (dVar 2) (dC (.int 3)))) (dRet (dMul (dSub (dMul (dCall sp_l_take [] (dCons (dVar 0) (dCons (dC (.int 2)) dNil))) (dC (.int 2))) (dC (.int 1))) (dCall sp_l_take [] (dCons (dVar 0) (dCons (dPow (dC (.int 10)) (dC (.int 29))) dNil))))) dNext)
    (dSeq (dIfS (dTest (dOp rLtD (dVar 2) (dC (.int 6)))) (dRet (dCall sp_l_text [] (dCons (dVar 0) dNil))) dNext)
    (dSeq (dAsg (dFz (dLc (diRng1 (dCons (dCall sp_l_take [] (dCons (dVar 0) (dCons (dC (.int 4)) dNil))) dNil)) (dName 4) dYes (dCall sp_r [] (dCons (dVar 0) (dCons (dSub (dVar 1) (dC (.int 1))) dNil))) [4])) (dName 3))
    (dRet (dIf (dTest (dOp rEqD (dVar 2) (dC (.int 6)))) (dVar 3) (dCB rTuple (dCons (dVar 3) dNil)))))))))))
theorem len_l_thing (n : Nat) (ds : List D) (C : Cl) (Q : DQ) (E : DX) (h : spR_l_thing (n + 1) ds C Q E) : ds.length = 2 := by repeat (first | (obtain ⟨rfl, _⟩ := h; exact rfl) | (obtain ⟨_, h⟩ := h))
theorem pure_l_thing (n : Nat) (ds : List D) (C : Cl) (Q : DQ) (E : DX) (h : spR_l_thing (n + 1) ds C Q E) : td_l_thing (spR_l_thing n) (endsD Q) (startD ["_law_bag_here", "_law_deep", "_law_road", "_law_some", "_law_turn"] ds) C := by
  obtain ⟨b, d, k, rfl, hd, hn, hb, hk, hq⟩ := h
  unfold td_l_thing
  refine v_ends ?_
  simp only [startD, List.map_cons, List.map_nil, List.length_cons, List.length_nil, Nat.reduceAdd, Nat.reduceSub, List.reduceReplicate, List.cons_append, List.nil_append]
  array_mem_dec
  have hp : 0 < 5 ^ d := Nat.pow_pos (by decide)
  refine if_cc fun m hm => ?_
  array_mem_dec
  refine ⟨b, m, k, rfl, by omega, by (rcases hm with ⟨rfl, _⟩ | ⟨rfl, _⟩ <;> decide), hb, by omega, fun i C1 i0 i1 B1 => ?_⟩
  array_mem_dec
  refine ite_d (fun e0 => ?_) (fun e0 => ?_)
  · array_mem_dec
    exact hq _ _ thg_non (B1.mono (by omega))
  array_mem_dec
  refine ite_d (fun e1 => ?_) (fun e1 => ?_)
  · array_mem_dec
    refine ⟨b, 2, k + 1, rfl, by decide, by decide, B1.at, by omega, fun j C2 j0 j1 B2 => ?_⟩
    array_mem_dec
    exact hq _ _ thg_bl ((B1.trans B2).mono (by omega))
  array_mem_dec
  refine ite_d (fun e2 => ?_) (fun e2 => ?_)
  · array_mem_dec
    refine ⟨b, 9, k + 1, rfl, by decide, by decide, B1.at, by omega, fun j C2 j0 j1 B2 => ?_⟩
    array_mem_dec
    exact hq _ _ (thg_int (log_ok (Nat.lt_trans (show _ < 100 by omega) (by decide)))) ((B1.trans B2).mono (by omega))
  array_mem_dec
  refine ite_d (fun e3 => ?_) (fun e3 => ?_)
  · array_mem_dec
    refine ⟨b, 2, k + 1, rfl, by decide, by decide, B1.at, by omega, fun j C2 j0 j1 B2 => ?_⟩
    array_mem_dec
    refine .inl ⟨j, 2, rfl, rfl, .inr (by decide), ?_⟩
    array_mem_dec
    refine ⟨10, 29, rfl, rfl, ⟨by decide, by decide, by decide⟩, ?_⟩
    array_mem_dec
    rw [show (fun i j : Int => i ^ j.toNat) 10 29 = 100000000000000000000000000000 by decide]
    refine ⟨b, 100000000000000000000000000000, k + 1 + 1, rfl, by decide, by decide, B2.at, by omega, fun w C3 w0 w1 B3 => ?_⟩
    refine .inl ⟨_, w, rfl, rfl, .inl (by omega), ?_⟩
    array_mem_dec
    refine hq _ _ (thg_int (log_ok ?_)) (((B1.trans B2).trans B3).mono (by omega))
    rw [Int.natAbs_mul]
    refine Nat.lt_of_le_of_lt (Nat.mul_le_mul (show _ ≤ 3 by omega) (show _ ≤ 100000000000000000000000000000 by omega)) (by decide)
  array_mem_dec
  refine ite_d (fun e4 => ?_) (fun e4 => ?_)
  · array_mem_dec
    refine ⟨b, k + 1, rfl, B1.at, by omega, fun l C2 h1 h2 h3 B2 => ?_⟩
    array_mem_dec
    exact hq _ _ (thg_str h2 h1) ((B1.trans B2).mono (by omega))
  have d0 : 0 < d := by
    rcases hm with ⟨_, z⟩ | ⟨rfl, _⟩ <;> omega
  obtain ⟨e, rfl⟩ : ∃ e, d = e + 1 := ⟨d - 1, by omega⟩
  obtain ⟨n, rfl⟩ : ∃ e, n = e + 1 := ⟨n - 1, by omega⟩
  have ep : 5 ^ (e + 1) = 5 * 5 ^ e := by rw [Nat.pow_succ]; omega
  have hp : 0 < 5 ^ e := Nat.pow_pos (by decide)
  rw [ep] at hk hq
  array_mem_dec
  refine v_fzlcQ ?_
  array_mem_dec
  refine ⟨b, 4, k + 1, rfl, by decide, by decide, B1.at, by omega, fun j C2 j0 j1 B2 => ?_⟩
  obtain ⟨w, rfl⟩ := Int.eq_ofNat_of_zero_le j0
  refine ⟨w, rfl, ⟨by omega, by omega⟩, ?_⟩
  refine lc_bagW (xs := ranged 0 w) (b := b) (k := 30000 * 5 ^ e) (Thg e) (fun R h => h) B2.at (szl (by rw [ranged_length]; omega)) (fun i' x C3 N hx B3 _ hN => ?_) fun ys C3 hyl hY B3 => ?_
  · obtain ⟨hi', rfl⟩ := ranged_get hx
    array_mem_dec
    rw [show ((e + 1 : Nat) : Int) - 1 = (e : Nat) by omega]
    have hi3 : i' ≤ 2 := by omega
    have hm3 : i' * (30000 * 5 ^ e) ≤ 2 * (30000 * 5 ^ e) := Nat.mul_le_mul_right _ hi3
    refine ⟨b, e, _, rfl, by omega, by omega, B3, by omega, fun x C4 hx4 B4 => ?_⟩
    exact hN x C4 hx4 (B4.mono (by rw [Nat.add_mul, Nat.one_mul]; omega))
  · rw [ranged_length] at hyl B3
    have hw3 : w ≤ 3 := by omega
    have hm3 : w * (30000 * 5 ^ e) ≤ 3 * (30000 * 5 ^ e) := Nat.mul_le_mul_right _ hw3
    have T := thg_sum (n := e) (by omega) (by omega) hY
    have B5 : Bagged C b C3 (k + 30000 * (5 * 5 ^ e)) := ((B1.trans B2).trans B3).mono (by omega)
    array_mem_dec
    refine ite_d (fun e6 => ?_) (fun e6 => ?_)
    · array_mem_dec
      exact hq _ _ T.1 B5
    · array_mem_dec
      exact hq _ _ T.2 B5
end G
set_option maxHeartbeats 1000000
namespace G
open PySem PySem.Spec PyProof.Rows L2
local macro_rules | `(tactic| decreasing_trivial_pre_omega) => `(tactic| first | with_reducible refine v_iKeys ?_ | with_reducible refine v_listV ?_ | with_reducible refine v_raise ?_ | with_reducible refine v_xisV (by with_unfolding_all rfl) ?_ | with_reducible refine v_xfV (by with_unfolding_all rfl) (by with_unfolding_all rfl) ?_ | with_reducible refine v_calX ?_ | with_reducible refine v_makeX ?_ | with_reducible refine v_methX ?_ | with_reducible refine v_try ?_ | with_reducible refine v_cmeth ?_ | with_reducible refine v_setdK ?_ | with_reducible refine v_ixX ?_ | with_reducible refine v_neFS ?_ | with_reducible refine v_neFI ?_ | with_reducible refine v_eqFS ?_ | with_reducible refine v_eqFI ?_ | with_reducible refine v_sq5 ?_ | with_reducible refine v_sq4 ?_ | with_reducible refine v_sq3 ?_ | with_reducible refine v_sq2 ?_ | with_reducible refine v_sq1 ?_ | with_reducible refine v_sq0 ?_ | with_reducible refine v_oq4 ?_ | with_reducible refine kindD_name ?_ | with_reducible refine v_raise ?_ | with_reducible refine v_xisV (by with_unfolding_all rfl) ?_ | with_reducible refine v_xfV (by with_unfolding_all rfl) (by with_unfolding_all rfl) ?_ | with_reducible refine v_calX ?_ | with_reducible refine v_methX ?_ | with_reducible refine v_try ?_ | with_reducible refine cz_meth (by decide) ?_ | with_reducible refine cz_held ?_ | with_reducible refine cz_level ?_ | with_reducible refine v_vaN ?_ | with_reducible refine v_vaT ?_ | with_reducible refine v_va0 ?_ | with_reducible refine kindD_yes ?_ | with_reducible refine kindD_keep ?_ | with_reducible refine kindD_fam ?_ | with_reducible refine bk_prop ?_ | with_reducible refine v_prop ?_ | with_reducible refine v_iEnum ?_ | with_reducible refine v_iList ?_ | with_reducible refine v_trip1 ?_ | with_reducible refine v_trip0 ?_ | with_reducible refine v_nonS ?_ | with_reducible refine v_nonN ?_ | with_reducible refine v_onS ?_ | with_reducible refine v_onN ?_ | with_reducible refine v_op5 ?_ | with_reducible refine v_op4 ?_ | with_reducible refine v_op1 ?_ | with_reducible refine v_op0 ?_ | with_reducible refine v_sp5 ?_ | with_reducible refine v_sp4 ?_ | with_reducible refine v_sp3 ?_ | with_reducible refine v_sp2 ?_ | with_reducible refine v_sp1 ?_ | with_reducible refine v_sp0 ?_ | with_reducible refine v_gh ?_ | with_reducible refine v_intO ?_ | with_reducible refine lz_kind ?_ | with_reducible refine lz_name ?_ | with_reducible refine lz_book ?_ | with_reducible refine bz_meth (by decide) ?_ | with_reducible refine bz_mark ?_ | with_reducible refine bz_joined ?_ | with_reducible refine bz_spare ?_ | with_reducible refine bz_kinds ?_ | with_reducible refine kz_parts ?_ | with_reducible refine v_lenSet ?_ | with_reducible refine kz_keep ?_ | with_reducible refine kz_point ?_ | with_reducible refine kz_digits ?_ | with_reducible refine kz_no ?_ | with_reducible refine kz_yes ?_ | with_reducible refine kz_marks ?_ | with_reducible refine kz_family ?_ | with_reducible refine kz_name ?_ | with_reducible refine v_exi ?_ | with_reducible refine v_exf ?_ | with_reducible refine v_exv ?_ | with_reducible refine v_con ?_ | with_reducible refine v_tryN ?_ | with_reducible refine v_pnil ?_ | with_reducible refine v_pcons ?_ | with_reducible refine v_dictD ?_ | with_reducible refine v_get1 ?_)
/-! ### exceptions that are told apart -/
def exAll : List String := ["BadShape", "BadKind", "BadBook", "BadTable", "BadReader", "BadCut", "OtherBook", "NotHeld", "OrderMatters", "Unfit", "Misfit", "BadProgram", "BadRun", "BadInput", "NoKind", "NoColumn", "NoRow"]
def exT_BadBook : List (String × Bool) := [("BadShape", false), ("BadKind", false), ("BadBook", true), ("BadTable", false), ("BadReader", false), ("BadCut", false), ("OtherBook", false), ("NotHeld", false), ("OrderMatters", false), ("Unfit", false), ("Misfit", false), ("BadProgram", false), ("BadRun", false), ("BadInput", false), ("NoKind", false), ("NoColumn", false), ("NoRow", false)]
def exT_BadCut : List (String × Bool) := [("BadShape", false), ("BadKind", false), ("BadBook", false), ("BadTable", false), ("BadReader", false), ("BadCut", true), ("OtherBook", false), ("NotHeld", false), ("OrderMatters", false), ("Unfit", false), ("Misfit", false), ("BadProgram", false), ("BadRun", false), ("BadInput", false), ("NoKind", false), ("NoColumn", false), ("NoRow", false)]
def exT_BadInput : List (String × Bool) := [("BadShape", false), ("BadKind", false), ("BadBook", false), ("BadTable", false), ("BadReader", false), ("BadCut", false), ("OtherBook", false), ("NotHeld", false), ("OrderMatters", false), ("Unfit", false), ("Misfit", false), ("BadProgram", false), ("BadRun", false), ("BadInput", true), ("NoKind", false), ("NoColumn", false), ("NoRow", false)]
def exT_BadKind : List (String × Bool) := [("BadShape", false), ("BadKind", true), ("BadBook", false), ("BadTable", false), ("BadReader", false), ("BadCut", false), ("OtherBook", false), ("NotHeld", false), ("OrderMatters", false), ("Unfit", false), ("Misfit", false), ("BadProgram", false), ("BadRun", false), ("BadInput", false), ("NoKind", false), ("NoColumn", false), ("NoRow", false)]
def exT_BadProgram : List (String × Bool) := [("BadShape", false), ("BadKind", false), ("BadBook", false), ("BadTable", false), ("BadReader", false), ("BadCut", false), ("OtherBook", false), ("NotHeld", false), ("OrderMatters", false), ("Unfit", false), ("Misfit", false), ("BadProgram", true), ("BadRun", false), ("BadInput", false), ("NoKind", false), ("NoColumn", false), ("NoRow", false)]
def exT_BadReader : List (String × Bool) := [("BadShape", false), ("BadKind", false), ("BadBook", false), ("BadTable", false), ("BadReader", true), ("BadCut", false), ("OtherBook", false), ("NotHeld", false), ("OrderMatters", false), ("Unfit", false), ("Misfit", false), ("BadProgram", false), ("BadRun", false), ("BadInput", false), ("NoKind", false), ("NoColumn", false), ("NoRow", false)]
def exT_BadRun : List (String × Bool) := [("BadShape", false), ("BadKind", false), ("BadBook", false), ("BadTable", false), ("BadReader", false), ("BadCut", false), ("OtherBook", false), ("NotHeld", false), ("OrderMatters", false), ("Unfit", false), ("Misfit", false), ("BadProgram", false), ("BadRun", true), ("BadInput", false), ("NoKind", false), ("NoColumn", false), ("NoRow", false)]
def exT_BadShape : List (String × Bool) := [("BadShape", true), ("BadKind", false), ("BadBook", false), ("BadTable", false), ("BadReader", false), ("BadCut", false), ("OtherBook", false), ("NotHeld", false), ("OrderMatters", false), ("Unfit", false), ("Misfit", false), ("BadProgram", false), ("BadRun", false), ("BadInput", false), ("NoKind", false), ("NoColumn", false), ("NoRow", false)]
def exT_BadTable : List (String × Bool) := [("BadShape", false), ("BadKind", false), ("BadBook", false), ("BadTable", true), ("BadReader", false), ("BadCut", false), ("OtherBook", false), ("NotHeld", false), ("OrderMatters", false), ("Unfit", false), ("Misfit", false), ("BadProgram", false), ("BadRun", false), ("BadInput", false), ("NoKind", false), ("NoColumn", false), ("NoRow", false)]
def exT_GuessError : List (String × Bool) := [("BadShape", true), ("BadKind", true), ("BadBook", true), ("BadTable", true), ("BadReader", true), ("BadCut", true), ("OtherBook", true), ("NotHeld", true), ("OrderMatters", true), ("Unfit", true), ("Misfit", true), ("BadProgram", true), ("BadRun", true), ("BadInput", true), ("NoKind", false), ("NoColumn", false), ("NoRow", false)]
def exT_LookupError : List (String × Bool) := [("BadShape", false), ("BadKind", false), ("BadBook", false), ("BadTable", false), ("BadReader", false), ("BadCut", false), ("OtherBook", false), ("NotHeld", false), ("OrderMatters", false), ("Unfit", false), ("Misfit", false), ("BadProgram", false), ("BadRun", false), ("BadInput", false), ("NoKind", true), ("NoColumn", true), ("NoRow", true)]
def exT_Misfit : List (String × Bool) := [("BadShape", false), ("BadKind", false), ("BadBook", false), ("BadTable", false), ("BadReader", false), ("BadCut", false), ("OtherBook", false), ("NotHeld", false), ("OrderMatters", false), ("Unfit", false), ("Misfit", true), ("BadProgram", false), ("BadRun", false), ("BadInput", false), ("NoKind", false), ("NoColumn", false), ("NoRow", false)]
def exT_NoColumn : List (String × Bool) := [("BadShape", false), ("BadKind", false), ("BadBook", false), ("BadTable", false), ("BadReader", false), ("BadCut", false), ("OtherBook", false), ("NotHeld", false), ("OrderMatters", false), ("Unfit", false), ("Misfit", false), ("BadProgram", false), ("BadRun", false), ("BadInput", false), ("NoKind", false), ("NoColumn", true), ("NoRow", false)]
def exT_NoKind : List (String × Bool) := [("BadShape", false), ("BadKind", false), ("BadBook", false), ("BadTable", false), ("BadReader", false), ("BadCut", false), ("OtherBook", false), ("NotHeld", false), ("OrderMatters", false), ("Unfit", false), ("Misfit", false), ("BadProgram", false), ("BadRun", false), ("BadInput", false), ("NoKind", true), ("NoColumn", false), ("NoRow", false)]
def exT_NoRow : List (String × Bool) := [("BadShape", false), ("BadKind", false), ("BadBook", false), ("BadTable", false), ("BadReader", false), ("BadCut", false), ("OtherBook", false), ("NotHeld", false), ("OrderMatters", false), ("Unfit", false), ("Misfit", false), ("BadProgram", false), ("BadRun", false), ("BadInput", false), ("NoKind", false), ("NoColumn", false), ("NoRow", true)]
def exT_NotHeld : List (String × Bool) := [("BadShape", false), ("BadKind", false), ("BadBook", false), ("BadTable", false), ("BadReader", false), ("BadCut", false), ("OtherBook", false), ("NotHeld", true), ("OrderMatters", false), ("Unfit", false), ("Misfit", false), ("BadProgram", false), ("BadRun", false), ("BadInput", false), ("NoKind", false), ("NoColumn", false), ("NoRow", false)]
def exT_OrderMatters : List (String × Bool) := [("BadShape", false), ("BadKind", false), ("BadBook", false), ("BadTable", false), ("BadReader", false), ("BadCut", false), ("OtherBook", false), ("NotHeld", false), ("OrderMatters", true), ("Unfit", false), ("Misfit", false), ("BadProgram", false), ("BadRun", false), ("BadInput", false), ("NoKind", false), ("NoColumn", false), ("NoRow", false)]
def exT_OtherBook : List (String × Bool) := [("BadShape", false), ("BadKind", false), ("BadBook", false), ("BadTable", false), ("BadReader", false), ("BadCut", false), ("OtherBook", true), ("NotHeld", false), ("OrderMatters", false), ("Unfit", false), ("Misfit", false), ("BadProgram", false), ("BadRun", false), ("BadInput", false), ("NoKind", false), ("NoColumn", false), ("NoRow", false)]
def exT_Unfit : List (String × Bool) := [("BadShape", false), ("BadKind", false), ("BadBook", false), ("BadTable", false), ("BadReader", false), ("BadCut", false), ("OtherBook", false), ("NotHeld", false), ("OrderMatters", false), ("Unfit", true), ("Misfit", false), ("BadProgram", false), ("BadRun", false), ("BadInput", false), ("NoKind", false), ("NoColumn", false), ("NoRow", false)]
def exT_ValueError : List (String × Bool) := [("BadShape", true), ("BadKind", true), ("BadBook", true), ("BadTable", true), ("BadReader", true), ("BadCut", true), ("OtherBook", true), ("NotHeld", true), ("OrderMatters", true), ("Unfit", true), ("Misfit", true), ("BadProgram", true), ("BadRun", true), ("BadInput", true), ("NoKind", false), ("NoColumn", false), ("NoRow", false)]
theorem lk_BadShape {c : String} (h : c ∈ exAll) : exT_BadShape.lookup c = some (c == "BadShape") := (by decide +kernel : ∀ c ∈ exAll, exT_BadShape.lookup c = some (c == "BadShape")) c h
theorem lk_BadKind {c : String} (h : c ∈ exAll) : exT_BadKind.lookup c = some (c == "BadKind") := (by decide +kernel : ∀ c ∈ exAll, exT_BadKind.lookup c = some (c == "BadKind")) c h
theorem lk_BadBook {c : String} (h : c ∈ exAll) : exT_BadBook.lookup c = some (c == "BadBook") := (by decide +kernel : ∀ c ∈ exAll, exT_BadBook.lookup c = some (c == "BadBook")) c h
theorem lk_BadTable {c : String} (h : c ∈ exAll) : exT_BadTable.lookup c = some (c == "BadTable") := (by decide +kernel : ∀ c ∈ exAll, exT_BadTable.lookup c = some (c == "BadTable")) c h
theorem lk_BadReader {c : String} (h : c ∈ exAll) : exT_BadReader.lookup c = some (c == "BadReader") := (by decide +kernel : ∀ c ∈ exAll, exT_BadReader.lookup c = some (c == "BadReader")) c h
theorem lk_BadCut {c : String} (h : c ∈ exAll) : exT_BadCut.lookup c = some (c == "BadCut") := (by decide +kernel : ∀ c ∈ exAll, exT_BadCut.lookup c = some (c == "BadCut")) c h
theorem lk_OtherBook {c : String} (h : c ∈ exAll) : exT_OtherBook.lookup c = some (c == "OtherBook") := (by decide +kernel : ∀ c ∈ exAll, exT_OtherBook.lookup c = some (c == "OtherBook")) c h
theorem lk_NotHeld {c : String} (h : c ∈ exAll) : exT_NotHeld.lookup c = some (c == "NotHeld") := (by decide +kernel : ∀ c ∈ exAll, exT_NotHeld.lookup c = some (c == "NotHeld")) c h
theorem lk_OrderMatters {c : String} (h : c ∈ exAll) : exT_OrderMatters.lookup c = some (c == "OrderMatters") := (by decide +kernel : ∀ c ∈ exAll, exT_OrderMatters.lookup c = some (c == "OrderMatters")) c h
theorem lk_Unfit {c : String} (h : c ∈ exAll) : exT_Unfit.lookup c = some (c == "Unfit") := (by decide +kernel : ∀ c ∈ exAll, exT_Unfit.lookup c = some (c == "Unfit")) c h
theorem lk_Misfit {c : String} (h : c ∈ exAll) : exT_Misfit.lookup c = some (c == "Misfit") := (by decide +kernel : ∀ c ∈ exAll, exT_Misfit.lookup c = some (c == "Misfit")) c h
theorem lk_BadProgram {c : String} (h : c ∈ exAll) : exT_BadProgram.lookup c = some (c == "BadProgram") := (by decide +kernel : ∀ c ∈ exAll, exT_BadProgram.lookup c = some (c == "BadProgram")) c h
theorem lk_BadRun {c : String} (h : c ∈ exAll) : exT_BadRun.lookup c = some (c == "BadRun") := (by decide +kernel : ∀ c ∈ exAll, exT_BadRun.lookup c = some (c == "BadRun")) c h
theorem lk_BadInput {c : String} (h : c ∈ exAll) : exT_BadInput.lookup c = some (c == "BadInput") := (by decide +kernel : ∀ c ∈ exAll, exT_BadInput.lookup c = some (c == "BadInput")) c h
theorem lk_NoKind {c : String} (h : c ∈ exAll) : exT_NoKind.lookup c = some (c == "NoKind") := (by decide +kernel : ∀ c ∈ exAll, exT_NoKind.lookup c = some (c == "NoKind")) c h
theorem lk_NoColumn {c : String} (h : c ∈ exAll) : exT_NoColumn.lookup c = some (c == "NoColumn") := (by decide +kernel : ∀ c ∈ exAll, exT_NoColumn.lookup c = some (c == "NoColumn")) c h
theorem lk_NoRow {c : String} (h : c ∈ exAll) : exT_NoRow.lookup c = some (c == "NoRow") := (by decide +kernel : ∀ c ∈ exAll, exT_NoRow.lookup c = some (c == "NoRow")) c h
theorem sh_bls {α : Type} (n : Nat) (f : α → Bool) : ∀ l : List α, ShL n (l.map (D.bl ∘ f))
  | [] => sh_nil
  | _ :: l => sh_cons sh_bl (sh_bls n f l)
theorem ex_at {k : Nat} {c : String} (h : exAll[k]? = some c) : k < 17 ∧ exT_GuessError.lookup c = some (decide (k < 14)) ∧ exT_ValueError.lookup c = some (decide (k < 14)) ∧ exT_LookupError.lookup c = some (decide (14 ≤ k)) ∧ (exAll.map fun m => c == m) = (List.range 17).map fun j => decide (j = k) := by
  obtain ⟨hk, rfl⟩ := List.getElem?_eq_some_iff.mp h
  have hk : k < 17 := hk
  have key : ∀ k : _root_.Fin 17, exT_GuessError.lookup (exAll[k.1]'(k.2)) = some (decide (k.1 < 14)) ∧ exT_ValueError.lookup (exAll[k.1]'(k.2)) = some (decide (k.1 < 14)) ∧ exT_LookupError.lookup (exAll[k.1]'(k.2)) = some (decide (14 ≤ k.1)) ∧ (exAll.map fun m => exAll[k.1]'(k.2) == m) = (List.range 17).map fun j => decide (j = k.1) := by decide +kernel
  exact ⟨hk, key ⟨k, hk⟩⟩
def sp_l_marks : DSp := fun ds C Q _ => ∃ a c fs, ds = [.ref a] ∧ C a = some (.exc a c fs) ∧ c ∈ exAll ∧ Q (.lst ((exAll.map fun m => c == m).map D.bl)) C
def td_l_marks : DS :=
  (dSeq (dAsg (dLst (dCons (dExI exT_BadShape (dVar 0)) (dCons (dExI exT_BadKind (dVar 0)) (dCons (dExI exT_BadBook (dVar 0)) (dCons (dExI exT_BadTable (dVar 0)) dNil))))) (dName 1))
    (dSeq (dAsg (dAdd (dVar 1) (dLst (dCons (dExI exT_BadReader (dVar 0)) (dCons (dExI exT_BadCut (dVar 0)) (dCons (dExI exT_OtherBook (dVar 0)) dNil))))) (dName 1))
    (dSeq (dAsg (dAdd (dVar 1) (dLst (dCons (dExI exT_NotHeld (dVar 0)) (dCons (dExI exT_OrderMatters (dVar 0)) (dCons (dExI exT_Unfit (dVar 0)) (dCons (dExI exT_Misfit (dVar 0)) dNil)))))) (dName 1))
    (dSeq (dAsg (dAdd (dVar 1) (dLst (dCons (dExI exT_BadProgram (dVar 0)) (dCons (dExI exT_BadRun (dVar 0)) (dCons (dExI exT_BadInput (dVar 0)) dNil))))) (dName 1))
    (dRet (dAdd (dVar 1) (dLst (dCons (dExI exT_NoKind (dVar 0)) (dCons (dExI exT_NoColumn (dVar 0)) (dCons (dExI exT_NoRow (dVar 0)) dNil))))))))))
theorem len_l_marks (ds : List D) (C : Cl) (Q : DQ) (E : DX) (h : sp_l_marks ds C Q E) : ds.length = 1 := by repeat (first | (obtain ⟨rfl, _⟩ := h; exact rfl) | (obtain ⟨_, h⟩ := h))
theorem pure_l_marks (ds : List D) (C : Cl) (Q : DQ) (E : DX) (h : sp_l_marks ds C Q E) : td_l_marks (endsD Q) (startD ["_law_e", "_law_first"] ds) C := by
  obtain ⟨a, c, fs, rfl, ha, hc, hq⟩ := h
  unfold td_l_marks
  refine v_ends ?_
  simp only [startD, List.map_cons, List.map_nil, List.length_cons, List.length_nil, Nat.reduceAdd, Nat.reduceSub, List.reduceReplicate, List.cons_append, List.nil_append]
  array_mem_dec
  refine ⟨a, c, fs, _, rfl, ha, lk_BadShape hc, ?_⟩
  array_mem_dec
  refine ⟨a, c, fs, _, rfl, ha, lk_BadKind hc, ?_⟩
  array_mem_dec
  refine ⟨a, c, fs, _, rfl, ha, lk_BadBook hc, ?_⟩
  array_mem_dec
  refine ⟨a, c, fs, _, rfl, ha, lk_BadTable hc, ?_⟩
  array_mem_dec
  refine ⟨a, c, fs, _, rfl, ha, lk_BadReader hc, ?_⟩
  array_mem_dec
  refine ⟨a, c, fs, _, rfl, ha, lk_BadCut hc, ?_⟩
  array_mem_dec
  refine ⟨a, c, fs, _, rfl, ha, lk_OtherBook hc, ?_⟩
  array_mem_dec
  refine ⟨a, c, fs, _, rfl, ha, lk_NotHeld hc, ?_⟩
  array_mem_dec
  refine ⟨a, c, fs, _, rfl, ha, lk_OrderMatters hc, ?_⟩
  array_mem_dec
  refine ⟨a, c, fs, _, rfl, ha, lk_Unfit hc, ?_⟩
  array_mem_dec
  refine ⟨a, c, fs, _, rfl, ha, lk_Misfit hc, ?_⟩
  array_mem_dec
  refine ⟨a, c, fs, _, rfl, ha, lk_BadProgram hc, ?_⟩
  array_mem_dec
  refine ⟨a, c, fs, _, rfl, ha, lk_BadRun hc, ?_⟩
  array_mem_dec
  refine ⟨a, c, fs, _, rfl, ha, lk_BadInput hc, ?_⟩
  array_mem_dec
  refine ⟨a, c, fs, _, rfl, ha, lk_NoKind hc, ?_⟩
  array_mem_dec
  refine ⟨a, c, fs, _, rfl, ha, lk_NoColumn hc, ?_⟩
  array_mem_dec
  refine ⟨a, c, fs, _, rfl, ha, lk_NoRow hc, ?_⟩
  array_mem_dec
  exact hq
def sp_l_is_placed : DSp := fun ds C Q _ => ∃ (a : Addr) (c : String) (fs : List (Str × D)) (k : Nat), ds = [.ref a, .int (k : Nat)] ∧ C a = some (.exc a c fs) ∧ exAll[k]? = some c ∧ Q (.bl true) C
def td_l_is_placed : DS :=
  (dSeq (dIfS (dTest (dOp rNeD (dCall sp_l_marks [] (dCons (dVar 0) dNil)) (dFz (dLc (diRng1 (dCons (dC (.int 17)) dNil)) (dName 2) dYes (dOp rEqD (dVar 2) (dVar 1)) [2])))) (dRet (dC (.bl false))) dNext)
    (dSeq (dIfS (dOr (dTest (dOp rNeD (dExI exT_GuessError (dVar 0)) (dOp rLtD (dVar 1) (dC (.int 14))))) (dTest (dOp rNeD (dExI exT_ValueError (dVar 0)) (dOp rLtD (dVar 1) (dC (.int 14)))))) (dRet (dC (.bl false))) dNext)
    (dRet (dOp rEqD (dExI exT_LookupError (dVar 0)) (dOp rGeD (dVar 1) (dC (.int 14)))))))
theorem len_l_is_placed (ds : List D) (C : Cl) (Q : DQ) (E : DX) (h : sp_l_is_placed ds C Q E) : ds.length = 2 := by repeat (first | (obtain ⟨rfl, _⟩ := h; exact rfl) | (obtain ⟨_, h⟩ := h))
theorem pure_l_is_placed (ds : List D) (C : Cl) (Q : DQ) (E : DX) (h : sp_l_is_placed ds C Q E) : td_l_is_placed (endsD Q) (startD ["_law_e", "_law_at", "_law_k"] ds) C := by
  obtain ⟨a, c, fs, k, rfl, ha, hk, hq⟩ := h
  obtain ⟨k17, g1, g2, g3, gm⟩ := ex_at hk
  have hc : c ∈ exAll := List.mem_of_getElem? hk
  unfold td_l_is_placed
  refine v_ends ?_
  simp only [startD, List.map_cons, List.map_nil, List.length_cons, List.length_nil, Nat.reduceAdd, Nat.reduceSub, List.reduceReplicate, List.cons_append, List.nil_append]
  array_mem_dec
  refine ⟨a, c, fs, rfl, ha, hc, ?_⟩
  array_mem_dec
  refine v_lcmapF (as := List.range 17) (e := fun j => D.int (0 + (j : Int))) (fun j => .bl (decide (j = k))) (fun R h => ?_) (szl (by simp)) (fun i j C' N _ _ _ hN => ?_) ?_
  · array_mem_dec
    exact ⟨17, rfl, ⟨by omega, by omega⟩, h⟩
  · array_mem_dec
    rw [show decide ((0 : Int) + (j : Int) = (k : Int)) = decide (j = k) from decide_eq_decide.mpr (by omega)]
    exact hN
  · rw [gm, List.map_map]
    refine ne_self (n := 1) (sh_lst (sh_bls _ _ _)) ?_
    array_mem_dec
    refine ⟨a, c, fs, _, rfl, ha, g1, ?_⟩
    array_mem_dec
    rw [show decide ((k : Int) < 14) = decide (k < 14) from decide_eq_decide.mpr (by omega)]
    array_mem_dec
    refine ⟨a, c, fs, _, rfl, ha, g2, ?_⟩
    array_mem_dec
    rw [show decide ((k : Int) < 14) = decide (k < 14) from decide_eq_decide.mpr (by omega)]
    array_mem_dec
    refine ⟨a, c, fs, _, rfl, ha, g3, ?_⟩
    array_mem_dec
    rw [show decide ((14 : Int) ≤ (k : Int)) = decide (14 ≤ k) from decide_eq_decide.mpr (by omega), decide_eq_true (rfl : decide (14 ≤ k) = decide (14 ≤ k))]
    exact hq
end G
set_option maxHeartbeats 4000000
namespace G
open PySem PySem.Spec PyProof.Rows L2
local macro_rules | `(tactic| decreasing_trivial_pre_omega) => `(tactic| first | with_reducible refine v_iKeys ?_ | with_reducible refine v_listV ?_ | with_reducible refine v_raise ?_ | with_reducible refine v_xisV (by with_unfolding_all rfl) ?_ | with_reducible refine v_xfV (by with_unfolding_all rfl) (by with_unfolding_all rfl) ?_ | with_reducible refine v_calX ?_ | with_reducible refine v_makeX ?_ | with_reducible refine v_methX ?_ | with_reducible refine v_try ?_ | with_reducible refine v_cmeth ?_ | with_reducible refine v_setdK ?_ | with_reducible refine v_ixX ?_ | with_reducible refine v_neFS ?_ | with_reducible refine v_neFI ?_ | with_reducible refine v_eqFS ?_ | with_reducible refine v_eqFI ?_ | with_reducible refine v_sq5 ?_ | with_reducible refine v_sq4 ?_ | with_reducible refine v_sq3 ?_ | with_reducible refine v_sq2 ?_ | with_reducible refine v_sq1 ?_ | with_reducible refine v_sq0 ?_ | with_reducible refine v_oq4 ?_ | with_reducible refine kindD_name ?_ | with_reducible refine v_raise ?_ | with_reducible refine v_xisV (by with_unfolding_all rfl) ?_ | with_reducible refine v_xfV (by with_unfolding_all rfl) (by with_unfolding_all rfl) ?_ | with_reducible refine v_calX ?_ | with_reducible refine v_methX ?_ | with_reducible refine v_try ?_ | with_reducible refine cz_meth (by decide) ?_ | with_reducible refine cz_held ?_ | with_reducible refine cz_level ?_ | with_reducible refine v_vaN ?_ | with_reducible refine v_vaT ?_ | with_reducible refine v_va0 ?_ | with_reducible refine kindD_yes ?_ | with_reducible refine kindD_keep ?_ | with_reducible refine kindD_fam ?_ | with_reducible refine bk_prop ?_ | with_reducible refine v_prop ?_ | with_reducible refine v_iEnum ?_ | with_reducible refine v_iList ?_ | with_reducible refine v_trip1 ?_ | with_reducible refine v_trip0 ?_ | with_reducible refine v_nonS ?_ | with_reducible refine v_nonN ?_ | with_reducible refine v_onS ?_ | with_reducible refine v_onN ?_ | with_reducible refine v_op5 ?_ | with_reducible refine v_op4 ?_ | with_reducible refine v_op1 ?_ | with_reducible refine v_op0 ?_ | with_reducible refine v_sp5 ?_ | with_reducible refine v_sp4 ?_ | with_reducible refine v_sp3 ?_ | with_reducible refine v_sp2 ?_ | with_reducible refine v_sp1 ?_ | with_reducible refine v_sp0 ?_ | with_reducible refine v_gh ?_ | with_reducible refine v_intO ?_ | with_reducible refine lz_kind ?_ | with_reducible refine lz_name ?_ | with_reducible refine lz_book ?_ | with_reducible refine bz_meth (by decide) ?_ | with_reducible refine bz_mark ?_ | with_reducible refine bz_joined ?_ | with_reducible refine bz_spare ?_ | with_reducible refine bz_kinds ?_ | with_reducible refine kz_parts ?_ | with_reducible refine v_lenSet ?_ | with_reducible refine kz_keep ?_ | with_reducible refine kz_point ?_ | with_reducible refine kz_digits ?_ | with_reducible refine kz_no ?_ | with_reducible refine kz_yes ?_ | with_reducible refine kz_marks ?_ | with_reducible refine kz_family ?_ | with_reducible refine kz_name ?_ | with_reducible refine v_exi ?_ | with_reducible refine v_exf ?_ | with_reducible refine v_exv ?_ | with_reducible refine v_con ?_ | with_reducible refine v_tryN ?_ | with_reducible refine v_pnil ?_ | with_reducible refine v_pcons ?_ | with_reducible refine v_dictD ?_ | with_reducible refine v_get1 ?_)
theorem exv_new {C C1 : Cl} {a : Addr} {c : Cell} (h : C a = none) (e : updC C a c = C1) : C1 a = some c ∧ SubC C C1 := by
  subst e
  exact ⟨updC_same, (SubC.refl C).new h⟩
theorem pr_1 {x : D} (h : PrD x) : ∀ d ∈ [x], PrD d := fun d hd => by
  rw [List.mem_singleton.mp hd]
  exact h
theorem pr_c {x : D} {xs : List D} (h : PrD x) (r : ∀ d ∈ xs, PrD d) : ∀ d ∈ x :: xs, PrD d := fun d hd => by
  rcases List.mem_cons.mp hd with e | e
  · rw [e]
    exact h
  · exact r d e
theorem ne_sameQ {n : Nat} {a b d : D} {C : Cl} {Q : DQ} (ha : a = d) (hb : b = d) (h : Sh n d) (hq : Q (.bl false) C) (e : n ≤ 64 := by decide) : rNeD a b C Q := by
  subst ha
  subst hb
  exact ne_self h hq e
theorem sh_reps {r : List Nat} (n : Nat) (h : small r = true) : Sh 1 (.lst (txts (List.replicate n r))) := sh_texts fun l hl => by
  rw [(List.mem_replicate.mp hl).2]
  exact h
def sp_l_are_made : DSp := fun ds C Q _ => ∃ x y z, ds = [x, y, z] ∧ Thg 2 x ∧ Thg 2 y ∧ Thg 2 z ∧ ∀ C', SubC C C' → Q (.bl true) C'
def td_l_are_made : DS :=
  (dSeq (dAsg (dLst (dCons (dExV "BadShape" ["part"] (dCons (dVar 0) dNil)) (dCons (dExV "BadKind" ["part"] (dCons (dVar 0) dNil)) (dCons (dExV "BadBook" ["part"] (dCons (dVar 0) dNil)) (dCons (dExV "BadTable" ["part"] (dCons (dVar 0) dNil)) (dCons (dExV "BadReader" ["part"] (dCons (dVar 0) dNil)) dNil)))))) (dName 3))
    (dSeq (dAsg (dLst (dCons (dExV "NotHeld" ["column", "cell"] (dCons (dVar 0) (dCons (dVar 1) dNil))) (dCons (dExV "Unfit" ["kind", "text"] (dCons (dVar 0) (dCons (dVar 1) dNil))) (dCons (dExV "Misfit" ["row", "column", "text"] (dCons (dVar 2) (dCons (dVar 0) (dCons (dVar 1) dNil)))) dNil)))) (dName 4))
    (dSeq (dAsg (dLst (dCons (dExV "BadProgram" ["part"] (dCons (dVar 0) dNil)) (dCons (dExV "BadRun" ["part"] (dCons (dVar 0) dNil)) dNil))) (dName 5))
    (dSeq (dAsg (dLst (dCons (dExV "OtherBook" ["name"] (dCons (dVar 0) dNil)) (dCons (dExV "NoKind" ["name"] (dCons (dVar 0) dNil)) (dCons (dExV "NoColumn" ["name"] (dCons (dVar 0) dNil)) dNil)))) (dName 6))
    (dSeq (dPar 7 8 (dCons (dExV "BadCut" ["cut"] (dCons (dVar 0) dNil)) (dCons (dExV "OrderMatters" ["pieces"] (dCons (dVar 0) dNil)) dNil)))
    (dSeq (dPar 9 10 (dCons (dExV "BadInput" ["at"] (dCons (dVar 0) dNil)) (dCons (dExV "NoRow" ["at"] (dCons (dVar 0) dNil)) dNil)))
    (dSeq (dIfS (dTest (dOp rNeD (dFz (dLc (diList (dAdd (dVar 3) (dVar 5))) (dName 11) dYes (dCB rRepr (dCons (dExF "part" ["BadShape", "BadKind", "BadBook", "BadTable", "BadReader", "BadProgram", "BadRun"] (dVar 11)) dNil)) [11])) (dOp rRepL (dLst (dCons (dCB rRepr (dCons (dVar 0) dNil)) dNil)) (dC (.int 7))))) (dRet (dC (.bl false))) dNext)
    (dSeq (dIfS (dTest (dOp rNeD (dFz (dLc (diList (dVar 6)) (dName 11) dYes (dCB rRepr (dCons (dExF "name" ["OtherBook", "NoKind", "NoColumn"] (dVar 11)) dNil)) [11])) (dOp rRepL (dLst (dCons (dCB rRepr (dCons (dVar 0) dNil)) dNil)) (dC (.int 3))))) (dRet (dC (.bl false))) dNext)
    (dSeq (dIfS (dTest (dOp rNeD (dLst (dCons (dCB rRepr (dCons (dExF "cut" ["BadCut"] (dVar 7)) dNil)) (dCons (dCB rRepr (dCons (dExF "pieces" ["OrderMatters"] (dVar 8)) dNil)) (dCons (dCB rRepr (dCons (dExF "at" ["BadInput", "NoRow"] (dVar 9)) dNil)) (dCons (dCB rRepr (dCons (dExF "at" ["BadInput", "NoRow"] (dVar 10)) dNil)) dNil))))) (dOp rRepL (dLst (dCons (dCB rRepr (dCons (dVar 0) dNil)) dNil)) (dC (.int 4))))) (dRet (dC (.bl false))) dNext)
    (dSeq (dIfS (dTest (dOp rNeD (dCB rRepr (dCons (dLst (dCons (dExF "column" ["NotHeld", "Misfit"] (dOp rIx (dVar 4) (dC (.int 0)))) (dCons (dExF "cell" ["NotHeld"] (dOp rIx (dVar 4) (dC (.int 0)))) dNil))) dNil)) (dCB rRepr (dCons (dLst (dCons (dVar 0) (dCons (dVar 1) dNil))) dNil)))) (dRet (dC (.bl false))) dNext)
    (dSeq (dIfS (dTest (dOp rNeD (dCB rRepr (dCons (dLst (dCons (dExF "kind" ["Unfit"] (dOp rIx (dVar 4) (dC (.int 1)))) (dCons (dExF "text" ["Unfit", "Misfit"] (dOp rIx (dVar 4) (dC (.int 1)))) dNil))) dNil)) (dCB rRepr (dCons (dLst (dCons (dVar 0) (dCons (dVar 1) dNil))) dNil)))) (dRet (dC (.bl false))) dNext)
    (dSeq (dIfS (dTest (dOp rNeD (dCB rRepr (dCons (dLst (dCons (dExF "row" ["Misfit"] (dOp rIx (dVar 4) (dC (.int 2)))) (dCons (dExF "column" ["NotHeld", "Misfit"] (dOp rIx (dVar 4) (dC (.int 2)))) (dCons (dExF "text" ["Unfit", "Misfit"] (dOp rIx (dVar 4) (dC (.int 2)))) dNil)))) dNil)) (dCB rRepr (dCons (dLst (dCons (dVar 2) (dCons (dVar 0) (dCons (dVar 1) dNil)))) dNil)))) (dRet (dC (.bl false))) dNext)
    (dSeq (dAsg (dAdd (dAdd (dAdd (dVar 3) (dLst (dCons (dVar 7) (dCons (dOp rIx (dVar 6) (dC (.int 0))) (dCons (dOp rIx (dVar 4) (dC (.int 0))) (dCons (dVar 8) (dCons (dOp rIx (dVar 4) (dC (.int 1))) (dCons (dOp rIx (dVar 4) (dC (.int 2))) dNil)))))))) (dVar 5)) (dLst (dCons (dVar 9) (dCons (dOp rIx (dVar 6) (dC (.int 1))) (dCons (dOp rIx (dVar 6) (dC (.int 2))) (dCons (dVar 10) dNil)))))) (dName 10))
    (dRet (dCB rAllL (dCons (dFz (dLc (diEnumS (dCons (dVar 10) dNil)) (dgTup 2 (dgCons (dName 12) (dgCons (dName 11) dgNil))) dYes (dCall sp_l_is_placed [] (dCons (dVar 11) (dCons (dVar 12) dNil))) [12, 11])) dNil))))))))))))))))
theorem len_l_are_made (ds : List D) (C : Cl) (Q : DQ) (E : DX) (h : sp_l_are_made ds C Q E) : ds.length = 3 := by repeat (first | (obtain ⟨rfl, _⟩ := h; exact rfl) | (obtain ⟨_, h⟩ := h))
theorem pure_l_are_made (ds : List D) (C : Cl) (Q : DQ) (E : DX) (h : sp_l_are_made ds C Q E) : td_l_are_made (endsD Q) (startD ["_law_one", "_law_other", "_law_third", "_law_parts", "_law_pairs", "_law_rest", "_law_labels", "_law_cut", "_law_order", "_law_at", "_law_row", "_law_e", "_law_k"] ds) C := by
  obtain ⟨x, y, z, rfl, hx, hy, hz, hq⟩ := h
  have sx := small_repr hx.1.1
  unfold td_l_are_made
  refine v_ends ?_
  simp only [startD, List.map_cons, List.map_nil, List.length_cons, List.length_nil, Nat.reduceAdd, Nat.reduceSub, List.reduceReplicate, List.cons_append, List.nil_append]
  array_mem_dec
  refine ⟨rfl, Nat.le_of_ble_eq_true rfl, (pr_1 hx.2), fun a1 e1 => ?_⟩
  generalize hC : updC C a1 _ = C1
  obtain ⟨h1, s1⟩ := exv_new e1 hC
  clear hC
  array_mem_dec
  refine ⟨rfl, Nat.le_of_ble_eq_true rfl, (pr_1 hx.2), fun a2 e2 => ?_⟩
  generalize hC : updC C1 a2 _ = C2
  obtain ⟨h2, s2⟩ := exv_new e2 hC
  clear hC
  array_mem_dec
  refine ⟨rfl, Nat.le_of_ble_eq_true rfl, (pr_1 hx.2), fun a3 e3 => ?_⟩
  generalize hC : updC C2 a3 _ = C3
  obtain ⟨h3, s3⟩ := exv_new e3 hC
  clear hC
  array_mem_dec
  refine ⟨rfl, Nat.le_of_ble_eq_true rfl, (pr_1 hx.2), fun a4 e4 => ?_⟩
  generalize hC : updC C3 a4 _ = C4
  obtain ⟨h4, s4⟩ := exv_new e4 hC
  clear hC
  array_mem_dec
  refine ⟨rfl, Nat.le_of_ble_eq_true rfl, (pr_1 hx.2), fun a5 e5 => ?_⟩
  generalize hC : updC C4 a5 _ = C5
  obtain ⟨h5, s5⟩ := exv_new e5 hC
  clear hC
  array_mem_dec
  refine ⟨rfl, Nat.le_of_ble_eq_true rfl, (pr_c hx.2 (pr_1 hy.2)), fun a6 e6 => ?_⟩
  generalize hC : updC C5 a6 _ = C6
  obtain ⟨h6, s6⟩ := exv_new e6 hC
  clear hC
  array_mem_dec
  refine ⟨rfl, Nat.le_of_ble_eq_true rfl, (pr_c hx.2 (pr_1 hy.2)), fun a7 e7 => ?_⟩
  generalize hC : updC C6 a7 _ = C7
  obtain ⟨h7, s7⟩ := exv_new e7 hC
  clear hC
  array_mem_dec
  refine ⟨rfl, Nat.le_of_ble_eq_true rfl, (pr_c hz.2 (pr_c hx.2 (pr_1 hy.2))), fun a8 e8 => ?_⟩
  generalize hC : updC C7 a8 _ = C8
  obtain ⟨h8, s8⟩ := exv_new e8 hC
  clear hC
  array_mem_dec
  refine ⟨rfl, Nat.le_of_ble_eq_true rfl, (pr_1 hx.2), fun a9 e9 => ?_⟩
  generalize hC : updC C8 a9 _ = C9
  obtain ⟨h9, s9⟩ := exv_new e9 hC
  clear hC
  array_mem_dec
  refine ⟨rfl, Nat.le_of_ble_eq_true rfl, (pr_1 hx.2), fun a10 e10 => ?_⟩
  generalize hC : updC C9 a10 _ = C10
  obtain ⟨h10, s10⟩ := exv_new e10 hC
  clear hC
  array_mem_dec
  refine ⟨rfl, Nat.le_of_ble_eq_true rfl, (pr_1 hx.2), fun a11 e11 => ?_⟩
  generalize hC : updC C10 a11 _ = C11
  obtain ⟨h11, s11⟩ := exv_new e11 hC
  clear hC
  array_mem_dec
  refine ⟨rfl, Nat.le_of_ble_eq_true rfl, (pr_1 hx.2), fun a12 e12 => ?_⟩
  generalize hC : updC C11 a12 _ = C12
  obtain ⟨h12, s12⟩ := exv_new e12 hC
  clear hC
  array_mem_dec
  refine ⟨rfl, Nat.le_of_ble_eq_true rfl, (pr_1 hx.2), fun a13 e13 => ?_⟩
  generalize hC : updC C12 a13 _ = C13
  obtain ⟨h13, s13⟩ := exv_new e13 hC
  clear hC
  array_mem_dec
  refine ⟨rfl, Nat.le_of_ble_eq_true rfl, (pr_1 hx.2), fun a14 e14 => ?_⟩
  generalize hC : updC C13 a14 _ = C14
  obtain ⟨h14, s14⟩ := exv_new e14 hC
  clear hC
  array_mem_dec
  refine ⟨rfl, Nat.le_of_ble_eq_true rfl, (pr_1 hx.2), fun a15 e15 => ?_⟩
  generalize hC : updC C14 a15 _ = C15
  obtain ⟨h15, s15⟩ := exv_new e15 hC
  clear hC
  array_mem_dec
  refine ⟨rfl, Nat.le_of_ble_eq_true rfl, (pr_1 hx.2), fun a16 e16 => ?_⟩
  generalize hC : updC C15 a16 _ = C16
  obtain ⟨h16, s16⟩ := exv_new e16 hC
  clear hC
  array_mem_dec
  refine ⟨rfl, Nat.le_of_ble_eq_true rfl, (pr_1 hx.2), fun a17 e17 => ?_⟩
  generalize hC : updC C16 a17 _ = C17
  obtain ⟨h17, s17⟩ := exv_new e17 hC
  clear hC
  array_mem_dec
  refine ⟨_, _, rfl, ?_⟩
  array_mem_dec
  have S17 := SubC.refl C17
  have S16 := s17.trans S17
  have S15 := s16.trans S16
  have S14 := s15.trans S15
  have S13 := s14.trans S14
  have S12 := s13.trans S13
  have S11 := s12.trans S12
  have S10 := s11.trans S11
  have S9 := s10.trans S10
  have S8 := s9.trans S9
  have S7 := s8.trans S8
  have S6 := s7.trans S7
  have S5 := s6.trans S6
  have S4 := s5.trans S5
  have S3 := s4.trans S4
  have S2 := s3.trans S3
  have S1 := s2.trans S2
  have H1 := S1 _ _ h1
  have H2 := S2 _ _ h2
  have H3 := S3 _ _ h3
  have H4 := S4 _ _ h4
  have H5 := S5 _ _ h5
  have H6 := S6 _ _ h6
  have H7 := S7 _ _ h7
  have H8 := S8 _ _ h8
  have H9 := S9 _ _ h9
  have H10 := S10 _ _ h10
  have H11 := S11 _ _ h11
  have H12 := S12 _ _ h12
  have H13 := S13 _ _ h13
  have H14 := S14 _ _ h14
  have H15 := S15 _ _ h15
  have H16 := S16 _ _ h16
  have H17 := S17 _ _ h17
  have S0 := s1.trans S1
  have hP : ∀ p ∈ ([(a1, "BadShape"), (a2, "BadKind"), (a3, "BadBook"), (a4, "BadTable"), (a5, "BadReader"), (a9, "BadProgram"), (a10, "BadRun")] : List (Addr × String)), C17 p.1 = some (.exc p.1 p.2 [("part", x)]) ∧ p.2 ∈ (["BadShape", "BadKind", "BadBook", "BadTable", "BadReader", "BadProgram", "BadRun"] : List String) := by
    intro p hp
    simp only [List.mem_cons, List.not_mem_nil, or_false] at hp
    rcases hp with rfl | rfl | rfl | rfl | rfl | rfl | rfl
    · exact ⟨H1, show "BadShape" ∈ (["BadShape", "BadKind", "BadBook", "BadTable", "BadReader", "BadProgram", "BadRun"] : List String) by decide⟩
    · exact ⟨H2, show "BadKind" ∈ (["BadShape", "BadKind", "BadBook", "BadTable", "BadReader", "BadProgram", "BadRun"] : List String) by decide⟩
    · exact ⟨H3, show "BadBook" ∈ (["BadShape", "BadKind", "BadBook", "BadTable", "BadReader", "BadProgram", "BadRun"] : List String) by decide⟩
    · exact ⟨H4, show "BadTable" ∈ (["BadShape", "BadKind", "BadBook", "BadTable", "BadReader", "BadProgram", "BadRun"] : List String) by decide⟩
    · exact ⟨H5, show "BadReader" ∈ (["BadShape", "BadKind", "BadBook", "BadTable", "BadReader", "BadProgram", "BadRun"] : List String) by decide⟩
    · exact ⟨H9, show "BadProgram" ∈ (["BadShape", "BadKind", "BadBook", "BadTable", "BadReader", "BadProgram", "BadRun"] : List String) by decide⟩
    · exact ⟨H10, show "BadRun" ∈ (["BadShape", "BadKind", "BadBook", "BadTable", "BadReader", "BadProgram", "BadRun"] : List String) by decide⟩
  refine v_lcmapF (as := ([(a1, "BadShape"), (a2, "BadKind"), (a3, "BadBook"), (a4, "BadTable"), (a5, "BadReader"), (a9, "BadProgram"), (a10, "BadRun")] : List (Addr × String))) (e := fun p => D.ref p.1) (fun _ => .str (reprD x)) (fun R h => ?_) (szl (Nat.le_of_ble_eq_true rfl)) (fun i p C' N _ hp s hN => ?_) ?_
  · array_mem_dec
    exact h
  · obtain ⟨u1, u2⟩ := hP p hp
    array_mem_dec
    refine ⟨p.1, p.2, _, x, rfl, s _ _ u1, u2, rfl, ?_⟩
    array_mem_dec
    refine v_repr hx.1 (by decide) (by decide) ?_
    exact hN
  clear hP
  array_mem_dec
  refine v_repr hx.1 (by decide) (by decide) ?_
  array_mem_dec
  refine ⟨_, 7, rfl, rfl, by decide, by decide, Nat.le_of_ble_eq_true rfl, ?_⟩
  refine ne_sameQ (d := .lst (txts (List.replicate 7 (reprD x)))) rfl rfl (sh_reps 7 sx) ?_
  array_mem_dec
  have hP : ∀ p ∈ ([(a11, "OtherBook"), (a12, "NoKind"), (a13, "NoColumn")] : List (Addr × String)), C17 p.1 = some (.exc p.1 p.2 [("name", x)]) ∧ p.2 ∈ (["OtherBook", "NoKind", "NoColumn"] : List String) := by
    intro p hp
    simp only [List.mem_cons, List.not_mem_nil, or_false] at hp
    rcases hp with rfl | rfl | rfl
    · exact ⟨H11, show "OtherBook" ∈ (["OtherBook", "NoKind", "NoColumn"] : List String) by decide⟩
    · exact ⟨H12, show "NoKind" ∈ (["OtherBook", "NoKind", "NoColumn"] : List String) by decide⟩
    · exact ⟨H13, show "NoColumn" ∈ (["OtherBook", "NoKind", "NoColumn"] : List String) by decide⟩
  refine v_lcmapF (as := ([(a11, "OtherBook"), (a12, "NoKind"), (a13, "NoColumn")] : List (Addr × String))) (e := fun p => D.ref p.1) (fun _ => .str (reprD x)) (fun R h => ?_) (szl (Nat.le_of_ble_eq_true rfl)) (fun i p C' N _ hp s hN => ?_) ?_
  · array_mem_dec
    exact h
  · obtain ⟨u1, u2⟩ := hP p hp
    array_mem_dec
    refine ⟨p.1, p.2, _, x, rfl, s _ _ u1, u2, rfl, ?_⟩
    array_mem_dec
    refine v_repr hx.1 (by decide) (by decide) ?_
    exact hN
  clear hP
  array_mem_dec
  refine v_repr hx.1 (by decide) (by decide) ?_
  array_mem_dec
  refine ⟨_, 3, rfl, rfl, by decide, by decide, Nat.le_of_ble_eq_true rfl, ?_⟩
  refine ne_sameQ (d := .lst (txts (List.replicate 3 (reprD x)))) rfl rfl (sh_reps 3 sx) ?_
  array_mem_dec
  refine ⟨a14, "BadCut", _, x, rfl, H14, by decide, rfl, ?_⟩
  array_mem_dec
  refine v_repr hx.1 (by decide) (by decide) ?_
  array_mem_dec
  refine ⟨a15, "OrderMatters", _, x, rfl, H15, by decide, rfl, ?_⟩
  array_mem_dec
  refine v_repr hx.1 (by decide) (by decide) ?_
  array_mem_dec
  refine ⟨a16, "BadInput", _, x, rfl, H16, by decide, rfl, ?_⟩
  array_mem_dec
  refine v_repr hx.1 (by decide) (by decide) ?_
  array_mem_dec
  refine ⟨a17, "NoRow", _, x, rfl, H17, by decide, rfl, ?_⟩
  array_mem_dec
  refine v_repr hx.1 (by decide) (by decide) ?_
  array_mem_dec
  refine v_repr hx.1 (by decide) (by decide) ?_
  array_mem_dec
  refine ⟨_, 4, rfl, rfl, by decide, by decide, Nat.le_of_ble_eq_true rfl, ?_⟩
  refine ne_sameQ (d := .lst (txts (List.replicate 4 (reprD x)))) rfl rfl (sh_reps 4 sx) ?_
  array_mem_dec
  refine ⟨a6, "NotHeld", _, x, rfl, H6, by decide, rfl, ?_⟩
  array_mem_dec
  refine ⟨a6, "NotHeld", _, y, rfl, H6, by decide, rfl, ?_⟩
  array_mem_dec
  refine v_repr (shw_lst (shw_cons hx.1 (shw_cons hy.1 (shw_nil (m := 0))))) (by decide) (by decide) ?_
  array_mem_dec
  refine v_repr (shw_lst (shw_cons hx.1 (shw_cons hy.1 (shw_nil (m := 0))))) (by decide) (by decide) ?_
  array_mem_dec
  refine ⟨a7, "Unfit", _, x, rfl, H7, by decide, rfl, ?_⟩
  array_mem_dec
  refine ⟨a7, "Unfit", _, y, rfl, H7, by decide, rfl, ?_⟩
  array_mem_dec
  refine v_repr (shw_lst (shw_cons hx.1 (shw_cons hy.1 (shw_nil (m := 0))))) (by decide) (by decide) ?_
  array_mem_dec
  refine v_repr (shw_lst (shw_cons hx.1 (shw_cons hy.1 (shw_nil (m := 0))))) (by decide) (by decide) ?_
  array_mem_dec
  refine ⟨a8, "Misfit", _, z, rfl, H8, by decide, rfl, ?_⟩
  array_mem_dec
  refine ⟨a8, "Misfit", _, x, rfl, H8, by decide, rfl, ?_⟩
  array_mem_dec
  refine ⟨a8, "Misfit", _, y, rfl, H8, by decide, rfl, ?_⟩
  array_mem_dec
  refine v_repr (shw_lst (shw_cons hz.1 (shw_cons hx.1 (shw_cons hy.1 (shw_nil (m := 0)))))) (by decide) (by decide) ?_
  array_mem_dec
  refine v_repr (shw_lst (shw_cons hz.1 (shw_cons hx.1 (shw_cons hy.1 (shw_nil (m := 0)))))) (by decide) (by decide) ?_
  array_mem_dec
  have hR : ∀ (i : Nat) (d : D), ([D.ref a1, D.ref a2, D.ref a3, D.ref a4, D.ref a5, D.ref a14, D.ref a11, D.ref a6, D.ref a15, D.ref a7, D.ref a8, D.ref a9, D.ref a10, D.ref a16, D.ref a12, D.ref a13, D.ref a17] : List D)[i]? = some d → ∃ a c fs, d = .ref a ∧ C17 a = some (.exc a c fs) ∧ exAll[i]? = some c := by
    intro i d h
    match i, h with
    | 0, h =>
      cases h
      exact ⟨_, _, _, rfl, H1, rfl⟩
    | 1, h =>
      cases h
      exact ⟨_, _, _, rfl, H2, rfl⟩
    | 2, h =>
      cases h
      exact ⟨_, _, _, rfl, H3, rfl⟩
    | 3, h =>
      cases h
      exact ⟨_, _, _, rfl, H4, rfl⟩
    | 4, h =>
      cases h
      exact ⟨_, _, _, rfl, H5, rfl⟩
    | 5, h =>
      cases h
      exact ⟨_, _, _, rfl, H14, rfl⟩
    | 6, h =>
      cases h
      exact ⟨_, _, _, rfl, H11, rfl⟩
    | 7, h =>
      cases h
      exact ⟨_, _, _, rfl, H6, rfl⟩
    | 8, h =>
      cases h
      exact ⟨_, _, _, rfl, H15, rfl⟩
    | 9, h =>
      cases h
      exact ⟨_, _, _, rfl, H7, rfl⟩
    | 10, h =>
      cases h
      exact ⟨_, _, _, rfl, H8, rfl⟩
    | 11, h =>
      cases h
      exact ⟨_, _, _, rfl, H9, rfl⟩
    | 12, h =>
      cases h
      exact ⟨_, _, _, rfl, H10, rfl⟩
    | 13, h =>
      cases h
      exact ⟨_, _, _, rfl, H16, rfl⟩
    | 14, h =>
      cases h
      exact ⟨_, _, _, rfl, H12, rfl⟩
    | 15, h =>
      cases h
      exact ⟨_, _, _, rfl, H13, rfl⟩
    | 16, h =>
      cases h
      exact ⟨_, _, _, rfl, H17, rfl⟩
    | n + 17, h => cases h
  have hall : ∀ (l : List D), l.map (fun _ => D.bl true) = l.map fun _ => D.bl ((fun _ : D => true) D.non) := fun _ => rfl
  refine v_lcmap (xs := numbered 0 [D.ref a1, D.ref a2, D.ref a3, D.ref a4, D.ref a5, D.ref a14, D.ref a11, D.ref a6, D.ref a15, D.ref a7, D.ref a8, D.ref a9, D.ref a10, D.ref a16, D.ref a12, D.ref a13, D.ref a17]) (fun _ => .bl true) (fun R h => ?_) (szl (by rw [numbered_length]; exact Nat.le_of_ble_eq_true rfl)) (fun i w C' N hw s hN => ?_) ?_
  · array_mem_dec
    exact ⟨_, _, rfl, rfl, h⟩
  · obtain ⟨d, hd, rfl⟩ := numbered_get hw
    obtain ⟨a, c, fs, rfl, u1, u2⟩ := hR i d hd
    array_mem_dec
    refine ⟨a, c, fs, i, by rw [Nat.zero_add], s _ _ u1, u2, ?_⟩
    exact hN
  array_mem_dec
  rw [show (numbered 0 [D.ref a1, D.ref a2, D.ref a3, D.ref a4, D.ref a5, D.ref a14, D.ref a11, D.ref a6, D.ref a15, D.ref a7, D.ref a8, D.ref a9, D.ref a10, D.ref a16, D.ref a12, D.ref a13, D.ref a17]).all (fun _ => true) = true from List.all_eq_true.mpr fun _ _ => rfl]
  array_mem_dec
  exact hq _ S0
def td_law : DS :=
  (dSeq (dFor (diRng1 (dCons (dCB rMax2 (dCons (dC (.int 1)) (dCons (dCB rMin2 (dCons (dC (.int 6)) (dCons (dCB rLen (dCons (dVar 0) dNil)) dNil))) dNil))) dNil)) (dName 1)
    (dSeq (dAsg (dCall sp_l_bag [] (dCons (dVar 0) (dCons (dVar 1) dNil))) (dName 2))
    (dFor (diRng1 (dCons (dC (.int 2)) dNil)) (dName 3)
    (dIfS (dNot (dTest (dCall sp_l_are_made [] (dCons (dCall sp_l_thing [] (dCons (dVar 2) (dCons (dC (.int 2)) dNil))) (dCons (dCall sp_l_thing [] (dCons (dVar 2) (dCons (dC (.int 2)) dNil))) (dCons (dCall sp_l_thing [] (dCons (dVar 2) (dCons (dC (.int 2)) dNil))) dNil)))))) (dRet (dC (.bl false))) dNext))))
    (dRet (dC (.bl true))))
theorem pure_law (ds : List D) (C : Cl) (Q : DQ) (E : DX) (h : sp_law ds C Q E) : td_law (endsD Q) (startD ["_law_script", "_law_at", "_law_bag_here", "_law_turn"] ds) C := by
  obtain ⟨ns, rfl, hl, hq⟩ := h
  dsimp only [td_law, dSeq, dFor]
  refine law_rng (ns := ns) (m := 6) (ρ := [some (.rol (ns.map D.int)), none, none, none]) rfl hl fun n hn => ?_
  refine ⟨fun i ρ C' => ∃ x y w, ρ = [some (.rol (ns.map D.int)), x, y, w], ⟨_, _, _, rfl⟩, ?_, ?_⟩
  · rintro i d ρ C' hx ⟨x, y, w, rfl⟩
    obtain ⟨hi, rfl⟩ := ranged_get hx
    rw [show (0 : Int) + (i : Int) = (i : Int) by omega]
    refine ⟨_, rfl, _, rfl, ns, i, rfl, by omega, fun b C1 hb B1 => ?_⟩
    refine ⟨2, rfl, ⟨by decide, by decide⟩, fun j ρ C2 => (∃ w, ρ = [some (.rol (ns.map D.int)), some (.int i), some (.ref b), w]) ∧ BagAt C2 b (j * 3000000), ⟨⟨_, rfl⟩, B1.at⟩, ?_, ?_⟩
    · rintro j d ρ C2 hx ⟨⟨w, rfl⟩, B2⟩
      obtain ⟨hj, rfl⟩ := ranged_get hx
      array_mem_dec
      refine ⟨b, 2, _, rfl, by decide, by decide, B2, by omega, fun x C3 hx B3 => ?_⟩
      array_mem_dec
      refine ⟨b, 2, _, rfl, by decide, by decide, B3.at, by omega, fun y C4 hy B4 => ?_⟩
      array_mem_dec
      refine ⟨b, 2, _, rfl, by decide, by decide, B4.at, by omega, fun z C5 hz B5 => ?_⟩
      array_mem_dec
      refine ⟨x, y, z, rfl, hx, hy, hz, fun C6 s6 => ?_⟩
      array_mem_dec
      obtain ⟨u, v, t, hc, g⟩ := B5.at
      exact ⟨⟨_, rfl⟩, u, v, t, s6 _ _ hc, g.mono (by omega)⟩
    · rintro ρ C2 ⟨⟨w, rfl⟩, B2⟩
      exact ⟨_, _, _, rfl⟩
  · rintro ρ C' ⟨x, y, w, rfl⟩
    exact ⟨_, _, .same, hq _⟩
end G
set_option maxHeartbeats 2000000
namespace G
open PySem PySem.Spec PyProof.Rows L2
/-! ### the end: the law is called where nothing is being shown; ts: tables that stand empty -/
/-- what is tracked at the start: the empty tables, the script if the module does not own it -/
def H00 (ts : List Addr) (b : Bool) (a : Addr) (o : Obj) (xs : List V) : Hp := fun x => if x ∈ ts then some (.tbl #[]) else if x = a ∧ b = true then some (.frz o (.lst xs)) else none
theorem call_law {P : Program} {w : World} {K : PySem.W.Frag} {mg mb : Str → Option Value} {CX : CXT} {k : Nat} {fa a : Addr} {cs : List (Addr × Addr)} {fd : FuncData} {x : Str} {sp : Sp} {t : Shared} {vs : List Value} {ns : List Int}
    (KX : K.In t.heap) (hns : t.heap.Ns mainGlobals mg) (hbn : t.heap.Ns builtinsNs mb) (hbb : ∀ x : Str, x ≠ "__name__" → mb x = bootBuiltins x) (hlim : t.heap.NoLimit) (hg : t.gens = #[])
    (hT : ∀ p ∈ cs, t.heap.get? p.2 = some { cls := .none, data := .fields #[] }) (nT : ∀ p ∈ cs, K.lookup p.2 = none) (cd : ∀ p ∈ cs, PySem.W.codeHdIn K p.1 p.2 = true)
    (hbm : ∃ (bm : Addr) (ob : Obj), mg "__builtins__" = some (.ref bm) ∧ bm ≠ builtinsNs ∧ t.heap.get? bm = some ob ∧ ob.cls = .type "module" ∧ ob.dict = some builtinsNs ∧ ob.data = .plain)
    (ha : t.heap.get? a = some { cls := .type "list", data := .seq vs.toArray }) (hi : IntsAre vs ns) (hl : ns.length ≤ sizeLine) (hr : Room k callerA)
    (F : ∀ base : Heap, K.In base → base.Ns mainGlobals mg → (∀ p ∈ cs, LamX.TabB base mg p.1 p.2) → FnOk P w K mg base CX k fa fd [x] sp) (hbind : ∀ (s : Shared) (u : Value), BindsTo s fd ⟨[u], []⟩ [(x, u)])
    (hsp : ∀ H : Hp, (∀ p ∈ cs, H p.2 = some (.tbl #[])) → SqL K H a (ns.map V.int) → sp [.ref a] H (fun v _ => v = .bl true) fun _ _ _ => False)
    (hCX : ∀ H e s', CX [] H t (fun _ _ _ => False) e s' → False) :
    codeAny (model P w) callerA (.call (.ref fa) ⟨[.ref a], []⟩) (fun r s' => r = .ok (.ret (.bool true)) ∧ OldK t.heap s'.heap ∧ s'.os = t.os ∧ AllBare s'.gens) t := by
  have rv := vals_ints hi
  generalize hts : cs.map (·.2) = ts
  have inT : ∀ {p}, p ∈ cs → p.2 ∈ ts := fun {p} hp => by rw [← hts]; exact List.mem_map.mpr ⟨p, hp, rfl⟩
  have ofT : ∀ {b}, b ∈ ts → ∃ p ∈ cs, p.2 = b := fun {b} hb => by
    rw [← hts] at hb
    obtain ⟨p, hp, e⟩ := List.mem_map.mp hb
    exact ⟨p, hp, e⟩
  have getT : ∀ {b}, b ∈ ts → t.heap.get? b = some { cls := .none, data := .fields #[] } := fun hb => by
    obtain ⟨p, hp, rfl⟩ := ofT hb
    exact hT p hp
  have na : a ∉ ts := fun z => by
    have e := getT z
    rw [ha] at e
    have e2 : Data.seq vs.toArray = Data.fields #[] := congrArg Obj.data (Option.some.inj e)
    cases e2
  generalize hob : ({ cls := .type "list", data := .seq vs.toArray } : Obj) = oa at ha
  generalize hz : (K.lookup a).isNone = z
  generalize hH : H00 ts z a oa (ns.map V.int) = H
  have H1 : ∀ {b}, b ∈ ts → H b = some (.tbl #[]) := fun hb => by rw [← hH]; exact if_pos hb
  have H2 : ∀ b u, H b = some u → (b ∈ ts ∧ u = .tbl #[]) ∨ (b = a ∧ z = true ∧ u = .frz oa (.lst (ns.map V.int))) := fun b u e => by
    rw [← hH] at e
    unfold H00 at e
    split at e
    · cases e; exact .inl ⟨‹_›, rfl⟩
    · split at e
      · cases e; rename_i q; exact .inr ⟨q.1, q.2, rfl⟩
      · cases e
  have free : ∀ {b : Addr} {o : Obj}, t.heap.get? b = some o → (∀ us n, o.data ≠ .seq us n) → o.data ≠ .fields #[] → H b = none := fun {b o} e h1 h2 => by
    cases q : H b with
    | none => rfl
    | some u =>
      rcases H2 b u q with ⟨m, _⟩ | ⟨rfl, _⟩
      · rw [getT m] at e
        cases e
        exact absurd rfl h2
      · rw [ha] at e
        cases e
        rw [← hob] at h1
        exact absurd rfl (h1 _ _)
  have kept : ∀ {b : Addr} {o : Obj}, t.heap.get? b = some o → H b = none → (hidT t.heap H).get? b = some o := fun e n => hidT_get e n
  have nsOk : ∀ {b : Addr} {m : Str → Option Value}, t.heap.Ns b m → (hidT t.heap H).Ns b m := fun {b m} ⟨o, es, ep, e, d, r⟩ =>
    ⟨o, es, ep, kept e (free e (fun us n y => by rw [d] at y; cases y) fun y => by rw [d] at y; cases y), d, r⟩
  have KB : K.In (hidT t.heap H) := fun b o e => by
    refine kept (KX b o e) ?_
    cases q : H b with
    | none => rfl
    | some u =>
      rcases H2 b u q with ⟨m, _⟩ | ⟨rfl, h1, _⟩
      · obtain ⟨p, hp, rfl⟩ := ofT m
        rw [nT p hp] at e; cases e
      · rw [← hz, e] at h1; cases h1
  have hM : L2.Mod K mg (hidT t.heap H) := ⟨KB, nsOk hns, ⟨mb, nsOk hbn, hbb⟩, let ⟨mc, h1, h2⟩ := hlim; ⟨mc, nsOk h1, h2⟩⟩
  have TB : ∀ p ∈ cs, LamX.TabB (hidT t.heap H) mg p.1 p.2 := fun p hp => by
    refine ⟨PySem.W.codeHd_of_K KB (cd p hp), ?_, fun y => ?_⟩
    · obtain ⟨bm, ob, b1, b2, b3, b4, b5, b6⟩ := hbm
      refine ⟨bm, ob, b1, b2, fun y => ?_, fun y => ?_, kept b3 (free b3 (fun us n y => by rw [b6] at y; cases y) fun y => by rw [b6] at y; cases y), b4, b5, b6⟩
      · obtain ⟨o, es, ep, e, d, _⟩ := hns
        rw [y, e] at b3
        cases b3
        rw [d] at b6; cases b6
      · rw [y, hT p hp] at b3
        cases b3; cases b6
    · obtain ⟨o, es, ep, e, d, _⟩ := hns
      rw [y, hT p hp] at e
      cases e; cases d
  have hok : HOk P w H t.heap := fun b u e => by
    rcases H2 b u e with ⟨m, rfl⟩ | ⟨rfl, _, rfl⟩
    · exact getT m
    · exact ⟨ha, by rw [List.length_map]; exact hl, vs, _, rv, by rw [hob]; exact ha⟩
  have sq : SqL K H a (ns.map V.int) := by
    cases q : K.lookup a with
    | some o =>
      have e := KX a o q
      rw [ha] at e
      cases e
      exact .inr ⟨_, vs.toArray, _, q, by rw [← hob], by rw [← hob], by rw [← hob], by rw [List.size_toArray, hi.length]; exact hl, by simpa using rv⟩
    | none =>
      refine .inl (.inr ⟨oa, ?_⟩)
      rw [← hH]
      unfold H00
      rw [if_neg na, if_pos ⟨rfl, by rw [← hz, q]; rfl⟩]
  have e0 : Env0 P w K mg (hidT t.heap H) callerA [] t H := ⟨rfl, hM, fun b o e => of_hidT e, Nat.le_of_eq (hidT_size _ _), trivial, fun b hb => absurd (show b ∈ ([] : List Addr) from hb) (by simp), hok, .of_eq hg⟩
  refine codeAny_mono ((F _ KB (nsOk hns) TB).run callerA [] t H ⟨[.ref a], []⟩ [.ref a] [.ref a] _ _ hr e0 (hbind t (.ref a)) (.cons rfl .nil) (hsp H (fun p hp => H1 (inT hp)) sq)) fun res s' h => ?_
  cases res with
  | error e => exact (hCX H e s' h).elim
  | ok fl =>
    cases fl with
    | next => exact False.elim h
    | brk => exact False.elim h
    | cont => exact False.elim h
    | ret u =>
      obtain ⟨v, H', os, bare, un, hok', r', q⟩ := h
      obtain rfl : v = .bl true := q
      obtain rfl : u = Value.bool true := r'
      have old : ∀ b o, b ∉ ts → t.heap.get? b = some o → s'.heap.get? b = some o := fun b o nb e => by
        cases q : H b with
        | none => exact un.keep b o e q (by intro y; exact absurd (show b ∈ ([] : List Addr) from y) (by simp)) (by simp)
        | some u =>
          rcases H2 b u q with ⟨m, _⟩ | ⟨rfl, _, rfl⟩
          · exact absurd m nb
          · have q2 := un.frzs _ oa _ q
            obtain ⟨y1, _⟩ := hok' _ _ q2
            rw [ha] at e; cases e
            exact y1
      have grown : ∀ b, b ∈ ts → ∃ more : Array Value, s'.heap.get? b = some { cls := .none, data := .fields more } := fun b hb => by
        obtain ⟨more, y⟩ := un.tbls b #[] (H1 hb)
        exact ⟨_, hok' b _ y⟩
      refine ⟨rfl, ⟨fun b o e => ?_, fun b o e => ?_⟩, os, bare⟩
      · by_cases hb : b ∈ ts
        · obtain ⟨more, hm⟩ := grown b hb
          obtain ⟨p, hp, rfl⟩ := ofT hb
          rw [hT p hp] at e
          cases e
          have c := PySem.W.codeHd_of_K KX (cd p hp)
          exact .inr (.inl ⟨(c.tab (hT p hp)).isCodeTable, rfl, #[], more, rfl, by rw [Array.empty_append]; exact hm⟩)
        · exact .inl (old b o hb e)
      · by_cases hb : b ∈ ts
        · obtain ⟨more, hm⟩ := grown b hb
          exact ⟨_, hm⟩
        · exact ⟨o, old b o hb e⟩
theorem roomG {k : Nat} (h : L2.Room k callerA) : Room k callerA := ⟨h, rfl⟩
/-- the end of a law -/
theorem walk_G {l : PySem.W.OpenLaw} {n k : Nat} {q : Program} {loose : List Str} {XP : (Str → Option Value) → Heap → Prop} {YP : World → Heap → Prop} {d : DefRec} {CX : CXT} {x : Str} (hn : l.most = some n) (hn2 : n ≤ sizeLine) (hdf : d.params.defaults = []) (hr : L2.Room k callerA)
    (F : ∀ (w : World) (mg : Str → Option Value) (fa : Addr) (h : Heap), YP w h → h.Ns mainGlobals mg → mg d.name = some (.ref fa) →
      ∃ (K : PySem.W.Frag) (fd : FuncData) (cs : List (Addr × Addr)) (sp : Sp), K.In h ∧ (∀ p ∈ cs, h.get? p.2 = some { cls := .none, data := .fields #[] }) ∧ (∀ p ∈ cs, K.lookup p.2 = none) ∧ (∀ p ∈ cs, PySem.W.codeHdIn K p.1 p.2 = true) ∧ (∀ (s : Shared) (u : Value), BindsTo s fd ⟨[u], []⟩ [(x, u)]) ∧
        (∀ (H : Hp) (a : Addr) (ns : List Int), ns.length ≤ n → (∀ p ∈ cs, H p.2 = some (.tbl #[])) → SqL K H a (ns.map V.int) → sp [.ref a] H (fun v _ => v = .bl true) fun _ _ _ => False) ∧
        ∀ base : Heap, K.In base → base.Ns mainGlobals mg → (∀ p ∈ cs, LamX.TabB base mg p.1 p.2) → FnOk l.prog w K mg base CX k fa fd [x] sp)
    (hCX : ∀ (H : Hp) (s : Shared) (e : Value) (s' : Shared), CX [] H s (fun _ _ _ => False) e s' → False) : PySem.W.WalkO q loose XP YP l.row.toRowW d [] fun f vs => PySem.call f vs := by
  refine Att.attach_callB hn hdf fun w s₀ t mg mb fa o pm cd doc a vs ns G Y ho hd hcd hmg hobj hints hlen hbits hg => ?_
  obtain ⟨K, fd, cs, sp, KX, hT, nT, hc, hb, hsp, hF⟩ := F w mg fa _ Y G.T.g hmg
  exact call_law KX G.T.g G.T.b G.T.builtins G.T.nolimit hg hT nT hc G.T.bmain hobj hints (Nat.le_trans hlen hn2) (roomG hr) hF hb (fun H hH hS => hsp H a ns hlen hH hS) fun H e s' => hCX H t e s'
end G
namespace Lw
open PySem PySem.Spec PyProof.Rows L2 G
theorem sc_l_marks : FnScope ["_law_e", "_law_first"] ["_law_e"] (defScope s_l_marks) := ⟨rfl, rfl, rfl, by decide +kernel, rfl, by decide +kernel, by decide +kernel⟩
theorem sc_l_is_placed : FnScope ["_law_e", "_law_at", "_law_k"] ["_law_e", "_law_at"] (defScope s_l_is_placed) := ⟨rfl, rfl, rfl, by decide +kernel, rfl, by decide +kernel, by decide +kernel⟩
theorem sc_l_are_made : FnScope ["_law_one", "_law_other", "_law_third", "_law_parts", "_law_pairs", "_law_rest", "_law_labels", "_law_cut", "_law_order", "_law_at", "_law_row", "_law_e", "_law_k"] ["_law_one", "_law_other", "_law_third"] (defScope s_l_are_made) := ⟨rfl, rfl, rfl, by decide +kernel, rfl, by decide +kernel, by decide +kernel⟩
theorem sc_l_take : FnScope ["_law_bag_here", "_law_many", "_law_digit", "_law_mixed"] ["_law_bag_here", "_law_many"] (defScope s_l_take) := ⟨rfl, rfl, rfl, by decide +kernel, rfl, by decide +kernel, by decide +kernel⟩
theorem sc_l_of : FnScope ["_law_bag_here", "_law_some"] ["_law_bag_here", "_law_some"] (defScope s_l_of) := ⟨rfl, rfl, rfl, by decide +kernel, rfl, by decide +kernel, by decide +kernel⟩
theorem sc_l_signs : FnScope ["_law_some"] [] (defScope s_l_signs) := ⟨rfl, rfl, rfl, by decide +kernel, rfl, by decide +kernel, by decide +kernel⟩
theorem sc_l_digits : FnScope ["_law_bag_here", "_law_least", "_law_most", "_law_many", "_law_turn"] ["_law_bag_here", "_law_least", "_law_most"] (defScope s_l_digits) := ⟨rfl, rfl, rfl, by decide +kernel, rfl, by decide +kernel, by decide +kernel⟩
theorem sc_l_text : FnScope ["_law_bag_here", "_law_road", "_law_some", "_law_turn"] ["_law_bag_here"] (defScope s_l_text) := ⟨rfl, rfl, rfl, by decide +kernel, rfl, by decide +kernel, by decide +kernel⟩
theorem sc_l_thing : FnScope ["_law_bag_here", "_law_deep", "_law_road", "_law_some", "_law_turn"] ["_law_bag_here", "_law_deep"] (defScope s_l_thing) := ⟨rfl, rfl, rfl, by decide +kernel, rfl, by decide +kernel, by decide +kernel⟩
theorem sc_l_bag : FnScope ["_law_script", "_law_at", "_law_cell", "_law_row"] ["_law_script", "_law_at"] (defScope s_l_bag) := ⟨rfl, rfl, rfl, by decide +kernel, rfl, by decide +kernel, by decide +kernel⟩
theorem sc_law : FnScope ["_law_script", "_law_at", "_law_bag_here", "_law_turn"] ["_law_script"] (defScope s_law) := ⟨rfl, rfl, rfl, by decide +kernel, rfl, by decide +kernel, by decide +kernel⟩
theorem sc_BadBook_init : FnScope ["self", "part"] ["self", "part"] (defScope s_BadBook_init) := ⟨rfl, rfl, rfl, by decide +kernel, rfl, by decide +kernel, by decide +kernel⟩
theorem sc_BadCut_init : FnScope ["self", "cut"] ["self", "cut"] (defScope s_BadCut_init) := ⟨rfl, rfl, rfl, by decide +kernel, rfl, by decide +kernel, by decide +kernel⟩
theorem sc_BadInput_init : FnScope ["self", "at"] ["self", "at"] (defScope s_BadInput_init) := ⟨rfl, rfl, rfl, by decide +kernel, rfl, by decide +kernel, by decide +kernel⟩
theorem sc_BadKind_init : FnScope ["self", "part"] ["self", "part"] (defScope s_BadKind_init) := ⟨rfl, rfl, rfl, by decide +kernel, rfl, by decide +kernel, by decide +kernel⟩
theorem sc_BadProgram_init : FnScope ["self", "part"] ["self", "part"] (defScope s_BadProgram_init) := ⟨rfl, rfl, rfl, by decide +kernel, rfl, by decide +kernel, by decide +kernel⟩
theorem sc_BadReader_init : FnScope ["self", "part"] ["self", "part"] (defScope s_BadReader_init) := ⟨rfl, rfl, rfl, by decide +kernel, rfl, by decide +kernel, by decide +kernel⟩
theorem sc_BadRun_init : FnScope ["self", "part"] ["self", "part"] (defScope s_BadRun_init) := ⟨rfl, rfl, rfl, by decide +kernel, rfl, by decide +kernel, by decide +kernel⟩
theorem sc_BadShape_init : FnScope ["self", "part"] ["self", "part"] (defScope s_BadShape_init) := ⟨rfl, rfl, rfl, by decide +kernel, rfl, by decide +kernel, by decide +kernel⟩
theorem sc_BadTable_init : FnScope ["self", "part"] ["self", "part"] (defScope s_BadTable_init) := ⟨rfl, rfl, rfl, by decide +kernel, rfl, by decide +kernel, by decide +kernel⟩
theorem sc_Misfit_init : FnScope ["self", "row", "column", "text"] ["self", "row", "column", "text"] (defScope s_Misfit_init) := ⟨rfl, rfl, rfl, by decide +kernel, rfl, by decide +kernel, by decide +kernel⟩
theorem sc_NoColumn_init : FnScope ["self", "name"] ["self", "name"] (defScope s_NoColumn_init) := ⟨rfl, rfl, rfl, by decide +kernel, rfl, by decide +kernel, by decide +kernel⟩
theorem sc_NoKind_init : FnScope ["self", "name"] ["self", "name"] (defScope s_NoKind_init) := ⟨rfl, rfl, rfl, by decide +kernel, rfl, by decide +kernel, by decide +kernel⟩
theorem sc_NoRow_init : FnScope ["self", "at"] ["self", "at"] (defScope s_NoRow_init) := ⟨rfl, rfl, rfl, by decide +kernel, rfl, by decide +kernel, by decide +kernel⟩
theorem sc_NotHeld_init : FnScope ["self", "column", "cell"] ["self", "column", "cell"] (defScope s_NotHeld_init) := ⟨rfl, rfl, rfl, by decide +kernel, rfl, by decide +kernel, by decide +kernel⟩
theorem sc_OrderMatters_init : FnScope ["self", "pieces"] ["self", "pieces"] (defScope s_OrderMatters_init) := ⟨rfl, rfl, rfl, by decide +kernel, rfl, by decide +kernel, by decide +kernel⟩
theorem sc_OtherBook_init : FnScope ["self", "name"] ["self", "name"] (defScope s_OtherBook_init) := ⟨rfl, rfl, rfl, by decide +kernel, rfl, by decide +kernel, by decide +kernel⟩
theorem sc_Unfit_init : FnScope ["self", "kind", "text"] ["self", "kind", "text"] (defScope s_Unfit_init) := ⟨rfl, rfl, rfl, by decide +kernel, rfl, by decide +kernel, by decide +kernel⟩
structure Ad where
  cl : Nm
  a_l_marks : Addr
  d_l_marks : FuncData
  a_l_is_placed : Addr
  d_l_is_placed : FuncData
  a_l_are_made : Addr
  d_l_are_made : FuncData
  a_l_take : Addr
  d_l_take : FuncData
  a_l_of : Addr
  d_l_of : FuncData
  a_l_signs : Addr
  d_l_signs : FuncData
  a_l_digits : Addr
  d_l_digits : FuncData
  a_l_text : Addr
  d_l_text : FuncData
  a_l_thing : Addr
  d_l_thing : FuncData
  a_l_bag : Addr
  d_l_bag : FuncData
  a_law : Addr
  d_law : FuncData
  a_BadBook_init : Addr
  d_BadBook_init : FuncData
  a_BadCut_init : Addr
  d_BadCut_init : FuncData
  a_BadInput_init : Addr
  d_BadInput_init : FuncData
  a_BadKind_init : Addr
  d_BadKind_init : FuncData
  a_BadProgram_init : Addr
  d_BadProgram_init : FuncData
  a_BadReader_init : Addr
  d_BadReader_init : FuncData
  a_BadRun_init : Addr
  d_BadRun_init : FuncData
  a_BadShape_init : Addr
  d_BadShape_init : FuncData
  a_BadTable_init : Addr
  d_BadTable_init : FuncData
  a_Misfit_init : Addr
  d_Misfit_init : FuncData
  a_NoColumn_init : Addr
  d_NoColumn_init : FuncData
  a_NoKind_init : Addr
  d_NoKind_init : FuncData
  a_NoRow_init : Addr
  d_NoRow_init : FuncData
  a_NotHeld_init : Addr
  d_NotHeld_init : FuncData
  a_OrderMatters_init : Addr
  d_OrderMatters_init : FuncData
  a_OtherBook_init : Addr
  d_OtherBook_init : FuncData
  a_Unfit_init : Addr
  d_Unfit_init : FuncData
structure Txt (K : PySem.W.Frag) (mg : Str → Option Value) (A : Ad) : Prop where
  f_l_marks : Fun K "_law_marks" "_law_marks" s_l_marks A.a_l_marks A.d_l_marks
  b_l_marks : Binds K A.d_l_marks ["_law_e"] []
  m_l_marks : mg "_law_marks" = some (.ref A.a_l_marks)
  kp_l_marks : PySem.W.keepIn K (.ref A.a_l_marks) = true
  f_l_is_placed : Fun K "_law_is_placed" "_law_is_placed" s_l_is_placed A.a_l_is_placed A.d_l_is_placed
  b_l_is_placed : Binds K A.d_l_is_placed ["_law_e", "_law_at"] []
  m_l_is_placed : mg "_law_is_placed" = some (.ref A.a_l_is_placed)
  kp_l_is_placed : PySem.W.keepIn K (.ref A.a_l_is_placed) = true
  f_l_are_made : Fun K "_law_are_made" "_law_are_made" s_l_are_made A.a_l_are_made A.d_l_are_made
  b_l_are_made : Binds K A.d_l_are_made ["_law_one", "_law_other", "_law_third"] []
  m_l_are_made : mg "_law_are_made" = some (.ref A.a_l_are_made)
  kp_l_are_made : PySem.W.keepIn K (.ref A.a_l_are_made) = true
  f_l_take : Fun K "_law_take" "_law_take" s_l_take A.a_l_take A.d_l_take
  b_l_take : Binds K A.d_l_take ["_law_bag_here", "_law_many"] []
  m_l_take : mg "_law_take" = some (.ref A.a_l_take)
  kp_l_take : PySem.W.keepIn K (.ref A.a_l_take) = true
  f_l_of : Fun K "_law_of" "_law_of" s_l_of A.a_l_of A.d_l_of
  b_l_of : Binds K A.d_l_of ["_law_bag_here", "_law_some"] []
  m_l_of : mg "_law_of" = some (.ref A.a_l_of)
  kp_l_of : PySem.W.keepIn K (.ref A.a_l_of) = true
  f_l_signs : Fun K "_law_signs" "_law_signs" s_l_signs A.a_l_signs A.d_l_signs
  b_l_signs : Binds K A.d_l_signs [] []
  m_l_signs : mg "_law_signs" = some (.ref A.a_l_signs)
  kp_l_signs : PySem.W.keepIn K (.ref A.a_l_signs) = true
  f_l_digits : Fun K "_law_digits" "_law_digits" s_l_digits A.a_l_digits A.d_l_digits
  b_l_digits : Binds K A.d_l_digits ["_law_bag_here", "_law_least", "_law_most"] []
  m_l_digits : mg "_law_digits" = some (.ref A.a_l_digits)
  kp_l_digits : PySem.W.keepIn K (.ref A.a_l_digits) = true
  f_l_text : Fun K "_law_text" "_law_text" s_l_text A.a_l_text A.d_l_text
  b_l_text : Binds K A.d_l_text ["_law_bag_here"] []
  m_l_text : mg "_law_text" = some (.ref A.a_l_text)
  kp_l_text : PySem.W.keepIn K (.ref A.a_l_text) = true
  f_l_thing : Fun K "_law_thing" "_law_thing" s_l_thing A.a_l_thing A.d_l_thing
  b_l_thing : Binds K A.d_l_thing ["_law_bag_here", "_law_deep"] []
  m_l_thing : mg "_law_thing" = some (.ref A.a_l_thing)
  kp_l_thing : PySem.W.keepIn K (.ref A.a_l_thing) = true
  f_l_bag : Fun K "_law_bag" "_law_bag" s_l_bag A.a_l_bag A.d_l_bag
  b_l_bag : Binds K A.d_l_bag ["_law_script", "_law_at"] []
  m_l_bag : mg "_law_bag" = some (.ref A.a_l_bag)
  kp_l_bag : PySem.W.keepIn K (.ref A.a_l_bag) = true
  f_law : Fun K "law" "law" s_law A.a_law A.d_law
  b_law : Binds K A.d_law ["_law_script"] []
  m_law : mg "law" = some (.ref A.a_law)
  kp_law : PySem.W.keepIn K (.ref A.a_law) = true
  f_BadBook_init : Fun K "__init__" "BadBook.__init__" s_BadBook_init A.a_BadBook_init A.d_BadBook_init
  b_BadBook_init : Binds K A.d_BadBook_init ["self", "part"] []
  xo_BadBook : OexC K (A.cl "BadBook")
  xi_BadBook : PySem.W.findIn K (.ref (A.cl "BadBook")) "__init__" = some (some (.ref A.a_BadBook_init))
  xt_BadBook : PySem.W.typeIn K (.ref A.a_BadBook_init) = some (.type "function")
  f_BadCut_init : Fun K "__init__" "BadCut.__init__" s_BadCut_init A.a_BadCut_init A.d_BadCut_init
  b_BadCut_init : Binds K A.d_BadCut_init ["self", "cut"] []
  xo_BadCut : OexC K (A.cl "BadCut")
  xi_BadCut : PySem.W.findIn K (.ref (A.cl "BadCut")) "__init__" = some (some (.ref A.a_BadCut_init))
  xt_BadCut : PySem.W.typeIn K (.ref A.a_BadCut_init) = some (.type "function")
  f_BadInput_init : Fun K "__init__" "BadInput.__init__" s_BadInput_init A.a_BadInput_init A.d_BadInput_init
  b_BadInput_init : Binds K A.d_BadInput_init ["self", "at"] []
  xo_BadInput : OexC K (A.cl "BadInput")
  xi_BadInput : PySem.W.findIn K (.ref (A.cl "BadInput")) "__init__" = some (some (.ref A.a_BadInput_init))
  xt_BadInput : PySem.W.typeIn K (.ref A.a_BadInput_init) = some (.type "function")
  f_BadKind_init : Fun K "__init__" "BadKind.__init__" s_BadKind_init A.a_BadKind_init A.d_BadKind_init
  b_BadKind_init : Binds K A.d_BadKind_init ["self", "part"] []
  xo_BadKind : OexC K (A.cl "BadKind")
  xi_BadKind : PySem.W.findIn K (.ref (A.cl "BadKind")) "__init__" = some (some (.ref A.a_BadKind_init))
  xt_BadKind : PySem.W.typeIn K (.ref A.a_BadKind_init) = some (.type "function")
  f_BadProgram_init : Fun K "__init__" "BadProgram.__init__" s_BadProgram_init A.a_BadProgram_init A.d_BadProgram_init
  b_BadProgram_init : Binds K A.d_BadProgram_init ["self", "part"] []
  xo_BadProgram : OexC K (A.cl "BadProgram")
  xi_BadProgram : PySem.W.findIn K (.ref (A.cl "BadProgram")) "__init__" = some (some (.ref A.a_BadProgram_init))
  xt_BadProgram : PySem.W.typeIn K (.ref A.a_BadProgram_init) = some (.type "function")
  f_BadReader_init : Fun K "__init__" "BadReader.__init__" s_BadReader_init A.a_BadReader_init A.d_BadReader_init
  b_BadReader_init : Binds K A.d_BadReader_init ["self", "part"] []
  xo_BadReader : OexC K (A.cl "BadReader")
  xi_BadReader : PySem.W.findIn K (.ref (A.cl "BadReader")) "__init__" = some (some (.ref A.a_BadReader_init))
  xt_BadReader : PySem.W.typeIn K (.ref A.a_BadReader_init) = some (.type "function")
  f_BadRun_init : Fun K "__init__" "BadRun.__init__" s_BadRun_init A.a_BadRun_init A.d_BadRun_init
  b_BadRun_init : Binds K A.d_BadRun_init ["self", "part"] []
  xo_BadRun : OexC K (A.cl "BadRun")
  xi_BadRun : PySem.W.findIn K (.ref (A.cl "BadRun")) "__init__" = some (some (.ref A.a_BadRun_init))
  xt_BadRun : PySem.W.typeIn K (.ref A.a_BadRun_init) = some (.type "function")
  f_BadShape_init : Fun K "__init__" "BadShape.__init__" s_BadShape_init A.a_BadShape_init A.d_BadShape_init
  b_BadShape_init : Binds K A.d_BadShape_init ["self", "part"] []
  xo_BadShape : OexC K (A.cl "BadShape")
  xi_BadShape : PySem.W.findIn K (.ref (A.cl "BadShape")) "__init__" = some (some (.ref A.a_BadShape_init))
  xt_BadShape : PySem.W.typeIn K (.ref A.a_BadShape_init) = some (.type "function")
  f_BadTable_init : Fun K "__init__" "BadTable.__init__" s_BadTable_init A.a_BadTable_init A.d_BadTable_init
  b_BadTable_init : Binds K A.d_BadTable_init ["self", "part"] []
  xo_BadTable : OexC K (A.cl "BadTable")
  xi_BadTable : PySem.W.findIn K (.ref (A.cl "BadTable")) "__init__" = some (some (.ref A.a_BadTable_init))
  xt_BadTable : PySem.W.typeIn K (.ref A.a_BadTable_init) = some (.type "function")
  f_Misfit_init : Fun K "__init__" "Misfit.__init__" s_Misfit_init A.a_Misfit_init A.d_Misfit_init
  b_Misfit_init : Binds K A.d_Misfit_init ["self", "row", "column", "text"] []
  xo_Misfit : OexC K (A.cl "Misfit")
  xi_Misfit : PySem.W.findIn K (.ref (A.cl "Misfit")) "__init__" = some (some (.ref A.a_Misfit_init))
  xt_Misfit : PySem.W.typeIn K (.ref A.a_Misfit_init) = some (.type "function")
  f_NoColumn_init : Fun K "__init__" "NoColumn.__init__" s_NoColumn_init A.a_NoColumn_init A.d_NoColumn_init
  b_NoColumn_init : Binds K A.d_NoColumn_init ["self", "name"] []
  xo_NoColumn : OexL K (A.cl "NoColumn")
  xi_NoColumn : PySem.W.findIn K (.ref (A.cl "NoColumn")) "__init__" = some (some (.ref A.a_NoColumn_init))
  xt_NoColumn : PySem.W.typeIn K (.ref A.a_NoColumn_init) = some (.type "function")
  f_NoKind_init : Fun K "__init__" "NoKind.__init__" s_NoKind_init A.a_NoKind_init A.d_NoKind_init
  b_NoKind_init : Binds K A.d_NoKind_init ["self", "name"] []
  xo_NoKind : OexL K (A.cl "NoKind")
  xi_NoKind : PySem.W.findIn K (.ref (A.cl "NoKind")) "__init__" = some (some (.ref A.a_NoKind_init))
  xt_NoKind : PySem.W.typeIn K (.ref A.a_NoKind_init) = some (.type "function")
  f_NoRow_init : Fun K "__init__" "NoRow.__init__" s_NoRow_init A.a_NoRow_init A.d_NoRow_init
  b_NoRow_init : Binds K A.d_NoRow_init ["self", "at"] []
  xo_NoRow : OexL K (A.cl "NoRow")
  xi_NoRow : PySem.W.findIn K (.ref (A.cl "NoRow")) "__init__" = some (some (.ref A.a_NoRow_init))
  xt_NoRow : PySem.W.typeIn K (.ref A.a_NoRow_init) = some (.type "function")
  f_NotHeld_init : Fun K "__init__" "NotHeld.__init__" s_NotHeld_init A.a_NotHeld_init A.d_NotHeld_init
  b_NotHeld_init : Binds K A.d_NotHeld_init ["self", "column", "cell"] []
  xo_NotHeld : OexC K (A.cl "NotHeld")
  xi_NotHeld : PySem.W.findIn K (.ref (A.cl "NotHeld")) "__init__" = some (some (.ref A.a_NotHeld_init))
  xt_NotHeld : PySem.W.typeIn K (.ref A.a_NotHeld_init) = some (.type "function")
  f_OrderMatters_init : Fun K "__init__" "OrderMatters.__init__" s_OrderMatters_init A.a_OrderMatters_init A.d_OrderMatters_init
  b_OrderMatters_init : Binds K A.d_OrderMatters_init ["self", "pieces"] []
  xo_OrderMatters : OexC K (A.cl "OrderMatters")
  xi_OrderMatters : PySem.W.findIn K (.ref (A.cl "OrderMatters")) "__init__" = some (some (.ref A.a_OrderMatters_init))
  xt_OrderMatters : PySem.W.typeIn K (.ref A.a_OrderMatters_init) = some (.type "function")
  f_OtherBook_init : Fun K "__init__" "OtherBook.__init__" s_OtherBook_init A.a_OtherBook_init A.d_OtherBook_init
  b_OtherBook_init : Binds K A.d_OtherBook_init ["self", "name"] []
  xo_OtherBook : OexC K (A.cl "OtherBook")
  xi_OtherBook : PySem.W.findIn K (.ref (A.cl "OtherBook")) "__init__" = some (some (.ref A.a_OtherBook_init))
  xt_OtherBook : PySem.W.typeIn K (.ref A.a_OtherBook_init) = some (.type "function")
  f_Unfit_init : Fun K "__init__" "Unfit.__init__" s_Unfit_init A.a_Unfit_init A.d_Unfit_init
  b_Unfit_init : Binds K A.d_Unfit_init ["self", "kind", "text"] []
  xo_Unfit : OexC K (A.cl "Unfit")
  xi_Unfit : PySem.W.findIn K (.ref (A.cl "Unfit")) "__init__" = some (some (.ref A.a_Unfit_init))
  xt_Unfit : PySem.W.typeIn K (.ref A.a_Unfit_init) = some (.type "function")
  xn_BadBook : ∀ f ∈ (["part"] : List Str), PySem.W.findIn K (.ref (A.cl "BadBook")) f = some none
  xn_BadCut : ∀ f ∈ (["cut"] : List Str), PySem.W.findIn K (.ref (A.cl "BadCut")) f = some none
  xn_BadInput : ∀ f ∈ (["at"] : List Str), PySem.W.findIn K (.ref (A.cl "BadInput")) f = some none
  xn_BadKind : ∀ f ∈ (["part"] : List Str), PySem.W.findIn K (.ref (A.cl "BadKind")) f = some none
  xn_BadProgram : ∀ f ∈ (["part"] : List Str), PySem.W.findIn K (.ref (A.cl "BadProgram")) f = some none
  xn_BadReader : ∀ f ∈ (["part"] : List Str), PySem.W.findIn K (.ref (A.cl "BadReader")) f = some none
  xn_BadRun : ∀ f ∈ (["part"] : List Str), PySem.W.findIn K (.ref (A.cl "BadRun")) f = some none
  xn_BadShape : ∀ f ∈ (["part"] : List Str), PySem.W.findIn K (.ref (A.cl "BadShape")) f = some none
  xn_BadTable : ∀ f ∈ (["part"] : List Str), PySem.W.findIn K (.ref (A.cl "BadTable")) f = some none
  xn_Misfit : ∀ f ∈ (["row", "column", "text"] : List Str), PySem.W.findIn K (.ref (A.cl "Misfit")) f = some none
  xn_NoColumn : ∀ f ∈ (["name"] : List Str), PySem.W.findIn K (.ref (A.cl "NoColumn")) f = some none
  xn_NoKind : ∀ f ∈ (["name"] : List Str), PySem.W.findIn K (.ref (A.cl "NoKind")) f = some none
  xn_NoRow : ∀ f ∈ (["at"] : List Str), PySem.W.findIn K (.ref (A.cl "NoRow")) f = some none
  xn_NotHeld : ∀ f ∈ (["column", "cell"] : List Str), PySem.W.findIn K (.ref (A.cl "NotHeld")) f = some none
  xn_OrderMatters : ∀ f ∈ (["pieces"] : List Str), PySem.W.findIn K (.ref (A.cl "OrderMatters")) f = some none
  xn_OtherBook : ∀ f ∈ (["name"] : List Str), PySem.W.findIn K (.ref (A.cl "OtherBook")) f = some none
  xn_Unfit : ∀ f ∈ (["kind", "text"] : List Str), PySem.W.findIn K (.ref (A.cl "Unfit")) f = some none
  zl_LookupError : mg "LookupError" = none
  xb_LookupError : PySem.W.findCls K (.type "LookupError") (.type "type") "__init__" = some (.val (.builtin "LookupError.__init__"))
  xr_GuessError : ClX.CRead K (A.cl "GuessError") (.type "type")
  xb_GuessError : PySem.W.findCls K (.ref (A.cl "GuessError")) (.type "type") "__init__" = some (.val (.builtin "ValueError.__init__"))
  xc_BadBook : XfC K (A.cl "BadBook")
  ex_BadBook : ExcC K (A.cl "BadBook")
  xc_BadCut : XfC K (A.cl "BadCut")
  ex_BadCut : ExcC K (A.cl "BadCut")
  xc_BadInput : XfC K (A.cl "BadInput")
  ex_BadInput : ExcC K (A.cl "BadInput")
  xc_BadKind : XfC K (A.cl "BadKind")
  ex_BadKind : ExcC K (A.cl "BadKind")
  xc_BadProgram : XfC K (A.cl "BadProgram")
  ex_BadProgram : ExcC K (A.cl "BadProgram")
  xc_BadReader : XfC K (A.cl "BadReader")
  ex_BadReader : ExcC K (A.cl "BadReader")
  xc_BadRun : XfC K (A.cl "BadRun")
  ex_BadRun : ExcC K (A.cl "BadRun")
  xc_BadShape : XfC K (A.cl "BadShape")
  ex_BadShape : ExcC K (A.cl "BadShape")
  xc_BadTable : XfC K (A.cl "BadTable")
  ex_BadTable : ExcC K (A.cl "BadTable")
  xc_Misfit : XfC K (A.cl "Misfit")
  ex_Misfit : ExcC K (A.cl "Misfit")
  xc_NoColumn : XfC K (A.cl "NoColumn")
  ex_NoColumn : ExcC K (A.cl "NoColumn")
  xc_NoKind : XfC K (A.cl "NoKind")
  ex_NoKind : ExcC K (A.cl "NoKind")
  xc_NoRow : XfC K (A.cl "NoRow")
  ex_NoRow : ExcC K (A.cl "NoRow")
  xc_NotHeld : XfC K (A.cl "NotHeld")
  ex_NotHeld : ExcC K (A.cl "NotHeld")
  xc_OrderMatters : XfC K (A.cl "OrderMatters")
  ex_OrderMatters : ExcC K (A.cl "OrderMatters")
  xc_OtherBook : XfC K (A.cl "OtherBook")
  ex_OtherBook : ExcC K (A.cl "OtherBook")
  xc_Unfit : XfC K (A.cl "Unfit")
  ex_Unfit : ExcC K (A.cl "Unfit")
  kx_BadBook_BadBook : PySem.W.kitOne K (.ref (A.cl "BadBook")) (.ref (A.cl "BadBook")) = some true
  kx_BadBook_BadCut : PySem.W.kitOne K (.ref (A.cl "BadBook")) (.ref (A.cl "BadCut")) = some false
  kx_BadBook_BadInput : PySem.W.kitOne K (.ref (A.cl "BadBook")) (.ref (A.cl "BadInput")) = some false
  kx_BadBook_BadKind : PySem.W.kitOne K (.ref (A.cl "BadBook")) (.ref (A.cl "BadKind")) = some false
  kx_BadBook_BadProgram : PySem.W.kitOne K (.ref (A.cl "BadBook")) (.ref (A.cl "BadProgram")) = some false
  kx_BadBook_BadReader : PySem.W.kitOne K (.ref (A.cl "BadBook")) (.ref (A.cl "BadReader")) = some false
  kx_BadBook_BadRun : PySem.W.kitOne K (.ref (A.cl "BadBook")) (.ref (A.cl "BadRun")) = some false
  kx_BadBook_BadShape : PySem.W.kitOne K (.ref (A.cl "BadBook")) (.ref (A.cl "BadShape")) = some false
  kx_BadBook_BadTable : PySem.W.kitOne K (.ref (A.cl "BadBook")) (.ref (A.cl "BadTable")) = some false
  kx_BadBook_GuessError : PySem.W.kitOne K (.ref (A.cl "BadBook")) (.ref (A.cl "GuessError")) = some true
  kx_BadBook_LookupError : PySem.W.kitOne K (.ref (A.cl "BadBook")) (.type "LookupError") = some false
  kx_BadBook_Misfit : PySem.W.kitOne K (.ref (A.cl "BadBook")) (.ref (A.cl "Misfit")) = some false
  kx_BadBook_NoColumn : PySem.W.kitOne K (.ref (A.cl "BadBook")) (.ref (A.cl "NoColumn")) = some false
  kx_BadBook_NoKind : PySem.W.kitOne K (.ref (A.cl "BadBook")) (.ref (A.cl "NoKind")) = some false
  kx_BadBook_NoRow : PySem.W.kitOne K (.ref (A.cl "BadBook")) (.ref (A.cl "NoRow")) = some false
  kx_BadBook_NotHeld : PySem.W.kitOne K (.ref (A.cl "BadBook")) (.ref (A.cl "NotHeld")) = some false
  kx_BadBook_OrderMatters : PySem.W.kitOne K (.ref (A.cl "BadBook")) (.ref (A.cl "OrderMatters")) = some false
  kx_BadBook_OtherBook : PySem.W.kitOne K (.ref (A.cl "BadBook")) (.ref (A.cl "OtherBook")) = some false
  kx_BadBook_Unfit : PySem.W.kitOne K (.ref (A.cl "BadBook")) (.ref (A.cl "Unfit")) = some false
  kx_BadBook_ValueError : PySem.W.kitOne K (.ref (A.cl "BadBook")) (.type "ValueError") = some true
  kx_BadCut_BadBook : PySem.W.kitOne K (.ref (A.cl "BadCut")) (.ref (A.cl "BadBook")) = some false
  kx_BadCut_BadCut : PySem.W.kitOne K (.ref (A.cl "BadCut")) (.ref (A.cl "BadCut")) = some true
  kx_BadCut_BadInput : PySem.W.kitOne K (.ref (A.cl "BadCut")) (.ref (A.cl "BadInput")) = some false
  kx_BadCut_BadKind : PySem.W.kitOne K (.ref (A.cl "BadCut")) (.ref (A.cl "BadKind")) = some false
  kx_BadCut_BadProgram : PySem.W.kitOne K (.ref (A.cl "BadCut")) (.ref (A.cl "BadProgram")) = some false
  kx_BadCut_BadReader : PySem.W.kitOne K (.ref (A.cl "BadCut")) (.ref (A.cl "BadReader")) = some false
  kx_BadCut_BadRun : PySem.W.kitOne K (.ref (A.cl "BadCut")) (.ref (A.cl "BadRun")) = some false
  kx_BadCut_BadShape : PySem.W.kitOne K (.ref (A.cl "BadCut")) (.ref (A.cl "BadShape")) = some false
  kx_BadCut_BadTable : PySem.W.kitOne K (.ref (A.cl "BadCut")) (.ref (A.cl "BadTable")) = some false
  kx_BadCut_GuessError : PySem.W.kitOne K (.ref (A.cl "BadCut")) (.ref (A.cl "GuessError")) = some true
  kx_BadCut_LookupError : PySem.W.kitOne K (.ref (A.cl "BadCut")) (.type "LookupError") = some false
  kx_BadCut_Misfit : PySem.W.kitOne K (.ref (A.cl "BadCut")) (.ref (A.cl "Misfit")) = some false
  kx_BadCut_NoColumn : PySem.W.kitOne K (.ref (A.cl "BadCut")) (.ref (A.cl "NoColumn")) = some false
  kx_BadCut_NoKind : PySem.W.kitOne K (.ref (A.cl "BadCut")) (.ref (A.cl "NoKind")) = some false
  kx_BadCut_NoRow : PySem.W.kitOne K (.ref (A.cl "BadCut")) (.ref (A.cl "NoRow")) = some false
  kx_BadCut_NotHeld : PySem.W.kitOne K (.ref (A.cl "BadCut")) (.ref (A.cl "NotHeld")) = some false
  kx_BadCut_OrderMatters : PySem.W.kitOne K (.ref (A.cl "BadCut")) (.ref (A.cl "OrderMatters")) = some false
  kx_BadCut_OtherBook : PySem.W.kitOne K (.ref (A.cl "BadCut")) (.ref (A.cl "OtherBook")) = some false
  kx_BadCut_Unfit : PySem.W.kitOne K (.ref (A.cl "BadCut")) (.ref (A.cl "Unfit")) = some false
  kx_BadCut_ValueError : PySem.W.kitOne K (.ref (A.cl "BadCut")) (.type "ValueError") = some true
  kx_BadInput_BadBook : PySem.W.kitOne K (.ref (A.cl "BadInput")) (.ref (A.cl "BadBook")) = some false
  kx_BadInput_BadCut : PySem.W.kitOne K (.ref (A.cl "BadInput")) (.ref (A.cl "BadCut")) = some false
  kx_BadInput_BadInput : PySem.W.kitOne K (.ref (A.cl "BadInput")) (.ref (A.cl "BadInput")) = some true
  kx_BadInput_BadKind : PySem.W.kitOne K (.ref (A.cl "BadInput")) (.ref (A.cl "BadKind")) = some false
  kx_BadInput_BadProgram : PySem.W.kitOne K (.ref (A.cl "BadInput")) (.ref (A.cl "BadProgram")) = some false
  kx_BadInput_BadReader : PySem.W.kitOne K (.ref (A.cl "BadInput")) (.ref (A.cl "BadReader")) = some false
  kx_BadInput_BadRun : PySem.W.kitOne K (.ref (A.cl "BadInput")) (.ref (A.cl "BadRun")) = some false
  kx_BadInput_BadShape : PySem.W.kitOne K (.ref (A.cl "BadInput")) (.ref (A.cl "BadShape")) = some false
  kx_BadInput_BadTable : PySem.W.kitOne K (.ref (A.cl "BadInput")) (.ref (A.cl "BadTable")) = some false
  kx_BadInput_GuessError : PySem.W.kitOne K (.ref (A.cl "BadInput")) (.ref (A.cl "GuessError")) = some true
  kx_BadInput_LookupError : PySem.W.kitOne K (.ref (A.cl "BadInput")) (.type "LookupError") = some false
  kx_BadInput_Misfit : PySem.W.kitOne K (.ref (A.cl "BadInput")) (.ref (A.cl "Misfit")) = some false
  kx_BadInput_NoColumn : PySem.W.kitOne K (.ref (A.cl "BadInput")) (.ref (A.cl "NoColumn")) = some false
  kx_BadInput_NoKind : PySem.W.kitOne K (.ref (A.cl "BadInput")) (.ref (A.cl "NoKind")) = some false
  kx_BadInput_NoRow : PySem.W.kitOne K (.ref (A.cl "BadInput")) (.ref (A.cl "NoRow")) = some false
  kx_BadInput_NotHeld : PySem.W.kitOne K (.ref (A.cl "BadInput")) (.ref (A.cl "NotHeld")) = some false
  kx_BadInput_OrderMatters : PySem.W.kitOne K (.ref (A.cl "BadInput")) (.ref (A.cl "OrderMatters")) = some false
  kx_BadInput_OtherBook : PySem.W.kitOne K (.ref (A.cl "BadInput")) (.ref (A.cl "OtherBook")) = some false
  kx_BadInput_Unfit : PySem.W.kitOne K (.ref (A.cl "BadInput")) (.ref (A.cl "Unfit")) = some false
  kx_BadInput_ValueError : PySem.W.kitOne K (.ref (A.cl "BadInput")) (.type "ValueError") = some true
  kx_BadKind_BadBook : PySem.W.kitOne K (.ref (A.cl "BadKind")) (.ref (A.cl "BadBook")) = some false
  kx_BadKind_BadCut : PySem.W.kitOne K (.ref (A.cl "BadKind")) (.ref (A.cl "BadCut")) = some false
  kx_BadKind_BadInput : PySem.W.kitOne K (.ref (A.cl "BadKind")) (.ref (A.cl "BadInput")) = some false
  kx_BadKind_BadKind : PySem.W.kitOne K (.ref (A.cl "BadKind")) (.ref (A.cl "BadKind")) = some true
  kx_BadKind_BadProgram : PySem.W.kitOne K (.ref (A.cl "BadKind")) (.ref (A.cl "BadProgram")) = some false
  kx_BadKind_BadReader : PySem.W.kitOne K (.ref (A.cl "BadKind")) (.ref (A.cl "BadReader")) = some false
  kx_BadKind_BadRun : PySem.W.kitOne K (.ref (A.cl "BadKind")) (.ref (A.cl "BadRun")) = some false
  kx_BadKind_BadShape : PySem.W.kitOne K (.ref (A.cl "BadKind")) (.ref (A.cl "BadShape")) = some false
  kx_BadKind_BadTable : PySem.W.kitOne K (.ref (A.cl "BadKind")) (.ref (A.cl "BadTable")) = some false
  kx_BadKind_GuessError : PySem.W.kitOne K (.ref (A.cl "BadKind")) (.ref (A.cl "GuessError")) = some true
  kx_BadKind_LookupError : PySem.W.kitOne K (.ref (A.cl "BadKind")) (.type "LookupError") = some false
  kx_BadKind_Misfit : PySem.W.kitOne K (.ref (A.cl "BadKind")) (.ref (A.cl "Misfit")) = some false
  kx_BadKind_NoColumn : PySem.W.kitOne K (.ref (A.cl "BadKind")) (.ref (A.cl "NoColumn")) = some false
  kx_BadKind_NoKind : PySem.W.kitOne K (.ref (A.cl "BadKind")) (.ref (A.cl "NoKind")) = some false
  kx_BadKind_NoRow : PySem.W.kitOne K (.ref (A.cl "BadKind")) (.ref (A.cl "NoRow")) = some false
  kx_BadKind_NotHeld : PySem.W.kitOne K (.ref (A.cl "BadKind")) (.ref (A.cl "NotHeld")) = some false
  kx_BadKind_OrderMatters : PySem.W.kitOne K (.ref (A.cl "BadKind")) (.ref (A.cl "OrderMatters")) = some false
  kx_BadKind_OtherBook : PySem.W.kitOne K (.ref (A.cl "BadKind")) (.ref (A.cl "OtherBook")) = some false
  kx_BadKind_Unfit : PySem.W.kitOne K (.ref (A.cl "BadKind")) (.ref (A.cl "Unfit")) = some false
  kx_BadKind_ValueError : PySem.W.kitOne K (.ref (A.cl "BadKind")) (.type "ValueError") = some true
  kx_BadProgram_BadBook : PySem.W.kitOne K (.ref (A.cl "BadProgram")) (.ref (A.cl "BadBook")) = some false
  kx_BadProgram_BadCut : PySem.W.kitOne K (.ref (A.cl "BadProgram")) (.ref (A.cl "BadCut")) = some false
  kx_BadProgram_BadInput : PySem.W.kitOne K (.ref (A.cl "BadProgram")) (.ref (A.cl "BadInput")) = some false
  kx_BadProgram_BadKind : PySem.W.kitOne K (.ref (A.cl "BadProgram")) (.ref (A.cl "BadKind")) = some false
  kx_BadProgram_BadProgram : PySem.W.kitOne K (.ref (A.cl "BadProgram")) (.ref (A.cl "BadProgram")) = some true
  kx_BadProgram_BadReader : PySem.W.kitOne K (.ref (A.cl "BadProgram")) (.ref (A.cl "BadReader")) = some false
  kx_BadProgram_BadRun : PySem.W.kitOne K (.ref (A.cl "BadProgram")) (.ref (A.cl "BadRun")) = some false
  kx_BadProgram_BadShape : PySem.W.kitOne K (.ref (A.cl "BadProgram")) (.ref (A.cl "BadShape")) = some false
  kx_BadProgram_BadTable : PySem.W.kitOne K (.ref (A.cl "BadProgram")) (.ref (A.cl "BadTable")) = some false
  kx_BadProgram_GuessError : PySem.W.kitOne K (.ref (A.cl "BadProgram")) (.ref (A.cl "GuessError")) = some true
  kx_BadProgram_LookupError : PySem.W.kitOne K (.ref (A.cl "BadProgram")) (.type "LookupError") = some false
  kx_BadProgram_Misfit : PySem.W.kitOne K (.ref (A.cl "BadProgram")) (.ref (A.cl "Misfit")) = some false
  kx_BadProgram_NoColumn : PySem.W.kitOne K (.ref (A.cl "BadProgram")) (.ref (A.cl "NoColumn")) = some false
  kx_BadProgram_NoKind : PySem.W.kitOne K (.ref (A.cl "BadProgram")) (.ref (A.cl "NoKind")) = some false
  kx_BadProgram_NoRow : PySem.W.kitOne K (.ref (A.cl "BadProgram")) (.ref (A.cl "NoRow")) = some false
  kx_BadProgram_NotHeld : PySem.W.kitOne K (.ref (A.cl "BadProgram")) (.ref (A.cl "NotHeld")) = some false
  kx_BadProgram_OrderMatters : PySem.W.kitOne K (.ref (A.cl "BadProgram")) (.ref (A.cl "OrderMatters")) = some false
  kx_BadProgram_OtherBook : PySem.W.kitOne K (.ref (A.cl "BadProgram")) (.ref (A.cl "OtherBook")) = some false
  kx_BadProgram_Unfit : PySem.W.kitOne K (.ref (A.cl "BadProgram")) (.ref (A.cl "Unfit")) = some false
  kx_BadProgram_ValueError : PySem.W.kitOne K (.ref (A.cl "BadProgram")) (.type "ValueError") = some true
  kx_BadReader_BadBook : PySem.W.kitOne K (.ref (A.cl "BadReader")) (.ref (A.cl "BadBook")) = some false
  kx_BadReader_BadCut : PySem.W.kitOne K (.ref (A.cl "BadReader")) (.ref (A.cl "BadCut")) = some false
  kx_BadReader_BadInput : PySem.W.kitOne K (.ref (A.cl "BadReader")) (.ref (A.cl "BadInput")) = some false
  kx_BadReader_BadKind : PySem.W.kitOne K (.ref (A.cl "BadReader")) (.ref (A.cl "BadKind")) = some false
  kx_BadReader_BadProgram : PySem.W.kitOne K (.ref (A.cl "BadReader")) (.ref (A.cl "BadProgram")) = some false
  kx_BadReader_BadReader : PySem.W.kitOne K (.ref (A.cl "BadReader")) (.ref (A.cl "BadReader")) = some true
  kx_BadReader_BadRun : PySem.W.kitOne K (.ref (A.cl "BadReader")) (.ref (A.cl "BadRun")) = some false
  kx_BadReader_BadShape : PySem.W.kitOne K (.ref (A.cl "BadReader")) (.ref (A.cl "BadShape")) = some false
  kx_BadReader_BadTable : PySem.W.kitOne K (.ref (A.cl "BadReader")) (.ref (A.cl "BadTable")) = some false
  kx_BadReader_GuessError : PySem.W.kitOne K (.ref (A.cl "BadReader")) (.ref (A.cl "GuessError")) = some true
  kx_BadReader_LookupError : PySem.W.kitOne K (.ref (A.cl "BadReader")) (.type "LookupError") = some false
  kx_BadReader_Misfit : PySem.W.kitOne K (.ref (A.cl "BadReader")) (.ref (A.cl "Misfit")) = some false
  kx_BadReader_NoColumn : PySem.W.kitOne K (.ref (A.cl "BadReader")) (.ref (A.cl "NoColumn")) = some false
  kx_BadReader_NoKind : PySem.W.kitOne K (.ref (A.cl "BadReader")) (.ref (A.cl "NoKind")) = some false
  kx_BadReader_NoRow : PySem.W.kitOne K (.ref (A.cl "BadReader")) (.ref (A.cl "NoRow")) = some false
  kx_BadReader_NotHeld : PySem.W.kitOne K (.ref (A.cl "BadReader")) (.ref (A.cl "NotHeld")) = some false
  kx_BadReader_OrderMatters : PySem.W.kitOne K (.ref (A.cl "BadReader")) (.ref (A.cl "OrderMatters")) = some false
  kx_BadReader_OtherBook : PySem.W.kitOne K (.ref (A.cl "BadReader")) (.ref (A.cl "OtherBook")) = some false
  kx_BadReader_Unfit : PySem.W.kitOne K (.ref (A.cl "BadReader")) (.ref (A.cl "Unfit")) = some false
  kx_BadReader_ValueError : PySem.W.kitOne K (.ref (A.cl "BadReader")) (.type "ValueError") = some true
  kx_BadRun_BadBook : PySem.W.kitOne K (.ref (A.cl "BadRun")) (.ref (A.cl "BadBook")) = some false
  kx_BadRun_BadCut : PySem.W.kitOne K (.ref (A.cl "BadRun")) (.ref (A.cl "BadCut")) = some false
  kx_BadRun_BadInput : PySem.W.kitOne K (.ref (A.cl "BadRun")) (.ref (A.cl "BadInput")) = some false
  kx_BadRun_BadKind : PySem.W.kitOne K (.ref (A.cl "BadRun")) (.ref (A.cl "BadKind")) = some false
  kx_BadRun_BadProgram : PySem.W.kitOne K (.ref (A.cl "BadRun")) (.ref (A.cl "BadProgram")) = some false
  kx_BadRun_BadReader : PySem.W.kitOne K (.ref (A.cl "BadRun")) (.ref (A.cl "BadReader")) = some false
  kx_BadRun_BadRun : PySem.W.kitOne K (.ref (A.cl "BadRun")) (.ref (A.cl "BadRun")) = some true
  kx_BadRun_BadShape : PySem.W.kitOne K (.ref (A.cl "BadRun")) (.ref (A.cl "BadShape")) = some false
  kx_BadRun_BadTable : PySem.W.kitOne K (.ref (A.cl "BadRun")) (.ref (A.cl "BadTable")) = some false
  kx_BadRun_GuessError : PySem.W.kitOne K (.ref (A.cl "BadRun")) (.ref (A.cl "GuessError")) = some true
  kx_BadRun_LookupError : PySem.W.kitOne K (.ref (A.cl "BadRun")) (.type "LookupError") = some false
  kx_BadRun_Misfit : PySem.W.kitOne K (.ref (A.cl "BadRun")) (.ref (A.cl "Misfit")) = some false
  kx_BadRun_NoColumn : PySem.W.kitOne K (.ref (A.cl "BadRun")) (.ref (A.cl "NoColumn")) = some false
  kx_BadRun_NoKind : PySem.W.kitOne K (.ref (A.cl "BadRun")) (.ref (A.cl "NoKind")) = some false
  kx_BadRun_NoRow : PySem.W.kitOne K (.ref (A.cl "BadRun")) (.ref (A.cl "NoRow")) = some false
  kx_BadRun_NotHeld : PySem.W.kitOne K (.ref (A.cl "BadRun")) (.ref (A.cl "NotHeld")) = some false
  kx_BadRun_OrderMatters : PySem.W.kitOne K (.ref (A.cl "BadRun")) (.ref (A.cl "OrderMatters")) = some false
  kx_BadRun_OtherBook : PySem.W.kitOne K (.ref (A.cl "BadRun")) (.ref (A.cl "OtherBook")) = some false
  kx_BadRun_Unfit : PySem.W.kitOne K (.ref (A.cl "BadRun")) (.ref (A.cl "Unfit")) = some false
  kx_BadRun_ValueError : PySem.W.kitOne K (.ref (A.cl "BadRun")) (.type "ValueError") = some true
  kx_BadShape_BadBook : PySem.W.kitOne K (.ref (A.cl "BadShape")) (.ref (A.cl "BadBook")) = some false
  kx_BadShape_BadCut : PySem.W.kitOne K (.ref (A.cl "BadShape")) (.ref (A.cl "BadCut")) = some false
  kx_BadShape_BadInput : PySem.W.kitOne K (.ref (A.cl "BadShape")) (.ref (A.cl "BadInput")) = some false
  kx_BadShape_BadKind : PySem.W.kitOne K (.ref (A.cl "BadShape")) (.ref (A.cl "BadKind")) = some false
  kx_BadShape_BadProgram : PySem.W.kitOne K (.ref (A.cl "BadShape")) (.ref (A.cl "BadProgram")) = some false
  kx_BadShape_BadReader : PySem.W.kitOne K (.ref (A.cl "BadShape")) (.ref (A.cl "BadReader")) = some false
  kx_BadShape_BadRun : PySem.W.kitOne K (.ref (A.cl "BadShape")) (.ref (A.cl "BadRun")) = some false
  kx_BadShape_BadShape : PySem.W.kitOne K (.ref (A.cl "BadShape")) (.ref (A.cl "BadShape")) = some true
  kx_BadShape_BadTable : PySem.W.kitOne K (.ref (A.cl "BadShape")) (.ref (A.cl "BadTable")) = some false
  kx_BadShape_GuessError : PySem.W.kitOne K (.ref (A.cl "BadShape")) (.ref (A.cl "GuessError")) = some true
  kx_BadShape_LookupError : PySem.W.kitOne K (.ref (A.cl "BadShape")) (.type "LookupError") = some false
  kx_BadShape_Misfit : PySem.W.kitOne K (.ref (A.cl "BadShape")) (.ref (A.cl "Misfit")) = some false
  kx_BadShape_NoColumn : PySem.W.kitOne K (.ref (A.cl "BadShape")) (.ref (A.cl "NoColumn")) = some false
  kx_BadShape_NoKind : PySem.W.kitOne K (.ref (A.cl "BadShape")) (.ref (A.cl "NoKind")) = some false
  kx_BadShape_NoRow : PySem.W.kitOne K (.ref (A.cl "BadShape")) (.ref (A.cl "NoRow")) = some false
  kx_BadShape_NotHeld : PySem.W.kitOne K (.ref (A.cl "BadShape")) (.ref (A.cl "NotHeld")) = some false
  kx_BadShape_OrderMatters : PySem.W.kitOne K (.ref (A.cl "BadShape")) (.ref (A.cl "OrderMatters")) = some false
  kx_BadShape_OtherBook : PySem.W.kitOne K (.ref (A.cl "BadShape")) (.ref (A.cl "OtherBook")) = some false
  kx_BadShape_Unfit : PySem.W.kitOne K (.ref (A.cl "BadShape")) (.ref (A.cl "Unfit")) = some false
  kx_BadShape_ValueError : PySem.W.kitOne K (.ref (A.cl "BadShape")) (.type "ValueError") = some true
  kx_BadTable_BadBook : PySem.W.kitOne K (.ref (A.cl "BadTable")) (.ref (A.cl "BadBook")) = some false
  kx_BadTable_BadCut : PySem.W.kitOne K (.ref (A.cl "BadTable")) (.ref (A.cl "BadCut")) = some false
  kx_BadTable_BadInput : PySem.W.kitOne K (.ref (A.cl "BadTable")) (.ref (A.cl "BadInput")) = some false
  kx_BadTable_BadKind : PySem.W.kitOne K (.ref (A.cl "BadTable")) (.ref (A.cl "BadKind")) = some false
  kx_BadTable_BadProgram : PySem.W.kitOne K (.ref (A.cl "BadTable")) (.ref (A.cl "BadProgram")) = some false
  kx_BadTable_BadReader : PySem.W.kitOne K (.ref (A.cl "BadTable")) (.ref (A.cl "BadReader")) = some false
  kx_BadTable_BadRun : PySem.W.kitOne K (.ref (A.cl "BadTable")) (.ref (A.cl "BadRun")) = some false
  kx_BadTable_BadShape : PySem.W.kitOne K (.ref (A.cl "BadTable")) (.ref (A.cl "BadShape")) = some false
  kx_BadTable_BadTable : PySem.W.kitOne K (.ref (A.cl "BadTable")) (.ref (A.cl "BadTable")) = some true
  kx_BadTable_GuessError : PySem.W.kitOne K (.ref (A.cl "BadTable")) (.ref (A.cl "GuessError")) = some true
  kx_BadTable_LookupError : PySem.W.kitOne K (.ref (A.cl "BadTable")) (.type "LookupError") = some false
  kx_BadTable_Misfit : PySem.W.kitOne K (.ref (A.cl "BadTable")) (.ref (A.cl "Misfit")) = some false
  kx_BadTable_NoColumn : PySem.W.kitOne K (.ref (A.cl "BadTable")) (.ref (A.cl "NoColumn")) = some false
  kx_BadTable_NoKind : PySem.W.kitOne K (.ref (A.cl "BadTable")) (.ref (A.cl "NoKind")) = some false
  kx_BadTable_NoRow : PySem.W.kitOne K (.ref (A.cl "BadTable")) (.ref (A.cl "NoRow")) = some false
  kx_BadTable_NotHeld : PySem.W.kitOne K (.ref (A.cl "BadTable")) (.ref (A.cl "NotHeld")) = some false
  kx_BadTable_OrderMatters : PySem.W.kitOne K (.ref (A.cl "BadTable")) (.ref (A.cl "OrderMatters")) = some false
  kx_BadTable_OtherBook : PySem.W.kitOne K (.ref (A.cl "BadTable")) (.ref (A.cl "OtherBook")) = some false
  kx_BadTable_Unfit : PySem.W.kitOne K (.ref (A.cl "BadTable")) (.ref (A.cl "Unfit")) = some false
  kx_BadTable_ValueError : PySem.W.kitOne K (.ref (A.cl "BadTable")) (.type "ValueError") = some true
  kx_Misfit_BadBook : PySem.W.kitOne K (.ref (A.cl "Misfit")) (.ref (A.cl "BadBook")) = some false
  kx_Misfit_BadCut : PySem.W.kitOne K (.ref (A.cl "Misfit")) (.ref (A.cl "BadCut")) = some false
  kx_Misfit_BadInput : PySem.W.kitOne K (.ref (A.cl "Misfit")) (.ref (A.cl "BadInput")) = some false
  kx_Misfit_BadKind : PySem.W.kitOne K (.ref (A.cl "Misfit")) (.ref (A.cl "BadKind")) = some false
  kx_Misfit_BadProgram : PySem.W.kitOne K (.ref (A.cl "Misfit")) (.ref (A.cl "BadProgram")) = some false
  kx_Misfit_BadReader : PySem.W.kitOne K (.ref (A.cl "Misfit")) (.ref (A.cl "BadReader")) = some false
  kx_Misfit_BadRun : PySem.W.kitOne K (.ref (A.cl "Misfit")) (.ref (A.cl "BadRun")) = some false
  kx_Misfit_BadShape : PySem.W.kitOne K (.ref (A.cl "Misfit")) (.ref (A.cl "BadShape")) = some false
  kx_Misfit_BadTable : PySem.W.kitOne K (.ref (A.cl "Misfit")) (.ref (A.cl "BadTable")) = some false
  kx_Misfit_GuessError : PySem.W.kitOne K (.ref (A.cl "Misfit")) (.ref (A.cl "GuessError")) = some true
  kx_Misfit_LookupError : PySem.W.kitOne K (.ref (A.cl "Misfit")) (.type "LookupError") = some false
  kx_Misfit_Misfit : PySem.W.kitOne K (.ref (A.cl "Misfit")) (.ref (A.cl "Misfit")) = some true
  kx_Misfit_NoColumn : PySem.W.kitOne K (.ref (A.cl "Misfit")) (.ref (A.cl "NoColumn")) = some false
  kx_Misfit_NoKind : PySem.W.kitOne K (.ref (A.cl "Misfit")) (.ref (A.cl "NoKind")) = some false
  kx_Misfit_NoRow : PySem.W.kitOne K (.ref (A.cl "Misfit")) (.ref (A.cl "NoRow")) = some false
  kx_Misfit_NotHeld : PySem.W.kitOne K (.ref (A.cl "Misfit")) (.ref (A.cl "NotHeld")) = some false
  kx_Misfit_OrderMatters : PySem.W.kitOne K (.ref (A.cl "Misfit")) (.ref (A.cl "OrderMatters")) = some false
  kx_Misfit_OtherBook : PySem.W.kitOne K (.ref (A.cl "Misfit")) (.ref (A.cl "OtherBook")) = some false
  kx_Misfit_Unfit : PySem.W.kitOne K (.ref (A.cl "Misfit")) (.ref (A.cl "Unfit")) = some false
  kx_Misfit_ValueError : PySem.W.kitOne K (.ref (A.cl "Misfit")) (.type "ValueError") = some true
  kx_NoColumn_BadBook : PySem.W.kitOne K (.ref (A.cl "NoColumn")) (.ref (A.cl "BadBook")) = some false
  kx_NoColumn_BadCut : PySem.W.kitOne K (.ref (A.cl "NoColumn")) (.ref (A.cl "BadCut")) = some false
  kx_NoColumn_BadInput : PySem.W.kitOne K (.ref (A.cl "NoColumn")) (.ref (A.cl "BadInput")) = some false
  kx_NoColumn_BadKind : PySem.W.kitOne K (.ref (A.cl "NoColumn")) (.ref (A.cl "BadKind")) = some false
  kx_NoColumn_BadProgram : PySem.W.kitOne K (.ref (A.cl "NoColumn")) (.ref (A.cl "BadProgram")) = some false
  kx_NoColumn_BadReader : PySem.W.kitOne K (.ref (A.cl "NoColumn")) (.ref (A.cl "BadReader")) = some false
  kx_NoColumn_BadRun : PySem.W.kitOne K (.ref (A.cl "NoColumn")) (.ref (A.cl "BadRun")) = some false
  kx_NoColumn_BadShape : PySem.W.kitOne K (.ref (A.cl "NoColumn")) (.ref (A.cl "BadShape")) = some false
  kx_NoColumn_BadTable : PySem.W.kitOne K (.ref (A.cl "NoColumn")) (.ref (A.cl "BadTable")) = some false
  kx_NoColumn_GuessError : PySem.W.kitOne K (.ref (A.cl "NoColumn")) (.ref (A.cl "GuessError")) = some false
  kx_NoColumn_LookupError : PySem.W.kitOne K (.ref (A.cl "NoColumn")) (.type "LookupError") = some true
  kx_NoColumn_Misfit : PySem.W.kitOne K (.ref (A.cl "NoColumn")) (.ref (A.cl "Misfit")) = some false
  kx_NoColumn_NoColumn : PySem.W.kitOne K (.ref (A.cl "NoColumn")) (.ref (A.cl "NoColumn")) = some true
  kx_NoColumn_NoKind : PySem.W.kitOne K (.ref (A.cl "NoColumn")) (.ref (A.cl "NoKind")) = some false
  kx_NoColumn_NoRow : PySem.W.kitOne K (.ref (A.cl "NoColumn")) (.ref (A.cl "NoRow")) = some false
  kx_NoColumn_NotHeld : PySem.W.kitOne K (.ref (A.cl "NoColumn")) (.ref (A.cl "NotHeld")) = some false
  kx_NoColumn_OrderMatters : PySem.W.kitOne K (.ref (A.cl "NoColumn")) (.ref (A.cl "OrderMatters")) = some false
  kx_NoColumn_OtherBook : PySem.W.kitOne K (.ref (A.cl "NoColumn")) (.ref (A.cl "OtherBook")) = some false
  kx_NoColumn_Unfit : PySem.W.kitOne K (.ref (A.cl "NoColumn")) (.ref (A.cl "Unfit")) = some false
  kx_NoColumn_ValueError : PySem.W.kitOne K (.ref (A.cl "NoColumn")) (.type "ValueError") = some false
  kx_NoKind_BadBook : PySem.W.kitOne K (.ref (A.cl "NoKind")) (.ref (A.cl "BadBook")) = some false
  kx_NoKind_BadCut : PySem.W.kitOne K (.ref (A.cl "NoKind")) (.ref (A.cl "BadCut")) = some false
  kx_NoKind_BadInput : PySem.W.kitOne K (.ref (A.cl "NoKind")) (.ref (A.cl "BadInput")) = some false
  kx_NoKind_BadKind : PySem.W.kitOne K (.ref (A.cl "NoKind")) (.ref (A.cl "BadKind")) = some false
  kx_NoKind_BadProgram : PySem.W.kitOne K (.ref (A.cl "NoKind")) (.ref (A.cl "BadProgram")) = some false
  kx_NoKind_BadReader : PySem.W.kitOne K (.ref (A.cl "NoKind")) (.ref (A.cl "BadReader")) = some false
  kx_NoKind_BadRun : PySem.W.kitOne K (.ref (A.cl "NoKind")) (.ref (A.cl "BadRun")) = some false
  kx_NoKind_BadShape : PySem.W.kitOne K (.ref (A.cl "NoKind")) (.ref (A.cl "BadShape")) = some false
  kx_NoKind_BadTable : PySem.W.kitOne K (.ref (A.cl "NoKind")) (.ref (A.cl "BadTable")) = some false
  kx_NoKind_GuessError : PySem.W.kitOne K (.ref (A.cl "NoKind")) (.ref (A.cl "GuessError")) = some false
  kx_NoKind_LookupError : PySem.W.kitOne K (.ref (A.cl "NoKind")) (.type "LookupError") = some true
  kx_NoKind_Misfit : PySem.W.kitOne K (.ref (A.cl "NoKind")) (.ref (A.cl "Misfit")) = some false
  kx_NoKind_NoColumn : PySem.W.kitOne K (.ref (A.cl "NoKind")) (.ref (A.cl "NoColumn")) = some false
  kx_NoKind_NoKind : PySem.W.kitOne K (.ref (A.cl "NoKind")) (.ref (A.cl "NoKind")) = some true
  kx_NoKind_NoRow : PySem.W.kitOne K (.ref (A.cl "NoKind")) (.ref (A.cl "NoRow")) = some false
  kx_NoKind_NotHeld : PySem.W.kitOne K (.ref (A.cl "NoKind")) (.ref (A.cl "NotHeld")) = some false
  kx_NoKind_OrderMatters : PySem.W.kitOne K (.ref (A.cl "NoKind")) (.ref (A.cl "OrderMatters")) = some false
  kx_NoKind_OtherBook : PySem.W.kitOne K (.ref (A.cl "NoKind")) (.ref (A.cl "OtherBook")) = some false
  kx_NoKind_Unfit : PySem.W.kitOne K (.ref (A.cl "NoKind")) (.ref (A.cl "Unfit")) = some false
  kx_NoKind_ValueError : PySem.W.kitOne K (.ref (A.cl "NoKind")) (.type "ValueError") = some false
  kx_NoRow_BadBook : PySem.W.kitOne K (.ref (A.cl "NoRow")) (.ref (A.cl "BadBook")) = some false
  kx_NoRow_BadCut : PySem.W.kitOne K (.ref (A.cl "NoRow")) (.ref (A.cl "BadCut")) = some false
  kx_NoRow_BadInput : PySem.W.kitOne K (.ref (A.cl "NoRow")) (.ref (A.cl "BadInput")) = some false
  kx_NoRow_BadKind : PySem.W.kitOne K (.ref (A.cl "NoRow")) (.ref (A.cl "BadKind")) = some false
  kx_NoRow_BadProgram : PySem.W.kitOne K (.ref (A.cl "NoRow")) (.ref (A.cl "BadProgram")) = some false
  kx_NoRow_BadReader : PySem.W.kitOne K (.ref (A.cl "NoRow")) (.ref (A.cl "BadReader")) = some false
  kx_NoRow_BadRun : PySem.W.kitOne K (.ref (A.cl "NoRow")) (.ref (A.cl "BadRun")) = some false
  kx_NoRow_BadShape : PySem.W.kitOne K (.ref (A.cl "NoRow")) (.ref (A.cl "BadShape")) = some false
  kx_NoRow_BadTable : PySem.W.kitOne K (.ref (A.cl "NoRow")) (.ref (A.cl "BadTable")) = some false
  kx_NoRow_GuessError : PySem.W.kitOne K (.ref (A.cl "NoRow")) (.ref (A.cl "GuessError")) = some false
  kx_NoRow_LookupError : PySem.W.kitOne K (.ref (A.cl "NoRow")) (.type "LookupError") = some true
  kx_NoRow_Misfit : PySem.W.kitOne K (.ref (A.cl "NoRow")) (.ref (A.cl "Misfit")) = some false
  kx_NoRow_NoColumn : PySem.W.kitOne K (.ref (A.cl "NoRow")) (.ref (A.cl "NoColumn")) = some false
  kx_NoRow_NoKind : PySem.W.kitOne K (.ref (A.cl "NoRow")) (.ref (A.cl "NoKind")) = some false
  kx_NoRow_NoRow : PySem.W.kitOne K (.ref (A.cl "NoRow")) (.ref (A.cl "NoRow")) = some true
  kx_NoRow_NotHeld : PySem.W.kitOne K (.ref (A.cl "NoRow")) (.ref (A.cl "NotHeld")) = some false
  kx_NoRow_OrderMatters : PySem.W.kitOne K (.ref (A.cl "NoRow")) (.ref (A.cl "OrderMatters")) = some false
  kx_NoRow_OtherBook : PySem.W.kitOne K (.ref (A.cl "NoRow")) (.ref (A.cl "OtherBook")) = some false
  kx_NoRow_Unfit : PySem.W.kitOne K (.ref (A.cl "NoRow")) (.ref (A.cl "Unfit")) = some false
  kx_NoRow_ValueError : PySem.W.kitOne K (.ref (A.cl "NoRow")) (.type "ValueError") = some false
  kx_NotHeld_BadBook : PySem.W.kitOne K (.ref (A.cl "NotHeld")) (.ref (A.cl "BadBook")) = some false
  kx_NotHeld_BadCut : PySem.W.kitOne K (.ref (A.cl "NotHeld")) (.ref (A.cl "BadCut")) = some false
  kx_NotHeld_BadInput : PySem.W.kitOne K (.ref (A.cl "NotHeld")) (.ref (A.cl "BadInput")) = some false
  kx_NotHeld_BadKind : PySem.W.kitOne K (.ref (A.cl "NotHeld")) (.ref (A.cl "BadKind")) = some false
  kx_NotHeld_BadProgram : PySem.W.kitOne K (.ref (A.cl "NotHeld")) (.ref (A.cl "BadProgram")) = some false
  kx_NotHeld_BadReader : PySem.W.kitOne K (.ref (A.cl "NotHeld")) (.ref (A.cl "BadReader")) = some false
  kx_NotHeld_BadRun : PySem.W.kitOne K (.ref (A.cl "NotHeld")) (.ref (A.cl "BadRun")) = some false
  kx_NotHeld_BadShape : PySem.W.kitOne K (.ref (A.cl "NotHeld")) (.ref (A.cl "BadShape")) = some false
  kx_NotHeld_BadTable : PySem.W.kitOne K (.ref (A.cl "NotHeld")) (.ref (A.cl "BadTable")) = some false
  kx_NotHeld_GuessError : PySem.W.kitOne K (.ref (A.cl "NotHeld")) (.ref (A.cl "GuessError")) = some true
  kx_NotHeld_LookupError : PySem.W.kitOne K (.ref (A.cl "NotHeld")) (.type "LookupError") = some false
  kx_NotHeld_Misfit : PySem.W.kitOne K (.ref (A.cl "NotHeld")) (.ref (A.cl "Misfit")) = some false
  kx_NotHeld_NoColumn : PySem.W.kitOne K (.ref (A.cl "NotHeld")) (.ref (A.cl "NoColumn")) = some false
  kx_NotHeld_NoKind : PySem.W.kitOne K (.ref (A.cl "NotHeld")) (.ref (A.cl "NoKind")) = some false
  kx_NotHeld_NoRow : PySem.W.kitOne K (.ref (A.cl "NotHeld")) (.ref (A.cl "NoRow")) = some false
  kx_NotHeld_NotHeld : PySem.W.kitOne K (.ref (A.cl "NotHeld")) (.ref (A.cl "NotHeld")) = some true
  kx_NotHeld_OrderMatters : PySem.W.kitOne K (.ref (A.cl "NotHeld")) (.ref (A.cl "OrderMatters")) = some false
  kx_NotHeld_OtherBook : PySem.W.kitOne K (.ref (A.cl "NotHeld")) (.ref (A.cl "OtherBook")) = some false
  kx_NotHeld_Unfit : PySem.W.kitOne K (.ref (A.cl "NotHeld")) (.ref (A.cl "Unfit")) = some false
  kx_NotHeld_ValueError : PySem.W.kitOne K (.ref (A.cl "NotHeld")) (.type "ValueError") = some true
  kx_OrderMatters_BadBook : PySem.W.kitOne K (.ref (A.cl "OrderMatters")) (.ref (A.cl "BadBook")) = some false
  kx_OrderMatters_BadCut : PySem.W.kitOne K (.ref (A.cl "OrderMatters")) (.ref (A.cl "BadCut")) = some false
  kx_OrderMatters_BadInput : PySem.W.kitOne K (.ref (A.cl "OrderMatters")) (.ref (A.cl "BadInput")) = some false
  kx_OrderMatters_BadKind : PySem.W.kitOne K (.ref (A.cl "OrderMatters")) (.ref (A.cl "BadKind")) = some false
  kx_OrderMatters_BadProgram : PySem.W.kitOne K (.ref (A.cl "OrderMatters")) (.ref (A.cl "BadProgram")) = some false
  kx_OrderMatters_BadReader : PySem.W.kitOne K (.ref (A.cl "OrderMatters")) (.ref (A.cl "BadReader")) = some false
  kx_OrderMatters_BadRun : PySem.W.kitOne K (.ref (A.cl "OrderMatters")) (.ref (A.cl "BadRun")) = some false
  kx_OrderMatters_BadShape : PySem.W.kitOne K (.ref (A.cl "OrderMatters")) (.ref (A.cl "BadShape")) = some false
  kx_OrderMatters_BadTable : PySem.W.kitOne K (.ref (A.cl "OrderMatters")) (.ref (A.cl "BadTable")) = some false
  kx_OrderMatters_GuessError : PySem.W.kitOne K (.ref (A.cl "OrderMatters")) (.ref (A.cl "GuessError")) = some true
  kx_OrderMatters_LookupError : PySem.W.kitOne K (.ref (A.cl "OrderMatters")) (.type "LookupError") = some false
  kx_OrderMatters_Misfit : PySem.W.kitOne K (.ref (A.cl "OrderMatters")) (.ref (A.cl "Misfit")) = some false
  kx_OrderMatters_NoColumn : PySem.W.kitOne K (.ref (A.cl "OrderMatters")) (.ref (A.cl "NoColumn")) = some false
  kx_OrderMatters_NoKind : PySem.W.kitOne K (.ref (A.cl "OrderMatters")) (.ref (A.cl "NoKind")) = some false
  kx_OrderMatters_NoRow : PySem.W.kitOne K (.ref (A.cl "OrderMatters")) (.ref (A.cl "NoRow")) = some false
  kx_OrderMatters_NotHeld : PySem.W.kitOne K (.ref (A.cl "OrderMatters")) (.ref (A.cl "NotHeld")) = some false
  kx_OrderMatters_OrderMatters : PySem.W.kitOne K (.ref (A.cl "OrderMatters")) (.ref (A.cl "OrderMatters")) = some true
  kx_OrderMatters_OtherBook : PySem.W.kitOne K (.ref (A.cl "OrderMatters")) (.ref (A.cl "OtherBook")) = some false
  kx_OrderMatters_Unfit : PySem.W.kitOne K (.ref (A.cl "OrderMatters")) (.ref (A.cl "Unfit")) = some false
  kx_OrderMatters_ValueError : PySem.W.kitOne K (.ref (A.cl "OrderMatters")) (.type "ValueError") = some true
  kx_OtherBook_BadBook : PySem.W.kitOne K (.ref (A.cl "OtherBook")) (.ref (A.cl "BadBook")) = some false
  kx_OtherBook_BadCut : PySem.W.kitOne K (.ref (A.cl "OtherBook")) (.ref (A.cl "BadCut")) = some false
  kx_OtherBook_BadInput : PySem.W.kitOne K (.ref (A.cl "OtherBook")) (.ref (A.cl "BadInput")) = some false
  kx_OtherBook_BadKind : PySem.W.kitOne K (.ref (A.cl "OtherBook")) (.ref (A.cl "BadKind")) = some false
  kx_OtherBook_BadProgram : PySem.W.kitOne K (.ref (A.cl "OtherBook")) (.ref (A.cl "BadProgram")) = some false
  kx_OtherBook_BadReader : PySem.W.kitOne K (.ref (A.cl "OtherBook")) (.ref (A.cl "BadReader")) = some false
  kx_OtherBook_BadRun : PySem.W.kitOne K (.ref (A.cl "OtherBook")) (.ref (A.cl "BadRun")) = some false
  kx_OtherBook_BadShape : PySem.W.kitOne K (.ref (A.cl "OtherBook")) (.ref (A.cl "BadShape")) = some false
  kx_OtherBook_BadTable : PySem.W.kitOne K (.ref (A.cl "OtherBook")) (.ref (A.cl "BadTable")) = some false
  kx_OtherBook_GuessError : PySem.W.kitOne K (.ref (A.cl "OtherBook")) (.ref (A.cl "GuessError")) = some true
  kx_OtherBook_LookupError : PySem.W.kitOne K (.ref (A.cl "OtherBook")) (.type "LookupError") = some false
  kx_OtherBook_Misfit : PySem.W.kitOne K (.ref (A.cl "OtherBook")) (.ref (A.cl "Misfit")) = some false
  kx_OtherBook_NoColumn : PySem.W.kitOne K (.ref (A.cl "OtherBook")) (.ref (A.cl "NoColumn")) = some false
  kx_OtherBook_NoKind : PySem.W.kitOne K (.ref (A.cl "OtherBook")) (.ref (A.cl "NoKind")) = some false
  kx_OtherBook_NoRow : PySem.W.kitOne K (.ref (A.cl "OtherBook")) (.ref (A.cl "NoRow")) = some false
  kx_OtherBook_NotHeld : PySem.W.kitOne K (.ref (A.cl "OtherBook")) (.ref (A.cl "NotHeld")) = some false
  kx_OtherBook_OrderMatters : PySem.W.kitOne K (.ref (A.cl "OtherBook")) (.ref (A.cl "OrderMatters")) = some false
  kx_OtherBook_OtherBook : PySem.W.kitOne K (.ref (A.cl "OtherBook")) (.ref (A.cl "OtherBook")) = some true
  kx_OtherBook_Unfit : PySem.W.kitOne K (.ref (A.cl "OtherBook")) (.ref (A.cl "Unfit")) = some false
  kx_OtherBook_ValueError : PySem.W.kitOne K (.ref (A.cl "OtherBook")) (.type "ValueError") = some true
  kx_Unfit_BadBook : PySem.W.kitOne K (.ref (A.cl "Unfit")) (.ref (A.cl "BadBook")) = some false
  kx_Unfit_BadCut : PySem.W.kitOne K (.ref (A.cl "Unfit")) (.ref (A.cl "BadCut")) = some false
  kx_Unfit_BadInput : PySem.W.kitOne K (.ref (A.cl "Unfit")) (.ref (A.cl "BadInput")) = some false
  kx_Unfit_BadKind : PySem.W.kitOne K (.ref (A.cl "Unfit")) (.ref (A.cl "BadKind")) = some false
  kx_Unfit_BadProgram : PySem.W.kitOne K (.ref (A.cl "Unfit")) (.ref (A.cl "BadProgram")) = some false
  kx_Unfit_BadReader : PySem.W.kitOne K (.ref (A.cl "Unfit")) (.ref (A.cl "BadReader")) = some false
  kx_Unfit_BadRun : PySem.W.kitOne K (.ref (A.cl "Unfit")) (.ref (A.cl "BadRun")) = some false
  kx_Unfit_BadShape : PySem.W.kitOne K (.ref (A.cl "Unfit")) (.ref (A.cl "BadShape")) = some false
  kx_Unfit_BadTable : PySem.W.kitOne K (.ref (A.cl "Unfit")) (.ref (A.cl "BadTable")) = some false
  kx_Unfit_GuessError : PySem.W.kitOne K (.ref (A.cl "Unfit")) (.ref (A.cl "GuessError")) = some true
  kx_Unfit_LookupError : PySem.W.kitOne K (.ref (A.cl "Unfit")) (.type "LookupError") = some false
  kx_Unfit_Misfit : PySem.W.kitOne K (.ref (A.cl "Unfit")) (.ref (A.cl "Misfit")) = some false
  kx_Unfit_NoColumn : PySem.W.kitOne K (.ref (A.cl "Unfit")) (.ref (A.cl "NoColumn")) = some false
  kx_Unfit_NoKind : PySem.W.kitOne K (.ref (A.cl "Unfit")) (.ref (A.cl "NoKind")) = some false
  kx_Unfit_NoRow : PySem.W.kitOne K (.ref (A.cl "Unfit")) (.ref (A.cl "NoRow")) = some false
  kx_Unfit_NotHeld : PySem.W.kitOne K (.ref (A.cl "Unfit")) (.ref (A.cl "NotHeld")) = some false
  kx_Unfit_OrderMatters : PySem.W.kitOne K (.ref (A.cl "Unfit")) (.ref (A.cl "OrderMatters")) = some false
  kx_Unfit_OtherBook : PySem.W.kitOne K (.ref (A.cl "Unfit")) (.ref (A.cl "OtherBook")) = some false
  kx_Unfit_Unfit : PySem.W.kitOne K (.ref (A.cl "Unfit")) (.ref (A.cl "Unfit")) = some true
  kx_Unfit_ValueError : PySem.W.kitOne K (.ref (A.cl "Unfit")) (.type "ValueError") = some true
  m_GuessError : mg "GuessError" = some (.ref (A.cl "GuessError"))
  m_BadShape : mg "BadShape" = some (.ref (A.cl "BadShape"))
  m_BadKind : mg "BadKind" = some (.ref (A.cl "BadKind"))
  m_BadBook : mg "BadBook" = some (.ref (A.cl "BadBook"))
  m_BadTable : mg "BadTable" = some (.ref (A.cl "BadTable"))
  m_BadReader : mg "BadReader" = some (.ref (A.cl "BadReader"))
  m_BadCut : mg "BadCut" = some (.ref (A.cl "BadCut"))
  m_OtherBook : mg "OtherBook" = some (.ref (A.cl "OtherBook"))
  m_NotHeld : mg "NotHeld" = some (.ref (A.cl "NotHeld"))
  m_OrderMatters : mg "OrderMatters" = some (.ref (A.cl "OrderMatters"))
  m_Unfit : mg "Unfit" = some (.ref (A.cl "Unfit"))
  m_Misfit : mg "Misfit" = some (.ref (A.cl "Misfit"))
  m_BadProgram : mg "BadProgram" = some (.ref (A.cl "BadProgram"))
  m_BadRun : mg "BadRun" = some (.ref (A.cl "BadRun"))
  m_BadInput : mg "BadInput" = some (.ref (A.cl "BadInput"))
  m_NoKind : mg "NoKind" = some (.ref (A.cl "NoKind"))
  m_NoColumn : mg "NoColumn" = some (.ref (A.cl "NoColumn"))
  m_NoRow : mg "NoRow" = some (.ref (A.cl "NoRow"))
  z_LookupError : mg "LookupError" = none
  z_ValueError : mg "ValueError" = none
  z_abs : mg "abs" = none
  z_all : mg "all" = none
  z_enumerate : mg "enumerate" = none
  z_int : mg "int" = none
  z_isinstance : mg "isinstance" = none
  z_len : mg "len" = none
  z_max : mg "max" = none
  z_min : mg "min" = none
  z_range : mg "range" = none
  z_repr : mg "repr" = none
  z_tuple : mg "tuple" = none
section
variable {P : Program} {w : World} {K : PySem.W.Frag} {mg : Str → Option Value} {base : Heap} {A : Ad}
theorem Txt.exf_at_BadInput_NoRow (T : Txt K mg A) : ExfOk K A.cl "at" ["BadInput", "NoRow"] := (exf_cons T.xc_BadInput (T.xn_BadInput "at" (by decide)) (exf_cons T.xc_NoRow (T.xn_NoRow "at" (by decide)) exf_nil))
theorem Txt.exf_cell_NotHeld (T : Txt K mg A) : ExfOk K A.cl "cell" ["NotHeld"] := (exf_cons T.xc_NotHeld (T.xn_NotHeld "cell" (by decide)) exf_nil)
theorem Txt.exf_column_NotHeld_Misfit (T : Txt K mg A) : ExfOk K A.cl "column" ["NotHeld", "Misfit"] := (exf_cons T.xc_NotHeld (T.xn_NotHeld "column" (by decide)) (exf_cons T.xc_Misfit (T.xn_Misfit "column" (by decide)) exf_nil))
theorem Txt.exf_cut_BadCut (T : Txt K mg A) : ExfOk K A.cl "cut" ["BadCut"] := (exf_cons T.xc_BadCut (T.xn_BadCut "cut" (by decide)) exf_nil)
theorem Txt.exf_kind_Unfit (T : Txt K mg A) : ExfOk K A.cl "kind" ["Unfit"] := (exf_cons T.xc_Unfit (T.xn_Unfit "kind" (by decide)) exf_nil)
theorem Txt.exf_name_OtherBook_NoKind_NoColumn (T : Txt K mg A) : ExfOk K A.cl "name" ["OtherBook", "NoKind", "NoColumn"] := (exf_cons T.xc_OtherBook (T.xn_OtherBook "name" (by decide)) (exf_cons T.xc_NoKind (T.xn_NoKind "name" (by decide)) (exf_cons T.xc_NoColumn (T.xn_NoColumn "name" (by decide)) exf_nil)))
theorem Txt.exf_part_BadShape_BadKind_BadBook_BadTable_BadReader_BadProgram_BadRun (T : Txt K mg A) : ExfOk K A.cl "part" ["BadShape", "BadKind", "BadBook", "BadTable", "BadReader", "BadProgram", "BadRun"] := (exf_cons T.xc_BadShape (T.xn_BadShape "part" (by decide)) (exf_cons T.xc_BadKind (T.xn_BadKind "part" (by decide)) (exf_cons T.xc_BadBook (T.xn_BadBook "part" (by decide)) (exf_cons T.xc_BadTable (T.xn_BadTable "part" (by decide)) (exf_cons T.xc_BadReader (T.xn_BadReader "part" (by decide)) (exf_cons T.xc_BadProgram (T.xn_BadProgram "part" (by decide)) (exf_cons T.xc_BadRun (T.xn_BadRun "part" (by decide)) exf_nil)))))))
theorem Txt.exf_pieces_OrderMatters (T : Txt K mg A) : ExfOk K A.cl "pieces" ["OrderMatters"] := (exf_cons T.xc_OrderMatters (T.xn_OrderMatters "pieces" (by decide)) exf_nil)
theorem Txt.exf_row_Misfit (T : Txt K mg A) : ExfOk K A.cl "row" ["Misfit"] := (exf_cons T.xc_Misfit (T.xn_Misfit "row" (by decide)) exf_nil)
theorem Txt.exf_text_Unfit_Misfit (T : Txt K mg A) : ExfOk K A.cl "text" ["Unfit", "Misfit"] := (exf_cons T.xc_Unfit (T.xn_Unfit "text" (by decide)) (exf_cons T.xc_Misfit (T.xn_Misfit "text" (by decide)) exf_nil))
theorem Txt.exi_BadBook (T : Txt K mg A) : ExiOk K A.cl (.ref (A.cl "BadBook")) exT_BadBook := (exi_cons T.ex_BadShape (ck_of T.ex_BadShape.hd) T.kx_BadShape_BadBook (exi_cons T.ex_BadKind (ck_of T.ex_BadKind.hd) T.kx_BadKind_BadBook (exi_cons T.ex_BadBook (ck_of T.ex_BadBook.hd) T.kx_BadBook_BadBook (exi_cons T.ex_BadTable (ck_of T.ex_BadTable.hd) T.kx_BadTable_BadBook (exi_cons T.ex_BadReader (ck_of T.ex_BadReader.hd) T.kx_BadReader_BadBook (exi_cons T.ex_BadCut (ck_of T.ex_BadCut.hd) T.kx_BadCut_BadBook (exi_cons T.ex_OtherBook (ck_of T.ex_OtherBook.hd) T.kx_OtherBook_BadBook (exi_cons T.ex_NotHeld (ck_of T.ex_NotHeld.hd) T.kx_NotHeld_BadBook (exi_cons T.ex_OrderMatters (ck_of T.ex_OrderMatters.hd) T.kx_OrderMatters_BadBook (exi_cons T.ex_Unfit (ck_of T.ex_Unfit.hd) T.kx_Unfit_BadBook (exi_cons T.ex_Misfit (ck_of T.ex_Misfit.hd) T.kx_Misfit_BadBook (exi_cons T.ex_BadProgram (ck_of T.ex_BadProgram.hd) T.kx_BadProgram_BadBook (exi_cons T.ex_BadRun (ck_of T.ex_BadRun.hd) T.kx_BadRun_BadBook (exi_cons T.ex_BadInput (ck_of T.ex_BadInput.hd) T.kx_BadInput_BadBook (exi_cons T.ex_NoKind (ck_of T.ex_NoKind.hd) T.kx_NoKind_BadBook (exi_cons T.ex_NoColumn (ck_of T.ex_NoColumn.hd) T.kx_NoColumn_BadBook (exi_cons T.ex_NoRow (ck_of T.ex_NoRow.hd) T.kx_NoRow_BadBook exi_nil)))))))))))))))))
theorem Txt.exi_BadCut (T : Txt K mg A) : ExiOk K A.cl (.ref (A.cl "BadCut")) exT_BadCut := (exi_cons T.ex_BadShape (ck_of T.ex_BadShape.hd) T.kx_BadShape_BadCut (exi_cons T.ex_BadKind (ck_of T.ex_BadKind.hd) T.kx_BadKind_BadCut (exi_cons T.ex_BadBook (ck_of T.ex_BadBook.hd) T.kx_BadBook_BadCut (exi_cons T.ex_BadTable (ck_of T.ex_BadTable.hd) T.kx_BadTable_BadCut (exi_cons T.ex_BadReader (ck_of T.ex_BadReader.hd) T.kx_BadReader_BadCut (exi_cons T.ex_BadCut (ck_of T.ex_BadCut.hd) T.kx_BadCut_BadCut (exi_cons T.ex_OtherBook (ck_of T.ex_OtherBook.hd) T.kx_OtherBook_BadCut (exi_cons T.ex_NotHeld (ck_of T.ex_NotHeld.hd) T.kx_NotHeld_BadCut (exi_cons T.ex_OrderMatters (ck_of T.ex_OrderMatters.hd) T.kx_OrderMatters_BadCut (exi_cons T.ex_Unfit (ck_of T.ex_Unfit.hd) T.kx_Unfit_BadCut (exi_cons T.ex_Misfit (ck_of T.ex_Misfit.hd) T.kx_Misfit_BadCut (exi_cons T.ex_BadProgram (ck_of T.ex_BadProgram.hd) T.kx_BadProgram_BadCut (exi_cons T.ex_BadRun (ck_of T.ex_BadRun.hd) T.kx_BadRun_BadCut (exi_cons T.ex_BadInput (ck_of T.ex_BadInput.hd) T.kx_BadInput_BadCut (exi_cons T.ex_NoKind (ck_of T.ex_NoKind.hd) T.kx_NoKind_BadCut (exi_cons T.ex_NoColumn (ck_of T.ex_NoColumn.hd) T.kx_NoColumn_BadCut (exi_cons T.ex_NoRow (ck_of T.ex_NoRow.hd) T.kx_NoRow_BadCut exi_nil)))))))))))))))))
theorem Txt.exi_BadInput (T : Txt K mg A) : ExiOk K A.cl (.ref (A.cl "BadInput")) exT_BadInput := (exi_cons T.ex_BadShape (ck_of T.ex_BadShape.hd) T.kx_BadShape_BadInput (exi_cons T.ex_BadKind (ck_of T.ex_BadKind.hd) T.kx_BadKind_BadInput (exi_cons T.ex_BadBook (ck_of T.ex_BadBook.hd) T.kx_BadBook_BadInput (exi_cons T.ex_BadTable (ck_of T.ex_BadTable.hd) T.kx_BadTable_BadInput (exi_cons T.ex_BadReader (ck_of T.ex_BadReader.hd) T.kx_BadReader_BadInput (exi_cons T.ex_BadCut (ck_of T.ex_BadCut.hd) T.kx_BadCut_BadInput (exi_cons T.ex_OtherBook (ck_of T.ex_OtherBook.hd) T.kx_OtherBook_BadInput (exi_cons T.ex_NotHeld (ck_of T.ex_NotHeld.hd) T.kx_NotHeld_BadInput (exi_cons T.ex_OrderMatters (ck_of T.ex_OrderMatters.hd) T.kx_OrderMatters_BadInput (exi_cons T.ex_Unfit (ck_of T.ex_Unfit.hd) T.kx_Unfit_BadInput (exi_cons T.ex_Misfit (ck_of T.ex_Misfit.hd) T.kx_Misfit_BadInput (exi_cons T.ex_BadProgram (ck_of T.ex_BadProgram.hd) T.kx_BadProgram_BadInput (exi_cons T.ex_BadRun (ck_of T.ex_BadRun.hd) T.kx_BadRun_BadInput (exi_cons T.ex_BadInput (ck_of T.ex_BadInput.hd) T.kx_BadInput_BadInput (exi_cons T.ex_NoKind (ck_of T.ex_NoKind.hd) T.kx_NoKind_BadInput (exi_cons T.ex_NoColumn (ck_of T.ex_NoColumn.hd) T.kx_NoColumn_BadInput (exi_cons T.ex_NoRow (ck_of T.ex_NoRow.hd) T.kx_NoRow_BadInput exi_nil)))))))))))))))))
theorem Txt.exi_BadKind (T : Txt K mg A) : ExiOk K A.cl (.ref (A.cl "BadKind")) exT_BadKind := (exi_cons T.ex_BadShape (ck_of T.ex_BadShape.hd) T.kx_BadShape_BadKind (exi_cons T.ex_BadKind (ck_of T.ex_BadKind.hd) T.kx_BadKind_BadKind (exi_cons T.ex_BadBook (ck_of T.ex_BadBook.hd) T.kx_BadBook_BadKind (exi_cons T.ex_BadTable (ck_of T.ex_BadTable.hd) T.kx_BadTable_BadKind (exi_cons T.ex_BadReader (ck_of T.ex_BadReader.hd) T.kx_BadReader_BadKind (exi_cons T.ex_BadCut (ck_of T.ex_BadCut.hd) T.kx_BadCut_BadKind (exi_cons T.ex_OtherBook (ck_of T.ex_OtherBook.hd) T.kx_OtherBook_BadKind (exi_cons T.ex_NotHeld (ck_of T.ex_NotHeld.hd) T.kx_NotHeld_BadKind (exi_cons T.ex_OrderMatters (ck_of T.ex_OrderMatters.hd) T.kx_OrderMatters_BadKind (exi_cons T.ex_Unfit (ck_of T.ex_Unfit.hd) T.kx_Unfit_BadKind (exi_cons T.ex_Misfit (ck_of T.ex_Misfit.hd) T.kx_Misfit_BadKind (exi_cons T.ex_BadProgram (ck_of T.ex_BadProgram.hd) T.kx_BadProgram_BadKind (exi_cons T.ex_BadRun (ck_of T.ex_BadRun.hd) T.kx_BadRun_BadKind (exi_cons T.ex_BadInput (ck_of T.ex_BadInput.hd) T.kx_BadInput_BadKind (exi_cons T.ex_NoKind (ck_of T.ex_NoKind.hd) T.kx_NoKind_BadKind (exi_cons T.ex_NoColumn (ck_of T.ex_NoColumn.hd) T.kx_NoColumn_BadKind (exi_cons T.ex_NoRow (ck_of T.ex_NoRow.hd) T.kx_NoRow_BadKind exi_nil)))))))))))))))))
theorem Txt.exi_BadProgram (T : Txt K mg A) : ExiOk K A.cl (.ref (A.cl "BadProgram")) exT_BadProgram := (exi_cons T.ex_BadShape (ck_of T.ex_BadShape.hd) T.kx_BadShape_BadProgram (exi_cons T.ex_BadKind (ck_of T.ex_BadKind.hd) T.kx_BadKind_BadProgram (exi_cons T.ex_BadBook (ck_of T.ex_BadBook.hd) T.kx_BadBook_BadProgram (exi_cons T.ex_BadTable (ck_of T.ex_BadTable.hd) T.kx_BadTable_BadProgram (exi_cons T.ex_BadReader (ck_of T.ex_BadReader.hd) T.kx_BadReader_BadProgram (exi_cons T.ex_BadCut (ck_of T.ex_BadCut.hd) T.kx_BadCut_BadProgram (exi_cons T.ex_OtherBook (ck_of T.ex_OtherBook.hd) T.kx_OtherBook_BadProgram (exi_cons T.ex_NotHeld (ck_of T.ex_NotHeld.hd) T.kx_NotHeld_BadProgram (exi_cons T.ex_OrderMatters (ck_of T.ex_OrderMatters.hd) T.kx_OrderMatters_BadProgram (exi_cons T.ex_Unfit (ck_of T.ex_Unfit.hd) T.kx_Unfit_BadProgram (exi_cons T.ex_Misfit (ck_of T.ex_Misfit.hd) T.kx_Misfit_BadProgram (exi_cons T.ex_BadProgram (ck_of T.ex_BadProgram.hd) T.kx_BadProgram_BadProgram (exi_cons T.ex_BadRun (ck_of T.ex_BadRun.hd) T.kx_BadRun_BadProgram (exi_cons T.ex_BadInput (ck_of T.ex_BadInput.hd) T.kx_BadInput_BadProgram (exi_cons T.ex_NoKind (ck_of T.ex_NoKind.hd) T.kx_NoKind_BadProgram (exi_cons T.ex_NoColumn (ck_of T.ex_NoColumn.hd) T.kx_NoColumn_BadProgram (exi_cons T.ex_NoRow (ck_of T.ex_NoRow.hd) T.kx_NoRow_BadProgram exi_nil)))))))))))))))))
theorem Txt.exi_BadReader (T : Txt K mg A) : ExiOk K A.cl (.ref (A.cl "BadReader")) exT_BadReader := (exi_cons T.ex_BadShape (ck_of T.ex_BadShape.hd) T.kx_BadShape_BadReader (exi_cons T.ex_BadKind (ck_of T.ex_BadKind.hd) T.kx_BadKind_BadReader (exi_cons T.ex_BadBook (ck_of T.ex_BadBook.hd) T.kx_BadBook_BadReader (exi_cons T.ex_BadTable (ck_of T.ex_BadTable.hd) T.kx_BadTable_BadReader (exi_cons T.ex_BadReader (ck_of T.ex_BadReader.hd) T.kx_BadReader_BadReader (exi_cons T.ex_BadCut (ck_of T.ex_BadCut.hd) T.kx_BadCut_BadReader (exi_cons T.ex_OtherBook (ck_of T.ex_OtherBook.hd) T.kx_OtherBook_BadReader (exi_cons T.ex_NotHeld (ck_of T.ex_NotHeld.hd) T.kx_NotHeld_BadReader (exi_cons T.ex_OrderMatters (ck_of T.ex_OrderMatters.hd) T.kx_OrderMatters_BadReader (exi_cons T.ex_Unfit (ck_of T.ex_Unfit.hd) T.kx_Unfit_BadReader (exi_cons T.ex_Misfit (ck_of T.ex_Misfit.hd) T.kx_Misfit_BadReader (exi_cons T.ex_BadProgram (ck_of T.ex_BadProgram.hd) T.kx_BadProgram_BadReader (exi_cons T.ex_BadRun (ck_of T.ex_BadRun.hd) T.kx_BadRun_BadReader (exi_cons T.ex_BadInput (ck_of T.ex_BadInput.hd) T.kx_BadInput_BadReader (exi_cons T.ex_NoKind (ck_of T.ex_NoKind.hd) T.kx_NoKind_BadReader (exi_cons T.ex_NoColumn (ck_of T.ex_NoColumn.hd) T.kx_NoColumn_BadReader (exi_cons T.ex_NoRow (ck_of T.ex_NoRow.hd) T.kx_NoRow_BadReader exi_nil)))))))))))))))))
theorem Txt.exi_BadRun (T : Txt K mg A) : ExiOk K A.cl (.ref (A.cl "BadRun")) exT_BadRun := (exi_cons T.ex_BadShape (ck_of T.ex_BadShape.hd) T.kx_BadShape_BadRun (exi_cons T.ex_BadKind (ck_of T.ex_BadKind.hd) T.kx_BadKind_BadRun (exi_cons T.ex_BadBook (ck_of T.ex_BadBook.hd) T.kx_BadBook_BadRun (exi_cons T.ex_BadTable (ck_of T.ex_BadTable.hd) T.kx_BadTable_BadRun (exi_cons T.ex_BadReader (ck_of T.ex_BadReader.hd) T.kx_BadReader_BadRun (exi_cons T.ex_BadCut (ck_of T.ex_BadCut.hd) T.kx_BadCut_BadRun (exi_cons T.ex_OtherBook (ck_of T.ex_OtherBook.hd) T.kx_OtherBook_BadRun (exi_cons T.ex_NotHeld (ck_of T.ex_NotHeld.hd) T.kx_NotHeld_BadRun (exi_cons T.ex_OrderMatters (ck_of T.ex_OrderMatters.hd) T.kx_OrderMatters_BadRun (exi_cons T.ex_Unfit (ck_of T.ex_Unfit.hd) T.kx_Unfit_BadRun (exi_cons T.ex_Misfit (ck_of T.ex_Misfit.hd) T.kx_Misfit_BadRun (exi_cons T.ex_BadProgram (ck_of T.ex_BadProgram.hd) T.kx_BadProgram_BadRun (exi_cons T.ex_BadRun (ck_of T.ex_BadRun.hd) T.kx_BadRun_BadRun (exi_cons T.ex_BadInput (ck_of T.ex_BadInput.hd) T.kx_BadInput_BadRun (exi_cons T.ex_NoKind (ck_of T.ex_NoKind.hd) T.kx_NoKind_BadRun (exi_cons T.ex_NoColumn (ck_of T.ex_NoColumn.hd) T.kx_NoColumn_BadRun (exi_cons T.ex_NoRow (ck_of T.ex_NoRow.hd) T.kx_NoRow_BadRun exi_nil)))))))))))))))))
theorem Txt.exi_BadShape (T : Txt K mg A) : ExiOk K A.cl (.ref (A.cl "BadShape")) exT_BadShape := (exi_cons T.ex_BadShape (ck_of T.ex_BadShape.hd) T.kx_BadShape_BadShape (exi_cons T.ex_BadKind (ck_of T.ex_BadKind.hd) T.kx_BadKind_BadShape (exi_cons T.ex_BadBook (ck_of T.ex_BadBook.hd) T.kx_BadBook_BadShape (exi_cons T.ex_BadTable (ck_of T.ex_BadTable.hd) T.kx_BadTable_BadShape (exi_cons T.ex_BadReader (ck_of T.ex_BadReader.hd) T.kx_BadReader_BadShape (exi_cons T.ex_BadCut (ck_of T.ex_BadCut.hd) T.kx_BadCut_BadShape (exi_cons T.ex_OtherBook (ck_of T.ex_OtherBook.hd) T.kx_OtherBook_BadShape (exi_cons T.ex_NotHeld (ck_of T.ex_NotHeld.hd) T.kx_NotHeld_BadShape (exi_cons T.ex_OrderMatters (ck_of T.ex_OrderMatters.hd) T.kx_OrderMatters_BadShape (exi_cons T.ex_Unfit (ck_of T.ex_Unfit.hd) T.kx_Unfit_BadShape (exi_cons T.ex_Misfit (ck_of T.ex_Misfit.hd) T.kx_Misfit_BadShape (exi_cons T.ex_BadProgram (ck_of T.ex_BadProgram.hd) T.kx_BadProgram_BadShape (exi_cons T.ex_BadRun (ck_of T.ex_BadRun.hd) T.kx_BadRun_BadShape (exi_cons T.ex_BadInput (ck_of T.ex_BadInput.hd) T.kx_BadInput_BadShape (exi_cons T.ex_NoKind (ck_of T.ex_NoKind.hd) T.kx_NoKind_BadShape (exi_cons T.ex_NoColumn (ck_of T.ex_NoColumn.hd) T.kx_NoColumn_BadShape (exi_cons T.ex_NoRow (ck_of T.ex_NoRow.hd) T.kx_NoRow_BadShape exi_nil)))))))))))))))))
theorem Txt.exi_BadTable (T : Txt K mg A) : ExiOk K A.cl (.ref (A.cl "BadTable")) exT_BadTable := (exi_cons T.ex_BadShape (ck_of T.ex_BadShape.hd) T.kx_BadShape_BadTable (exi_cons T.ex_BadKind (ck_of T.ex_BadKind.hd) T.kx_BadKind_BadTable (exi_cons T.ex_BadBook (ck_of T.ex_BadBook.hd) T.kx_BadBook_BadTable (exi_cons T.ex_BadTable (ck_of T.ex_BadTable.hd) T.kx_BadTable_BadTable (exi_cons T.ex_BadReader (ck_of T.ex_BadReader.hd) T.kx_BadReader_BadTable (exi_cons T.ex_BadCut (ck_of T.ex_BadCut.hd) T.kx_BadCut_BadTable (exi_cons T.ex_OtherBook (ck_of T.ex_OtherBook.hd) T.kx_OtherBook_BadTable (exi_cons T.ex_NotHeld (ck_of T.ex_NotHeld.hd) T.kx_NotHeld_BadTable (exi_cons T.ex_OrderMatters (ck_of T.ex_OrderMatters.hd) T.kx_OrderMatters_BadTable (exi_cons T.ex_Unfit (ck_of T.ex_Unfit.hd) T.kx_Unfit_BadTable (exi_cons T.ex_Misfit (ck_of T.ex_Misfit.hd) T.kx_Misfit_BadTable (exi_cons T.ex_BadProgram (ck_of T.ex_BadProgram.hd) T.kx_BadProgram_BadTable (exi_cons T.ex_BadRun (ck_of T.ex_BadRun.hd) T.kx_BadRun_BadTable (exi_cons T.ex_BadInput (ck_of T.ex_BadInput.hd) T.kx_BadInput_BadTable (exi_cons T.ex_NoKind (ck_of T.ex_NoKind.hd) T.kx_NoKind_BadTable (exi_cons T.ex_NoColumn (ck_of T.ex_NoColumn.hd) T.kx_NoColumn_BadTable (exi_cons T.ex_NoRow (ck_of T.ex_NoRow.hd) T.kx_NoRow_BadTable exi_nil)))))))))))))))))
theorem Txt.exi_GuessError (T : Txt K mg A) : ExiOk K A.cl (.ref (A.cl "GuessError")) exT_GuessError := (exi_cons T.ex_BadShape (ck_of T.ex_BadShape.hd) T.kx_BadShape_GuessError (exi_cons T.ex_BadKind (ck_of T.ex_BadKind.hd) T.kx_BadKind_GuessError (exi_cons T.ex_BadBook (ck_of T.ex_BadBook.hd) T.kx_BadBook_GuessError (exi_cons T.ex_BadTable (ck_of T.ex_BadTable.hd) T.kx_BadTable_GuessError (exi_cons T.ex_BadReader (ck_of T.ex_BadReader.hd) T.kx_BadReader_GuessError (exi_cons T.ex_BadCut (ck_of T.ex_BadCut.hd) T.kx_BadCut_GuessError (exi_cons T.ex_OtherBook (ck_of T.ex_OtherBook.hd) T.kx_OtherBook_GuessError (exi_cons T.ex_NotHeld (ck_of T.ex_NotHeld.hd) T.kx_NotHeld_GuessError (exi_cons T.ex_OrderMatters (ck_of T.ex_OrderMatters.hd) T.kx_OrderMatters_GuessError (exi_cons T.ex_Unfit (ck_of T.ex_Unfit.hd) T.kx_Unfit_GuessError (exi_cons T.ex_Misfit (ck_of T.ex_Misfit.hd) T.kx_Misfit_GuessError (exi_cons T.ex_BadProgram (ck_of T.ex_BadProgram.hd) T.kx_BadProgram_GuessError (exi_cons T.ex_BadRun (ck_of T.ex_BadRun.hd) T.kx_BadRun_GuessError (exi_cons T.ex_BadInput (ck_of T.ex_BadInput.hd) T.kx_BadInput_GuessError (exi_cons T.ex_NoKind (ck_of T.ex_NoKind.hd) T.kx_NoKind_GuessError (exi_cons T.ex_NoColumn (ck_of T.ex_NoColumn.hd) T.kx_NoColumn_GuessError (exi_cons T.ex_NoRow (ck_of T.ex_NoRow.hd) T.kx_NoRow_GuessError exi_nil)))))))))))))))))
theorem Txt.exi_LookupError (T : Txt K mg A) : ExiOk K A.cl (.type "LookupError") exT_LookupError := (exi_cons T.ex_BadShape (ck_of T.ex_BadShape.hd) T.kx_BadShape_LookupError (exi_cons T.ex_BadKind (ck_of T.ex_BadKind.hd) T.kx_BadKind_LookupError (exi_cons T.ex_BadBook (ck_of T.ex_BadBook.hd) T.kx_BadBook_LookupError (exi_cons T.ex_BadTable (ck_of T.ex_BadTable.hd) T.kx_BadTable_LookupError (exi_cons T.ex_BadReader (ck_of T.ex_BadReader.hd) T.kx_BadReader_LookupError (exi_cons T.ex_BadCut (ck_of T.ex_BadCut.hd) T.kx_BadCut_LookupError (exi_cons T.ex_OtherBook (ck_of T.ex_OtherBook.hd) T.kx_OtherBook_LookupError (exi_cons T.ex_NotHeld (ck_of T.ex_NotHeld.hd) T.kx_NotHeld_LookupError (exi_cons T.ex_OrderMatters (ck_of T.ex_OrderMatters.hd) T.kx_OrderMatters_LookupError (exi_cons T.ex_Unfit (ck_of T.ex_Unfit.hd) T.kx_Unfit_LookupError (exi_cons T.ex_Misfit (ck_of T.ex_Misfit.hd) T.kx_Misfit_LookupError (exi_cons T.ex_BadProgram (ck_of T.ex_BadProgram.hd) T.kx_BadProgram_LookupError (exi_cons T.ex_BadRun (ck_of T.ex_BadRun.hd) T.kx_BadRun_LookupError (exi_cons T.ex_BadInput (ck_of T.ex_BadInput.hd) T.kx_BadInput_LookupError (exi_cons T.ex_NoKind (ck_of T.ex_NoKind.hd) T.kx_NoKind_LookupError (exi_cons T.ex_NoColumn (ck_of T.ex_NoColumn.hd) T.kx_NoColumn_LookupError (exi_cons T.ex_NoRow (ck_of T.ex_NoRow.hd) T.kx_NoRow_LookupError exi_nil)))))))))))))))))
theorem Txt.exi_Misfit (T : Txt K mg A) : ExiOk K A.cl (.ref (A.cl "Misfit")) exT_Misfit := (exi_cons T.ex_BadShape (ck_of T.ex_BadShape.hd) T.kx_BadShape_Misfit (exi_cons T.ex_BadKind (ck_of T.ex_BadKind.hd) T.kx_BadKind_Misfit (exi_cons T.ex_BadBook (ck_of T.ex_BadBook.hd) T.kx_BadBook_Misfit (exi_cons T.ex_BadTable (ck_of T.ex_BadTable.hd) T.kx_BadTable_Misfit (exi_cons T.ex_BadReader (ck_of T.ex_BadReader.hd) T.kx_BadReader_Misfit (exi_cons T.ex_BadCut (ck_of T.ex_BadCut.hd) T.kx_BadCut_Misfit (exi_cons T.ex_OtherBook (ck_of T.ex_OtherBook.hd) T.kx_OtherBook_Misfit (exi_cons T.ex_NotHeld (ck_of T.ex_NotHeld.hd) T.kx_NotHeld_Misfit (exi_cons T.ex_OrderMatters (ck_of T.ex_OrderMatters.hd) T.kx_OrderMatters_Misfit (exi_cons T.ex_Unfit (ck_of T.ex_Unfit.hd) T.kx_Unfit_Misfit (exi_cons T.ex_Misfit (ck_of T.ex_Misfit.hd) T.kx_Misfit_Misfit (exi_cons T.ex_BadProgram (ck_of T.ex_BadProgram.hd) T.kx_BadProgram_Misfit (exi_cons T.ex_BadRun (ck_of T.ex_BadRun.hd) T.kx_BadRun_Misfit (exi_cons T.ex_BadInput (ck_of T.ex_BadInput.hd) T.kx_BadInput_Misfit (exi_cons T.ex_NoKind (ck_of T.ex_NoKind.hd) T.kx_NoKind_Misfit (exi_cons T.ex_NoColumn (ck_of T.ex_NoColumn.hd) T.kx_NoColumn_Misfit (exi_cons T.ex_NoRow (ck_of T.ex_NoRow.hd) T.kx_NoRow_Misfit exi_nil)))))))))))))))))
theorem Txt.exi_NoColumn (T : Txt K mg A) : ExiOk K A.cl (.ref (A.cl "NoColumn")) exT_NoColumn := (exi_cons T.ex_BadShape (ck_of T.ex_BadShape.hd) T.kx_BadShape_NoColumn (exi_cons T.ex_BadKind (ck_of T.ex_BadKind.hd) T.kx_BadKind_NoColumn (exi_cons T.ex_BadBook (ck_of T.ex_BadBook.hd) T.kx_BadBook_NoColumn (exi_cons T.ex_BadTable (ck_of T.ex_BadTable.hd) T.kx_BadTable_NoColumn (exi_cons T.ex_BadReader (ck_of T.ex_BadReader.hd) T.kx_BadReader_NoColumn (exi_cons T.ex_BadCut (ck_of T.ex_BadCut.hd) T.kx_BadCut_NoColumn (exi_cons T.ex_OtherBook (ck_of T.ex_OtherBook.hd) T.kx_OtherBook_NoColumn (exi_cons T.ex_NotHeld (ck_of T.ex_NotHeld.hd) T.kx_NotHeld_NoColumn (exi_cons T.ex_OrderMatters (ck_of T.ex_OrderMatters.hd) T.kx_OrderMatters_NoColumn (exi_cons T.ex_Unfit (ck_of T.ex_Unfit.hd) T.kx_Unfit_NoColumn (exi_cons T.ex_Misfit (ck_of T.ex_Misfit.hd) T.kx_Misfit_NoColumn (exi_cons T.ex_BadProgram (ck_of T.ex_BadProgram.hd) T.kx_BadProgram_NoColumn (exi_cons T.ex_BadRun (ck_of T.ex_BadRun.hd) T.kx_BadRun_NoColumn (exi_cons T.ex_BadInput (ck_of T.ex_BadInput.hd) T.kx_BadInput_NoColumn (exi_cons T.ex_NoKind (ck_of T.ex_NoKind.hd) T.kx_NoKind_NoColumn (exi_cons T.ex_NoColumn (ck_of T.ex_NoColumn.hd) T.kx_NoColumn_NoColumn (exi_cons T.ex_NoRow (ck_of T.ex_NoRow.hd) T.kx_NoRow_NoColumn exi_nil)))))))))))))))))
theorem Txt.exi_NoKind (T : Txt K mg A) : ExiOk K A.cl (.ref (A.cl "NoKind")) exT_NoKind := (exi_cons T.ex_BadShape (ck_of T.ex_BadShape.hd) T.kx_BadShape_NoKind (exi_cons T.ex_BadKind (ck_of T.ex_BadKind.hd) T.kx_BadKind_NoKind (exi_cons T.ex_BadBook (ck_of T.ex_BadBook.hd) T.kx_BadBook_NoKind (exi_cons T.ex_BadTable (ck_of T.ex_BadTable.hd) T.kx_BadTable_NoKind (exi_cons T.ex_BadReader (ck_of T.ex_BadReader.hd) T.kx_BadReader_NoKind (exi_cons T.ex_BadCut (ck_of T.ex_BadCut.hd) T.kx_BadCut_NoKind (exi_cons T.ex_OtherBook (ck_of T.ex_OtherBook.hd) T.kx_OtherBook_NoKind (exi_cons T.ex_NotHeld (ck_of T.ex_NotHeld.hd) T.kx_NotHeld_NoKind (exi_cons T.ex_OrderMatters (ck_of T.ex_OrderMatters.hd) T.kx_OrderMatters_NoKind (exi_cons T.ex_Unfit (ck_of T.ex_Unfit.hd) T.kx_Unfit_NoKind (exi_cons T.ex_Misfit (ck_of T.ex_Misfit.hd) T.kx_Misfit_NoKind (exi_cons T.ex_BadProgram (ck_of T.ex_BadProgram.hd) T.kx_BadProgram_NoKind (exi_cons T.ex_BadRun (ck_of T.ex_BadRun.hd) T.kx_BadRun_NoKind (exi_cons T.ex_BadInput (ck_of T.ex_BadInput.hd) T.kx_BadInput_NoKind (exi_cons T.ex_NoKind (ck_of T.ex_NoKind.hd) T.kx_NoKind_NoKind (exi_cons T.ex_NoColumn (ck_of T.ex_NoColumn.hd) T.kx_NoColumn_NoKind (exi_cons T.ex_NoRow (ck_of T.ex_NoRow.hd) T.kx_NoRow_NoKind exi_nil)))))))))))))))))
theorem Txt.exi_NoRow (T : Txt K mg A) : ExiOk K A.cl (.ref (A.cl "NoRow")) exT_NoRow := (exi_cons T.ex_BadShape (ck_of T.ex_BadShape.hd) T.kx_BadShape_NoRow (exi_cons T.ex_BadKind (ck_of T.ex_BadKind.hd) T.kx_BadKind_NoRow (exi_cons T.ex_BadBook (ck_of T.ex_BadBook.hd) T.kx_BadBook_NoRow (exi_cons T.ex_BadTable (ck_of T.ex_BadTable.hd) T.kx_BadTable_NoRow (exi_cons T.ex_BadReader (ck_of T.ex_BadReader.hd) T.kx_BadReader_NoRow (exi_cons T.ex_BadCut (ck_of T.ex_BadCut.hd) T.kx_BadCut_NoRow (exi_cons T.ex_OtherBook (ck_of T.ex_OtherBook.hd) T.kx_OtherBook_NoRow (exi_cons T.ex_NotHeld (ck_of T.ex_NotHeld.hd) T.kx_NotHeld_NoRow (exi_cons T.ex_OrderMatters (ck_of T.ex_OrderMatters.hd) T.kx_OrderMatters_NoRow (exi_cons T.ex_Unfit (ck_of T.ex_Unfit.hd) T.kx_Unfit_NoRow (exi_cons T.ex_Misfit (ck_of T.ex_Misfit.hd) T.kx_Misfit_NoRow (exi_cons T.ex_BadProgram (ck_of T.ex_BadProgram.hd) T.kx_BadProgram_NoRow (exi_cons T.ex_BadRun (ck_of T.ex_BadRun.hd) T.kx_BadRun_NoRow (exi_cons T.ex_BadInput (ck_of T.ex_BadInput.hd) T.kx_BadInput_NoRow (exi_cons T.ex_NoKind (ck_of T.ex_NoKind.hd) T.kx_NoKind_NoRow (exi_cons T.ex_NoColumn (ck_of T.ex_NoColumn.hd) T.kx_NoColumn_NoRow (exi_cons T.ex_NoRow (ck_of T.ex_NoRow.hd) T.kx_NoRow_NoRow exi_nil)))))))))))))))))
theorem Txt.exi_NotHeld (T : Txt K mg A) : ExiOk K A.cl (.ref (A.cl "NotHeld")) exT_NotHeld := (exi_cons T.ex_BadShape (ck_of T.ex_BadShape.hd) T.kx_BadShape_NotHeld (exi_cons T.ex_BadKind (ck_of T.ex_BadKind.hd) T.kx_BadKind_NotHeld (exi_cons T.ex_BadBook (ck_of T.ex_BadBook.hd) T.kx_BadBook_NotHeld (exi_cons T.ex_BadTable (ck_of T.ex_BadTable.hd) T.kx_BadTable_NotHeld (exi_cons T.ex_BadReader (ck_of T.ex_BadReader.hd) T.kx_BadReader_NotHeld (exi_cons T.ex_BadCut (ck_of T.ex_BadCut.hd) T.kx_BadCut_NotHeld (exi_cons T.ex_OtherBook (ck_of T.ex_OtherBook.hd) T.kx_OtherBook_NotHeld (exi_cons T.ex_NotHeld (ck_of T.ex_NotHeld.hd) T.kx_NotHeld_NotHeld (exi_cons T.ex_OrderMatters (ck_of T.ex_OrderMatters.hd) T.kx_OrderMatters_NotHeld (exi_cons T.ex_Unfit (ck_of T.ex_Unfit.hd) T.kx_Unfit_NotHeld (exi_cons T.ex_Misfit (ck_of T.ex_Misfit.hd) T.kx_Misfit_NotHeld (exi_cons T.ex_BadProgram (ck_of T.ex_BadProgram.hd) T.kx_BadProgram_NotHeld (exi_cons T.ex_BadRun (ck_of T.ex_BadRun.hd) T.kx_BadRun_NotHeld (exi_cons T.ex_BadInput (ck_of T.ex_BadInput.hd) T.kx_BadInput_NotHeld (exi_cons T.ex_NoKind (ck_of T.ex_NoKind.hd) T.kx_NoKind_NotHeld (exi_cons T.ex_NoColumn (ck_of T.ex_NoColumn.hd) T.kx_NoColumn_NotHeld (exi_cons T.ex_NoRow (ck_of T.ex_NoRow.hd) T.kx_NoRow_NotHeld exi_nil)))))))))))))))))
theorem Txt.exi_OrderMatters (T : Txt K mg A) : ExiOk K A.cl (.ref (A.cl "OrderMatters")) exT_OrderMatters := (exi_cons T.ex_BadShape (ck_of T.ex_BadShape.hd) T.kx_BadShape_OrderMatters (exi_cons T.ex_BadKind (ck_of T.ex_BadKind.hd) T.kx_BadKind_OrderMatters (exi_cons T.ex_BadBook (ck_of T.ex_BadBook.hd) T.kx_BadBook_OrderMatters (exi_cons T.ex_BadTable (ck_of T.ex_BadTable.hd) T.kx_BadTable_OrderMatters (exi_cons T.ex_BadReader (ck_of T.ex_BadReader.hd) T.kx_BadReader_OrderMatters (exi_cons T.ex_BadCut (ck_of T.ex_BadCut.hd) T.kx_BadCut_OrderMatters (exi_cons T.ex_OtherBook (ck_of T.ex_OtherBook.hd) T.kx_OtherBook_OrderMatters (exi_cons T.ex_NotHeld (ck_of T.ex_NotHeld.hd) T.kx_NotHeld_OrderMatters (exi_cons T.ex_OrderMatters (ck_of T.ex_OrderMatters.hd) T.kx_OrderMatters_OrderMatters (exi_cons T.ex_Unfit (ck_of T.ex_Unfit.hd) T.kx_Unfit_OrderMatters (exi_cons T.ex_Misfit (ck_of T.ex_Misfit.hd) T.kx_Misfit_OrderMatters (exi_cons T.ex_BadProgram (ck_of T.ex_BadProgram.hd) T.kx_BadProgram_OrderMatters (exi_cons T.ex_BadRun (ck_of T.ex_BadRun.hd) T.kx_BadRun_OrderMatters (exi_cons T.ex_BadInput (ck_of T.ex_BadInput.hd) T.kx_BadInput_OrderMatters (exi_cons T.ex_NoKind (ck_of T.ex_NoKind.hd) T.kx_NoKind_OrderMatters (exi_cons T.ex_NoColumn (ck_of T.ex_NoColumn.hd) T.kx_NoColumn_OrderMatters (exi_cons T.ex_NoRow (ck_of T.ex_NoRow.hd) T.kx_NoRow_OrderMatters exi_nil)))))))))))))))))
theorem Txt.exi_OtherBook (T : Txt K mg A) : ExiOk K A.cl (.ref (A.cl "OtherBook")) exT_OtherBook := (exi_cons T.ex_BadShape (ck_of T.ex_BadShape.hd) T.kx_BadShape_OtherBook (exi_cons T.ex_BadKind (ck_of T.ex_BadKind.hd) T.kx_BadKind_OtherBook (exi_cons T.ex_BadBook (ck_of T.ex_BadBook.hd) T.kx_BadBook_OtherBook (exi_cons T.ex_BadTable (ck_of T.ex_BadTable.hd) T.kx_BadTable_OtherBook (exi_cons T.ex_BadReader (ck_of T.ex_BadReader.hd) T.kx_BadReader_OtherBook (exi_cons T.ex_BadCut (ck_of T.ex_BadCut.hd) T.kx_BadCut_OtherBook (exi_cons T.ex_OtherBook (ck_of T.ex_OtherBook.hd) T.kx_OtherBook_OtherBook (exi_cons T.ex_NotHeld (ck_of T.ex_NotHeld.hd) T.kx_NotHeld_OtherBook (exi_cons T.ex_OrderMatters (ck_of T.ex_OrderMatters.hd) T.kx_OrderMatters_OtherBook (exi_cons T.ex_Unfit (ck_of T.ex_Unfit.hd) T.kx_Unfit_OtherBook (exi_cons T.ex_Misfit (ck_of T.ex_Misfit.hd) T.kx_Misfit_OtherBook (exi_cons T.ex_BadProgram (ck_of T.ex_BadProgram.hd) T.kx_BadProgram_OtherBook (exi_cons T.ex_BadRun (ck_of T.ex_BadRun.hd) T.kx_BadRun_OtherBook (exi_cons T.ex_BadInput (ck_of T.ex_BadInput.hd) T.kx_BadInput_OtherBook (exi_cons T.ex_NoKind (ck_of T.ex_NoKind.hd) T.kx_NoKind_OtherBook (exi_cons T.ex_NoColumn (ck_of T.ex_NoColumn.hd) T.kx_NoColumn_OtherBook (exi_cons T.ex_NoRow (ck_of T.ex_NoRow.hd) T.kx_NoRow_OtherBook exi_nil)))))))))))))))))
theorem Txt.exi_Unfit (T : Txt K mg A) : ExiOk K A.cl (.ref (A.cl "Unfit")) exT_Unfit := (exi_cons T.ex_BadShape (ck_of T.ex_BadShape.hd) T.kx_BadShape_Unfit (exi_cons T.ex_BadKind (ck_of T.ex_BadKind.hd) T.kx_BadKind_Unfit (exi_cons T.ex_BadBook (ck_of T.ex_BadBook.hd) T.kx_BadBook_Unfit (exi_cons T.ex_BadTable (ck_of T.ex_BadTable.hd) T.kx_BadTable_Unfit (exi_cons T.ex_BadReader (ck_of T.ex_BadReader.hd) T.kx_BadReader_Unfit (exi_cons T.ex_BadCut (ck_of T.ex_BadCut.hd) T.kx_BadCut_Unfit (exi_cons T.ex_OtherBook (ck_of T.ex_OtherBook.hd) T.kx_OtherBook_Unfit (exi_cons T.ex_NotHeld (ck_of T.ex_NotHeld.hd) T.kx_NotHeld_Unfit (exi_cons T.ex_OrderMatters (ck_of T.ex_OrderMatters.hd) T.kx_OrderMatters_Unfit (exi_cons T.ex_Unfit (ck_of T.ex_Unfit.hd) T.kx_Unfit_Unfit (exi_cons T.ex_Misfit (ck_of T.ex_Misfit.hd) T.kx_Misfit_Unfit (exi_cons T.ex_BadProgram (ck_of T.ex_BadProgram.hd) T.kx_BadProgram_Unfit (exi_cons T.ex_BadRun (ck_of T.ex_BadRun.hd) T.kx_BadRun_Unfit (exi_cons T.ex_BadInput (ck_of T.ex_BadInput.hd) T.kx_BadInput_Unfit (exi_cons T.ex_NoKind (ck_of T.ex_NoKind.hd) T.kx_NoKind_Unfit (exi_cons T.ex_NoColumn (ck_of T.ex_NoColumn.hd) T.kx_NoColumn_Unfit (exi_cons T.ex_NoRow (ck_of T.ex_NoRow.hd) T.kx_NoRow_Unfit exi_nil)))))))))))))))))
theorem Txt.exi_ValueError (T : Txt K mg A) : ExiOk K A.cl (.type "ValueError") exT_ValueError := (exi_cons T.ex_BadShape (ck_of T.ex_BadShape.hd) T.kx_BadShape_ValueError (exi_cons T.ex_BadKind (ck_of T.ex_BadKind.hd) T.kx_BadKind_ValueError (exi_cons T.ex_BadBook (ck_of T.ex_BadBook.hd) T.kx_BadBook_ValueError (exi_cons T.ex_BadTable (ck_of T.ex_BadTable.hd) T.kx_BadTable_ValueError (exi_cons T.ex_BadReader (ck_of T.ex_BadReader.hd) T.kx_BadReader_ValueError (exi_cons T.ex_BadCut (ck_of T.ex_BadCut.hd) T.kx_BadCut_ValueError (exi_cons T.ex_OtherBook (ck_of T.ex_OtherBook.hd) T.kx_OtherBook_ValueError (exi_cons T.ex_NotHeld (ck_of T.ex_NotHeld.hd) T.kx_NotHeld_ValueError (exi_cons T.ex_OrderMatters (ck_of T.ex_OrderMatters.hd) T.kx_OrderMatters_ValueError (exi_cons T.ex_Unfit (ck_of T.ex_Unfit.hd) T.kx_Unfit_ValueError (exi_cons T.ex_Misfit (ck_of T.ex_Misfit.hd) T.kx_Misfit_ValueError (exi_cons T.ex_BadProgram (ck_of T.ex_BadProgram.hd) T.kx_BadProgram_ValueError (exi_cons T.ex_BadRun (ck_of T.ex_BadRun.hd) T.kx_BadRun_ValueError (exi_cons T.ex_BadInput (ck_of T.ex_BadInput.hd) T.kx_BadInput_ValueError (exi_cons T.ex_NoKind (ck_of T.ex_NoKind.hd) T.kx_NoKind_ValueError (exi_cons T.ex_NoColumn (ck_of T.ex_NoColumn.hd) T.kx_NoColumn_ValueError (exi_cons T.ex_NoRow (ck_of T.ex_NoRow.hd) T.kx_NoRow_ValueError exi_nil)))))))))))))))))
theorem xk_BadBook (T : Txt K mg A) : G.FnOk P w K mg base CX0 1 A.a_BadBook_init A.d_BadBook_init ["self", "part"] (spXi K (A.cl "BadBook") ["part"]) := by
  have nd := sc_BadBook_init.nd
  refine xi_1 (k := 0) (ts := [tC (.str "not a book: "), tFmtD K (tVar 1)]) T.f_BadBook_init sc_BadBook_init rfl (fun σ H y1 e1 p1 t ht => ?_) (Nat.le_of_ble_eq_true rfl) fun cdv A' outer s H E hr => ?_
  · simp only [List.mem_cons, List.not_mem_nil, or_false] at ht
    rcases ht with rfl | rfl
    · exact pl_c (by decide)
    · exact pl_fmt e1 p1
  · exact (pss_cons (ps_expr (pe_ginit T.m_GuessError T.xr_GuessError T.xb_GuessError (pa_cons (pv 0) (pa_cons (pe_joined (.cons pe_str (.cons (pe_fmtD hr (pv 1)) .nil))) pa_nil)))) (pss_cons (ps_ost (pv 0) (pv 1)) pss_nil))
theorem xk_BadCut (T : Txt K mg A) : G.FnOk P w K mg base CX0 1 A.a_BadCut_init A.d_BadCut_init ["self", "cut"] (spXi K (A.cl "BadCut") ["cut"]) := by
  have nd := sc_BadCut_init.nd
  refine xi_1 (k := 0) (ts := [tC (.str "not a cut: "), tFmtD K (tVar 1)]) T.f_BadCut_init sc_BadCut_init rfl (fun σ H y1 e1 p1 t ht => ?_) (Nat.le_of_ble_eq_true rfl) fun cdv A' outer s H E hr => ?_
  · simp only [List.mem_cons, List.not_mem_nil, or_false] at ht
    rcases ht with rfl | rfl
    · exact pl_c (by decide)
    · exact pl_fmt e1 p1
  · exact (pss_cons (ps_expr (pe_ginit T.m_GuessError T.xr_GuessError T.xb_GuessError (pa_cons (pv 0) (pa_cons (pe_joined (.cons pe_str (.cons (pe_fmtD hr (pv 1)) .nil))) pa_nil)))) (pss_cons (ps_ost (pv 0) (pv 1)) pss_nil))
theorem xk_BadInput (T : Txt K mg A) : G.FnOk P w K mg base CX0 1 A.a_BadInput_init A.d_BadInput_init ["self", "at"] (spXi K (A.cl "BadInput") ["at"]) := by
  have nd := sc_BadInput_init.nd
  refine xi_1 (k := 0) (ts := [tC (.str "not an input: table "), tFmtD K (tVar 1)]) T.f_BadInput_init sc_BadInput_init rfl (fun σ H y1 e1 p1 t ht => ?_) (Nat.le_of_ble_eq_true rfl) fun cdv A' outer s H E hr => ?_
  · simp only [List.mem_cons, List.not_mem_nil, or_false] at ht
    rcases ht with rfl | rfl
    · exact pl_c (by decide)
    · exact pl_fmt e1 p1
  · exact (pss_cons (ps_expr (pe_ginit T.m_GuessError T.xr_GuessError T.xb_GuessError (pa_cons (pv 0) (pa_cons (pe_joined (.cons pe_str (.cons (pe_fmtD hr (pv 1)) .nil))) pa_nil)))) (pss_cons (ps_ost (pv 0) (pv 1)) pss_nil))
theorem xk_BadKind (T : Txt K mg A) : G.FnOk P w K mg base CX0 1 A.a_BadKind_init A.d_BadKind_init ["self", "part"] (spXi K (A.cl "BadKind") ["part"]) := by
  have nd := sc_BadKind_init.nd
  refine xi_1 (k := 0) (ts := [tC (.str "wrong option of a kind: "), tFmtD K (tVar 1)]) T.f_BadKind_init sc_BadKind_init rfl (fun σ H y1 e1 p1 t ht => ?_) (Nat.le_of_ble_eq_true rfl) fun cdv A' outer s H E hr => ?_
  · simp only [List.mem_cons, List.not_mem_nil, or_false] at ht
    rcases ht with rfl | rfl
    · exact pl_c (by decide)
    · exact pl_fmt e1 p1
  · exact (pss_cons (ps_expr (pe_ginit T.m_GuessError T.xr_GuessError T.xb_GuessError (pa_cons (pv 0) (pa_cons (pe_joined (.cons pe_str (.cons (pe_fmtD hr (pv 1)) .nil))) pa_nil)))) (pss_cons (ps_ost (pv 0) (pv 1)) pss_nil))
theorem xk_BadProgram (T : Txt K mg A) : G.FnOk P w K mg base CX0 1 A.a_BadProgram_init A.d_BadProgram_init ["self", "part"] (spXi K (A.cl "BadProgram") ["part"]) := by
  have nd := sc_BadProgram_init.nd
  refine xi_1 (k := 0) (ts := [tC (.str "not a program: "), tFmtD K (tVar 1)]) T.f_BadProgram_init sc_BadProgram_init rfl (fun σ H y1 e1 p1 t ht => ?_) (Nat.le_of_ble_eq_true rfl) fun cdv A' outer s H E hr => ?_
  · simp only [List.mem_cons, List.not_mem_nil, or_false] at ht
    rcases ht with rfl | rfl
    · exact pl_c (by decide)
    · exact pl_fmt e1 p1
  · exact (pss_cons (ps_expr (pe_ginit T.m_GuessError T.xr_GuessError T.xb_GuessError (pa_cons (pv 0) (pa_cons (pe_joined (.cons pe_str (.cons (pe_fmtD hr (pv 1)) .nil))) pa_nil)))) (pss_cons (ps_ost (pv 0) (pv 1)) pss_nil))
theorem xk_BadReader (T : Txt K mg A) : G.FnOk P w K mg base CX0 1 A.a_BadReader_init A.d_BadReader_init ["self", "part"] (spXi K (A.cl "BadReader") ["part"]) := by
  have nd := sc_BadReader_init.nd
  refine xi_1 (k := 0) (ts := [tC (.str "wrong option of a reader: "), tFmtD K (tVar 1)]) T.f_BadReader_init sc_BadReader_init rfl (fun σ H y1 e1 p1 t ht => ?_) (Nat.le_of_ble_eq_true rfl) fun cdv A' outer s H E hr => ?_
  · simp only [List.mem_cons, List.not_mem_nil, or_false] at ht
    rcases ht with rfl | rfl
    · exact pl_c (by decide)
    · exact pl_fmt e1 p1
  · exact (pss_cons (ps_expr (pe_ginit T.m_GuessError T.xr_GuessError T.xb_GuessError (pa_cons (pv 0) (pa_cons (pe_joined (.cons pe_str (.cons (pe_fmtD hr (pv 1)) .nil))) pa_nil)))) (pss_cons (ps_ost (pv 0) (pv 1)) pss_nil))
theorem xk_BadRun (T : Txt K mg A) : G.FnOk P w K mg base CX0 1 A.a_BadRun_init A.d_BadRun_init ["self", "part"] (spXi K (A.cl "BadRun") ["part"]) := by
  have nd := sc_BadRun_init.nd
  refine xi_1 (k := 0) (ts := [tC (.str "not a run of the program: "), tFmtD K (tVar 1)]) T.f_BadRun_init sc_BadRun_init rfl (fun σ H y1 e1 p1 t ht => ?_) (Nat.le_of_ble_eq_true rfl) fun cdv A' outer s H E hr => ?_
  · simp only [List.mem_cons, List.not_mem_nil, or_false] at ht
    rcases ht with rfl | rfl
    · exact pl_c (by decide)
    · exact pl_fmt e1 p1
  · exact (pss_cons (ps_expr (pe_ginit T.m_GuessError T.xr_GuessError T.xb_GuessError (pa_cons (pv 0) (pa_cons (pe_joined (.cons pe_str (.cons (pe_fmtD hr (pv 1)) .nil))) pa_nil)))) (pss_cons (ps_ost (pv 0) (pv 1)) pss_nil))
theorem xk_BadShape (T : Txt K mg A) : G.FnOk P w K mg base CX0 1 A.a_BadShape_init A.d_BadShape_init ["self", "part"] (spXi K (A.cl "BadShape") ["part"]) := by
  have nd := sc_BadShape_init.nd
  refine xi_1 (k := 0) (ts := [tC (.str "not a set of texts: "), tFmtD K (tVar 1)]) T.f_BadShape_init sc_BadShape_init rfl (fun σ H y1 e1 p1 t ht => ?_) (Nat.le_of_ble_eq_true rfl) fun cdv A' outer s H E hr => ?_
  · simp only [List.mem_cons, List.not_mem_nil, or_false] at ht
    rcases ht with rfl | rfl
    · exact pl_c (by decide)
    · exact pl_fmt e1 p1
  · exact (pss_cons (ps_expr (pe_ginit T.m_GuessError T.xr_GuessError T.xb_GuessError (pa_cons (pv 0) (pa_cons (pe_joined (.cons pe_str (.cons (pe_fmtD hr (pv 1)) .nil))) pa_nil)))) (pss_cons (ps_ost (pv 0) (pv 1)) pss_nil))
theorem xk_BadTable (T : Txt K mg A) : G.FnOk P w K mg base CX0 1 A.a_BadTable_init A.d_BadTable_init ["self", "part"] (spXi K (A.cl "BadTable") ["part"]) := by
  have nd := sc_BadTable_init.nd
  refine xi_1 (k := 0) (ts := [tC (.str "not a table: "), tFmtD K (tVar 1)]) T.f_BadTable_init sc_BadTable_init rfl (fun σ H y1 e1 p1 t ht => ?_) (Nat.le_of_ble_eq_true rfl) fun cdv A' outer s H E hr => ?_
  · simp only [List.mem_cons, List.not_mem_nil, or_false] at ht
    rcases ht with rfl | rfl
    · exact pl_c (by decide)
    · exact pl_fmt e1 p1
  · exact (pss_cons (ps_expr (pe_ginit T.m_GuessError T.xr_GuessError T.xb_GuessError (pa_cons (pv 0) (pa_cons (pe_joined (.cons pe_str (.cons (pe_fmtD hr (pv 1)) .nil))) pa_nil)))) (pss_cons (ps_ost (pv 0) (pv 1)) pss_nil))
theorem xk_Misfit (T : Txt K mg A) : G.FnOk P w K mg base CX0 1 A.a_Misfit_init A.d_Misfit_init ["self", "row", "column", "text"] (spXi K (A.cl "Misfit") ["row", "column", "text"]) := by
  have nd := sc_Misfit_init.nd
  refine xi_3 (k := 0) (ts := [tC (.str "row "), tFmtD K (tVar 1), tC (.str " of the column "), tFmtD K (tVar 2), tC (.str " does not fit: "), tFmtD K (tVar 3)]) T.f_Misfit_init sc_Misfit_init rfl (fun σ H y1 y2 y3 e1 p1 e2 p2 e3 p3 t ht => ?_) (Nat.le_of_ble_eq_true rfl) fun cdv A' outer s H E hr => ?_
  · simp only [List.mem_cons, List.not_mem_nil, or_false] at ht
    rcases ht with rfl | rfl | rfl | rfl | rfl | rfl
    · exact pl_c (by decide)
    · exact pl_fmt e1 p1
    · exact pl_c (by decide)
    · exact pl_fmt e2 p2
    · exact pl_c (by decide)
    · exact pl_fmt e3 p3
  · exact (pss_cons (ps_expr (pe_ginit T.m_GuessError T.xr_GuessError T.xb_GuessError (pa_cons (pv 0) (pa_cons (pe_joined (.cons pe_str (.cons (pe_fmtD hr (pv 1)) (.cons pe_str (.cons (pe_fmtD hr (pv 2)) (.cons pe_str (.cons (pe_fmtD hr (pv 3)) .nil))))))) pa_nil)))) (pss_cons (ps_ost (pv 0) (pv 1)) (pss_cons (ps_ost (pv 0) (pv 2)) (pss_cons (ps_ost (pv 0) (pv 3)) pss_nil))))
theorem xk_NoColumn (T : Txt K mg A) : G.FnOk P w K mg base CX0 1 A.a_NoColumn_init A.d_NoColumn_init ["self", "name"] (spXl K (A.cl "NoColumn") "name") := by
  have nd := sc_NoColumn_init.nd
  refine xl_1 (k := 0) (ts := [tC (.str "no such column: "), tFmtD K (tVar 1)]) T.f_NoColumn_init sc_NoColumn_init rfl (fun σ H y1 e1 p1 t ht => ?_) (Nat.le_of_ble_eq_true rfl) fun cdv A' outer s H E hr => ?_
  · simp only [List.mem_cons, List.not_mem_nil, or_false] at ht
    rcases ht with rfl | rfl
    · exact pl_c (by decide)
    · exact pl_fmt e1 p1
  · exact (pss_cons (ps_expr (pe_leinit T.zl_LookupError T.xb_LookupError (pa_cons (pv 0) (pa_cons (pe_joined (.cons pe_str (.cons (pe_fmtD hr (pv 1)) .nil))) pa_nil)))) (pss_cons (ps_ostL (pv 0) (pv 1)) pss_nil))
theorem xk_NoKind (T : Txt K mg A) : G.FnOk P w K mg base CX0 1 A.a_NoKind_init A.d_NoKind_init ["self", "name"] (spXl K (A.cl "NoKind") "name") := by
  have nd := sc_NoKind_init.nd
  refine xl_1 (k := 0) (ts := [tC (.str "no such kind: "), tFmtD K (tVar 1)]) T.f_NoKind_init sc_NoKind_init rfl (fun σ H y1 e1 p1 t ht => ?_) (Nat.le_of_ble_eq_true rfl) fun cdv A' outer s H E hr => ?_
  · simp only [List.mem_cons, List.not_mem_nil, or_false] at ht
    rcases ht with rfl | rfl
    · exact pl_c (by decide)
    · exact pl_fmt e1 p1
  · exact (pss_cons (ps_expr (pe_leinit T.zl_LookupError T.xb_LookupError (pa_cons (pv 0) (pa_cons (pe_joined (.cons pe_str (.cons (pe_fmtD hr (pv 1)) .nil))) pa_nil)))) (pss_cons (ps_ostL (pv 0) (pv 1)) pss_nil))
theorem xk_NoRow (T : Txt K mg A) : G.FnOk P w K mg base CX0 1 A.a_NoRow_init A.d_NoRow_init ["self", "at"] (spXl K (A.cl "NoRow") "at") := by
  have nd := sc_NoRow_init.nd
  refine xl_1 (k := 0) (ts := [tC (.str "no such row: "), tFmtD K (tVar 1)]) T.f_NoRow_init sc_NoRow_init rfl (fun σ H y1 e1 p1 t ht => ?_) (Nat.le_of_ble_eq_true rfl) fun cdv A' outer s H E hr => ?_
  · simp only [List.mem_cons, List.not_mem_nil, or_false] at ht
    rcases ht with rfl | rfl
    · exact pl_c (by decide)
    · exact pl_fmt e1 p1
  · exact (pss_cons (ps_expr (pe_leinit T.zl_LookupError T.xb_LookupError (pa_cons (pv 0) (pa_cons (pe_joined (.cons pe_str (.cons (pe_fmtD hr (pv 1)) .nil))) pa_nil)))) (pss_cons (ps_ostL (pv 0) (pv 1)) pss_nil))
theorem xk_NotHeld (T : Txt K mg A) : G.FnOk P w K mg base CX0 1 A.a_NotHeld_init A.d_NotHeld_init ["self", "column", "cell"] (spXi K (A.cl "NotHeld") ["column", "cell"]) := by
  have nd := sc_NotHeld_init.nd
  refine xi_2 (k := 0) (ts := [tC (.str "a column of the kind "), tFmtD K (tVar 1), tC (.str " cannot have cells of the kind "), tFmtD K (tVar 2)]) T.f_NotHeld_init sc_NotHeld_init rfl (fun σ H y1 y2 e1 p1 e2 p2 t ht => ?_) (Nat.le_of_ble_eq_true rfl) fun cdv A' outer s H E hr => ?_
  · simp only [List.mem_cons, List.not_mem_nil, or_false] at ht
    rcases ht with rfl | rfl | rfl | rfl
    · exact pl_c (by decide)
    · exact pl_fmt e1 p1
    · exact pl_c (by decide)
    · exact pl_fmt e2 p2
  · exact (pss_cons (ps_expr (pe_ginit T.m_GuessError T.xr_GuessError T.xb_GuessError (pa_cons (pv 0) (pa_cons (pe_joined (.cons pe_str (.cons (pe_fmtD hr (pv 1)) (.cons pe_str (.cons (pe_fmtD hr (pv 2)) .nil))))) pa_nil)))) (pss_cons (ps_ost (pv 0) (pv 1)) (pss_cons (ps_ost (pv 0) (pv 2)) pss_nil)))
theorem xk_OrderMatters (T : Txt K mg A) : G.FnOk P w K mg base CX0 1 A.a_OrderMatters_init A.d_OrderMatters_init ["self", "pieces"] (spXi K (A.cl "OrderMatters") ["pieces"]) := by
  have nd := sc_OrderMatters_init.nd
  refine xi_1 (k := 0) (ts := [tC (.str "the order or grouping of rows matters: "), tFmtD K (tVar 1)]) T.f_OrderMatters_init sc_OrderMatters_init rfl (fun σ H y1 e1 p1 t ht => ?_) (Nat.le_of_ble_eq_true rfl) fun cdv A' outer s H E hr => ?_
  · simp only [List.mem_cons, List.not_mem_nil, or_false] at ht
    rcases ht with rfl | rfl
    · exact pl_c (by decide)
    · exact pl_fmt e1 p1
  · exact (pss_cons (ps_expr (pe_ginit T.m_GuessError T.xr_GuessError T.xb_GuessError (pa_cons (pv 0) (pa_cons (pe_joined (.cons pe_str (.cons (pe_fmtD hr (pv 1)) .nil))) pa_nil)))) (pss_cons (ps_ost (pv 0) (pv 1)) pss_nil))
theorem xk_OtherBook (T : Txt K mg A) : G.FnOk P w K mg base CX0 1 A.a_OtherBook_init A.d_OtherBook_init ["self", "name"] (spXi K (A.cl "OtherBook") ["name"]) := by
  have nd := sc_OtherBook_init.nd
  refine xi_1 (k := 0) (ts := [tC (.str "a kind of another book: "), tFmtD K (tVar 1)]) T.f_OtherBook_init sc_OtherBook_init rfl (fun σ H y1 e1 p1 t ht => ?_) (Nat.le_of_ble_eq_true rfl) fun cdv A' outer s H E hr => ?_
  · simp only [List.mem_cons, List.not_mem_nil, or_false] at ht
    rcases ht with rfl | rfl
    · exact pl_c (by decide)
    · exact pl_fmt e1 p1
  · exact (pss_cons (ps_expr (pe_ginit T.m_GuessError T.xr_GuessError T.xb_GuessError (pa_cons (pv 0) (pa_cons (pe_joined (.cons pe_str (.cons (pe_fmtD hr (pv 1)) .nil))) pa_nil)))) (pss_cons (ps_ost (pv 0) (pv 1)) pss_nil))
theorem xk_Unfit (T : Txt K mg A) : G.FnOk P w K mg base CX0 1 A.a_Unfit_init A.d_Unfit_init ["self", "kind", "text"] (spXi K (A.cl "Unfit") ["kind", "text"]) := by
  have nd := sc_Unfit_init.nd
  refine xi_2 (k := 0) (ts := [tC (.str "not of the kind "), tFmtD K (tVar 1), tC (.str ": "), tFmtD K (tVar 2)]) T.f_Unfit_init sc_Unfit_init rfl (fun σ H y1 y2 e1 p1 e2 p2 t ht => ?_) (Nat.le_of_ble_eq_true rfl) fun cdv A' outer s H E hr => ?_
  · simp only [List.mem_cons, List.not_mem_nil, or_false] at ht
    rcases ht with rfl | rfl | rfl | rfl
    · exact pl_c (by decide)
    · exact pl_fmt e1 p1
    · exact pl_c (by decide)
    · exact pl_fmt e2 p2
  · exact (pss_cons (ps_expr (pe_ginit T.m_GuessError T.xr_GuessError T.xb_GuessError (pa_cons (pv 0) (pa_cons (pe_joined (.cons pe_str (.cons (pe_fmtD hr (pv 1)) (.cons pe_str (.cons (pe_fmtD hr (pv 2)) .nil))))) pa_nil)))) (pss_cons (ps_ost (pv 0) (pv 1)) (pss_cons (ps_ost (pv 0) (pv 2)) pss_nil)))
theorem ok_l_marks (T : Txt K mg A) : FnD P w K A.cl mg base 1 A.a_l_marks A.d_l_marks ["_law_e"] sp_l_marks := by
  have nd := sc_l_marks.nd
  refine fn_d (k := 0) (td := td_l_marks) T.f_l_marks sc_l_marks len_l_marks pure_l_marks fun cdv A' outer s H E hr => ?_
  exact (dss_cons (ds_set 1 nd (de_lst (da_cons (de_exi T.exi_BadShape T.z_isinstance (dv 0) (xis_own T.m_BadShape) rel_ref) (da_cons (de_exi T.exi_BadKind T.z_isinstance (dv 0) (xis_own T.m_BadKind) rel_ref) (da_cons (de_exi T.exi_BadBook T.z_isinstance (dv 0) (xis_own T.m_BadBook) rel_ref) (da_cons (de_exi T.exi_BadTable T.z_isinstance (dv 0) (xis_own T.m_BadTable) rel_ref) da_nil))))))
      (dss_cons (ds_set 1 nd (de_op od_add (dv 1) (de_lst (da_cons (de_exi T.exi_BadReader T.z_isinstance (dv 0) (xis_own T.m_BadReader) rel_ref) (da_cons (de_exi T.exi_BadCut T.z_isinstance (dv 0) (xis_own T.m_BadCut) rel_ref) (da_cons (de_exi T.exi_OtherBook T.z_isinstance (dv 0) (xis_own T.m_OtherBook) rel_ref) da_nil))))))
      (dss_cons (ds_set 1 nd (de_op od_add (dv 1) (de_lst (da_cons (de_exi T.exi_NotHeld T.z_isinstance (dv 0) (xis_own T.m_NotHeld) rel_ref) (da_cons (de_exi T.exi_OrderMatters T.z_isinstance (dv 0) (xis_own T.m_OrderMatters) rel_ref) (da_cons (de_exi T.exi_Unfit T.z_isinstance (dv 0) (xis_own T.m_Unfit) rel_ref) (da_cons (de_exi T.exi_Misfit T.z_isinstance (dv 0) (xis_own T.m_Misfit) rel_ref) da_nil)))))))
      (dss_cons (ds_set 1 nd (de_op od_add (dv 1) (de_lst (da_cons (de_exi T.exi_BadProgram T.z_isinstance (dv 0) (xis_own T.m_BadProgram) rel_ref) (da_cons (de_exi T.exi_BadRun T.z_isinstance (dv 0) (xis_own T.m_BadRun) rel_ref) (da_cons (de_exi T.exi_BadInput T.z_isinstance (dv 0) (xis_own T.m_BadInput) rel_ref) da_nil))))))
      (dss_one (ds_ret (de_op od_add (dv 1) (de_lst (da_cons (de_exi T.exi_NoKind T.z_isinstance (dv 0) (xis_own T.m_NoKind) rel_ref) (da_cons (de_exi T.exi_NoColumn T.z_isinstance (dv 0) (xis_own T.m_NoColumn) rel_ref) (da_cons (de_exi T.exi_NoRow T.z_isinstance (dv 0) (xis_own T.m_NoRow) rel_ref) da_nil)))))))))))
theorem ok_l_is_placed (T : Txt K mg A) : FnD P w K A.cl mg base 2 A.a_l_is_placed A.d_l_is_placed ["_law_e", "_law_at"] sp_l_is_placed := by
  have nd := sc_l_is_placed.nd
  refine fn_d (k := 1) (td := td_l_is_placed) T.f_l_is_placed sc_l_is_placed len_l_is_placed pure_l_is_placed fun cdv A' outer s H E hr => ?_
  exact (dss_cons (ds_if (dt_cmp (od_ne hr) (de_call (ok_l_marks T) (hr.mono (by decide)) T.m_l_marks T.f_l_marks.kp T.b_l_marks .nil (fun _ => .nil) (da_cons (dv 0) da_nil)) (de_fz (de_lc nd (di_rng1 T.z_range (da_cons de_int da_nil)) (blkOk_by (own := [("_law_k", 2)]) (N := ["_law_e", "_law_at", "_law_k"]) (sc := defScope s_l_is_placed) (by decide +kernel)) (fun _ _ _ _ _ => (do_name 2 nd)) (fun _ _ _ _ _ => dts_nil) (fun _ _ _ _ _ => (de_cmp (od_eq hr) (dv 2) (dv 1) (nomark _))))) (nomark _)) (dss_one (ds_ret de_bl)) dss_nil)
      (dss_cons (ds_if (PW.pt (dw_or (dt_cmp (od_ne hr) (de_exi T.exi_GuessError T.z_isinstance (dv 0) (xis_own T.m_GuessError) rel_ref) (de_cmp od_lt (dv 1) de_int (nomark _)) (nomark _)) (dw_or1 (dt_cmp (od_ne hr) (de_exi T.exi_ValueError T.z_isinstance (dv 0) (xis_blt T.z_ValueError PyProof.Rows.Boot.«ValueError») rel_ty) (de_cmp od_lt (dv 1) de_int (nomark _)) (nomark _))))) (dss_one (ds_ret de_bl)) dss_nil)
      (dss_one (ds_ret (de_cmp (od_eq hr) (de_exi T.exi_LookupError T.z_isinstance (dv 0) (xis_blt T.z_LookupError PyProof.Rows.Boot.«LookupError») rel_ty) (de_cmp od_ge (dv 1) de_int (nomark _)) (nomark _))))))
theorem ok_l_are_made (T : Txt K mg A) : FnD P w K A.cl mg base 3 A.a_l_are_made A.d_l_are_made ["_law_one", "_law_other", "_law_third"] sp_l_are_made := by
  have nd := sc_l_are_made.nd
  refine fn_d (k := 2) (td := td_l_are_made) T.f_l_are_made sc_l_are_made len_l_are_made pure_l_are_made fun cdv A' outer s H E hr => ?_
  exact (dss_cons (ds_set 3 nd (de_lst (da_cons (de_exv T.xo_BadShape T.xi_BadShape T.xt_BadShape T.xn_BadShape (xk_BadShape T) (hr.mono (by decide)) T.b_BadShape_init T.m_BadShape (da_cons (dv 0) da_nil)) (da_cons (de_exv T.xo_BadKind T.xi_BadKind T.xt_BadKind T.xn_BadKind (xk_BadKind T) (hr.mono (by decide)) T.b_BadKind_init T.m_BadKind (da_cons (dv 0) da_nil)) (da_cons (de_exv T.xo_BadBook T.xi_BadBook T.xt_BadBook T.xn_BadBook (xk_BadBook T) (hr.mono (by decide)) T.b_BadBook_init T.m_BadBook (da_cons (dv 0) da_nil)) (da_cons (de_exv T.xo_BadTable T.xi_BadTable T.xt_BadTable T.xn_BadTable (xk_BadTable T) (hr.mono (by decide)) T.b_BadTable_init T.m_BadTable (da_cons (dv 0) da_nil)) (da_cons (de_exv T.xo_BadReader T.xi_BadReader T.xt_BadReader T.xn_BadReader (xk_BadReader T) (hr.mono (by decide)) T.b_BadReader_init T.m_BadReader (da_cons (dv 0) da_nil)) da_nil)))))))
      (dss_cons (ds_set 4 nd (de_lst (da_cons (de_exv T.xo_NotHeld T.xi_NotHeld T.xt_NotHeld T.xn_NotHeld (xk_NotHeld T) (hr.mono (by decide)) T.b_NotHeld_init T.m_NotHeld (da_cons (dv 0) (da_cons (dv 1) da_nil))) (da_cons (de_exv T.xo_Unfit T.xi_Unfit T.xt_Unfit T.xn_Unfit (xk_Unfit T) (hr.mono (by decide)) T.b_Unfit_init T.m_Unfit (da_cons (dv 0) (da_cons (dv 1) da_nil))) (da_cons (de_exv T.xo_Misfit T.xi_Misfit T.xt_Misfit T.xn_Misfit (xk_Misfit T) (hr.mono (by decide)) T.b_Misfit_init T.m_Misfit (da_cons (dv 2) (da_cons (dv 0) (da_cons (dv 1) da_nil)))) da_nil)))))
      (dss_cons (ds_set 5 nd (de_lst (da_cons (de_exv T.xo_BadProgram T.xi_BadProgram T.xt_BadProgram T.xn_BadProgram (xk_BadProgram T) (hr.mono (by decide)) T.b_BadProgram_init T.m_BadProgram (da_cons (dv 0) da_nil)) (da_cons (de_exv T.xo_BadRun T.xi_BadRun T.xt_BadRun T.xn_BadRun (xk_BadRun T) (hr.mono (by decide)) T.b_BadRun_init T.m_BadRun (da_cons (dv 0) da_nil)) da_nil))))
      (dss_cons (ds_set 6 nd (de_lst (da_cons (de_exv T.xo_OtherBook T.xi_OtherBook T.xt_OtherBook T.xn_OtherBook (xk_OtherBook T) (hr.mono (by decide)) T.b_OtherBook_init T.m_OtherBook (da_cons (dv 0) da_nil)) (da_cons (de_exvL T.xo_NoKind T.xi_NoKind T.xt_NoKind T.xn_NoKind (xk_NoKind T) (hr.mono (by decide)) T.b_NoKind_init T.m_NoKind (da_cons (dv 0) da_nil)) (da_cons (de_exvL T.xo_NoColumn T.xi_NoColumn T.xt_NoColumn T.xn_NoColumn (xk_NoColumn T) (hr.mono (by decide)) T.b_NoColumn_init T.m_NoColumn (da_cons (dv 0) da_nil)) da_nil)))))
      (dss_cons (ds_par 7 8 nd (da_cons (de_exv T.xo_BadCut T.xi_BadCut T.xt_BadCut T.xn_BadCut (xk_BadCut T) (hr.mono (by decide)) T.b_BadCut_init T.m_BadCut (da_cons (dv 0) da_nil)) (da_cons (de_exv T.xo_OrderMatters T.xi_OrderMatters T.xt_OrderMatters T.xn_OrderMatters (xk_OrderMatters T) (hr.mono (by decide)) T.b_OrderMatters_init T.m_OrderMatters (da_cons (dv 0) da_nil)) da_nil)))
      (dss_cons (ds_par 9 10 nd (da_cons (de_exv T.xo_BadInput T.xi_BadInput T.xt_BadInput T.xn_BadInput (xk_BadInput T) (hr.mono (by decide)) T.b_BadInput_init T.m_BadInput (da_cons (dv 0) da_nil)) (da_cons (de_exvL T.xo_NoRow T.xi_NoRow T.xt_NoRow T.xn_NoRow (xk_NoRow T) (hr.mono (by decide)) T.b_NoRow_init T.m_NoRow (da_cons (dv 0) da_nil)) da_nil)))
      (dss_cons (ds_if (dt_cmp (od_ne hr) (de_fz (de_lc nd (di_list (de_op od_add (dv 3) (dv 5))) (blkOk_by (own := [("_law_e", 11)]) (N := ["_law_one", "_law_other", "_law_third", "_law_parts", "_law_pairs", "_law_rest", "_law_labels", "_law_cut", "_law_order", "_law_at", "_law_row", "_law_e", "_law_k"]) (sc := defScope s_l_are_made) (by decide +kernel)) (fun _ _ _ _ _ => (do_name 11 nd)) (fun _ _ _ _ _ => dts_nil) (fun _ _ _ _ _ => (de_callB (cd_repr hr.gd hr.units) T.z_repr boot_repr_ (da_cons (de_exf T.exf_part_BadShape_BadKind_BadBook_BadTable_BadReader_BadProgram_BadRun (dv 11)) da_nil))))) (de_op od_repL (de_lst (da_cons (de_callB (cd_repr hr.gd hr.units) T.z_repr boot_repr_ (da_cons (dv 0) da_nil)) da_nil)) de_int) (nomark _)) (dss_one (ds_ret de_bl)) dss_nil)
      (dss_cons (ds_if (dt_cmp (od_ne hr) (de_fz (de_lc nd (di_list (dv 6)) (blkOk_by (own := [("_law_e", 11)]) (N := ["_law_one", "_law_other", "_law_third", "_law_parts", "_law_pairs", "_law_rest", "_law_labels", "_law_cut", "_law_order", "_law_at", "_law_row", "_law_e", "_law_k"]) (sc := defScope s_l_are_made) (by decide +kernel)) (fun _ _ _ _ _ => (do_name 11 nd)) (fun _ _ _ _ _ => dts_nil) (fun _ _ _ _ _ => (de_callB (cd_repr hr.gd hr.units) T.z_repr boot_repr_ (da_cons (de_exf T.exf_name_OtherBook_NoKind_NoColumn (dv 11)) da_nil))))) (de_op od_repL (de_lst (da_cons (de_callB (cd_repr hr.gd hr.units) T.z_repr boot_repr_ (da_cons (dv 0) da_nil)) da_nil)) de_int) (nomark _)) (dss_one (ds_ret de_bl)) dss_nil)
      (dss_cons (ds_if (dt_cmp (od_ne hr) (de_lst (da_cons (de_callB (cd_repr hr.gd hr.units) T.z_repr boot_repr_ (da_cons (de_exf T.exf_cut_BadCut (dv 7)) da_nil)) (da_cons (de_callB (cd_repr hr.gd hr.units) T.z_repr boot_repr_ (da_cons (de_exf T.exf_pieces_OrderMatters (dv 8)) da_nil)) (da_cons (de_callB (cd_repr hr.gd hr.units) T.z_repr boot_repr_ (da_cons (de_exf T.exf_at_BadInput_NoRow (dv 9)) da_nil)) (da_cons (de_callB (cd_repr hr.gd hr.units) T.z_repr boot_repr_ (da_cons (de_exf T.exf_at_BadInput_NoRow (dv 10)) da_nil)) da_nil))))) (de_op od_repL (de_lst (da_cons (de_callB (cd_repr hr.gd hr.units) T.z_repr boot_repr_ (da_cons (dv 0) da_nil)) da_nil)) de_int) (nomark _)) (dss_one (ds_ret de_bl)) dss_nil)
      (dss_cons (ds_if (dt_cmp (od_ne hr) (de_callB (cd_repr hr.gd hr.units) T.z_repr boot_repr_ (da_cons (de_lst (da_cons (de_exf T.exf_column_NotHeld_Misfit (de_ix (dv 4) de_int)) (da_cons (de_exf T.exf_cell_NotHeld (de_ix (dv 4) de_int)) da_nil))) da_nil)) (de_callB (cd_repr hr.gd hr.units) T.z_repr boot_repr_ (da_cons (de_lst (da_cons (dv 0) (da_cons (dv 1) da_nil))) da_nil)) (nomark _)) (dss_one (ds_ret de_bl)) dss_nil)
      (dss_cons (ds_if (dt_cmp (od_ne hr) (de_callB (cd_repr hr.gd hr.units) T.z_repr boot_repr_ (da_cons (de_lst (da_cons (de_exf T.exf_kind_Unfit (de_ix (dv 4) de_int)) (da_cons (de_exf T.exf_text_Unfit_Misfit (de_ix (dv 4) de_int)) da_nil))) da_nil)) (de_callB (cd_repr hr.gd hr.units) T.z_repr boot_repr_ (da_cons (de_lst (da_cons (dv 0) (da_cons (dv 1) da_nil))) da_nil)) (nomark _)) (dss_one (ds_ret de_bl)) dss_nil)
      (dss_cons (ds_if (dt_cmp (od_ne hr) (de_callB (cd_repr hr.gd hr.units) T.z_repr boot_repr_ (da_cons (de_lst (da_cons (de_exf T.exf_row_Misfit (de_ix (dv 4) de_int)) (da_cons (de_exf T.exf_column_NotHeld_Misfit (de_ix (dv 4) de_int)) (da_cons (de_exf T.exf_text_Unfit_Misfit (de_ix (dv 4) de_int)) da_nil)))) da_nil)) (de_callB (cd_repr hr.gd hr.units) T.z_repr boot_repr_ (da_cons (de_lst (da_cons (dv 2) (da_cons (dv 0) (da_cons (dv 1) da_nil)))) da_nil)) (nomark _)) (dss_one (ds_ret de_bl)) dss_nil)
      (dss_cons (ds_set 10 nd (de_op od_add (de_op od_add (de_op od_add (dv 3) (de_lst (da_cons (dv 7) (da_cons (de_ix (dv 6) de_int) (da_cons (de_ix (dv 4) de_int) (da_cons (dv 8) (da_cons (de_ix (dv 4) de_int) (da_cons (de_ix (dv 4) de_int) da_nil)))))))) (dv 5)) (de_lst (da_cons (dv 9) (da_cons (de_ix (dv 6) de_int) (da_cons (de_ix (dv 6) de_int) (da_cons (dv 10) da_nil)))))))
      (dss_one (ds_ret (de_callB cd_all T.z_all boot_all_ (da_cons (de_fz (de_lc nd (di_enumS T.z_enumerate (da_cons (dv 10) da_nil)) (blkOk_by (own := [("_law_k", 12), ("_law_e", 11)]) (N := ["_law_one", "_law_other", "_law_third", "_law_parts", "_law_pairs", "_law_rest", "_law_labels", "_law_cut", "_law_order", "_law_at", "_law_row", "_law_e", "_law_k"]) (sc := defScope s_l_are_made) (by decide +kernel)) (fun _ _ _ _ _ => (do_tup (dos_cons (do_name 12 nd) (dos_cons (do_name 11 nd) dos_nil)))) (fun _ _ _ _ _ => dts_nil) (fun _ _ _ _ _ => (de_call (ok_l_is_placed T) (hr.mono (by decide)) T.m_l_is_placed T.f_l_is_placed.kp T.b_l_is_placed .nil (fun _ => .nil) (da_cons (dv 11) (da_cons (dv 12) da_nil)))))) da_nil)))))))))))))))))
theorem ok_l_take (T : Txt K mg A) : FnD P w K A.cl mg base 1 A.a_l_take A.d_l_take ["_law_bag_here", "_law_many"] sp_l_take := by
  have nd := sc_l_take.nd
  refine fn_d (k := 0) (td := td_l_take) T.f_l_take sc_l_take len_l_take pure_l_take fun cdv A' outer s H E hr => ?_
  exact (dss_cons (ds_if (dt_cmp od_gt (de_ix (dv 0) de_int) de_int (nomark _)) (dss_cons (ds_set 2 nd (de_op od_mod (de_callTy cd_int T.z_int boot_int_ (da_cons (de_ix (dv 0) de_int) da_nil)) (dv 1)))
      (dss_cons (ds_asg (de_op od_fdiv (de_ix (dv 0) de_int) (dv 1)) (dg_sub (dv 0) de_int st_list))
      (dss_one (ds_ret (dv 2))))) dss_nil)
      (dss_cons (ds_asg (de_op od_add (de_ix (dv 0) de_int) de_int) (dg_sub (dv 0) de_int st_list))
      (dss_cons (ds_set 3 nd (de_op od_mod (de_callTy cd_int T.z_int boot_int_ (da_cons (de_op od_pow (de_op od_add (de_ix (dv 0) de_int) (de_op od_mul de_int (de_ix (dv 0) de_int))) de_int) da_nil)) de_int))
      (dss_cons (ds_set 3 nd (de_op od_mod (de_callTy cd_int T.z_int boot_int_ (da_cons (de_op od_pow (de_op od_add (dv 3) (de_op od_mul de_int (de_ix (dv 0) de_int))) de_int) da_nil)) de_int))
      (dss_one (ds_ret (de_op od_mod (de_callTy cd_int T.z_int boot_int_ (da_cons (de_op od_fdiv (dv 3) de_int) da_nil)) (dv 1))))))))
theorem ok_l_of (T : Txt K mg A) : FnD P w K A.cl mg base 2 A.a_l_of A.d_l_of ["_law_bag_here", "_law_some"] sp_l_of := by
  have nd := sc_l_of.nd
  refine fn_d (k := 1) (td := td_l_of) T.f_l_of sc_l_of len_l_of pure_l_of fun cdv A' outer s H E hr => ?_
  exact (dss_one (ds_ret (de_ix (dv 1) (de_call (ok_l_take T) (hr.mono (by decide)) T.m_l_take T.f_l_take.kp T.b_l_take .nil (fun _ => .nil) (da_cons (dv 0) (da_cons (de_callB cd_len T.z_len boot_len_ (da_cons (dv 1) da_nil)) da_nil))))))
theorem ok_l_signs (T : Txt K mg A) : FnD P w K A.cl mg base 1 A.a_l_signs A.d_l_signs [] sp_l_signs := by
  have nd := sc_l_signs.nd
  refine fn_d (k := 0) (td := td_l_signs) T.f_l_signs sc_l_signs len_l_signs pure_l_signs fun cdv A' outer s H E hr => ?_
  exact (dss_cons (ds_set 0 nd (de_str (l := [32, 33, 34, 35, 36, 38, 39, 40, 41, 42, 43, 44, 45, 46, 47, 48, 49, 50, 51, 52, 53, 54, 55, 56, 57, 58, 59, 60, 61, 62, 63, 64, 65, 66, 67, 68, 69, 70, 71, 72, 73, 74, 75, 76, 77, 78, 79, 80, 81, 82, 83, 84, 85, 86, 87, 88, 89, 90, 91, 92, 93, 94, 95])))
      (dss_one (ds_ret (de_op od_add (dv 0) (de_str (l := [96, 97, 98, 99, 100, 101, 102, 103, 104, 105, 106, 107, 108, 109, 110, 111, 112, 113, 114, 115, 116, 117, 118, 119, 120, 121, 122, 123, 124, 125, 126]))))))
theorem ok_l_digits (T : Txt K mg A) : FnD P w K A.cl mg base 3 A.a_l_digits A.d_l_digits ["_law_bag_here", "_law_least", "_law_most"] sp_l_digits := by
  have nd := sc_l_digits.nd
  refine fn_d (k := 2) (td := td_l_digitsR) T.f_l_digits sc_l_digits len_l_digitsR pure_l_digitsR fun cdv A' outer s H E hr => ?_
  exact (dss_cons (ds_set 3 nd (de_op od_add (dv 1) (de_call (ok_l_take T) (hr.mono (by decide)) T.m_l_take T.f_l_take.kp T.b_l_take .nil (fun _ => .nil) (da_cons (dv 0) (da_cons (de_op od_add (de_op od_sub (dv 2) (dv 1)) de_int) da_nil)))))
      (dss_one (ds_ret (de_bm PySem.F.plainAttrs_str PySem.F.slot_str_join PySem.F.type_str_join md_join (de_str (l := [])) (da_cons (de_fz (de_lc nd (di_rng1 T.z_range (da_cons (dv 3) da_nil)) (blkOk_by (own := [("_law_turn", 4)]) (N := ["_law_bag_here", "_law_least", "_law_most", "_law_many", "_law_turn"]) (sc := defScope s_l_digits) (by decide +kernel)) (fun _ _ _ _ _ => (do_name 4 nd)) (fun _ _ _ _ _ => dts_nil) (fun _ _ _ _ _ => (de_call (ok_l_of T) (hr.mono (by decide)) T.m_l_of T.f_l_of.kp T.b_l_of .nil (fun _ => .nil) (da_cons (dv 0) (da_cons (de_str (l := [48, 48, 48, 49, 50, 51, 52, 53, 54, 55, 56, 57])) da_nil)))))) da_nil)))))
theorem ok_l_text (T : Txt K mg A) : FnD P w K A.cl mg base 4 A.a_l_text A.d_l_text ["_law_bag_here"] sp_l_text := by
  have nd := sc_l_text.nd
  refine fn_d (k := 3) (td := td_l_textR) T.f_l_text sc_l_text len_l_textR pure_l_textR fun cdv A' outer s H E hr => ?_
  exact (dss_cons (ds_set 1 nd (de_call (ok_l_take T) (hr.mono (by decide)) T.m_l_take T.f_l_take.kp T.b_l_take .nil (fun _ => .nil) (da_cons (dv 0) (da_cons de_int da_nil))))
      (dss_cons (ds_if (dt_cmp (od_eq hr) (dv 1) de_int (nomark _)) (dss_one (ds_ret (de_op od_add (de_op od_add (de_call (ok_l_of T) (hr.mono (by decide)) T.m_l_of T.f_l_of.kp T.b_l_of .nil (fun _ => .nil) (da_cons (dv 0) (da_cons (de_lst (da_cons (de_str (l := [])) (da_cons (de_str (l := [])) (da_cons (de_str (l := [45])) (da_cons (de_str (l := [43])) da_nil))))) da_nil))) (de_call (ok_l_digits T) (hr.mono (by decide)) T.m_l_digits T.f_l_digits.kp T.b_l_digits .nil (fun _ => .nil) (da_cons (dv 0) (da_cons de_int (da_cons de_int da_nil))))) (de_call (ok_l_of T) (hr.mono (by decide)) T.m_l_of T.f_l_of.kp T.b_l_of .nil (fun _ => .nil) (da_cons (dv 0) (da_cons (de_lst (da_cons (de_str (l := [])) (da_cons (de_str (l := [46, 48])) (da_cons (de_str (l := [46, 53])) (da_cons (de_str (l := [46, 50, 53])) da_nil))))) da_nil)))))) dss_nil)
      (dss_cons (ds_set 2 nd (de_ifExp (dt_cmp (od_eq hr) (dv 1) de_int (nomark _)) (de_call0 (ok_l_signs T) (hr.mono (by decide)) T.m_l_signs T.f_l_signs.kp T.b_l_signs .nil (fun _ => .nil)) (de_str (l := [48, 48, 49, 57, 43, 45, 46, 32]))))
      (dss_one (ds_ret (de_bm PySem.F.plainAttrs_str PySem.F.slot_str_join PySem.F.type_str_join md_join (de_str (l := [])) (da_cons (de_fz (de_lc nd (di_rng1 T.z_range (da_cons (de_call (ok_l_take T) (hr.mono (by decide)) T.m_l_take T.f_l_take.kp T.b_l_take .nil (fun _ => .nil) (da_cons (dv 0) (da_cons de_int da_nil))) da_nil)) (blkOk_by (own := [("_law_turn", 3)]) (N := ["_law_bag_here", "_law_road", "_law_some", "_law_turn"]) (sc := defScope s_l_text) (by decide +kernel)) (fun _ _ _ _ _ => (do_name 3 nd)) (fun _ _ _ _ _ => dts_nil) (fun _ _ _ _ _ => (de_call (ok_l_of T) (hr.mono (by decide)) T.m_l_of T.f_l_of.kp T.b_l_of .nil (fun _ => .nil) (da_cons (dv 0) (da_cons (dv 2) da_nil)))))) da_nil)))))))
theorem ok_l_thing_0 (T : Txt K mg A) : FnD P w K A.cl mg base 5 A.a_l_thing A.d_l_thing ["_law_bag_here", "_law_deep"] (spR_l_thing 0) := fnD_no fun ds C Q E h => h
theorem ok_l_thing_1 (T : Txt K mg A) : FnD P w K A.cl mg base 6 A.a_l_thing A.d_l_thing ["_law_bag_here", "_law_deep"] (spR_l_thing 1) := by
  have nd := sc_l_thing.nd
  refine fn_d (k := 5) (td := td_l_thing (spR_l_thing 0)) T.f_l_thing sc_l_thing (len_l_thing 0) (pure_l_thing 0) fun cdv A' outer s H E hr => ?_
  exact (dss_cons (ds_set 2 nd (de_call (ok_l_take T) (hr.mono (by decide)) T.m_l_take T.f_l_take.kp T.b_l_take .nil (fun _ => .nil) (da_cons (dv 0) (da_cons (de_ifExp (dt_cmp od_gt (dv 1) de_int (nomark _)) de_int de_int) da_nil))))
      (dss_cons (ds_if (dt_cmp (od_eq hr) (dv 2) de_int (nomark _)) (dss_one (ds_ret de_non)) dss_nil)
      (dss_cons (ds_if (dt_cmp (od_eq hr) (dv 2) de_int (nomark _)) (dss_one (ds_ret (de_cmp (od_eq hr) (de_call (ok_l_take T) (hr.mono (by decide)) T.m_l_take T.f_l_take.kp T.b_l_take .nil (fun _ => .nil) (da_cons (dv 0) (da_cons de_int da_nil))) de_int (nomark _)))) dss_nil)
      (dss_cons (ds_if (dt_cmp (od_eq hr) (dv 2) de_int (nomark _)) (dss_one (ds_ret (de_op od_sub (de_call (ok_l_take T) (hr.mono (by decide)) T.m_l_take T.f_l_take.kp T.b_l_take .nil (fun _ => .nil) (da_cons (dv 0) (da_cons de_int da_nil))) de_int))) dss_nil)
      (dss_cons (ds_if (dt_cmp (od_eq hr) (dv 2) de_int (nomark _)) (dss_one (ds_ret (de_op od_mul (de_op od_sub (de_op od_mul (de_call (ok_l_take T) (hr.mono (by decide)) T.m_l_take T.f_l_take.kp T.b_l_take .nil (fun _ => .nil) (da_cons (dv 0) (da_cons de_int da_nil))) de_int) de_int) (de_call (ok_l_take T) (hr.mono (by decide)) T.m_l_take T.f_l_take.kp T.b_l_take .nil (fun _ => .nil) (da_cons (dv 0) (da_cons (de_op od_pow de_int de_int) da_nil)))))) dss_nil)
      (dss_cons (ds_if (dt_cmp od_lt (dv 2) de_int (nomark _)) (dss_one (ds_ret (de_call (ok_l_text T) (hr.mono (by decide)) T.m_l_text T.f_l_text.kp T.b_l_text .nil (fun _ => .nil) (da_cons (dv 0) da_nil)))) dss_nil)
      (dss_cons (ds_setLcF 3 nd (di_rng1 T.z_range (da_cons (de_call (ok_l_take T) (hr.mono (by decide)) T.m_l_take T.f_l_take.kp T.b_l_take .nil (fun _ => .nil) (da_cons (dv 0) (da_cons de_int da_nil))) da_nil)) (blkOk_by (own := [("_law_turn", 4)]) (N := ["_law_bag_here", "_law_deep", "_law_road", "_law_some", "_law_turn"]) (sc := defScope s_l_thing) (by decide +kernel)) (fun _ _ _ _ _ => (do_name 4 nd)) (fun _ _ _ _ _ => dts_nil) (fun _ _ _ _ _ => (de_call (ok_l_thing_0 T) (hr.mono (by decide)) T.m_l_thing T.f_l_thing.kp T.b_l_thing .nil (fun _ => .nil) (da_cons (dv 0) (da_cons (de_op od_sub (dv 1) de_int) da_nil)))) (sw_true rfl rfl rfl (by decide +kernel)))
      (dss_one (ds_ret (de_ifExp (dt_cmp (od_eq hr) (dv 2) de_int (nomark _)) (dv 3) (de_callTy cd_tuple T.z_tuple boot_tuple_ (da_cons (dv 3) da_nil))))))))))))
theorem ok_l_thing_2 (T : Txt K mg A) : FnD P w K A.cl mg base 7 A.a_l_thing A.d_l_thing ["_law_bag_here", "_law_deep"] (spR_l_thing 2) := by
  have nd := sc_l_thing.nd
  refine fn_d (k := 6) (td := td_l_thing (spR_l_thing 1)) T.f_l_thing sc_l_thing (len_l_thing 1) (pure_l_thing 1) fun cdv A' outer s H E hr => ?_
  exact (dss_cons (ds_set 2 nd (de_call (ok_l_take T) (hr.mono (by decide)) T.m_l_take T.f_l_take.kp T.b_l_take .nil (fun _ => .nil) (da_cons (dv 0) (da_cons (de_ifExp (dt_cmp od_gt (dv 1) de_int (nomark _)) de_int de_int) da_nil))))
      (dss_cons (ds_if (dt_cmp (od_eq hr) (dv 2) de_int (nomark _)) (dss_one (ds_ret de_non)) dss_nil)
      (dss_cons (ds_if (dt_cmp (od_eq hr) (dv 2) de_int (nomark _)) (dss_one (ds_ret (de_cmp (od_eq hr) (de_call (ok_l_take T) (hr.mono (by decide)) T.m_l_take T.f_l_take.kp T.b_l_take .nil (fun _ => .nil) (da_cons (dv 0) (da_cons de_int da_nil))) de_int (nomark _)))) dss_nil)
      (dss_cons (ds_if (dt_cmp (od_eq hr) (dv 2) de_int (nomark _)) (dss_one (ds_ret (de_op od_sub (de_call (ok_l_take T) (hr.mono (by decide)) T.m_l_take T.f_l_take.kp T.b_l_take .nil (fun _ => .nil) (da_cons (dv 0) (da_cons de_int da_nil))) de_int))) dss_nil)
      (dss_cons (ds_if (dt_cmp (od_eq hr) (dv 2) de_int (nomark _)) (dss_one (ds_ret (de_op od_mul (de_op od_sub (de_op od_mul (de_call (ok_l_take T) (hr.mono (by decide)) T.m_l_take T.f_l_take.kp T.b_l_take .nil (fun _ => .nil) (da_cons (dv 0) (da_cons de_int da_nil))) de_int) de_int) (de_call (ok_l_take T) (hr.mono (by decide)) T.m_l_take T.f_l_take.kp T.b_l_take .nil (fun _ => .nil) (da_cons (dv 0) (da_cons (de_op od_pow de_int de_int) da_nil)))))) dss_nil)
      (dss_cons (ds_if (dt_cmp od_lt (dv 2) de_int (nomark _)) (dss_one (ds_ret (de_call (ok_l_text T) (hr.mono (by decide)) T.m_l_text T.f_l_text.kp T.b_l_text .nil (fun _ => .nil) (da_cons (dv 0) da_nil)))) dss_nil)
      (dss_cons (ds_setLcF 3 nd (di_rng1 T.z_range (da_cons (de_call (ok_l_take T) (hr.mono (by decide)) T.m_l_take T.f_l_take.kp T.b_l_take .nil (fun _ => .nil) (da_cons (dv 0) (da_cons de_int da_nil))) da_nil)) (blkOk_by (own := [("_law_turn", 4)]) (N := ["_law_bag_here", "_law_deep", "_law_road", "_law_some", "_law_turn"]) (sc := defScope s_l_thing) (by decide +kernel)) (fun _ _ _ _ _ => (do_name 4 nd)) (fun _ _ _ _ _ => dts_nil) (fun _ _ _ _ _ => (de_call (ok_l_thing_1 T) (hr.mono (by decide)) T.m_l_thing T.f_l_thing.kp T.b_l_thing .nil (fun _ => .nil) (da_cons (dv 0) (da_cons (de_op od_sub (dv 1) de_int) da_nil)))) (sw_true rfl rfl rfl (by decide +kernel)))
      (dss_one (ds_ret (de_ifExp (dt_cmp (od_eq hr) (dv 2) de_int (nomark _)) (dv 3) (de_callTy cd_tuple T.z_tuple boot_tuple_ (da_cons (dv 3) da_nil))))))))))))
theorem ok_l_thing_3 (T : Txt K mg A) : FnD P w K A.cl mg base 8 A.a_l_thing A.d_l_thing ["_law_bag_here", "_law_deep"] (spR_l_thing 3) := by
  have nd := sc_l_thing.nd
  refine fn_d (k := 7) (td := td_l_thing (spR_l_thing 2)) T.f_l_thing sc_l_thing (len_l_thing 2) (pure_l_thing 2) fun cdv A' outer s H E hr => ?_
  exact (dss_cons (ds_set 2 nd (de_call (ok_l_take T) (hr.mono (by decide)) T.m_l_take T.f_l_take.kp T.b_l_take .nil (fun _ => .nil) (da_cons (dv 0) (da_cons (de_ifExp (dt_cmp od_gt (dv 1) de_int (nomark _)) de_int de_int) da_nil))))
      (dss_cons (ds_if (dt_cmp (od_eq hr) (dv 2) de_int (nomark _)) (dss_one (ds_ret de_non)) dss_nil)
      (dss_cons (ds_if (dt_cmp (od_eq hr) (dv 2) de_int (nomark _)) (dss_one (ds_ret (de_cmp (od_eq hr) (de_call (ok_l_take T) (hr.mono (by decide)) T.m_l_take T.f_l_take.kp T.b_l_take .nil (fun _ => .nil) (da_cons (dv 0) (da_cons de_int da_nil))) de_int (nomark _)))) dss_nil)
      (dss_cons (ds_if (dt_cmp (od_eq hr) (dv 2) de_int (nomark _)) (dss_one (ds_ret (de_op od_sub (de_call (ok_l_take T) (hr.mono (by decide)) T.m_l_take T.f_l_take.kp T.b_l_take .nil (fun _ => .nil) (da_cons (dv 0) (da_cons de_int da_nil))) de_int))) dss_nil)
      (dss_cons (ds_if (dt_cmp (od_eq hr) (dv 2) de_int (nomark _)) (dss_one (ds_ret (de_op od_mul (de_op od_sub (de_op od_mul (de_call (ok_l_take T) (hr.mono (by decide)) T.m_l_take T.f_l_take.kp T.b_l_take .nil (fun _ => .nil) (da_cons (dv 0) (da_cons de_int da_nil))) de_int) de_int) (de_call (ok_l_take T) (hr.mono (by decide)) T.m_l_take T.f_l_take.kp T.b_l_take .nil (fun _ => .nil) (da_cons (dv 0) (da_cons (de_op od_pow de_int de_int) da_nil)))))) dss_nil)
      (dss_cons (ds_if (dt_cmp od_lt (dv 2) de_int (nomark _)) (dss_one (ds_ret (de_call (ok_l_text T) (hr.mono (by decide)) T.m_l_text T.f_l_text.kp T.b_l_text .nil (fun _ => .nil) (da_cons (dv 0) da_nil)))) dss_nil)
      (dss_cons (ds_setLcF 3 nd (di_rng1 T.z_range (da_cons (de_call (ok_l_take T) (hr.mono (by decide)) T.m_l_take T.f_l_take.kp T.b_l_take .nil (fun _ => .nil) (da_cons (dv 0) (da_cons de_int da_nil))) da_nil)) (blkOk_by (own := [("_law_turn", 4)]) (N := ["_law_bag_here", "_law_deep", "_law_road", "_law_some", "_law_turn"]) (sc := defScope s_l_thing) (by decide +kernel)) (fun _ _ _ _ _ => (do_name 4 nd)) (fun _ _ _ _ _ => dts_nil) (fun _ _ _ _ _ => (de_call (ok_l_thing_2 T) (hr.mono (by decide)) T.m_l_thing T.f_l_thing.kp T.b_l_thing .nil (fun _ => .nil) (da_cons (dv 0) (da_cons (de_op od_sub (dv 1) de_int) da_nil)))) (sw_true rfl rfl rfl (by decide +kernel)))
      (dss_one (ds_ret (de_ifExp (dt_cmp (od_eq hr) (dv 2) de_int (nomark _)) (dv 3) (de_callTy cd_tuple T.z_tuple boot_tuple_ (da_cons (dv 3) da_nil))))))))))))
theorem ok_l_thing (T : Txt K mg A) : FnD P w K A.cl mg base 8 A.a_l_thing A.d_l_thing ["_law_bag_here", "_law_deep"] sp_l_thing := ok_l_thing_3 T
theorem ok_l_bag (T : Txt K mg A) : FnD P w K A.cl mg base 1 A.a_l_bag A.d_l_bag ["_law_script", "_law_at"] sp_l_bag := by
  have nd := sc_l_bag.nd
  refine fn_d (k := 0) (td := td_l_bag) T.f_l_bag sc_l_bag len_l_bag pure_l_bag fun cdv A' outer s H E hr => ?_
  exact (dss_cons (ds_set 2 nd (de_ifExp (dt_cmp od_lt (dv 1) (de_callB cd_len T.z_len boot_len_ (da_cons (dv 0) da_nil)) (nomark _)) (de_ix (dv 0) (dv 1)) de_int))
      (dss_cons (ds_set 3 nd (de_ifExp (dt_cmp od_ge (de_callB cd_abs T.z_abs boot_abs_ (da_cons (dv 2) da_nil)) (de_op od_pow de_int de_int) (nomark _)) (de_callB cd_abs T.z_abs boot_abs_ (da_cons (dv 2) da_nil)) de_int))
      (dss_one (ds_ret (de_lstC (da_cons (dv 3) (da_cons (de_op od_add (de_op od_add (de_op od_mul (de_op od_mod (de_callTy cd_int T.z_int boot_int_ (da_cons (dv 2) da_nil)) de_int) de_int) (de_op od_mul de_int (dv 1))) de_int) (da_cons de_int da_nil))))))))
theorem ok_law (T : Txt K mg A) : FnD P w K A.cl mg base 9 A.a_law A.d_law ["_law_script"] sp_law := by
  have nd := sc_law.nd
  refine fn_d (k := 8) (td := td_law) T.f_law sc_law len_law pure_law fun cdv A' outer s H E hr => ?_
  exact (dss_cons (ds_for PassesOwn.never (di_rng1 T.z_range (da_cons (de_callB cd_max T.z_max boot_max_ (da_cons de_int (da_cons (de_callB cd_min T.z_min boot_min_ (da_cons de_int (da_cons (de_callB cd_len T.z_len boot_len_ (da_cons (dv 0) da_nil)) da_nil))) da_nil))) da_nil)) (dg_name 1 nd) (dss_cons (ds_set 2 nd (de_call (ok_l_bag T) (hr.mono (by decide)) T.m_l_bag T.f_l_bag.kp T.b_l_bag .nil (fun _ => .nil) (da_cons (dv 0) (da_cons (dv 1) da_nil))))
      (dss_one (ds_for PassesOwn.never (di_rng1 T.z_range (da_cons de_int da_nil)) (dg_name 3 nd) (dss_one (ds_if (dt_not (dt_val (de_call (ok_l_are_made T) (hr.mono (by decide)) T.m_l_are_made T.f_l_are_made.kp T.b_l_are_made .nil (fun _ => .nil) (da_cons (de_call (ok_l_thing T) (hr.mono (by decide)) T.m_l_thing T.f_l_thing.kp T.b_l_thing .nil (fun _ => .nil) (da_cons (dv 2) (da_cons de_int da_nil))) (da_cons (de_call (ok_l_thing T) (hr.mono (by decide)) T.m_l_thing T.f_l_thing.kp T.b_l_thing .nil (fun _ => .nil) (da_cons (dv 2) (da_cons de_int da_nil))) (da_cons (de_call (ok_l_thing T) (hr.mono (by decide)) T.m_l_thing T.f_l_thing.kp T.b_l_thing .nil (fun _ => .nil) (da_cons (dv 2) (da_cons de_int da_nil))) da_nil)))))) (dss_one (ds_ret de_bl)) dss_nil))))))
      (dss_one (ds_ret de_bl)))
end
theorem all_mk {l : PySem.W.OpenLaw} {w : World} {K : PySem.W.Frag} {h : Heap} {mg : Str → Option Value} {fa : Addr} (X : K.In h) (G : h.Ns mainGlobals mg) (hfa : mg "law" = some (.ref fa))
    {f_l_marks : Addr} {d_l_marks : FuncData}
    {f_l_is_placed : Addr} {d_l_is_placed : FuncData}
    {f_l_are_made : Addr} {d_l_are_made : FuncData}
    {f_l_take : Addr} {d_l_take : FuncData}
    {f_l_of : Addr} {d_l_of : FuncData}
    {f_l_signs : Addr} {d_l_signs : FuncData}
    {f_l_digits : Addr} {d_l_digits : FuncData}
    {f_l_text : Addr} {d_l_text : FuncData}
    {f_l_thing : Addr} {d_l_thing : FuncData}
    {f_l_bag : Addr} {d_l_bag : FuncData}
    {f_law : Addr} {d_law : FuncData}
    {C_GuessError : Addr}
    {C_BadShape : Addr}
    {C_BadKind : Addr}
    {C_BadBook : Addr}
    {C_BadTable : Addr}
    {C_BadReader : Addr}
    {C_BadCut : Addr}
    {C_OtherBook : Addr}
    {C_NotHeld : Addr}
    {C_OrderMatters : Addr}
    {C_Unfit : Addr}
    {C_Misfit : Addr}
    {C_BadProgram : Addr}
    {C_BadRun : Addr}
    {C_BadInput : Addr}
    {C_NoKind : Addr}
    {C_NoColumn : Addr}
    {C_NoRow : Addr}
    {f_BadBook_init : Addr} {d_BadBook_init : FuncData}
    {f_BadCut_init : Addr} {d_BadCut_init : FuncData}
    {f_BadInput_init : Addr} {d_BadInput_init : FuncData}
    {f_BadKind_init : Addr} {d_BadKind_init : FuncData}
    {f_BadProgram_init : Addr} {d_BadProgram_init : FuncData}
    {f_BadReader_init : Addr} {d_BadReader_init : FuncData}
    {f_BadRun_init : Addr} {d_BadRun_init : FuncData}
    {f_BadShape_init : Addr} {d_BadShape_init : FuncData}
    {f_BadTable_init : Addr} {d_BadTable_init : FuncData}
    {f_Misfit_init : Addr} {d_Misfit_init : FuncData}
    {f_NoColumn_init : Addr} {d_NoColumn_init : FuncData}
    {f_NoKind_init : Addr} {d_NoKind_init : FuncData}
    {f_NoRow_init : Addr} {d_NoRow_init : FuncData}
    {f_NotHeld_init : Addr} {d_NotHeld_init : FuncData}
    {f_OrderMatters_init : Addr} {d_OrderMatters_init : FuncData}
    {f_OtherBook_init : Addr} {d_OtherBook_init : FuncData}
    {f_Unfit_init : Addr} {d_Unfit_init : FuncData}
    (a_l_marks : PySem.W.nsIn K mainGlobals "_law_marks" = some (some (.ref f_l_marks)))
    (F_l_marks : FunD K "_law_marks" "_law_marks" (defArgs s_l_marks) (defBody s_l_marks) (defScope s_l_marks) [] [] f_l_marks d_l_marks)
    (a_l_is_placed : PySem.W.nsIn K mainGlobals "_law_is_placed" = some (some (.ref f_l_is_placed)))
    (F_l_is_placed : FunD K "_law_is_placed" "_law_is_placed" (defArgs s_l_is_placed) (defBody s_l_is_placed) (defScope s_l_is_placed) [] [] f_l_is_placed d_l_is_placed)
    (a_l_are_made : PySem.W.nsIn K mainGlobals "_law_are_made" = some (some (.ref f_l_are_made)))
    (F_l_are_made : FunD K "_law_are_made" "_law_are_made" (defArgs s_l_are_made) (defBody s_l_are_made) (defScope s_l_are_made) [] [] f_l_are_made d_l_are_made)
    (a_l_take : PySem.W.nsIn K mainGlobals "_law_take" = some (some (.ref f_l_take)))
    (F_l_take : FunD K "_law_take" "_law_take" (defArgs s_l_take) (defBody s_l_take) (defScope s_l_take) [] [] f_l_take d_l_take)
    (a_l_of : PySem.W.nsIn K mainGlobals "_law_of" = some (some (.ref f_l_of)))
    (F_l_of : FunD K "_law_of" "_law_of" (defArgs s_l_of) (defBody s_l_of) (defScope s_l_of) [] [] f_l_of d_l_of)
    (a_l_signs : PySem.W.nsIn K mainGlobals "_law_signs" = some (some (.ref f_l_signs)))
    (F_l_signs : FunD K "_law_signs" "_law_signs" (defArgs s_l_signs) (defBody s_l_signs) (defScope s_l_signs) [] [] f_l_signs d_l_signs)
    (a_l_digits : PySem.W.nsIn K mainGlobals "_law_digits" = some (some (.ref f_l_digits)))
    (F_l_digits : FunD K "_law_digits" "_law_digits" (defArgs s_l_digits) (defBody s_l_digits) (defScope s_l_digits) [] [] f_l_digits d_l_digits)
    (a_l_text : PySem.W.nsIn K mainGlobals "_law_text" = some (some (.ref f_l_text)))
    (F_l_text : FunD K "_law_text" "_law_text" (defArgs s_l_text) (defBody s_l_text) (defScope s_l_text) [] [] f_l_text d_l_text)
    (a_l_thing : PySem.W.nsIn K mainGlobals "_law_thing" = some (some (.ref f_l_thing)))
    (F_l_thing : FunD K "_law_thing" "_law_thing" (defArgs s_l_thing) (defBody s_l_thing) (defScope s_l_thing) [] [] f_l_thing d_l_thing)
    (a_l_bag : PySem.W.nsIn K mainGlobals "_law_bag" = some (some (.ref f_l_bag)))
    (F_l_bag : FunD K "_law_bag" "_law_bag" (defArgs s_l_bag) (defBody s_l_bag) (defScope s_l_bag) [] [] f_l_bag d_l_bag)
    (a_law : PySem.W.nsIn K mainGlobals "law" = some (some (.ref f_law)))
    (F_law : FunD K "law" "law" (defArgs s_law) (defBody s_law) (defScope s_law) [] [] f_law d_law)
    (a_GuessError : PySem.W.nsIn K mainGlobals "GuessError" = some (some (.ref C_GuessError)))
    (a_BadShape : PySem.W.nsIn K mainGlobals "BadShape" = some (some (.ref C_BadShape)))
    (a_BadKind : PySem.W.nsIn K mainGlobals "BadKind" = some (some (.ref C_BadKind)))
    (a_BadBook : PySem.W.nsIn K mainGlobals "BadBook" = some (some (.ref C_BadBook)))
    (a_BadTable : PySem.W.nsIn K mainGlobals "BadTable" = some (some (.ref C_BadTable)))
    (a_BadReader : PySem.W.nsIn K mainGlobals "BadReader" = some (some (.ref C_BadReader)))
    (a_BadCut : PySem.W.nsIn K mainGlobals "BadCut" = some (some (.ref C_BadCut)))
    (a_OtherBook : PySem.W.nsIn K mainGlobals "OtherBook" = some (some (.ref C_OtherBook)))
    (a_NotHeld : PySem.W.nsIn K mainGlobals "NotHeld" = some (some (.ref C_NotHeld)))
    (a_OrderMatters : PySem.W.nsIn K mainGlobals "OrderMatters" = some (some (.ref C_OrderMatters)))
    (a_Unfit : PySem.W.nsIn K mainGlobals "Unfit" = some (some (.ref C_Unfit)))
    (a_Misfit : PySem.W.nsIn K mainGlobals "Misfit" = some (some (.ref C_Misfit)))
    (a_BadProgram : PySem.W.nsIn K mainGlobals "BadProgram" = some (some (.ref C_BadProgram)))
    (a_BadRun : PySem.W.nsIn K mainGlobals "BadRun" = some (some (.ref C_BadRun)))
    (a_BadInput : PySem.W.nsIn K mainGlobals "BadInput" = some (some (.ref C_BadInput)))
    (a_NoKind : PySem.W.nsIn K mainGlobals "NoKind" = some (some (.ref C_NoKind)))
    (a_NoColumn : PySem.W.nsIn K mainGlobals "NoColumn" = some (some (.ref C_NoColumn)))
    (a_NoRow : PySem.W.nsIn K mainGlobals "NoRow" = some (some (.ref C_NoRow)))
    (xi_BadBook : PySem.W.findIn K (.ref C_BadBook) "__init__" = some (some (.ref f_BadBook_init)))
    (xt_BadBook : PySem.W.typeIn K (.ref f_BadBook_init) = some (.type "function"))
    (F_BadBook_init : FunD K "__init__" "BadBook.__init__" (defArgs s_BadBook_init) (defBody s_BadBook_init) (defScope s_BadBook_init) [] [] f_BadBook_init d_BadBook_init)
    (xq_BadBook : PySem.W.excInitIn K C_BadBook [.type "ValueError", .type "Exception", .type "BaseException", .type "object"] "ValueError.__new__" = true)
    (xh_BadBook : PySem.W.hasDictIn K C_BadBook = true)
    (xsa_BadBook : PySem.W.findIn K (.ref C_BadBook) "__setattr__" = some (some (.builtin "object.__setattr__")))
    (xex_BadBook : PySem.W.subIn K (.ref C_BadBook) (.type "BaseException") = some true)
    (xty_BadBook : PySem.W.typeIn K (.ref C_BadBook) = some (.type "type"))
    (xkp_BadBook : PySem.W.keepIn K (.ref C_BadBook) = true)
    (xi_BadCut : PySem.W.findIn K (.ref C_BadCut) "__init__" = some (some (.ref f_BadCut_init)))
    (xt_BadCut : PySem.W.typeIn K (.ref f_BadCut_init) = some (.type "function"))
    (F_BadCut_init : FunD K "__init__" "BadCut.__init__" (defArgs s_BadCut_init) (defBody s_BadCut_init) (defScope s_BadCut_init) [] [] f_BadCut_init d_BadCut_init)
    (xq_BadCut : PySem.W.excInitIn K C_BadCut [.type "ValueError", .type "Exception", .type "BaseException", .type "object"] "ValueError.__new__" = true)
    (xh_BadCut : PySem.W.hasDictIn K C_BadCut = true)
    (xsa_BadCut : PySem.W.findIn K (.ref C_BadCut) "__setattr__" = some (some (.builtin "object.__setattr__")))
    (xex_BadCut : PySem.W.subIn K (.ref C_BadCut) (.type "BaseException") = some true)
    (xty_BadCut : PySem.W.typeIn K (.ref C_BadCut) = some (.type "type"))
    (xkp_BadCut : PySem.W.keepIn K (.ref C_BadCut) = true)
    (xi_BadInput : PySem.W.findIn K (.ref C_BadInput) "__init__" = some (some (.ref f_BadInput_init)))
    (xt_BadInput : PySem.W.typeIn K (.ref f_BadInput_init) = some (.type "function"))
    (F_BadInput_init : FunD K "__init__" "BadInput.__init__" (defArgs s_BadInput_init) (defBody s_BadInput_init) (defScope s_BadInput_init) [] [] f_BadInput_init d_BadInput_init)
    (xq_BadInput : PySem.W.excInitIn K C_BadInput [.type "ValueError", .type "Exception", .type "BaseException", .type "object"] "ValueError.__new__" = true)
    (xh_BadInput : PySem.W.hasDictIn K C_BadInput = true)
    (xsa_BadInput : PySem.W.findIn K (.ref C_BadInput) "__setattr__" = some (some (.builtin "object.__setattr__")))
    (xex_BadInput : PySem.W.subIn K (.ref C_BadInput) (.type "BaseException") = some true)
    (xty_BadInput : PySem.W.typeIn K (.ref C_BadInput) = some (.type "type"))
    (xkp_BadInput : PySem.W.keepIn K (.ref C_BadInput) = true)
    (xi_BadKind : PySem.W.findIn K (.ref C_BadKind) "__init__" = some (some (.ref f_BadKind_init)))
    (xt_BadKind : PySem.W.typeIn K (.ref f_BadKind_init) = some (.type "function"))
    (F_BadKind_init : FunD K "__init__" "BadKind.__init__" (defArgs s_BadKind_init) (defBody s_BadKind_init) (defScope s_BadKind_init) [] [] f_BadKind_init d_BadKind_init)
    (xq_BadKind : PySem.W.excInitIn K C_BadKind [.type "ValueError", .type "Exception", .type "BaseException", .type "object"] "ValueError.__new__" = true)
    (xh_BadKind : PySem.W.hasDictIn K C_BadKind = true)
    (xsa_BadKind : PySem.W.findIn K (.ref C_BadKind) "__setattr__" = some (some (.builtin "object.__setattr__")))
    (xex_BadKind : PySem.W.subIn K (.ref C_BadKind) (.type "BaseException") = some true)
    (xty_BadKind : PySem.W.typeIn K (.ref C_BadKind) = some (.type "type"))
    (xkp_BadKind : PySem.W.keepIn K (.ref C_BadKind) = true)
    (xi_BadProgram : PySem.W.findIn K (.ref C_BadProgram) "__init__" = some (some (.ref f_BadProgram_init)))
    (xt_BadProgram : PySem.W.typeIn K (.ref f_BadProgram_init) = some (.type "function"))
    (F_BadProgram_init : FunD K "__init__" "BadProgram.__init__" (defArgs s_BadProgram_init) (defBody s_BadProgram_init) (defScope s_BadProgram_init) [] [] f_BadProgram_init d_BadProgram_init)
    (xq_BadProgram : PySem.W.excInitIn K C_BadProgram [.type "ValueError", .type "Exception", .type "BaseException", .type "object"] "ValueError.__new__" = true)
    (xh_BadProgram : PySem.W.hasDictIn K C_BadProgram = true)
    (xsa_BadProgram : PySem.W.findIn K (.ref C_BadProgram) "__setattr__" = some (some (.builtin "object.__setattr__")))
    (xex_BadProgram : PySem.W.subIn K (.ref C_BadProgram) (.type "BaseException") = some true)
    (xty_BadProgram : PySem.W.typeIn K (.ref C_BadProgram) = some (.type "type"))
    (xkp_BadProgram : PySem.W.keepIn K (.ref C_BadProgram) = true)
    (xi_BadReader : PySem.W.findIn K (.ref C_BadReader) "__init__" = some (some (.ref f_BadReader_init)))
    (xt_BadReader : PySem.W.typeIn K (.ref f_BadReader_init) = some (.type "function"))
    (F_BadReader_init : FunD K "__init__" "BadReader.__init__" (defArgs s_BadReader_init) (defBody s_BadReader_init) (defScope s_BadReader_init) [] [] f_BadReader_init d_BadReader_init)
    (xq_BadReader : PySem.W.excInitIn K C_BadReader [.type "ValueError", .type "Exception", .type "BaseException", .type "object"] "ValueError.__new__" = true)
    (xh_BadReader : PySem.W.hasDictIn K C_BadReader = true)
    (xsa_BadReader : PySem.W.findIn K (.ref C_BadReader) "__setattr__" = some (some (.builtin "object.__setattr__")))
    (xex_BadReader : PySem.W.subIn K (.ref C_BadReader) (.type "BaseException") = some true)
    (xty_BadReader : PySem.W.typeIn K (.ref C_BadReader) = some (.type "type"))
    (xkp_BadReader : PySem.W.keepIn K (.ref C_BadReader) = true)
    (xi_BadRun : PySem.W.findIn K (.ref C_BadRun) "__init__" = some (some (.ref f_BadRun_init)))
    (xt_BadRun : PySem.W.typeIn K (.ref f_BadRun_init) = some (.type "function"))
    (F_BadRun_init : FunD K "__init__" "BadRun.__init__" (defArgs s_BadRun_init) (defBody s_BadRun_init) (defScope s_BadRun_init) [] [] f_BadRun_init d_BadRun_init)
    (xq_BadRun : PySem.W.excInitIn K C_BadRun [.type "ValueError", .type "Exception", .type "BaseException", .type "object"] "ValueError.__new__" = true)
    (xh_BadRun : PySem.W.hasDictIn K C_BadRun = true)
    (xsa_BadRun : PySem.W.findIn K (.ref C_BadRun) "__setattr__" = some (some (.builtin "object.__setattr__")))
    (xex_BadRun : PySem.W.subIn K (.ref C_BadRun) (.type "BaseException") = some true)
    (xty_BadRun : PySem.W.typeIn K (.ref C_BadRun) = some (.type "type"))
    (xkp_BadRun : PySem.W.keepIn K (.ref C_BadRun) = true)
    (xi_BadShape : PySem.W.findIn K (.ref C_BadShape) "__init__" = some (some (.ref f_BadShape_init)))
    (xt_BadShape : PySem.W.typeIn K (.ref f_BadShape_init) = some (.type "function"))
    (F_BadShape_init : FunD K "__init__" "BadShape.__init__" (defArgs s_BadShape_init) (defBody s_BadShape_init) (defScope s_BadShape_init) [] [] f_BadShape_init d_BadShape_init)
    (xq_BadShape : PySem.W.excInitIn K C_BadShape [.type "ValueError", .type "Exception", .type "BaseException", .type "object"] "ValueError.__new__" = true)
    (xh_BadShape : PySem.W.hasDictIn K C_BadShape = true)
    (xsa_BadShape : PySem.W.findIn K (.ref C_BadShape) "__setattr__" = some (some (.builtin "object.__setattr__")))
    (xex_BadShape : PySem.W.subIn K (.ref C_BadShape) (.type "BaseException") = some true)
    (xty_BadShape : PySem.W.typeIn K (.ref C_BadShape) = some (.type "type"))
    (xkp_BadShape : PySem.W.keepIn K (.ref C_BadShape) = true)
    (xi_BadTable : PySem.W.findIn K (.ref C_BadTable) "__init__" = some (some (.ref f_BadTable_init)))
    (xt_BadTable : PySem.W.typeIn K (.ref f_BadTable_init) = some (.type "function"))
    (F_BadTable_init : FunD K "__init__" "BadTable.__init__" (defArgs s_BadTable_init) (defBody s_BadTable_init) (defScope s_BadTable_init) [] [] f_BadTable_init d_BadTable_init)
    (xq_BadTable : PySem.W.excInitIn K C_BadTable [.type "ValueError", .type "Exception", .type "BaseException", .type "object"] "ValueError.__new__" = true)
    (xh_BadTable : PySem.W.hasDictIn K C_BadTable = true)
    (xsa_BadTable : PySem.W.findIn K (.ref C_BadTable) "__setattr__" = some (some (.builtin "object.__setattr__")))
    (xex_BadTable : PySem.W.subIn K (.ref C_BadTable) (.type "BaseException") = some true)
    (xty_BadTable : PySem.W.typeIn K (.ref C_BadTable) = some (.type "type"))
    (xkp_BadTable : PySem.W.keepIn K (.ref C_BadTable) = true)
    (xi_Misfit : PySem.W.findIn K (.ref C_Misfit) "__init__" = some (some (.ref f_Misfit_init)))
    (xt_Misfit : PySem.W.typeIn K (.ref f_Misfit_init) = some (.type "function"))
    (F_Misfit_init : FunD K "__init__" "Misfit.__init__" (defArgs s_Misfit_init) (defBody s_Misfit_init) (defScope s_Misfit_init) [] [] f_Misfit_init d_Misfit_init)
    (xq_Misfit : PySem.W.excInitIn K C_Misfit [.type "ValueError", .type "Exception", .type "BaseException", .type "object"] "ValueError.__new__" = true)
    (xh_Misfit : PySem.W.hasDictIn K C_Misfit = true)
    (xsa_Misfit : PySem.W.findIn K (.ref C_Misfit) "__setattr__" = some (some (.builtin "object.__setattr__")))
    (xex_Misfit : PySem.W.subIn K (.ref C_Misfit) (.type "BaseException") = some true)
    (xty_Misfit : PySem.W.typeIn K (.ref C_Misfit) = some (.type "type"))
    (xkp_Misfit : PySem.W.keepIn K (.ref C_Misfit) = true)
    (xi_NoColumn : PySem.W.findIn K (.ref C_NoColumn) "__init__" = some (some (.ref f_NoColumn_init)))
    (xt_NoColumn : PySem.W.typeIn K (.ref f_NoColumn_init) = some (.type "function"))
    (F_NoColumn_init : FunD K "__init__" "NoColumn.__init__" (defArgs s_NoColumn_init) (defBody s_NoColumn_init) (defScope s_NoColumn_init) [] [] f_NoColumn_init d_NoColumn_init)
    (xq_NoColumn : PySem.W.excInitIn K C_NoColumn [.type "LookupError", .type "Exception", .type "BaseException", .type "object"] "LookupError.__new__" = true)
    (xv_NoColumn : PySem.W.excOver K C_NoColumn [.type "LookupError", .type "Exception", .type "BaseException", .type "object"] = true)
    (xh_NoColumn : PySem.W.hasDictIn K C_NoColumn = true)
    (xsa_NoColumn : PySem.W.findIn K (.ref C_NoColumn) "__setattr__" = some (some (.builtin "object.__setattr__")))
    (xex_NoColumn : PySem.W.subIn K (.ref C_NoColumn) (.type "BaseException") = some true)
    (xty_NoColumn : PySem.W.typeIn K (.ref C_NoColumn) = some (.type "type"))
    (xkp_NoColumn : PySem.W.keepIn K (.ref C_NoColumn) = true)
    (xi_NoKind : PySem.W.findIn K (.ref C_NoKind) "__init__" = some (some (.ref f_NoKind_init)))
    (xt_NoKind : PySem.W.typeIn K (.ref f_NoKind_init) = some (.type "function"))
    (F_NoKind_init : FunD K "__init__" "NoKind.__init__" (defArgs s_NoKind_init) (defBody s_NoKind_init) (defScope s_NoKind_init) [] [] f_NoKind_init d_NoKind_init)
    (xq_NoKind : PySem.W.excInitIn K C_NoKind [.type "LookupError", .type "Exception", .type "BaseException", .type "object"] "LookupError.__new__" = true)
    (xv_NoKind : PySem.W.excOver K C_NoKind [.type "LookupError", .type "Exception", .type "BaseException", .type "object"] = true)
    (xh_NoKind : PySem.W.hasDictIn K C_NoKind = true)
    (xsa_NoKind : PySem.W.findIn K (.ref C_NoKind) "__setattr__" = some (some (.builtin "object.__setattr__")))
    (xex_NoKind : PySem.W.subIn K (.ref C_NoKind) (.type "BaseException") = some true)
    (xty_NoKind : PySem.W.typeIn K (.ref C_NoKind) = some (.type "type"))
    (xkp_NoKind : PySem.W.keepIn K (.ref C_NoKind) = true)
    (xi_NoRow : PySem.W.findIn K (.ref C_NoRow) "__init__" = some (some (.ref f_NoRow_init)))
    (xt_NoRow : PySem.W.typeIn K (.ref f_NoRow_init) = some (.type "function"))
    (F_NoRow_init : FunD K "__init__" "NoRow.__init__" (defArgs s_NoRow_init) (defBody s_NoRow_init) (defScope s_NoRow_init) [] [] f_NoRow_init d_NoRow_init)
    (xq_NoRow : PySem.W.excInitIn K C_NoRow [.type "LookupError", .type "Exception", .type "BaseException", .type "object"] "LookupError.__new__" = true)
    (xv_NoRow : PySem.W.excOver K C_NoRow [.type "LookupError", .type "Exception", .type "BaseException", .type "object"] = true)
    (xh_NoRow : PySem.W.hasDictIn K C_NoRow = true)
    (xsa_NoRow : PySem.W.findIn K (.ref C_NoRow) "__setattr__" = some (some (.builtin "object.__setattr__")))
    (xex_NoRow : PySem.W.subIn K (.ref C_NoRow) (.type "BaseException") = some true)
    (xty_NoRow : PySem.W.typeIn K (.ref C_NoRow) = some (.type "type"))
    (xkp_NoRow : PySem.W.keepIn K (.ref C_NoRow) = true)
    (xi_NotHeld : PySem.W.findIn K (.ref C_NotHeld) "__init__" = some (some (.ref f_NotHeld_init)))
    (xt_NotHeld : PySem.W.typeIn K (.ref f_NotHeld_init) = some (.type "function"))
    (F_NotHeld_init : FunD K "__init__" "NotHeld.__init__" (defArgs s_NotHeld_init) (defBody s_NotHeld_init) (defScope s_NotHeld_init) [] [] f_NotHeld_init d_NotHeld_init)
    (xq_NotHeld : PySem.W.excInitIn K C_NotHeld [.type "ValueError", .type "Exception", .type "BaseException", .type "object"] "ValueError.__new__" = true)
    (xh_NotHeld : PySem.W.hasDictIn K C_NotHeld = true)
    (xsa_NotHeld : PySem.W.findIn K (.ref C_NotHeld) "__setattr__" = some (some (.builtin "object.__setattr__")))
    (xex_NotHeld : PySem.W.subIn K (.ref C_NotHeld) (.type "BaseException") = some true)
    (xty_NotHeld : PySem.W.typeIn K (.ref C_NotHeld) = some (.type "type"))
    (xkp_NotHeld : PySem.W.keepIn K (.ref C_NotHeld) = true)
    (xi_OrderMatters : PySem.W.findIn K (.ref C_OrderMatters) "__init__" = some (some (.ref f_OrderMatters_init)))
    (xt_OrderMatters : PySem.W.typeIn K (.ref f_OrderMatters_init) = some (.type "function"))
    (F_OrderMatters_init : FunD K "__init__" "OrderMatters.__init__" (defArgs s_OrderMatters_init) (defBody s_OrderMatters_init) (defScope s_OrderMatters_init) [] [] f_OrderMatters_init d_OrderMatters_init)
    (xq_OrderMatters : PySem.W.excInitIn K C_OrderMatters [.type "ValueError", .type "Exception", .type "BaseException", .type "object"] "ValueError.__new__" = true)
    (xh_OrderMatters : PySem.W.hasDictIn K C_OrderMatters = true)
    (xsa_OrderMatters : PySem.W.findIn K (.ref C_OrderMatters) "__setattr__" = some (some (.builtin "object.__setattr__")))
    (xex_OrderMatters : PySem.W.subIn K (.ref C_OrderMatters) (.type "BaseException") = some true)
    (xty_OrderMatters : PySem.W.typeIn K (.ref C_OrderMatters) = some (.type "type"))
    (xkp_OrderMatters : PySem.W.keepIn K (.ref C_OrderMatters) = true)
    (xi_OtherBook : PySem.W.findIn K (.ref C_OtherBook) "__init__" = some (some (.ref f_OtherBook_init)))
    (xt_OtherBook : PySem.W.typeIn K (.ref f_OtherBook_init) = some (.type "function"))
    (F_OtherBook_init : FunD K "__init__" "OtherBook.__init__" (defArgs s_OtherBook_init) (defBody s_OtherBook_init) (defScope s_OtherBook_init) [] [] f_OtherBook_init d_OtherBook_init)
    (xq_OtherBook : PySem.W.excInitIn K C_OtherBook [.type "ValueError", .type "Exception", .type "BaseException", .type "object"] "ValueError.__new__" = true)
    (xh_OtherBook : PySem.W.hasDictIn K C_OtherBook = true)
    (xsa_OtherBook : PySem.W.findIn K (.ref C_OtherBook) "__setattr__" = some (some (.builtin "object.__setattr__")))
    (xex_OtherBook : PySem.W.subIn K (.ref C_OtherBook) (.type "BaseException") = some true)
    (xty_OtherBook : PySem.W.typeIn K (.ref C_OtherBook) = some (.type "type"))
    (xkp_OtherBook : PySem.W.keepIn K (.ref C_OtherBook) = true)
    (xi_Unfit : PySem.W.findIn K (.ref C_Unfit) "__init__" = some (some (.ref f_Unfit_init)))
    (xt_Unfit : PySem.W.typeIn K (.ref f_Unfit_init) = some (.type "function"))
    (F_Unfit_init : FunD K "__init__" "Unfit.__init__" (defArgs s_Unfit_init) (defBody s_Unfit_init) (defScope s_Unfit_init) [] [] f_Unfit_init d_Unfit_init)
    (xq_Unfit : PySem.W.excInitIn K C_Unfit [.type "ValueError", .type "Exception", .type "BaseException", .type "object"] "ValueError.__new__" = true)
    (xh_Unfit : PySem.W.hasDictIn K C_Unfit = true)
    (xsa_Unfit : PySem.W.findIn K (.ref C_Unfit) "__setattr__" = some (some (.builtin "object.__setattr__")))
    (xex_Unfit : PySem.W.subIn K (.ref C_Unfit) (.type "BaseException") = some true)
    (xty_Unfit : PySem.W.typeIn K (.ref C_Unfit) = some (.type "type"))
    (xkp_Unfit : PySem.W.keepIn K (.ref C_Unfit) = true)
    (xn_BadBook_part : PySem.W.findIn K (.ref C_BadBook) "part" = some none)
    (xn_BadCut_cut : PySem.W.findIn K (.ref C_BadCut) "cut" = some none)
    (xn_BadInput_at : PySem.W.findIn K (.ref C_BadInput) "at" = some none)
    (xn_BadKind_part : PySem.W.findIn K (.ref C_BadKind) "part" = some none)
    (xn_BadProgram_part : PySem.W.findIn K (.ref C_BadProgram) "part" = some none)
    (xn_BadReader_part : PySem.W.findIn K (.ref C_BadReader) "part" = some none)
    (xn_BadRun_part : PySem.W.findIn K (.ref C_BadRun) "part" = some none)
    (xn_BadShape_part : PySem.W.findIn K (.ref C_BadShape) "part" = some none)
    (xn_BadTable_part : PySem.W.findIn K (.ref C_BadTable) "part" = some none)
    (xn_Misfit_row : PySem.W.findIn K (.ref C_Misfit) "row" = some none)
    (xn_Misfit_column : PySem.W.findIn K (.ref C_Misfit) "column" = some none)
    (xn_Misfit_text : PySem.W.findIn K (.ref C_Misfit) "text" = some none)
    (xn_NoColumn_name : PySem.W.findIn K (.ref C_NoColumn) "name" = some none)
    (xn_NoKind_name : PySem.W.findIn K (.ref C_NoKind) "name" = some none)
    (xn_NoRow_at : PySem.W.findIn K (.ref C_NoRow) "at" = some none)
    (xn_NotHeld_column : PySem.W.findIn K (.ref C_NotHeld) "column" = some none)
    (xn_NotHeld_cell : PySem.W.findIn K (.ref C_NotHeld) "cell" = some none)
    (xn_OrderMatters_pieces : PySem.W.findIn K (.ref C_OrderMatters) "pieces" = some none)
    (xn_OtherBook_name : PySem.W.findIn K (.ref C_OtherBook) "name" = some none)
    (xn_Unfit_kind : PySem.W.findIn K (.ref C_Unfit) "kind" = some none)
    (xn_Unfit_text : PySem.W.findIn K (.ref C_Unfit) "text" = some none)
    (zl_LookupError : PySem.W.nsIn K mainGlobals "LookupError" = some none)
    (xb_LookupError : PySem.W.findCls K (.type "LookupError") (.type "type") "__init__" = some (.val (.builtin "LookupError.__init__")))
    (xrd_GuessError : PySem.W.readsIn K C_GuessError (.type "type") = true)
    (xga_GuessError : PySem.W.specialIn K (.ref C_GuessError) "__getattribute__" = some (some (.builtin "type.__getattribute__")))
    (xb_GuessError : PySem.W.findCls K (.ref C_GuessError) (.type "type") "__init__" = some (.val (.builtin "ValueError.__init__")))
    (eg_BadBook : PySem.W.findIn K (.ref C_BadBook) "__getattribute__" = some (some (.builtin "BaseException.__getattribute__")))
    (ek_BadBook : PySem.W.findIn K (.ref C_BadBook) "__getattr__" = some none)
    (es_BadBook : PySem.W.subIn K (.ref C_BadBook) (.type "BaseException") = some true)
    (ed_BadBook : PySem.W.hasDictIn K C_BadBook = true)
    (ea_BadBook : PySem.W.findIn K (.ref C_BadBook) "__class__" = some (some (.builtin "object.__class__")))
    (en_BadBook : PySem.W.specialIn K (.builtin "object.__class__") "__get__" = some (some (.builtin "getset_descriptor.__get__")))
    (et_BadBook : PySem.W.takesIn K (.builtin "object.__class__") = some true)
    (em_BadBook : PySem.W.mroIn K C_BadBook (.type "object") = some true)
    (eg_BadCut : PySem.W.findIn K (.ref C_BadCut) "__getattribute__" = some (some (.builtin "BaseException.__getattribute__")))
    (ek_BadCut : PySem.W.findIn K (.ref C_BadCut) "__getattr__" = some none)
    (es_BadCut : PySem.W.subIn K (.ref C_BadCut) (.type "BaseException") = some true)
    (ed_BadCut : PySem.W.hasDictIn K C_BadCut = true)
    (ea_BadCut : PySem.W.findIn K (.ref C_BadCut) "__class__" = some (some (.builtin "object.__class__")))
    (en_BadCut : PySem.W.specialIn K (.builtin "object.__class__") "__get__" = some (some (.builtin "getset_descriptor.__get__")))
    (et_BadCut : PySem.W.takesIn K (.builtin "object.__class__") = some true)
    (em_BadCut : PySem.W.mroIn K C_BadCut (.type "object") = some true)
    (eg_BadInput : PySem.W.findIn K (.ref C_BadInput) "__getattribute__" = some (some (.builtin "BaseException.__getattribute__")))
    (ek_BadInput : PySem.W.findIn K (.ref C_BadInput) "__getattr__" = some none)
    (es_BadInput : PySem.W.subIn K (.ref C_BadInput) (.type "BaseException") = some true)
    (ed_BadInput : PySem.W.hasDictIn K C_BadInput = true)
    (ea_BadInput : PySem.W.findIn K (.ref C_BadInput) "__class__" = some (some (.builtin "object.__class__")))
    (en_BadInput : PySem.W.specialIn K (.builtin "object.__class__") "__get__" = some (some (.builtin "getset_descriptor.__get__")))
    (et_BadInput : PySem.W.takesIn K (.builtin "object.__class__") = some true)
    (em_BadInput : PySem.W.mroIn K C_BadInput (.type "object") = some true)
    (eg_BadKind : PySem.W.findIn K (.ref C_BadKind) "__getattribute__" = some (some (.builtin "BaseException.__getattribute__")))
    (ek_BadKind : PySem.W.findIn K (.ref C_BadKind) "__getattr__" = some none)
    (es_BadKind : PySem.W.subIn K (.ref C_BadKind) (.type "BaseException") = some true)
    (ed_BadKind : PySem.W.hasDictIn K C_BadKind = true)
    (ea_BadKind : PySem.W.findIn K (.ref C_BadKind) "__class__" = some (some (.builtin "object.__class__")))
    (en_BadKind : PySem.W.specialIn K (.builtin "object.__class__") "__get__" = some (some (.builtin "getset_descriptor.__get__")))
    (et_BadKind : PySem.W.takesIn K (.builtin "object.__class__") = some true)
    (em_BadKind : PySem.W.mroIn K C_BadKind (.type "object") = some true)
    (eg_BadProgram : PySem.W.findIn K (.ref C_BadProgram) "__getattribute__" = some (some (.builtin "BaseException.__getattribute__")))
    (ek_BadProgram : PySem.W.findIn K (.ref C_BadProgram) "__getattr__" = some none)
    (es_BadProgram : PySem.W.subIn K (.ref C_BadProgram) (.type "BaseException") = some true)
    (ed_BadProgram : PySem.W.hasDictIn K C_BadProgram = true)
    (ea_BadProgram : PySem.W.findIn K (.ref C_BadProgram) "__class__" = some (some (.builtin "object.__class__")))
    (en_BadProgram : PySem.W.specialIn K (.builtin "object.__class__") "__get__" = some (some (.builtin "getset_descriptor.__get__")))
    (et_BadProgram : PySem.W.takesIn K (.builtin "object.__class__") = some true)
    (em_BadProgram : PySem.W.mroIn K C_BadProgram (.type "object") = some true)
    (eg_BadReader : PySem.W.findIn K (.ref C_BadReader) "__getattribute__" = some (some (.builtin "BaseException.__getattribute__")))
    (ek_BadReader : PySem.W.findIn K (.ref C_BadReader) "__getattr__" = some none)
    (es_BadReader : PySem.W.subIn K (.ref C_BadReader) (.type "BaseException") = some true)
    (ed_BadReader : PySem.W.hasDictIn K C_BadReader = true)
    (ea_BadReader : PySem.W.findIn K (.ref C_BadReader) "__class__" = some (some (.builtin "object.__class__")))
    (en_BadReader : PySem.W.specialIn K (.builtin "object.__class__") "__get__" = some (some (.builtin "getset_descriptor.__get__")))
    (et_BadReader : PySem.W.takesIn K (.builtin "object.__class__") = some true)
    (em_BadReader : PySem.W.mroIn K C_BadReader (.type "object") = some true)
    (eg_BadRun : PySem.W.findIn K (.ref C_BadRun) "__getattribute__" = some (some (.builtin "BaseException.__getattribute__")))
    (ek_BadRun : PySem.W.findIn K (.ref C_BadRun) "__getattr__" = some none)
    (es_BadRun : PySem.W.subIn K (.ref C_BadRun) (.type "BaseException") = some true)
    (ed_BadRun : PySem.W.hasDictIn K C_BadRun = true)
    (ea_BadRun : PySem.W.findIn K (.ref C_BadRun) "__class__" = some (some (.builtin "object.__class__")))
    (en_BadRun : PySem.W.specialIn K (.builtin "object.__class__") "__get__" = some (some (.builtin "getset_descriptor.__get__")))
    (et_BadRun : PySem.W.takesIn K (.builtin "object.__class__") = some true)
    (em_BadRun : PySem.W.mroIn K C_BadRun (.type "object") = some true)
    (eg_BadShape : PySem.W.findIn K (.ref C_BadShape) "__getattribute__" = some (some (.builtin "BaseException.__getattribute__")))
    (ek_BadShape : PySem.W.findIn K (.ref C_BadShape) "__getattr__" = some none)
    (es_BadShape : PySem.W.subIn K (.ref C_BadShape) (.type "BaseException") = some true)
    (ed_BadShape : PySem.W.hasDictIn K C_BadShape = true)
    (ea_BadShape : PySem.W.findIn K (.ref C_BadShape) "__class__" = some (some (.builtin "object.__class__")))
    (en_BadShape : PySem.W.specialIn K (.builtin "object.__class__") "__get__" = some (some (.builtin "getset_descriptor.__get__")))
    (et_BadShape : PySem.W.takesIn K (.builtin "object.__class__") = some true)
    (em_BadShape : PySem.W.mroIn K C_BadShape (.type "object") = some true)
    (eg_BadTable : PySem.W.findIn K (.ref C_BadTable) "__getattribute__" = some (some (.builtin "BaseException.__getattribute__")))
    (ek_BadTable : PySem.W.findIn K (.ref C_BadTable) "__getattr__" = some none)
    (es_BadTable : PySem.W.subIn K (.ref C_BadTable) (.type "BaseException") = some true)
    (ed_BadTable : PySem.W.hasDictIn K C_BadTable = true)
    (ea_BadTable : PySem.W.findIn K (.ref C_BadTable) "__class__" = some (some (.builtin "object.__class__")))
    (en_BadTable : PySem.W.specialIn K (.builtin "object.__class__") "__get__" = some (some (.builtin "getset_descriptor.__get__")))
    (et_BadTable : PySem.W.takesIn K (.builtin "object.__class__") = some true)
    (em_BadTable : PySem.W.mroIn K C_BadTable (.type "object") = some true)
    (eg_Misfit : PySem.W.findIn K (.ref C_Misfit) "__getattribute__" = some (some (.builtin "BaseException.__getattribute__")))
    (ek_Misfit : PySem.W.findIn K (.ref C_Misfit) "__getattr__" = some none)
    (es_Misfit : PySem.W.subIn K (.ref C_Misfit) (.type "BaseException") = some true)
    (ed_Misfit : PySem.W.hasDictIn K C_Misfit = true)
    (ea_Misfit : PySem.W.findIn K (.ref C_Misfit) "__class__" = some (some (.builtin "object.__class__")))
    (en_Misfit : PySem.W.specialIn K (.builtin "object.__class__") "__get__" = some (some (.builtin "getset_descriptor.__get__")))
    (et_Misfit : PySem.W.takesIn K (.builtin "object.__class__") = some true)
    (em_Misfit : PySem.W.mroIn K C_Misfit (.type "object") = some true)
    (eg_NoColumn : PySem.W.findIn K (.ref C_NoColumn) "__getattribute__" = some (some (.builtin "BaseException.__getattribute__")))
    (ek_NoColumn : PySem.W.findIn K (.ref C_NoColumn) "__getattr__" = some none)
    (es_NoColumn : PySem.W.subIn K (.ref C_NoColumn) (.type "BaseException") = some true)
    (ed_NoColumn : PySem.W.hasDictIn K C_NoColumn = true)
    (ea_NoColumn : PySem.W.findIn K (.ref C_NoColumn) "__class__" = some (some (.builtin "object.__class__")))
    (en_NoColumn : PySem.W.specialIn K (.builtin "object.__class__") "__get__" = some (some (.builtin "getset_descriptor.__get__")))
    (et_NoColumn : PySem.W.takesIn K (.builtin "object.__class__") = some true)
    (em_NoColumn : PySem.W.mroIn K C_NoColumn (.type "object") = some true)
    (eg_NoKind : PySem.W.findIn K (.ref C_NoKind) "__getattribute__" = some (some (.builtin "BaseException.__getattribute__")))
    (ek_NoKind : PySem.W.findIn K (.ref C_NoKind) "__getattr__" = some none)
    (es_NoKind : PySem.W.subIn K (.ref C_NoKind) (.type "BaseException") = some true)
    (ed_NoKind : PySem.W.hasDictIn K C_NoKind = true)
    (ea_NoKind : PySem.W.findIn K (.ref C_NoKind) "__class__" = some (some (.builtin "object.__class__")))
    (en_NoKind : PySem.W.specialIn K (.builtin "object.__class__") "__get__" = some (some (.builtin "getset_descriptor.__get__")))
    (et_NoKind : PySem.W.takesIn K (.builtin "object.__class__") = some true)
    (em_NoKind : PySem.W.mroIn K C_NoKind (.type "object") = some true)
    (eg_NoRow : PySem.W.findIn K (.ref C_NoRow) "__getattribute__" = some (some (.builtin "BaseException.__getattribute__")))
    (ek_NoRow : PySem.W.findIn K (.ref C_NoRow) "__getattr__" = some none)
    (es_NoRow : PySem.W.subIn K (.ref C_NoRow) (.type "BaseException") = some true)
    (ed_NoRow : PySem.W.hasDictIn K C_NoRow = true)
    (ea_NoRow : PySem.W.findIn K (.ref C_NoRow) "__class__" = some (some (.builtin "object.__class__")))
    (en_NoRow : PySem.W.specialIn K (.builtin "object.__class__") "__get__" = some (some (.builtin "getset_descriptor.__get__")))
    (et_NoRow : PySem.W.takesIn K (.builtin "object.__class__") = some true)
    (em_NoRow : PySem.W.mroIn K C_NoRow (.type "object") = some true)
    (eg_NotHeld : PySem.W.findIn K (.ref C_NotHeld) "__getattribute__" = some (some (.builtin "BaseException.__getattribute__")))
    (ek_NotHeld : PySem.W.findIn K (.ref C_NotHeld) "__getattr__" = some none)
    (es_NotHeld : PySem.W.subIn K (.ref C_NotHeld) (.type "BaseException") = some true)
    (ed_NotHeld : PySem.W.hasDictIn K C_NotHeld = true)
    (ea_NotHeld : PySem.W.findIn K (.ref C_NotHeld) "__class__" = some (some (.builtin "object.__class__")))
    (en_NotHeld : PySem.W.specialIn K (.builtin "object.__class__") "__get__" = some (some (.builtin "getset_descriptor.__get__")))
    (et_NotHeld : PySem.W.takesIn K (.builtin "object.__class__") = some true)
    (em_NotHeld : PySem.W.mroIn K C_NotHeld (.type "object") = some true)
    (eg_OrderMatters : PySem.W.findIn K (.ref C_OrderMatters) "__getattribute__" = some (some (.builtin "BaseException.__getattribute__")))
    (ek_OrderMatters : PySem.W.findIn K (.ref C_OrderMatters) "__getattr__" = some none)
    (es_OrderMatters : PySem.W.subIn K (.ref C_OrderMatters) (.type "BaseException") = some true)
    (ed_OrderMatters : PySem.W.hasDictIn K C_OrderMatters = true)
    (ea_OrderMatters : PySem.W.findIn K (.ref C_OrderMatters) "__class__" = some (some (.builtin "object.__class__")))
    (en_OrderMatters : PySem.W.specialIn K (.builtin "object.__class__") "__get__" = some (some (.builtin "getset_descriptor.__get__")))
    (et_OrderMatters : PySem.W.takesIn K (.builtin "object.__class__") = some true)
    (em_OrderMatters : PySem.W.mroIn K C_OrderMatters (.type "object") = some true)
    (eg_OtherBook : PySem.W.findIn K (.ref C_OtherBook) "__getattribute__" = some (some (.builtin "BaseException.__getattribute__")))
    (ek_OtherBook : PySem.W.findIn K (.ref C_OtherBook) "__getattr__" = some none)
    (es_OtherBook : PySem.W.subIn K (.ref C_OtherBook) (.type "BaseException") = some true)
    (ed_OtherBook : PySem.W.hasDictIn K C_OtherBook = true)
    (ea_OtherBook : PySem.W.findIn K (.ref C_OtherBook) "__class__" = some (some (.builtin "object.__class__")))
    (en_OtherBook : PySem.W.specialIn K (.builtin "object.__class__") "__get__" = some (some (.builtin "getset_descriptor.__get__")))
    (et_OtherBook : PySem.W.takesIn K (.builtin "object.__class__") = some true)
    (em_OtherBook : PySem.W.mroIn K C_OtherBook (.type "object") = some true)
    (eg_Unfit : PySem.W.findIn K (.ref C_Unfit) "__getattribute__" = some (some (.builtin "BaseException.__getattribute__")))
    (ek_Unfit : PySem.W.findIn K (.ref C_Unfit) "__getattr__" = some none)
    (es_Unfit : PySem.W.subIn K (.ref C_Unfit) (.type "BaseException") = some true)
    (ed_Unfit : PySem.W.hasDictIn K C_Unfit = true)
    (ea_Unfit : PySem.W.findIn K (.ref C_Unfit) "__class__" = some (some (.builtin "object.__class__")))
    (en_Unfit : PySem.W.specialIn K (.builtin "object.__class__") "__get__" = some (some (.builtin "getset_descriptor.__get__")))
    (et_Unfit : PySem.W.takesIn K (.builtin "object.__class__") = some true)
    (em_Unfit : PySem.W.mroIn K C_Unfit (.type "object") = some true)
    (kx_BadBook_BadBook : PySem.W.kitOne K (.ref C_BadBook) (.ref C_BadBook) = some true)
    (kx_BadBook_BadCut : PySem.W.kitOne K (.ref C_BadBook) (.ref C_BadCut) = some false)
    (kx_BadBook_BadInput : PySem.W.kitOne K (.ref C_BadBook) (.ref C_BadInput) = some false)
    (kx_BadBook_BadKind : PySem.W.kitOne K (.ref C_BadBook) (.ref C_BadKind) = some false)
    (kx_BadBook_BadProgram : PySem.W.kitOne K (.ref C_BadBook) (.ref C_BadProgram) = some false)
    (kx_BadBook_BadReader : PySem.W.kitOne K (.ref C_BadBook) (.ref C_BadReader) = some false)
    (kx_BadBook_BadRun : PySem.W.kitOne K (.ref C_BadBook) (.ref C_BadRun) = some false)
    (kx_BadBook_BadShape : PySem.W.kitOne K (.ref C_BadBook) (.ref C_BadShape) = some false)
    (kx_BadBook_BadTable : PySem.W.kitOne K (.ref C_BadBook) (.ref C_BadTable) = some false)
    (kx_BadBook_GuessError : PySem.W.kitOne K (.ref C_BadBook) (.ref C_GuessError) = some true)
    (kx_BadBook_LookupError : PySem.W.kitOne K (.ref C_BadBook) (.type "LookupError") = some false)
    (kx_BadBook_Misfit : PySem.W.kitOne K (.ref C_BadBook) (.ref C_Misfit) = some false)
    (kx_BadBook_NoColumn : PySem.W.kitOne K (.ref C_BadBook) (.ref C_NoColumn) = some false)
    (kx_BadBook_NoKind : PySem.W.kitOne K (.ref C_BadBook) (.ref C_NoKind) = some false)
    (kx_BadBook_NoRow : PySem.W.kitOne K (.ref C_BadBook) (.ref C_NoRow) = some false)
    (kx_BadBook_NotHeld : PySem.W.kitOne K (.ref C_BadBook) (.ref C_NotHeld) = some false)
    (kx_BadBook_OrderMatters : PySem.W.kitOne K (.ref C_BadBook) (.ref C_OrderMatters) = some false)
    (kx_BadBook_OtherBook : PySem.W.kitOne K (.ref C_BadBook) (.ref C_OtherBook) = some false)
    (kx_BadBook_Unfit : PySem.W.kitOne K (.ref C_BadBook) (.ref C_Unfit) = some false)
    (kx_BadBook_ValueError : PySem.W.kitOne K (.ref C_BadBook) (.type "ValueError") = some true)
    (kx_BadCut_BadBook : PySem.W.kitOne K (.ref C_BadCut) (.ref C_BadBook) = some false)
    (kx_BadCut_BadCut : PySem.W.kitOne K (.ref C_BadCut) (.ref C_BadCut) = some true)
    (kx_BadCut_BadInput : PySem.W.kitOne K (.ref C_BadCut) (.ref C_BadInput) = some false)
    (kx_BadCut_BadKind : PySem.W.kitOne K (.ref C_BadCut) (.ref C_BadKind) = some false)
    (kx_BadCut_BadProgram : PySem.W.kitOne K (.ref C_BadCut) (.ref C_BadProgram) = some false)
    (kx_BadCut_BadReader : PySem.W.kitOne K (.ref C_BadCut) (.ref C_BadReader) = some false)
    (kx_BadCut_BadRun : PySem.W.kitOne K (.ref C_BadCut) (.ref C_BadRun) = some false)
    (kx_BadCut_BadShape : PySem.W.kitOne K (.ref C_BadCut) (.ref C_BadShape) = some false)
    (kx_BadCut_BadTable : PySem.W.kitOne K (.ref C_BadCut) (.ref C_BadTable) = some false)
    (kx_BadCut_GuessError : PySem.W.kitOne K (.ref C_BadCut) (.ref C_GuessError) = some true)
    (kx_BadCut_LookupError : PySem.W.kitOne K (.ref C_BadCut) (.type "LookupError") = some false)
    (kx_BadCut_Misfit : PySem.W.kitOne K (.ref C_BadCut) (.ref C_Misfit) = some false)
    (kx_BadCut_NoColumn : PySem.W.kitOne K (.ref C_BadCut) (.ref C_NoColumn) = some false)
    (kx_BadCut_NoKind : PySem.W.kitOne K (.ref C_BadCut) (.ref C_NoKind) = some false)
    (kx_BadCut_NoRow : PySem.W.kitOne K (.ref C_BadCut) (.ref C_NoRow) = some false)
    (kx_BadCut_NotHeld : PySem.W.kitOne K (.ref C_BadCut) (.ref C_NotHeld) = some false)
    (kx_BadCut_OrderMatters : PySem.W.kitOne K (.ref C_BadCut) (.ref C_OrderMatters) = some false)
    (kx_BadCut_OtherBook : PySem.W.kitOne K (.ref C_BadCut) (.ref C_OtherBook) = some false)
    (kx_BadCut_Unfit : PySem.W.kitOne K (.ref C_BadCut) (.ref C_Unfit) = some false)
    (kx_BadCut_ValueError : PySem.W.kitOne K (.ref C_BadCut) (.type "ValueError") = some true)
    (kx_BadInput_BadBook : PySem.W.kitOne K (.ref C_BadInput) (.ref C_BadBook) = some false)
    (kx_BadInput_BadCut : PySem.W.kitOne K (.ref C_BadInput) (.ref C_BadCut) = some false)
    (kx_BadInput_BadInput : PySem.W.kitOne K (.ref C_BadInput) (.ref C_BadInput) = some true)
    (kx_BadInput_BadKind : PySem.W.kitOne K (.ref C_BadInput) (.ref C_BadKind) = some false)
    (kx_BadInput_BadProgram : PySem.W.kitOne K (.ref C_BadInput) (.ref C_BadProgram) = some false)
    (kx_BadInput_BadReader : PySem.W.kitOne K (.ref C_BadInput) (.ref C_BadReader) = some false)
    (kx_BadInput_BadRun : PySem.W.kitOne K (.ref C_BadInput) (.ref C_BadRun) = some false)
    (kx_BadInput_BadShape : PySem.W.kitOne K (.ref C_BadInput) (.ref C_BadShape) = some false)
    (kx_BadInput_BadTable : PySem.W.kitOne K (.ref C_BadInput) (.ref C_BadTable) = some false)
    (kx_BadInput_GuessError : PySem.W.kitOne K (.ref C_BadInput) (.ref C_GuessError) = some true)
    (kx_BadInput_LookupError : PySem.W.kitOne K (.ref C_BadInput) (.type "LookupError") = some false)
    (kx_BadInput_Misfit : PySem.W.kitOne K (.ref C_BadInput) (.ref C_Misfit) = some false)
    (kx_BadInput_NoColumn : PySem.W.kitOne K (.ref C_BadInput) (.ref C_NoColumn) = some false)
    (kx_BadInput_NoKind : PySem.W.kitOne K (.ref C_BadInput) (.ref C_NoKind) = some false)
    (kx_BadInput_NoRow : PySem.W.kitOne K (.ref C_BadInput) (.ref C_NoRow) = some false)
    (kx_BadInput_NotHeld : PySem.W.kitOne K (.ref C_BadInput) (.ref C_NotHeld) = some false)
    (kx_BadInput_OrderMatters : PySem.W.kitOne K (.ref C_BadInput) (.ref C_OrderMatters) = some false)
    (kx_BadInput_OtherBook : PySem.W.kitOne K (.ref C_BadInput) (.ref C_OtherBook) = some false)
    (kx_BadInput_Unfit : PySem.W.kitOne K (.ref C_BadInput) (.ref C_Unfit) = some false)
    (kx_BadInput_ValueError : PySem.W.kitOne K (.ref C_BadInput) (.type "ValueError") = some true)
    (kx_BadKind_BadBook : PySem.W.kitOne K (.ref C_BadKind) (.ref C_BadBook) = some false)
    (kx_BadKind_BadCut : PySem.W.kitOne K (.ref C_BadKind) (.ref C_BadCut) = some false)
    (kx_BadKind_BadInput : PySem.W.kitOne K (.ref C_BadKind) (.ref C_BadInput) = some false)
    (kx_BadKind_BadKind : PySem.W.kitOne K (.ref C_BadKind) (.ref C_BadKind) = some true)
    (kx_BadKind_BadProgram : PySem.W.kitOne K (.ref C_BadKind) (.ref C_BadProgram) = some false)
    (kx_BadKind_BadReader : PySem.W.kitOne K (.ref C_BadKind) (.ref C_BadReader) = some false)
    (kx_BadKind_BadRun : PySem.W.kitOne K (.ref C_BadKind) (.ref C_BadRun) = some false)
    (kx_BadKind_BadShape : PySem.W.kitOne K (.ref C_BadKind) (.ref C_BadShape) = some false)
    (kx_BadKind_BadTable : PySem.W.kitOne K (.ref C_BadKind) (.ref C_BadTable) = some false)
    (kx_BadKind_GuessError : PySem.W.kitOne K (.ref C_BadKind) (.ref C_GuessError) = some true)
    (kx_BadKind_LookupError : PySem.W.kitOne K (.ref C_BadKind) (.type "LookupError") = some false)
    (kx_BadKind_Misfit : PySem.W.kitOne K (.ref C_BadKind) (.ref C_Misfit) = some false)
    (kx_BadKind_NoColumn : PySem.W.kitOne K (.ref C_BadKind) (.ref C_NoColumn) = some false)
    (kx_BadKind_NoKind : PySem.W.kitOne K (.ref C_BadKind) (.ref C_NoKind) = some false)
    (kx_BadKind_NoRow : PySem.W.kitOne K (.ref C_BadKind) (.ref C_NoRow) = some false)
    (kx_BadKind_NotHeld : PySem.W.kitOne K (.ref C_BadKind) (.ref C_NotHeld) = some false)
    (kx_BadKind_OrderMatters : PySem.W.kitOne K (.ref C_BadKind) (.ref C_OrderMatters) = some false)
    (kx_BadKind_OtherBook : PySem.W.kitOne K (.ref C_BadKind) (.ref C_OtherBook) = some false)
    (kx_BadKind_Unfit : PySem.W.kitOne K (.ref C_BadKind) (.ref C_Unfit) = some false)
    (kx_BadKind_ValueError : PySem.W.kitOne K (.ref C_BadKind) (.type "ValueError") = some true)
    (kx_BadProgram_BadBook : PySem.W.kitOne K (.ref C_BadProgram) (.ref C_BadBook) = some false)
    (kx_BadProgram_BadCut : PySem.W.kitOne K (.ref C_BadProgram) (.ref C_BadCut) = some false)
    (kx_BadProgram_BadInput : PySem.W.kitOne K (.ref C_BadProgram) (.ref C_BadInput) = some false)
    (kx_BadProgram_BadKind : PySem.W.kitOne K (.ref C_BadProgram) (.ref C_BadKind) = some false)
    (kx_BadProgram_BadProgram : PySem.W.kitOne K (.ref C_BadProgram) (.ref C_BadProgram) = some true)
    (kx_BadProgram_BadReader : PySem.W.kitOne K (.ref C_BadProgram) (.ref C_BadReader) = some false)
    (kx_BadProgram_BadRun : PySem.W.kitOne K (.ref C_BadProgram) (.ref C_BadRun) = some false)
    (kx_BadProgram_BadShape : PySem.W.kitOne K (.ref C_BadProgram) (.ref C_BadShape) = some false)
    (kx_BadProgram_BadTable : PySem.W.kitOne K (.ref C_BadProgram) (.ref C_BadTable) = some false)
    (kx_BadProgram_GuessError : PySem.W.kitOne K (.ref C_BadProgram) (.ref C_GuessError) = some true)
    (kx_BadProgram_LookupError : PySem.W.kitOne K (.ref C_BadProgram) (.type "LookupError") = some false)
    (kx_BadProgram_Misfit : PySem.W.kitOne K (.ref C_BadProgram) (.ref C_Misfit) = some false)
    (kx_BadProgram_NoColumn : PySem.W.kitOne K (.ref C_BadProgram) (.ref C_NoColumn) = some false)
    (kx_BadProgram_NoKind : PySem.W.kitOne K (.ref C_BadProgram) (.ref C_NoKind) = some false)
    (kx_BadProgram_NoRow : PySem.W.kitOne K (.ref C_BadProgram) (.ref C_NoRow) = some false)
    (kx_BadProgram_NotHeld : PySem.W.kitOne K (.ref C_BadProgram) (.ref C_NotHeld) = some false)
    (kx_BadProgram_OrderMatters : PySem.W.kitOne K (.ref C_BadProgram) (.ref C_OrderMatters) = some false)
    (kx_BadProgram_OtherBook : PySem.W.kitOne K (.ref C_BadProgram) (.ref C_OtherBook) = some false)
    (kx_BadProgram_Unfit : PySem.W.kitOne K (.ref C_BadProgram) (.ref C_Unfit) = some false)
    (kx_BadProgram_ValueError : PySem.W.kitOne K (.ref C_BadProgram) (.type "ValueError") = some true)
    (kx_BadReader_BadBook : PySem.W.kitOne K (.ref C_BadReader) (.ref C_BadBook) = some false)
    (kx_BadReader_BadCut : PySem.W.kitOne K (.ref C_BadReader) (.ref C_BadCut) = some false)
    (kx_BadReader_BadInput : PySem.W.kitOne K (.ref C_BadReader) (.ref C_BadInput) = some false)
    (kx_BadReader_BadKind : PySem.W.kitOne K (.ref C_BadReader) (.ref C_BadKind) = some false)
    (kx_BadReader_BadProgram : PySem.W.kitOne K (.ref C_BadReader) (.ref C_BadProgram) = some false)
    (kx_BadReader_BadReader : PySem.W.kitOne K (.ref C_BadReader) (.ref C_BadReader) = some true)
    (kx_BadReader_BadRun : PySem.W.kitOne K (.ref C_BadReader) (.ref C_BadRun) = some false)
    (kx_BadReader_BadShape : PySem.W.kitOne K (.ref C_BadReader) (.ref C_BadShape) = some false)
    (kx_BadReader_BadTable : PySem.W.kitOne K (.ref C_BadReader) (.ref C_BadTable) = some false)
    (kx_BadReader_GuessError : PySem.W.kitOne K (.ref C_BadReader) (.ref C_GuessError) = some true)
    (kx_BadReader_LookupError : PySem.W.kitOne K (.ref C_BadReader) (.type "LookupError") = some false)
    (kx_BadReader_Misfit : PySem.W.kitOne K (.ref C_BadReader) (.ref C_Misfit) = some false)
    (kx_BadReader_NoColumn : PySem.W.kitOne K (.ref C_BadReader) (.ref C_NoColumn) = some false)
    (kx_BadReader_NoKind : PySem.W.kitOne K (.ref C_BadReader) (.ref C_NoKind) = some false)
    (kx_BadReader_NoRow : PySem.W.kitOne K (.ref C_BadReader) (.ref C_NoRow) = some false)
    (kx_BadReader_NotHeld : PySem.W.kitOne K (.ref C_BadReader) (.ref C_NotHeld) = some false)
    (kx_BadReader_OrderMatters : PySem.W.kitOne K (.ref C_BadReader) (.ref C_OrderMatters) = some false)
    (kx_BadReader_OtherBook : PySem.W.kitOne K (.ref C_BadReader) (.ref C_OtherBook) = some false)
    (kx_BadReader_Unfit : PySem.W.kitOne K (.ref C_BadReader) (.ref C_Unfit) = some false)
    (kx_BadReader_ValueError : PySem.W.kitOne K (.ref C_BadReader) (.type "ValueError") = some true)
    (kx_BadRun_BadBook : PySem.W.kitOne K (.ref C_BadRun) (.ref C_BadBook) = some false)
    (kx_BadRun_BadCut : PySem.W.kitOne K (.ref C_BadRun) (.ref C_BadCut) = some false)
    (kx_BadRun_BadInput : PySem.W.kitOne K (.ref C_BadRun) (.ref C_BadInput) = some false)
    (kx_BadRun_BadKind : PySem.W.kitOne K (.ref C_BadRun) (.ref C_BadKind) = some false)
    (kx_BadRun_BadProgram : PySem.W.kitOne K (.ref C_BadRun) (.ref C_BadProgram) = some false)
    (kx_BadRun_BadReader : PySem.W.kitOne K (.ref C_BadRun) (.ref C_BadReader) = some false)
    (kx_BadRun_BadRun : PySem.W.kitOne K (.ref C_BadRun) (.ref C_BadRun) = some true)
    (kx_BadRun_BadShape : PySem.W.kitOne K (.ref C_BadRun) (.ref C_BadShape) = some false)
    (kx_BadRun_BadTable : PySem.W.kitOne K (.ref C_BadRun) (.ref C_BadTable) = some false)
    (kx_BadRun_GuessError : PySem.W.kitOne K (.ref C_BadRun) (.ref C_GuessError) = some true)
    (kx_BadRun_LookupError : PySem.W.kitOne K (.ref C_BadRun) (.type "LookupError") = some false)
    (kx_BadRun_Misfit : PySem.W.kitOne K (.ref C_BadRun) (.ref C_Misfit) = some false)
    (kx_BadRun_NoColumn : PySem.W.kitOne K (.ref C_BadRun) (.ref C_NoColumn) = some false)
    (kx_BadRun_NoKind : PySem.W.kitOne K (.ref C_BadRun) (.ref C_NoKind) = some false)
    (kx_BadRun_NoRow : PySem.W.kitOne K (.ref C_BadRun) (.ref C_NoRow) = some false)
    (kx_BadRun_NotHeld : PySem.W.kitOne K (.ref C_BadRun) (.ref C_NotHeld) = some false)
    (kx_BadRun_OrderMatters : PySem.W.kitOne K (.ref C_BadRun) (.ref C_OrderMatters) = some false)
    (kx_BadRun_OtherBook : PySem.W.kitOne K (.ref C_BadRun) (.ref C_OtherBook) = some false)
    (kx_BadRun_Unfit : PySem.W.kitOne K (.ref C_BadRun) (.ref C_Unfit) = some false)
    (kx_BadRun_ValueError : PySem.W.kitOne K (.ref C_BadRun) (.type "ValueError") = some true)
    (kx_BadShape_BadBook : PySem.W.kitOne K (.ref C_BadShape) (.ref C_BadBook) = some false)
    (kx_BadShape_BadCut : PySem.W.kitOne K (.ref C_BadShape) (.ref C_BadCut) = some false)
    (kx_BadShape_BadInput : PySem.W.kitOne K (.ref C_BadShape) (.ref C_BadInput) = some false)
    (kx_BadShape_BadKind : PySem.W.kitOne K (.ref C_BadShape) (.ref C_BadKind) = some false)
    (kx_BadShape_BadProgram : PySem.W.kitOne K (.ref C_BadShape) (.ref C_BadProgram) = some false)
    (kx_BadShape_BadReader : PySem.W.kitOne K (.ref C_BadShape) (.ref C_BadReader) = some false)
    (kx_BadShape_BadRun : PySem.W.kitOne K (.ref C_BadShape) (.ref C_BadRun) = some false)
    (kx_BadShape_BadShape : PySem.W.kitOne K (.ref C_BadShape) (.ref C_BadShape) = some true)
    (kx_BadShape_BadTable : PySem.W.kitOne K (.ref C_BadShape) (.ref C_BadTable) = some false)
    (kx_BadShape_GuessError : PySem.W.kitOne K (.ref C_BadShape) (.ref C_GuessError) = some true)
    (kx_BadShape_LookupError : PySem.W.kitOne K (.ref C_BadShape) (.type "LookupError") = some false)
    (kx_BadShape_Misfit : PySem.W.kitOne K (.ref C_BadShape) (.ref C_Misfit) = some false)
    (kx_BadShape_NoColumn : PySem.W.kitOne K (.ref C_BadShape) (.ref C_NoColumn) = some false)
    (kx_BadShape_NoKind : PySem.W.kitOne K (.ref C_BadShape) (.ref C_NoKind) = some false)
    (kx_BadShape_NoRow : PySem.W.kitOne K (.ref C_BadShape) (.ref C_NoRow) = some false)
    (kx_BadShape_NotHeld : PySem.W.kitOne K (.ref C_BadShape) (.ref C_NotHeld) = some false)
    (kx_BadShape_OrderMatters : PySem.W.kitOne K (.ref C_BadShape) (.ref C_OrderMatters) = some false)
    (kx_BadShape_OtherBook : PySem.W.kitOne K (.ref C_BadShape) (.ref C_OtherBook) = some false)
    (kx_BadShape_Unfit : PySem.W.kitOne K (.ref C_BadShape) (.ref C_Unfit) = some false)
    (kx_BadShape_ValueError : PySem.W.kitOne K (.ref C_BadShape) (.type "ValueError") = some true)
    (kx_BadTable_BadBook : PySem.W.kitOne K (.ref C_BadTable) (.ref C_BadBook) = some false)
    (kx_BadTable_BadCut : PySem.W.kitOne K (.ref C_BadTable) (.ref C_BadCut) = some false)
    (kx_BadTable_BadInput : PySem.W.kitOne K (.ref C_BadTable) (.ref C_BadInput) = some false)
    (kx_BadTable_BadKind : PySem.W.kitOne K (.ref C_BadTable) (.ref C_BadKind) = some false)
    (kx_BadTable_BadProgram : PySem.W.kitOne K (.ref C_BadTable) (.ref C_BadProgram) = some false)
    (kx_BadTable_BadReader : PySem.W.kitOne K (.ref C_BadTable) (.ref C_BadReader) = some false)
    (kx_BadTable_BadRun : PySem.W.kitOne K (.ref C_BadTable) (.ref C_BadRun) = some false)
    (kx_BadTable_BadShape : PySem.W.kitOne K (.ref C_BadTable) (.ref C_BadShape) = some false)
    (kx_BadTable_BadTable : PySem.W.kitOne K (.ref C_BadTable) (.ref C_BadTable) = some true)
    (kx_BadTable_GuessError : PySem.W.kitOne K (.ref C_BadTable) (.ref C_GuessError) = some true)
    (kx_BadTable_LookupError : PySem.W.kitOne K (.ref C_BadTable) (.type "LookupError") = some false)
    (kx_BadTable_Misfit : PySem.W.kitOne K (.ref C_BadTable) (.ref C_Misfit) = some false)
    (kx_BadTable_NoColumn : PySem.W.kitOne K (.ref C_BadTable) (.ref C_NoColumn) = some false)
    (kx_BadTable_NoKind : PySem.W.kitOne K (.ref C_BadTable) (.ref C_NoKind) = some false)
    (kx_BadTable_NoRow : PySem.W.kitOne K (.ref C_BadTable) (.ref C_NoRow) = some false)
    (kx_BadTable_NotHeld : PySem.W.kitOne K (.ref C_BadTable) (.ref C_NotHeld) = some false)
    (kx_BadTable_OrderMatters : PySem.W.kitOne K (.ref C_BadTable) (.ref C_OrderMatters) = some false)
    (kx_BadTable_OtherBook : PySem.W.kitOne K (.ref C_BadTable) (.ref C_OtherBook) = some false)
    (kx_BadTable_Unfit : PySem.W.kitOne K (.ref C_BadTable) (.ref C_Unfit) = some false)
    (kx_BadTable_ValueError : PySem.W.kitOne K (.ref C_BadTable) (.type "ValueError") = some true)
    (kx_Misfit_BadBook : PySem.W.kitOne K (.ref C_Misfit) (.ref C_BadBook) = some false)
    (kx_Misfit_BadCut : PySem.W.kitOne K (.ref C_Misfit) (.ref C_BadCut) = some false)
    (kx_Misfit_BadInput : PySem.W.kitOne K (.ref C_Misfit) (.ref C_BadInput) = some false)
    (kx_Misfit_BadKind : PySem.W.kitOne K (.ref C_Misfit) (.ref C_BadKind) = some false)
    (kx_Misfit_BadProgram : PySem.W.kitOne K (.ref C_Misfit) (.ref C_BadProgram) = some false)
    (kx_Misfit_BadReader : PySem.W.kitOne K (.ref C_Misfit) (.ref C_BadReader) = some false)
    (kx_Misfit_BadRun : PySem.W.kitOne K (.ref C_Misfit) (.ref C_BadRun) = some false)
    (kx_Misfit_BadShape : PySem.W.kitOne K (.ref C_Misfit) (.ref C_BadShape) = some false)
    (kx_Misfit_BadTable : PySem.W.kitOne K (.ref C_Misfit) (.ref C_BadTable) = some false)
    (kx_Misfit_GuessError : PySem.W.kitOne K (.ref C_Misfit) (.ref C_GuessError) = some true)
    (kx_Misfit_LookupError : PySem.W.kitOne K (.ref C_Misfit) (.type "LookupError") = some false)
    (kx_Misfit_Misfit : PySem.W.kitOne K (.ref C_Misfit) (.ref C_Misfit) = some true)
    (kx_Misfit_NoColumn : PySem.W.kitOne K (.ref C_Misfit) (.ref C_NoColumn) = some false)
    (kx_Misfit_NoKind : PySem.W.kitOne K (.ref C_Misfit) (.ref C_NoKind) = some false)
    (kx_Misfit_NoRow : PySem.W.kitOne K (.ref C_Misfit) (.ref C_NoRow) = some false)
    (kx_Misfit_NotHeld : PySem.W.kitOne K (.ref C_Misfit) (.ref C_NotHeld) = some false)
    (kx_Misfit_OrderMatters : PySem.W.kitOne K (.ref C_Misfit) (.ref C_OrderMatters) = some false)
    (kx_Misfit_OtherBook : PySem.W.kitOne K (.ref C_Misfit) (.ref C_OtherBook) = some false)
    (kx_Misfit_Unfit : PySem.W.kitOne K (.ref C_Misfit) (.ref C_Unfit) = some false)
    (kx_Misfit_ValueError : PySem.W.kitOne K (.ref C_Misfit) (.type "ValueError") = some true)
    (kx_NoColumn_BadBook : PySem.W.kitOne K (.ref C_NoColumn) (.ref C_BadBook) = some false)
    (kx_NoColumn_BadCut : PySem.W.kitOne K (.ref C_NoColumn) (.ref C_BadCut) = some false)
    (kx_NoColumn_BadInput : PySem.W.kitOne K (.ref C_NoColumn) (.ref C_BadInput) = some false)
    (kx_NoColumn_BadKind : PySem.W.kitOne K (.ref C_NoColumn) (.ref C_BadKind) = some false)
    (kx_NoColumn_BadProgram : PySem.W.kitOne K (.ref C_NoColumn) (.ref C_BadProgram) = some false)
    (kx_NoColumn_BadReader : PySem.W.kitOne K (.ref C_NoColumn) (.ref C_BadReader) = some false)
    (kx_NoColumn_BadRun : PySem.W.kitOne K (.ref C_NoColumn) (.ref C_BadRun) = some false)
    (kx_NoColumn_BadShape : PySem.W.kitOne K (.ref C_NoColumn) (.ref C_BadShape) = some false)
    (kx_NoColumn_BadTable : PySem.W.kitOne K (.ref C_NoColumn) (.ref C_BadTable) = some false)
    (kx_NoColumn_GuessError : PySem.W.kitOne K (.ref C_NoColumn) (.ref C_GuessError) = some false)
    (kx_NoColumn_LookupError : PySem.W.kitOne K (.ref C_NoColumn) (.type "LookupError") = some true)
    (kx_NoColumn_Misfit : PySem.W.kitOne K (.ref C_NoColumn) (.ref C_Misfit) = some false)
    (kx_NoColumn_NoColumn : PySem.W.kitOne K (.ref C_NoColumn) (.ref C_NoColumn) = some true)
    (kx_NoColumn_NoKind : PySem.W.kitOne K (.ref C_NoColumn) (.ref C_NoKind) = some false)
    (kx_NoColumn_NoRow : PySem.W.kitOne K (.ref C_NoColumn) (.ref C_NoRow) = some false)
    (kx_NoColumn_NotHeld : PySem.W.kitOne K (.ref C_NoColumn) (.ref C_NotHeld) = some false)
    (kx_NoColumn_OrderMatters : PySem.W.kitOne K (.ref C_NoColumn) (.ref C_OrderMatters) = some false)
    (kx_NoColumn_OtherBook : PySem.W.kitOne K (.ref C_NoColumn) (.ref C_OtherBook) = some false)
    (kx_NoColumn_Unfit : PySem.W.kitOne K (.ref C_NoColumn) (.ref C_Unfit) = some false)
    (kx_NoColumn_ValueError : PySem.W.kitOne K (.ref C_NoColumn) (.type "ValueError") = some false)
    (kx_NoKind_BadBook : PySem.W.kitOne K (.ref C_NoKind) (.ref C_BadBook) = some false)
    (kx_NoKind_BadCut : PySem.W.kitOne K (.ref C_NoKind) (.ref C_BadCut) = some false)
    (kx_NoKind_BadInput : PySem.W.kitOne K (.ref C_NoKind) (.ref C_BadInput) = some false)
    (kx_NoKind_BadKind : PySem.W.kitOne K (.ref C_NoKind) (.ref C_BadKind) = some false)
    (kx_NoKind_BadProgram : PySem.W.kitOne K (.ref C_NoKind) (.ref C_BadProgram) = some false)
    (kx_NoKind_BadReader : PySem.W.kitOne K (.ref C_NoKind) (.ref C_BadReader) = some false)
    (kx_NoKind_BadRun : PySem.W.kitOne K (.ref C_NoKind) (.ref C_BadRun) = some false)
    (kx_NoKind_BadShape : PySem.W.kitOne K (.ref C_NoKind) (.ref C_BadShape) = some false)
    (kx_NoKind_BadTable : PySem.W.kitOne K (.ref C_NoKind) (.ref C_BadTable) = some false)
    (kx_NoKind_GuessError : PySem.W.kitOne K (.ref C_NoKind) (.ref C_GuessError) = some false)
    (kx_NoKind_LookupError : PySem.W.kitOne K (.ref C_NoKind) (.type "LookupError") = some true)
    (kx_NoKind_Misfit : PySem.W.kitOne K (.ref C_NoKind) (.ref C_Misfit) = some false)
    (kx_NoKind_NoColumn : PySem.W.kitOne K (.ref C_NoKind) (.ref C_NoColumn) = some false)
    (kx_NoKind_NoKind : PySem.W.kitOne K (.ref C_NoKind) (.ref C_NoKind) = some true)
    (kx_NoKind_NoRow : PySem.W.kitOne K (.ref C_NoKind) (.ref C_NoRow) = some false)
    (kx_NoKind_NotHeld : PySem.W.kitOne K (.ref C_NoKind) (.ref C_NotHeld) = some false)
    (kx_NoKind_OrderMatters : PySem.W.kitOne K (.ref C_NoKind) (.ref C_OrderMatters) = some false)
    (kx_NoKind_OtherBook : PySem.W.kitOne K (.ref C_NoKind) (.ref C_OtherBook) = some false)
    (kx_NoKind_Unfit : PySem.W.kitOne K (.ref C_NoKind) (.ref C_Unfit) = some false)
    (kx_NoKind_ValueError : PySem.W.kitOne K (.ref C_NoKind) (.type "ValueError") = some false)
    (kx_NoRow_BadBook : PySem.W.kitOne K (.ref C_NoRow) (.ref C_BadBook) = some false)
    (kx_NoRow_BadCut : PySem.W.kitOne K (.ref C_NoRow) (.ref C_BadCut) = some false)
    (kx_NoRow_BadInput : PySem.W.kitOne K (.ref C_NoRow) (.ref C_BadInput) = some false)
    (kx_NoRow_BadKind : PySem.W.kitOne K (.ref C_NoRow) (.ref C_BadKind) = some false)
    (kx_NoRow_BadProgram : PySem.W.kitOne K (.ref C_NoRow) (.ref C_BadProgram) = some false)
    (kx_NoRow_BadReader : PySem.W.kitOne K (.ref C_NoRow) (.ref C_BadReader) = some false)
    (kx_NoRow_BadRun : PySem.W.kitOne K (.ref C_NoRow) (.ref C_BadRun) = some false)
    (kx_NoRow_BadShape : PySem.W.kitOne K (.ref C_NoRow) (.ref C_BadShape) = some false)
    (kx_NoRow_BadTable : PySem.W.kitOne K (.ref C_NoRow) (.ref C_BadTable) = some false)
    (kx_NoRow_GuessError : PySem.W.kitOne K (.ref C_NoRow) (.ref C_GuessError) = some false)
    (kx_NoRow_LookupError : PySem.W.kitOne K (.ref C_NoRow) (.type "LookupError") = some true)
    (kx_NoRow_Misfit : PySem.W.kitOne K (.ref C_NoRow) (.ref C_Misfit) = some false)
    (kx_NoRow_NoColumn : PySem.W.kitOne K (.ref C_NoRow) (.ref C_NoColumn) = some false)
    (kx_NoRow_NoKind : PySem.W.kitOne K (.ref C_NoRow) (.ref C_NoKind) = some false)
    (kx_NoRow_NoRow : PySem.W.kitOne K (.ref C_NoRow) (.ref C_NoRow) = some true)
    (kx_NoRow_NotHeld : PySem.W.kitOne K (.ref C_NoRow) (.ref C_NotHeld) = some false)
    (kx_NoRow_OrderMatters : PySem.W.kitOne K (.ref C_NoRow) (.ref C_OrderMatters) = some false)
    (kx_NoRow_OtherBook : PySem.W.kitOne K (.ref C_NoRow) (.ref C_OtherBook) = some false)
    (kx_NoRow_Unfit : PySem.W.kitOne K (.ref C_NoRow) (.ref C_Unfit) = some false)
    (kx_NoRow_ValueError : PySem.W.kitOne K (.ref C_NoRow) (.type "ValueError") = some false)
    (kx_NotHeld_BadBook : PySem.W.kitOne K (.ref C_NotHeld) (.ref C_BadBook) = some false)
    (kx_NotHeld_BadCut : PySem.W.kitOne K (.ref C_NotHeld) (.ref C_BadCut) = some false)
    (kx_NotHeld_BadInput : PySem.W.kitOne K (.ref C_NotHeld) (.ref C_BadInput) = some false)
    (kx_NotHeld_BadKind : PySem.W.kitOne K (.ref C_NotHeld) (.ref C_BadKind) = some false)
    (kx_NotHeld_BadProgram : PySem.W.kitOne K (.ref C_NotHeld) (.ref C_BadProgram) = some false)
    (kx_NotHeld_BadReader : PySem.W.kitOne K (.ref C_NotHeld) (.ref C_BadReader) = some false)
    (kx_NotHeld_BadRun : PySem.W.kitOne K (.ref C_NotHeld) (.ref C_BadRun) = some false)
    (kx_NotHeld_BadShape : PySem.W.kitOne K (.ref C_NotHeld) (.ref C_BadShape) = some false)
    (kx_NotHeld_BadTable : PySem.W.kitOne K (.ref C_NotHeld) (.ref C_BadTable) = some false)
    (kx_NotHeld_GuessError : PySem.W.kitOne K (.ref C_NotHeld) (.ref C_GuessError) = some true)
    (kx_NotHeld_LookupError : PySem.W.kitOne K (.ref C_NotHeld) (.type "LookupError") = some false)
    (kx_NotHeld_Misfit : PySem.W.kitOne K (.ref C_NotHeld) (.ref C_Misfit) = some false)
    (kx_NotHeld_NoColumn : PySem.W.kitOne K (.ref C_NotHeld) (.ref C_NoColumn) = some false)
    (kx_NotHeld_NoKind : PySem.W.kitOne K (.ref C_NotHeld) (.ref C_NoKind) = some false)
    (kx_NotHeld_NoRow : PySem.W.kitOne K (.ref C_NotHeld) (.ref C_NoRow) = some false)
    (kx_NotHeld_NotHeld : PySem.W.kitOne K (.ref C_NotHeld) (.ref C_NotHeld) = some true)
    (kx_NotHeld_OrderMatters : PySem.W.kitOne K (.ref C_NotHeld) (.ref C_OrderMatters) = some false)
    (kx_NotHeld_OtherBook : PySem.W.kitOne K (.ref C_NotHeld) (.ref C_OtherBook) = some false)
    (kx_NotHeld_Unfit : PySem.W.kitOne K (.ref C_NotHeld) (.ref C_Unfit) = some false)
    (kx_NotHeld_ValueError : PySem.W.kitOne K (.ref C_NotHeld) (.type "ValueError") = some true)
    (kx_OrderMatters_BadBook : PySem.W.kitOne K (.ref C_OrderMatters) (.ref C_BadBook) = some false)
    (kx_OrderMatters_BadCut : PySem.W.kitOne K (.ref C_OrderMatters) (.ref C_BadCut) = some false)
    (kx_OrderMatters_BadInput : PySem.W.kitOne K (.ref C_OrderMatters) (.ref C_BadInput) = some false)
    (kx_OrderMatters_BadKind : PySem.W.kitOne K (.ref C_OrderMatters) (.ref C_BadKind) = some false)
    (kx_OrderMatters_BadProgram : PySem.W.kitOne K (.ref C_OrderMatters) (.ref C_BadProgram) = some false)
    (kx_OrderMatters_BadReader : PySem.W.kitOne K (.ref C_OrderMatters) (.ref C_BadReader) = some false)
    (kx_OrderMatters_BadRun : PySem.W.kitOne K (.ref C_OrderMatters) (.ref C_BadRun) = some false)
    (kx_OrderMatters_BadShape : PySem.W.kitOne K (.ref C_OrderMatters) (.ref C_BadShape) = some false)
    (kx_OrderMatters_BadTable : PySem.W.kitOne K (.ref C_OrderMatters) (.ref C_BadTable) = some false)
    (kx_OrderMatters_GuessError : PySem.W.kitOne K (.ref C_OrderMatters) (.ref C_GuessError) = some true)
    (kx_OrderMatters_LookupError : PySem.W.kitOne K (.ref C_OrderMatters) (.type "LookupError") = some false)
    (kx_OrderMatters_Misfit : PySem.W.kitOne K (.ref C_OrderMatters) (.ref C_Misfit) = some false)
    (kx_OrderMatters_NoColumn : PySem.W.kitOne K (.ref C_OrderMatters) (.ref C_NoColumn) = some false)
    (kx_OrderMatters_NoKind : PySem.W.kitOne K (.ref C_OrderMatters) (.ref C_NoKind) = some false)
    (kx_OrderMatters_NoRow : PySem.W.kitOne K (.ref C_OrderMatters) (.ref C_NoRow) = some false)
    (kx_OrderMatters_NotHeld : PySem.W.kitOne K (.ref C_OrderMatters) (.ref C_NotHeld) = some false)
    (kx_OrderMatters_OrderMatters : PySem.W.kitOne K (.ref C_OrderMatters) (.ref C_OrderMatters) = some true)
    (kx_OrderMatters_OtherBook : PySem.W.kitOne K (.ref C_OrderMatters) (.ref C_OtherBook) = some false)
    (kx_OrderMatters_Unfit : PySem.W.kitOne K (.ref C_OrderMatters) (.ref C_Unfit) = some false)
    (kx_OrderMatters_ValueError : PySem.W.kitOne K (.ref C_OrderMatters) (.type "ValueError") = some true)
    (kx_OtherBook_BadBook : PySem.W.kitOne K (.ref C_OtherBook) (.ref C_BadBook) = some false)
    (kx_OtherBook_BadCut : PySem.W.kitOne K (.ref C_OtherBook) (.ref C_BadCut) = some false)
    (kx_OtherBook_BadInput : PySem.W.kitOne K (.ref C_OtherBook) (.ref C_BadInput) = some false)
    (kx_OtherBook_BadKind : PySem.W.kitOne K (.ref C_OtherBook) (.ref C_BadKind) = some false)
    (kx_OtherBook_BadProgram : PySem.W.kitOne K (.ref C_OtherBook) (.ref C_BadProgram) = some false)
    (kx_OtherBook_BadReader : PySem.W.kitOne K (.ref C_OtherBook) (.ref C_BadReader) = some false)
    (kx_OtherBook_BadRun : PySem.W.kitOne K (.ref C_OtherBook) (.ref C_BadRun) = some false)
    (kx_OtherBook_BadShape : PySem.W.kitOne K (.ref C_OtherBook) (.ref C_BadShape) = some false)
    (kx_OtherBook_BadTable : PySem.W.kitOne K (.ref C_OtherBook) (.ref C_BadTable) = some false)
    (kx_OtherBook_GuessError : PySem.W.kitOne K (.ref C_OtherBook) (.ref C_GuessError) = some true)
    (kx_OtherBook_LookupError : PySem.W.kitOne K (.ref C_OtherBook) (.type "LookupError") = some false)
    (kx_OtherBook_Misfit : PySem.W.kitOne K (.ref C_OtherBook) (.ref C_Misfit) = some false)
    (kx_OtherBook_NoColumn : PySem.W.kitOne K (.ref C_OtherBook) (.ref C_NoColumn) = some false)
    (kx_OtherBook_NoKind : PySem.W.kitOne K (.ref C_OtherBook) (.ref C_NoKind) = some false)
    (kx_OtherBook_NoRow : PySem.W.kitOne K (.ref C_OtherBook) (.ref C_NoRow) = some false)
    (kx_OtherBook_NotHeld : PySem.W.kitOne K (.ref C_OtherBook) (.ref C_NotHeld) = some false)
    (kx_OtherBook_OrderMatters : PySem.W.kitOne K (.ref C_OtherBook) (.ref C_OrderMatters) = some false)
    (kx_OtherBook_OtherBook : PySem.W.kitOne K (.ref C_OtherBook) (.ref C_OtherBook) = some true)
    (kx_OtherBook_Unfit : PySem.W.kitOne K (.ref C_OtherBook) (.ref C_Unfit) = some false)
    (kx_OtherBook_ValueError : PySem.W.kitOne K (.ref C_OtherBook) (.type "ValueError") = some true)
    (kx_Unfit_BadBook : PySem.W.kitOne K (.ref C_Unfit) (.ref C_BadBook) = some false)
    (kx_Unfit_BadCut : PySem.W.kitOne K (.ref C_Unfit) (.ref C_BadCut) = some false)
    (kx_Unfit_BadInput : PySem.W.kitOne K (.ref C_Unfit) (.ref C_BadInput) = some false)
    (kx_Unfit_BadKind : PySem.W.kitOne K (.ref C_Unfit) (.ref C_BadKind) = some false)
    (kx_Unfit_BadProgram : PySem.W.kitOne K (.ref C_Unfit) (.ref C_BadProgram) = some false)
    (kx_Unfit_BadReader : PySem.W.kitOne K (.ref C_Unfit) (.ref C_BadReader) = some false)
    (kx_Unfit_BadRun : PySem.W.kitOne K (.ref C_Unfit) (.ref C_BadRun) = some false)
    (kx_Unfit_BadShape : PySem.W.kitOne K (.ref C_Unfit) (.ref C_BadShape) = some false)
    (kx_Unfit_BadTable : PySem.W.kitOne K (.ref C_Unfit) (.ref C_BadTable) = some false)
    (kx_Unfit_GuessError : PySem.W.kitOne K (.ref C_Unfit) (.ref C_GuessError) = some true)
    (kx_Unfit_LookupError : PySem.W.kitOne K (.ref C_Unfit) (.type "LookupError") = some false)
    (kx_Unfit_Misfit : PySem.W.kitOne K (.ref C_Unfit) (.ref C_Misfit) = some false)
    (kx_Unfit_NoColumn : PySem.W.kitOne K (.ref C_Unfit) (.ref C_NoColumn) = some false)
    (kx_Unfit_NoKind : PySem.W.kitOne K (.ref C_Unfit) (.ref C_NoKind) = some false)
    (kx_Unfit_NoRow : PySem.W.kitOne K (.ref C_Unfit) (.ref C_NoRow) = some false)
    (kx_Unfit_NotHeld : PySem.W.kitOne K (.ref C_Unfit) (.ref C_NotHeld) = some false)
    (kx_Unfit_OrderMatters : PySem.W.kitOne K (.ref C_Unfit) (.ref C_OrderMatters) = some false)
    (kx_Unfit_OtherBook : PySem.W.kitOne K (.ref C_Unfit) (.ref C_OtherBook) = some false)
    (kx_Unfit_Unfit : PySem.W.kitOne K (.ref C_Unfit) (.ref C_Unfit) = some true)
    (kx_Unfit_ValueError : PySem.W.kitOne K (.ref C_Unfit) (.type "ValueError") = some true)
    (z_LookupError : PySem.W.nsIn K mainGlobals "LookupError" = some none)
    (z_ValueError : PySem.W.nsIn K mainGlobals "ValueError" = some none)
    (z_abs : PySem.W.nsIn K mainGlobals "abs" = some none)
    (z_all : PySem.W.nsIn K mainGlobals "all" = some none)
    (z_enumerate : PySem.W.nsIn K mainGlobals "enumerate" = some none)
    (z_int : PySem.W.nsIn K mainGlobals "int" = some none)
    (z_isinstance : PySem.W.nsIn K mainGlobals "isinstance" = some none)
    (z_len : PySem.W.nsIn K mainGlobals "len" = some none)
    (z_max : PySem.W.nsIn K mainGlobals "max" = some none)
    (z_min : PySem.W.nsIn K mainGlobals "min" = some none)
    (z_range : PySem.W.nsIn K mainGlobals "range" = some none)
    (z_repr : PySem.W.nsIn K mainGlobals "repr" = some none)
    (z_tuple : PySem.W.nsIn K mainGlobals "tuple" = some none) :
    ∃ fd : FuncData, (∀ (s : Shared) (v : Value), BindsTo s fd ⟨[v], []⟩ [("_law_script", v)]) ∧ ∀ base : Heap, K.In base → base.Ns mainGlobals mg → _root_.G.FnOk l.prog w K mg base CX0 9 fa fd ["_law_script"] (lowSp K (fun _ => 0) sp_law) := by
  have e := hfa.symm.trans (PySem.W.mg_of X G a_law)
  cases e
  obtain ⟨cl, e_GuessError, e_BadShape, e_BadKind, e_BadBook, e_BadTable, e_BadReader, e_BadCut, e_OtherBook, e_NotHeld, e_OrderMatters, e_Unfit, e_Misfit, e_BadProgram, e_BadRun, e_BadInput, e_NoKind, e_NoColumn, e_NoRow⟩ : ∃ cl : Nm, cl "GuessError" = C_GuessError ∧ cl "BadShape" = C_BadShape ∧ cl "BadKind" = C_BadKind ∧ cl "BadBook" = C_BadBook ∧ cl "BadTable" = C_BadTable ∧ cl "BadReader" = C_BadReader ∧ cl "BadCut" = C_BadCut ∧ cl "OtherBook" = C_OtherBook ∧ cl "NotHeld" = C_NotHeld ∧ cl "OrderMatters" = C_OrderMatters ∧ cl "Unfit" = C_Unfit ∧ cl "Misfit" = C_Misfit ∧ cl "BadProgram" = C_BadProgram ∧ cl "BadRun" = C_BadRun ∧ cl "BadInput" = C_BadInput ∧ cl "NoKind" = C_NoKind ∧ cl "NoColumn" = C_NoColumn ∧ cl "NoRow" = C_NoRow := ⟨nm1 "GuessError" C_GuessError (nm1 "BadShape" C_BadShape (nm1 "BadKind" C_BadKind (nm1 "BadBook" C_BadBook (nm1 "BadTable" C_BadTable (nm1 "BadReader" C_BadReader (nm1 "BadCut" C_BadCut (nm1 "OtherBook" C_OtherBook (nm1 "NotHeld" C_NotHeld (nm1 "OrderMatters" C_OrderMatters (nm1 "Unfit" C_Unfit (nm1 "Misfit" C_Misfit (nm1 "BadProgram" C_BadProgram (nm1 "BadRun" C_BadRun (nm1 "BadInput" C_BadInput (nm1 "NoKind" C_NoKind (nm1 "NoColumn" C_NoColumn (nm1 "NoRow" C_NoRow (fun _ => 0)))))))))))))))))), by simp [nm1], by simp [nm1], by simp [nm1], by simp [nm1], by simp [nm1], by simp [nm1], by simp [nm1], by simp [nm1], by simp [nm1], by simp [nm1], by simp [nm1], by simp [nm1], by simp [nm1], by simp [nm1], by simp [nm1], by simp [nm1], by simp [nm1], by simp [nm1]⟩
  subst e_GuessError
  subst e_BadShape
  subst e_BadKind
  subst e_BadBook
  subst e_BadTable
  subst e_BadReader
  subst e_BadCut
  subst e_OtherBook
  subst e_NotHeld
  subst e_OrderMatters
  subst e_Unfit
  subst e_Misfit
  subst e_BadProgram
  subst e_BadRun
  subst e_BadInput
  subst e_NoKind
  subst e_NoColumn
  subst e_NoRow
  have F_BadBook_init := fun_ofD F_BadBook_init
  have b_BadBook_init := F_BadBook_init.binds (ps := ["self", "part"]) fun _ _ _ _ _ _ us hl => match us, hl with | [_, _], _ => rfl
  have F_BadCut_init := fun_ofD F_BadCut_init
  have b_BadCut_init := F_BadCut_init.binds (ps := ["self", "cut"]) fun _ _ _ _ _ _ us hl => match us, hl with | [_, _], _ => rfl
  have F_BadInput_init := fun_ofD F_BadInput_init
  have b_BadInput_init := F_BadInput_init.binds (ps := ["self", "at"]) fun _ _ _ _ _ _ us hl => match us, hl with | [_, _], _ => rfl
  have F_BadKind_init := fun_ofD F_BadKind_init
  have b_BadKind_init := F_BadKind_init.binds (ps := ["self", "part"]) fun _ _ _ _ _ _ us hl => match us, hl with | [_, _], _ => rfl
  have F_BadProgram_init := fun_ofD F_BadProgram_init
  have b_BadProgram_init := F_BadProgram_init.binds (ps := ["self", "part"]) fun _ _ _ _ _ _ us hl => match us, hl with | [_, _], _ => rfl
  have F_BadReader_init := fun_ofD F_BadReader_init
  have b_BadReader_init := F_BadReader_init.binds (ps := ["self", "part"]) fun _ _ _ _ _ _ us hl => match us, hl with | [_, _], _ => rfl
  have F_BadRun_init := fun_ofD F_BadRun_init
  have b_BadRun_init := F_BadRun_init.binds (ps := ["self", "part"]) fun _ _ _ _ _ _ us hl => match us, hl with | [_, _], _ => rfl
  have F_BadShape_init := fun_ofD F_BadShape_init
  have b_BadShape_init := F_BadShape_init.binds (ps := ["self", "part"]) fun _ _ _ _ _ _ us hl => match us, hl with | [_, _], _ => rfl
  have F_BadTable_init := fun_ofD F_BadTable_init
  have b_BadTable_init := F_BadTable_init.binds (ps := ["self", "part"]) fun _ _ _ _ _ _ us hl => match us, hl with | [_, _], _ => rfl
  have F_Misfit_init := fun_ofD F_Misfit_init
  have b_Misfit_init := F_Misfit_init.binds (ps := ["self", "row", "column", "text"]) fun _ _ _ _ _ _ us hl => match us, hl with | [_, _, _, _], _ => rfl
  have F_NoColumn_init := fun_ofD F_NoColumn_init
  have b_NoColumn_init := F_NoColumn_init.binds (ps := ["self", "name"]) fun _ _ _ _ _ _ us hl => match us, hl with | [_, _], _ => rfl
  have F_NoKind_init := fun_ofD F_NoKind_init
  have b_NoKind_init := F_NoKind_init.binds (ps := ["self", "name"]) fun _ _ _ _ _ _ us hl => match us, hl with | [_, _], _ => rfl
  have F_NoRow_init := fun_ofD F_NoRow_init
  have b_NoRow_init := F_NoRow_init.binds (ps := ["self", "at"]) fun _ _ _ _ _ _ us hl => match us, hl with | [_, _], _ => rfl
  have F_NotHeld_init := fun_ofD F_NotHeld_init
  have b_NotHeld_init := F_NotHeld_init.binds (ps := ["self", "column", "cell"]) fun _ _ _ _ _ _ us hl => match us, hl with | [_, _, _], _ => rfl
  have F_OrderMatters_init := fun_ofD F_OrderMatters_init
  have b_OrderMatters_init := F_OrderMatters_init.binds (ps := ["self", "pieces"]) fun _ _ _ _ _ _ us hl => match us, hl with | [_, _], _ => rfl
  have F_OtherBook_init := fun_ofD F_OtherBook_init
  have b_OtherBook_init := F_OtherBook_init.binds (ps := ["self", "name"]) fun _ _ _ _ _ _ us hl => match us, hl with | [_, _], _ => rfl
  have F_Unfit_init := fun_ofD F_Unfit_init
  have b_Unfit_init := F_Unfit_init.binds (ps := ["self", "kind", "text"]) fun _ _ _ _ _ _ us hl => match us, hl with | [_, _, _], _ => rfl
  have B_law := FunD.bindsA (ps := ["_law_script"]) F_law fun _ _ _ _ _ _ us hl => match us, hl with | [_], _ => rfl
  have k_l_marks := F_l_marks.kp
  have F_l_marks := fun_ofD F_l_marks
  have b_l_marks := F_l_marks.binds (ps := ["_law_e"]) fun _ _ _ _ _ _ us hl => match us, hl with | [_], _ => rfl
  have k_l_is_placed := F_l_is_placed.kp
  have F_l_is_placed := fun_ofD F_l_is_placed
  have b_l_is_placed := F_l_is_placed.binds (ps := ["_law_e", "_law_at"]) fun _ _ _ _ _ _ us hl => match us, hl with | [_, _], _ => rfl
  have k_l_are_made := F_l_are_made.kp
  have F_l_are_made := fun_ofD F_l_are_made
  have b_l_are_made := F_l_are_made.binds (ps := ["_law_one", "_law_other", "_law_third"]) fun _ _ _ _ _ _ us hl => match us, hl with | [_, _, _], _ => rfl
  have k_l_take := F_l_take.kp
  have F_l_take := fun_ofD F_l_take
  have b_l_take := F_l_take.binds (ps := ["_law_bag_here", "_law_many"]) fun _ _ _ _ _ _ us hl => match us, hl with | [_, _], _ => rfl
  have k_l_of := F_l_of.kp
  have F_l_of := fun_ofD F_l_of
  have b_l_of := F_l_of.binds (ps := ["_law_bag_here", "_law_some"]) fun _ _ _ _ _ _ us hl => match us, hl with | [_, _], _ => rfl
  have k_l_signs := F_l_signs.kp
  have F_l_signs := fun_ofD F_l_signs
  have b_l_signs := F_l_signs.binds (ps := []) fun _ _ _ _ _ _ us hl => match us, hl with | [], _ => rfl
  have k_l_digits := F_l_digits.kp
  have F_l_digits := fun_ofD F_l_digits
  have b_l_digits := F_l_digits.binds (ps := ["_law_bag_here", "_law_least", "_law_most"]) fun _ _ _ _ _ _ us hl => match us, hl with | [_, _, _], _ => rfl
  have k_l_text := F_l_text.kp
  have F_l_text := fun_ofD F_l_text
  have b_l_text := F_l_text.binds (ps := ["_law_bag_here"]) fun _ _ _ _ _ _ us hl => match us, hl with | [_], _ => rfl
  have k_l_thing := F_l_thing.kp
  have F_l_thing := fun_ofD F_l_thing
  have b_l_thing := F_l_thing.binds (ps := ["_law_bag_here", "_law_deep"]) fun _ _ _ _ _ _ us hl => match us, hl with | [_, _], _ => rfl
  have k_l_bag := F_l_bag.kp
  have F_l_bag := fun_ofD F_l_bag
  have b_l_bag := F_l_bag.binds (ps := ["_law_script", "_law_at"]) fun _ _ _ _ _ _ us hl => match us, hl with | [_, _], _ => rfl
  have k_law := F_law.kp
  have F_law := fun_ofD F_law
  have b_law := F_law.binds (ps := ["_law_script"]) fun _ _ _ _ _ _ us hl => match us, hl with | [_], _ => rfl
  have T : Txt K mg ⟨cl, f_l_marks, d_l_marks, f_l_is_placed, d_l_is_placed, f_l_are_made, d_l_are_made, f_l_take, d_l_take, f_l_of, d_l_of, f_l_signs, d_l_signs, f_l_digits, d_l_digits, f_l_text, d_l_text, f_l_thing, d_l_thing, f_l_bag, d_l_bag, fa, d_law, f_BadBook_init, d_BadBook_init, f_BadCut_init, d_BadCut_init, f_BadInput_init, d_BadInput_init, f_BadKind_init, d_BadKind_init, f_BadProgram_init, d_BadProgram_init, f_BadReader_init, d_BadReader_init, f_BadRun_init, d_BadRun_init, f_BadShape_init, d_BadShape_init, f_BadTable_init, d_BadTable_init, f_Misfit_init, d_Misfit_init, f_NoColumn_init, d_NoColumn_init, f_NoKind_init, d_NoKind_init, f_NoRow_init, d_NoRow_init, f_NotHeld_init, d_NotHeld_init, f_OrderMatters_init, d_OrderMatters_init, f_OtherBook_init, d_OtherBook_init, f_Unfit_init, d_Unfit_init⟩ := {
    f_l_marks := F_l_marks
    b_l_marks := b_l_marks
    m_l_marks := PySem.W.mg_of X G a_l_marks
    kp_l_marks := k_l_marks
    f_l_is_placed := F_l_is_placed
    b_l_is_placed := b_l_is_placed
    m_l_is_placed := PySem.W.mg_of X G a_l_is_placed
    kp_l_is_placed := k_l_is_placed
    f_l_are_made := F_l_are_made
    b_l_are_made := b_l_are_made
    m_l_are_made := PySem.W.mg_of X G a_l_are_made
    kp_l_are_made := k_l_are_made
    f_l_take := F_l_take
    b_l_take := b_l_take
    m_l_take := PySem.W.mg_of X G a_l_take
    kp_l_take := k_l_take
    f_l_of := F_l_of
    b_l_of := b_l_of
    m_l_of := PySem.W.mg_of X G a_l_of
    kp_l_of := k_l_of
    f_l_signs := F_l_signs
    b_l_signs := b_l_signs
    m_l_signs := PySem.W.mg_of X G a_l_signs
    kp_l_signs := k_l_signs
    f_l_digits := F_l_digits
    b_l_digits := b_l_digits
    m_l_digits := PySem.W.mg_of X G a_l_digits
    kp_l_digits := k_l_digits
    f_l_text := F_l_text
    b_l_text := b_l_text
    m_l_text := PySem.W.mg_of X G a_l_text
    kp_l_text := k_l_text
    f_l_thing := F_l_thing
    b_l_thing := b_l_thing
    m_l_thing := PySem.W.mg_of X G a_l_thing
    kp_l_thing := k_l_thing
    f_l_bag := F_l_bag
    b_l_bag := b_l_bag
    m_l_bag := PySem.W.mg_of X G a_l_bag
    kp_l_bag := k_l_bag
    f_law := F_law
    b_law := b_law
    m_law := PySem.W.mg_of X G a_law
    kp_law := k_law
    f_BadBook_init := F_BadBook_init
    b_BadBook_init := b_BadBook_init
    xo_BadBook := oexC_of xq_BadBook xh_BadBook xsa_BadBook xex_BadBook xty_BadBook xkp_BadBook
    xi_BadBook := xi_BadBook
    xt_BadBook := xt_BadBook
    f_BadCut_init := F_BadCut_init
    b_BadCut_init := b_BadCut_init
    xo_BadCut := oexC_of xq_BadCut xh_BadCut xsa_BadCut xex_BadCut xty_BadCut xkp_BadCut
    xi_BadCut := xi_BadCut
    xt_BadCut := xt_BadCut
    f_BadInput_init := F_BadInput_init
    b_BadInput_init := b_BadInput_init
    xo_BadInput := oexC_of xq_BadInput xh_BadInput xsa_BadInput xex_BadInput xty_BadInput xkp_BadInput
    xi_BadInput := xi_BadInput
    xt_BadInput := xt_BadInput
    f_BadKind_init := F_BadKind_init
    b_BadKind_init := b_BadKind_init
    xo_BadKind := oexC_of xq_BadKind xh_BadKind xsa_BadKind xex_BadKind xty_BadKind xkp_BadKind
    xi_BadKind := xi_BadKind
    xt_BadKind := xt_BadKind
    f_BadProgram_init := F_BadProgram_init
    b_BadProgram_init := b_BadProgram_init
    xo_BadProgram := oexC_of xq_BadProgram xh_BadProgram xsa_BadProgram xex_BadProgram xty_BadProgram xkp_BadProgram
    xi_BadProgram := xi_BadProgram
    xt_BadProgram := xt_BadProgram
    f_BadReader_init := F_BadReader_init
    b_BadReader_init := b_BadReader_init
    xo_BadReader := oexC_of xq_BadReader xh_BadReader xsa_BadReader xex_BadReader xty_BadReader xkp_BadReader
    xi_BadReader := xi_BadReader
    xt_BadReader := xt_BadReader
    f_BadRun_init := F_BadRun_init
    b_BadRun_init := b_BadRun_init
    xo_BadRun := oexC_of xq_BadRun xh_BadRun xsa_BadRun xex_BadRun xty_BadRun xkp_BadRun
    xi_BadRun := xi_BadRun
    xt_BadRun := xt_BadRun
    f_BadShape_init := F_BadShape_init
    b_BadShape_init := b_BadShape_init
    xo_BadShape := oexC_of xq_BadShape xh_BadShape xsa_BadShape xex_BadShape xty_BadShape xkp_BadShape
    xi_BadShape := xi_BadShape
    xt_BadShape := xt_BadShape
    f_BadTable_init := F_BadTable_init
    b_BadTable_init := b_BadTable_init
    xo_BadTable := oexC_of xq_BadTable xh_BadTable xsa_BadTable xex_BadTable xty_BadTable xkp_BadTable
    xi_BadTable := xi_BadTable
    xt_BadTable := xt_BadTable
    f_Misfit_init := F_Misfit_init
    b_Misfit_init := b_Misfit_init
    xo_Misfit := oexC_of xq_Misfit xh_Misfit xsa_Misfit xex_Misfit xty_Misfit xkp_Misfit
    xi_Misfit := xi_Misfit
    xt_Misfit := xt_Misfit
    f_NoColumn_init := F_NoColumn_init
    b_NoColumn_init := b_NoColumn_init
    xo_NoColumn := ⟨xq_NoColumn, xv_NoColumn, xh_NoColumn, xsa_NoColumn, xex_NoColumn, xty_NoColumn, xkp_NoColumn⟩
    xi_NoColumn := xi_NoColumn
    xt_NoColumn := xt_NoColumn
    f_NoKind_init := F_NoKind_init
    b_NoKind_init := b_NoKind_init
    xo_NoKind := ⟨xq_NoKind, xv_NoKind, xh_NoKind, xsa_NoKind, xex_NoKind, xty_NoKind, xkp_NoKind⟩
    xi_NoKind := xi_NoKind
    xt_NoKind := xt_NoKind
    f_NoRow_init := F_NoRow_init
    b_NoRow_init := b_NoRow_init
    xo_NoRow := ⟨xq_NoRow, xv_NoRow, xh_NoRow, xsa_NoRow, xex_NoRow, xty_NoRow, xkp_NoRow⟩
    xi_NoRow := xi_NoRow
    xt_NoRow := xt_NoRow
    f_NotHeld_init := F_NotHeld_init
    b_NotHeld_init := b_NotHeld_init
    xo_NotHeld := oexC_of xq_NotHeld xh_NotHeld xsa_NotHeld xex_NotHeld xty_NotHeld xkp_NotHeld
    xi_NotHeld := xi_NotHeld
    xt_NotHeld := xt_NotHeld
    f_OrderMatters_init := F_OrderMatters_init
    b_OrderMatters_init := b_OrderMatters_init
    xo_OrderMatters := oexC_of xq_OrderMatters xh_OrderMatters xsa_OrderMatters xex_OrderMatters xty_OrderMatters xkp_OrderMatters
    xi_OrderMatters := xi_OrderMatters
    xt_OrderMatters := xt_OrderMatters
    f_OtherBook_init := F_OtherBook_init
    b_OtherBook_init := b_OtherBook_init
    xo_OtherBook := oexC_of xq_OtherBook xh_OtherBook xsa_OtherBook xex_OtherBook xty_OtherBook xkp_OtherBook
    xi_OtherBook := xi_OtherBook
    xt_OtherBook := xt_OtherBook
    f_Unfit_init := F_Unfit_init
    b_Unfit_init := b_Unfit_init
    xo_Unfit := oexC_of xq_Unfit xh_Unfit xsa_Unfit xex_Unfit xty_Unfit xkp_Unfit
    xi_Unfit := xi_Unfit
    xt_Unfit := xt_Unfit
    xn_BadBook := (nf_cons xn_BadBook_part nf_nil)
    xn_BadCut := (nf_cons xn_BadCut_cut nf_nil)
    xn_BadInput := (nf_cons xn_BadInput_at nf_nil)
    xn_BadKind := (nf_cons xn_BadKind_part nf_nil)
    xn_BadProgram := (nf_cons xn_BadProgram_part nf_nil)
    xn_BadReader := (nf_cons xn_BadReader_part nf_nil)
    xn_BadRun := (nf_cons xn_BadRun_part nf_nil)
    xn_BadShape := (nf_cons xn_BadShape_part nf_nil)
    xn_BadTable := (nf_cons xn_BadTable_part nf_nil)
    xn_Misfit := (nf_cons xn_Misfit_row (nf_cons xn_Misfit_column (nf_cons xn_Misfit_text nf_nil)))
    xn_NoColumn := (nf_cons xn_NoColumn_name nf_nil)
    xn_NoKind := (nf_cons xn_NoKind_name nf_nil)
    xn_NoRow := (nf_cons xn_NoRow_at nf_nil)
    xn_NotHeld := (nf_cons xn_NotHeld_column (nf_cons xn_NotHeld_cell nf_nil))
    xn_OrderMatters := (nf_cons xn_OrderMatters_pieces nf_nil)
    xn_OtherBook := (nf_cons xn_OtherBook_name nf_nil)
    xn_Unfit := (nf_cons xn_Unfit_kind (nf_cons xn_Unfit_text nf_nil))
    zl_LookupError := PySem.W.mg_none_of X G zl_LookupError
    xb_LookupError := xb_LookupError
    xr_GuessError := ⟨xrd_GuessError, xga_GuessError⟩
    xb_GuessError := xb_GuessError
    xc_BadBook := ⟨eg_BadBook, ek_BadBook, es_BadBook, ed_BadBook⟩
    ex_BadBook := ⟨eg_BadBook, ek_BadBook, es_BadBook, ed_BadBook, ea_BadBook, en_BadBook, et_BadBook, em_BadBook⟩
    xc_BadCut := ⟨eg_BadCut, ek_BadCut, es_BadCut, ed_BadCut⟩
    ex_BadCut := ⟨eg_BadCut, ek_BadCut, es_BadCut, ed_BadCut, ea_BadCut, en_BadCut, et_BadCut, em_BadCut⟩
    xc_BadInput := ⟨eg_BadInput, ek_BadInput, es_BadInput, ed_BadInput⟩
    ex_BadInput := ⟨eg_BadInput, ek_BadInput, es_BadInput, ed_BadInput, ea_BadInput, en_BadInput, et_BadInput, em_BadInput⟩
    xc_BadKind := ⟨eg_BadKind, ek_BadKind, es_BadKind, ed_BadKind⟩
    ex_BadKind := ⟨eg_BadKind, ek_BadKind, es_BadKind, ed_BadKind, ea_BadKind, en_BadKind, et_BadKind, em_BadKind⟩
    xc_BadProgram := ⟨eg_BadProgram, ek_BadProgram, es_BadProgram, ed_BadProgram⟩
    ex_BadProgram := ⟨eg_BadProgram, ek_BadProgram, es_BadProgram, ed_BadProgram, ea_BadProgram, en_BadProgram, et_BadProgram, em_BadProgram⟩
    xc_BadReader := ⟨eg_BadReader, ek_BadReader, es_BadReader, ed_BadReader⟩
    ex_BadReader := ⟨eg_BadReader, ek_BadReader, es_BadReader, ed_BadReader, ea_BadReader, en_BadReader, et_BadReader, em_BadReader⟩
    xc_BadRun := ⟨eg_BadRun, ek_BadRun, es_BadRun, ed_BadRun⟩
    ex_BadRun := ⟨eg_BadRun, ek_BadRun, es_BadRun, ed_BadRun, ea_BadRun, en_BadRun, et_BadRun, em_BadRun⟩
    xc_BadShape := ⟨eg_BadShape, ek_BadShape, es_BadShape, ed_BadShape⟩
    ex_BadShape := ⟨eg_BadShape, ek_BadShape, es_BadShape, ed_BadShape, ea_BadShape, en_BadShape, et_BadShape, em_BadShape⟩
    xc_BadTable := ⟨eg_BadTable, ek_BadTable, es_BadTable, ed_BadTable⟩
    ex_BadTable := ⟨eg_BadTable, ek_BadTable, es_BadTable, ed_BadTable, ea_BadTable, en_BadTable, et_BadTable, em_BadTable⟩
    xc_Misfit := ⟨eg_Misfit, ek_Misfit, es_Misfit, ed_Misfit⟩
    ex_Misfit := ⟨eg_Misfit, ek_Misfit, es_Misfit, ed_Misfit, ea_Misfit, en_Misfit, et_Misfit, em_Misfit⟩
    xc_NoColumn := ⟨eg_NoColumn, ek_NoColumn, es_NoColumn, ed_NoColumn⟩
    ex_NoColumn := ⟨eg_NoColumn, ek_NoColumn, es_NoColumn, ed_NoColumn, ea_NoColumn, en_NoColumn, et_NoColumn, em_NoColumn⟩
    xc_NoKind := ⟨eg_NoKind, ek_NoKind, es_NoKind, ed_NoKind⟩
    ex_NoKind := ⟨eg_NoKind, ek_NoKind, es_NoKind, ed_NoKind, ea_NoKind, en_NoKind, et_NoKind, em_NoKind⟩
    xc_NoRow := ⟨eg_NoRow, ek_NoRow, es_NoRow, ed_NoRow⟩
    ex_NoRow := ⟨eg_NoRow, ek_NoRow, es_NoRow, ed_NoRow, ea_NoRow, en_NoRow, et_NoRow, em_NoRow⟩
    xc_NotHeld := ⟨eg_NotHeld, ek_NotHeld, es_NotHeld, ed_NotHeld⟩
    ex_NotHeld := ⟨eg_NotHeld, ek_NotHeld, es_NotHeld, ed_NotHeld, ea_NotHeld, en_NotHeld, et_NotHeld, em_NotHeld⟩
    xc_OrderMatters := ⟨eg_OrderMatters, ek_OrderMatters, es_OrderMatters, ed_OrderMatters⟩
    ex_OrderMatters := ⟨eg_OrderMatters, ek_OrderMatters, es_OrderMatters, ed_OrderMatters, ea_OrderMatters, en_OrderMatters, et_OrderMatters, em_OrderMatters⟩
    xc_OtherBook := ⟨eg_OtherBook, ek_OtherBook, es_OtherBook, ed_OtherBook⟩
    ex_OtherBook := ⟨eg_OtherBook, ek_OtherBook, es_OtherBook, ed_OtherBook, ea_OtherBook, en_OtherBook, et_OtherBook, em_OtherBook⟩
    xc_Unfit := ⟨eg_Unfit, ek_Unfit, es_Unfit, ed_Unfit⟩
    ex_Unfit := ⟨eg_Unfit, ek_Unfit, es_Unfit, ed_Unfit, ea_Unfit, en_Unfit, et_Unfit, em_Unfit⟩
    kx_BadBook_BadBook := kx_BadBook_BadBook
    kx_BadBook_BadCut := kx_BadBook_BadCut
    kx_BadBook_BadInput := kx_BadBook_BadInput
    kx_BadBook_BadKind := kx_BadBook_BadKind
    kx_BadBook_BadProgram := kx_BadBook_BadProgram
    kx_BadBook_BadReader := kx_BadBook_BadReader
    kx_BadBook_BadRun := kx_BadBook_BadRun
    kx_BadBook_BadShape := kx_BadBook_BadShape
    kx_BadBook_BadTable := kx_BadBook_BadTable
    kx_BadBook_GuessError := kx_BadBook_GuessError
    kx_BadBook_LookupError := kx_BadBook_LookupError
    kx_BadBook_Misfit := kx_BadBook_Misfit
    kx_BadBook_NoColumn := kx_BadBook_NoColumn
    kx_BadBook_NoKind := kx_BadBook_NoKind
    kx_BadBook_NoRow := kx_BadBook_NoRow
    kx_BadBook_NotHeld := kx_BadBook_NotHeld
    kx_BadBook_OrderMatters := kx_BadBook_OrderMatters
    kx_BadBook_OtherBook := kx_BadBook_OtherBook
    kx_BadBook_Unfit := kx_BadBook_Unfit
    kx_BadBook_ValueError := kx_BadBook_ValueError
    kx_BadCut_BadBook := kx_BadCut_BadBook
    kx_BadCut_BadCut := kx_BadCut_BadCut
    kx_BadCut_BadInput := kx_BadCut_BadInput
    kx_BadCut_BadKind := kx_BadCut_BadKind
    kx_BadCut_BadProgram := kx_BadCut_BadProgram
    kx_BadCut_BadReader := kx_BadCut_BadReader
    kx_BadCut_BadRun := kx_BadCut_BadRun
    kx_BadCut_BadShape := kx_BadCut_BadShape
    kx_BadCut_BadTable := kx_BadCut_BadTable
    kx_BadCut_GuessError := kx_BadCut_GuessError
    kx_BadCut_LookupError := kx_BadCut_LookupError
    kx_BadCut_Misfit := kx_BadCut_Misfit
    kx_BadCut_NoColumn := kx_BadCut_NoColumn
    kx_BadCut_NoKind := kx_BadCut_NoKind
    kx_BadCut_NoRow := kx_BadCut_NoRow
    kx_BadCut_NotHeld := kx_BadCut_NotHeld
    kx_BadCut_OrderMatters := kx_BadCut_OrderMatters
    kx_BadCut_OtherBook := kx_BadCut_OtherBook
    kx_BadCut_Unfit := kx_BadCut_Unfit
    kx_BadCut_ValueError := kx_BadCut_ValueError
    kx_BadInput_BadBook := kx_BadInput_BadBook
    kx_BadInput_BadCut := kx_BadInput_BadCut
    kx_BadInput_BadInput := kx_BadInput_BadInput
    kx_BadInput_BadKind := kx_BadInput_BadKind
    kx_BadInput_BadProgram := kx_BadInput_BadProgram
    kx_BadInput_BadReader := kx_BadInput_BadReader
    kx_BadInput_BadRun := kx_BadInput_BadRun
    kx_BadInput_BadShape := kx_BadInput_BadShape
    kx_BadInput_BadTable := kx_BadInput_BadTable
    kx_BadInput_GuessError := kx_BadInput_GuessError
    kx_BadInput_LookupError := kx_BadInput_LookupError
    kx_BadInput_Misfit := kx_BadInput_Misfit
    kx_BadInput_NoColumn := kx_BadInput_NoColumn
    kx_BadInput_NoKind := kx_BadInput_NoKind
    kx_BadInput_NoRow := kx_BadInput_NoRow
    kx_BadInput_NotHeld := kx_BadInput_NotHeld
    kx_BadInput_OrderMatters := kx_BadInput_OrderMatters
    kx_BadInput_OtherBook := kx_BadInput_OtherBook
    kx_BadInput_Unfit := kx_BadInput_Unfit
    kx_BadInput_ValueError := kx_BadInput_ValueError
    kx_BadKind_BadBook := kx_BadKind_BadBook
    kx_BadKind_BadCut := kx_BadKind_BadCut
    kx_BadKind_BadInput := kx_BadKind_BadInput
    kx_BadKind_BadKind := kx_BadKind_BadKind
    kx_BadKind_BadProgram := kx_BadKind_BadProgram
    kx_BadKind_BadReader := kx_BadKind_BadReader
    kx_BadKind_BadRun := kx_BadKind_BadRun
    kx_BadKind_BadShape := kx_BadKind_BadShape
    kx_BadKind_BadTable := kx_BadKind_BadTable
    kx_BadKind_GuessError := kx_BadKind_GuessError
    kx_BadKind_LookupError := kx_BadKind_LookupError
    kx_BadKind_Misfit := kx_BadKind_Misfit
    kx_BadKind_NoColumn := kx_BadKind_NoColumn
    kx_BadKind_NoKind := kx_BadKind_NoKind
    kx_BadKind_NoRow := kx_BadKind_NoRow
    kx_BadKind_NotHeld := kx_BadKind_NotHeld
    kx_BadKind_OrderMatters := kx_BadKind_OrderMatters
    kx_BadKind_OtherBook := kx_BadKind_OtherBook
    kx_BadKind_Unfit := kx_BadKind_Unfit
    kx_BadKind_ValueError := kx_BadKind_ValueError
    kx_BadProgram_BadBook := kx_BadProgram_BadBook
    kx_BadProgram_BadCut := kx_BadProgram_BadCut
    kx_BadProgram_BadInput := kx_BadProgram_BadInput
    kx_BadProgram_BadKind := kx_BadProgram_BadKind
    kx_BadProgram_BadProgram := kx_BadProgram_BadProgram
    kx_BadProgram_BadReader := kx_BadProgram_BadReader
    kx_BadProgram_BadRun := kx_BadProgram_BadRun
    kx_BadProgram_BadShape := kx_BadProgram_BadShape
    kx_BadProgram_BadTable := kx_BadProgram_BadTable
    kx_BadProgram_GuessError := kx_BadProgram_GuessError
    kx_BadProgram_LookupError := kx_BadProgram_LookupError
    kx_BadProgram_Misfit := kx_BadProgram_Misfit
    kx_BadProgram_NoColumn := kx_BadProgram_NoColumn
    kx_BadProgram_NoKind := kx_BadProgram_NoKind
    kx_BadProgram_NoRow := kx_BadProgram_NoRow
    kx_BadProgram_NotHeld := kx_BadProgram_NotHeld
    kx_BadProgram_OrderMatters := kx_BadProgram_OrderMatters
    kx_BadProgram_OtherBook := kx_BadProgram_OtherBook
    kx_BadProgram_Unfit := kx_BadProgram_Unfit
    kx_BadProgram_ValueError := kx_BadProgram_ValueError
    kx_BadReader_BadBook := kx_BadReader_BadBook
    kx_BadReader_BadCut := kx_BadReader_BadCut
    kx_BadReader_BadInput := kx_BadReader_BadInput
    kx_BadReader_BadKind := kx_BadReader_BadKind
    kx_BadReader_BadProgram := kx_BadReader_BadProgram
    kx_BadReader_BadReader := kx_BadReader_BadReader
    kx_BadReader_BadRun := kx_BadReader_BadRun
    kx_BadReader_BadShape := kx_BadReader_BadShape
    kx_BadReader_BadTable := kx_BadReader_BadTable
    kx_BadReader_GuessError := kx_BadReader_GuessError
    kx_BadReader_LookupError := kx_BadReader_LookupError
    kx_BadReader_Misfit := kx_BadReader_Misfit
    kx_BadReader_NoColumn := kx_BadReader_NoColumn
    kx_BadReader_NoKind := kx_BadReader_NoKind
    kx_BadReader_NoRow := kx_BadReader_NoRow
    kx_BadReader_NotHeld := kx_BadReader_NotHeld
    kx_BadReader_OrderMatters := kx_BadReader_OrderMatters
    kx_BadReader_OtherBook := kx_BadReader_OtherBook
    kx_BadReader_Unfit := kx_BadReader_Unfit
    kx_BadReader_ValueError := kx_BadReader_ValueError
    kx_BadRun_BadBook := kx_BadRun_BadBook
    kx_BadRun_BadCut := kx_BadRun_BadCut
    kx_BadRun_BadInput := kx_BadRun_BadInput
    kx_BadRun_BadKind := kx_BadRun_BadKind
    kx_BadRun_BadProgram := kx_BadRun_BadProgram
    kx_BadRun_BadReader := kx_BadRun_BadReader
    kx_BadRun_BadRun := kx_BadRun_BadRun
    kx_BadRun_BadShape := kx_BadRun_BadShape
    kx_BadRun_BadTable := kx_BadRun_BadTable
    kx_BadRun_GuessError := kx_BadRun_GuessError
    kx_BadRun_LookupError := kx_BadRun_LookupError
    kx_BadRun_Misfit := kx_BadRun_Misfit
    kx_BadRun_NoColumn := kx_BadRun_NoColumn
    kx_BadRun_NoKind := kx_BadRun_NoKind
    kx_BadRun_NoRow := kx_BadRun_NoRow
    kx_BadRun_NotHeld := kx_BadRun_NotHeld
    kx_BadRun_OrderMatters := kx_BadRun_OrderMatters
    kx_BadRun_OtherBook := kx_BadRun_OtherBook
    kx_BadRun_Unfit := kx_BadRun_Unfit
    kx_BadRun_ValueError := kx_BadRun_ValueError
    kx_BadShape_BadBook := kx_BadShape_BadBook
    kx_BadShape_BadCut := kx_BadShape_BadCut
    kx_BadShape_BadInput := kx_BadShape_BadInput
    kx_BadShape_BadKind := kx_BadShape_BadKind
    kx_BadShape_BadProgram := kx_BadShape_BadProgram
    kx_BadShape_BadReader := kx_BadShape_BadReader
    kx_BadShape_BadRun := kx_BadShape_BadRun
    kx_BadShape_BadShape := kx_BadShape_BadShape
    kx_BadShape_BadTable := kx_BadShape_BadTable
    kx_BadShape_GuessError := kx_BadShape_GuessError
    kx_BadShape_LookupError := kx_BadShape_LookupError
    kx_BadShape_Misfit := kx_BadShape_Misfit
    kx_BadShape_NoColumn := kx_BadShape_NoColumn
    kx_BadShape_NoKind := kx_BadShape_NoKind
    kx_BadShape_NoRow := kx_BadShape_NoRow
    kx_BadShape_NotHeld := kx_BadShape_NotHeld
    kx_BadShape_OrderMatters := kx_BadShape_OrderMatters
    kx_BadShape_OtherBook := kx_BadShape_OtherBook
    kx_BadShape_Unfit := kx_BadShape_Unfit
    kx_BadShape_ValueError := kx_BadShape_ValueError
    kx_BadTable_BadBook := kx_BadTable_BadBook
    kx_BadTable_BadCut := kx_BadTable_BadCut
    kx_BadTable_BadInput := kx_BadTable_BadInput
    kx_BadTable_BadKind := kx_BadTable_BadKind
    kx_BadTable_BadProgram := kx_BadTable_BadProgram
    kx_BadTable_BadReader := kx_BadTable_BadReader
    kx_BadTable_BadRun := kx_BadTable_BadRun
    kx_BadTable_BadShape := kx_BadTable_BadShape
    kx_BadTable_BadTable := kx_BadTable_BadTable
    kx_BadTable_GuessError := kx_BadTable_GuessError
    kx_BadTable_LookupError := kx_BadTable_LookupError
    kx_BadTable_Misfit := kx_BadTable_Misfit
    kx_BadTable_NoColumn := kx_BadTable_NoColumn
    kx_BadTable_NoKind := kx_BadTable_NoKind
    kx_BadTable_NoRow := kx_BadTable_NoRow
    kx_BadTable_NotHeld := kx_BadTable_NotHeld
    kx_BadTable_OrderMatters := kx_BadTable_OrderMatters
    kx_BadTable_OtherBook := kx_BadTable_OtherBook
    kx_BadTable_Unfit := kx_BadTable_Unfit
    kx_BadTable_ValueError := kx_BadTable_ValueError
    kx_Misfit_BadBook := kx_Misfit_BadBook
    kx_Misfit_BadCut := kx_Misfit_BadCut
    kx_Misfit_BadInput := kx_Misfit_BadInput
    kx_Misfit_BadKind := kx_Misfit_BadKind
    kx_Misfit_BadProgram := kx_Misfit_BadProgram
    kx_Misfit_BadReader := kx_Misfit_BadReader
    kx_Misfit_BadRun := kx_Misfit_BadRun
    kx_Misfit_BadShape := kx_Misfit_BadShape
    kx_Misfit_BadTable := kx_Misfit_BadTable
    kx_Misfit_GuessError := kx_Misfit_GuessError
    kx_Misfit_LookupError := kx_Misfit_LookupError
    kx_Misfit_Misfit := kx_Misfit_Misfit
    kx_Misfit_NoColumn := kx_Misfit_NoColumn
    kx_Misfit_NoKind := kx_Misfit_NoKind
    kx_Misfit_NoRow := kx_Misfit_NoRow
    kx_Misfit_NotHeld := kx_Misfit_NotHeld
    kx_Misfit_OrderMatters := kx_Misfit_OrderMatters
    kx_Misfit_OtherBook := kx_Misfit_OtherBook
    kx_Misfit_Unfit := kx_Misfit_Unfit
    kx_Misfit_ValueError := kx_Misfit_ValueError
    kx_NoColumn_BadBook := kx_NoColumn_BadBook
    kx_NoColumn_BadCut := kx_NoColumn_BadCut
    kx_NoColumn_BadInput := kx_NoColumn_BadInput
    kx_NoColumn_BadKind := kx_NoColumn_BadKind
    kx_NoColumn_BadProgram := kx_NoColumn_BadProgram
    kx_NoColumn_BadReader := kx_NoColumn_BadReader
    kx_NoColumn_BadRun := kx_NoColumn_BadRun
    kx_NoColumn_BadShape := kx_NoColumn_BadShape
    kx_NoColumn_BadTable := kx_NoColumn_BadTable
    kx_NoColumn_GuessError := kx_NoColumn_GuessError
    kx_NoColumn_LookupError := kx_NoColumn_LookupError
    kx_NoColumn_Misfit := kx_NoColumn_Misfit
    kx_NoColumn_NoColumn := kx_NoColumn_NoColumn
    kx_NoColumn_NoKind := kx_NoColumn_NoKind
    kx_NoColumn_NoRow := kx_NoColumn_NoRow
    kx_NoColumn_NotHeld := kx_NoColumn_NotHeld
    kx_NoColumn_OrderMatters := kx_NoColumn_OrderMatters
    kx_NoColumn_OtherBook := kx_NoColumn_OtherBook
    kx_NoColumn_Unfit := kx_NoColumn_Unfit
    kx_NoColumn_ValueError := kx_NoColumn_ValueError
    kx_NoKind_BadBook := kx_NoKind_BadBook
    kx_NoKind_BadCut := kx_NoKind_BadCut
    kx_NoKind_BadInput := kx_NoKind_BadInput
    kx_NoKind_BadKind := kx_NoKind_BadKind
    kx_NoKind_BadProgram := kx_NoKind_BadProgram
    kx_NoKind_BadReader := kx_NoKind_BadReader
    kx_NoKind_BadRun := kx_NoKind_BadRun
    kx_NoKind_BadShape := kx_NoKind_BadShape
    kx_NoKind_BadTable := kx_NoKind_BadTable
    kx_NoKind_GuessError := kx_NoKind_GuessError
    kx_NoKind_LookupError := kx_NoKind_LookupError
    kx_NoKind_Misfit := kx_NoKind_Misfit
    kx_NoKind_NoColumn := kx_NoKind_NoColumn
    kx_NoKind_NoKind := kx_NoKind_NoKind
    kx_NoKind_NoRow := kx_NoKind_NoRow
    kx_NoKind_NotHeld := kx_NoKind_NotHeld
    kx_NoKind_OrderMatters := kx_NoKind_OrderMatters
    kx_NoKind_OtherBook := kx_NoKind_OtherBook
    kx_NoKind_Unfit := kx_NoKind_Unfit
    kx_NoKind_ValueError := kx_NoKind_ValueError
    kx_NoRow_BadBook := kx_NoRow_BadBook
    kx_NoRow_BadCut := kx_NoRow_BadCut
    kx_NoRow_BadInput := kx_NoRow_BadInput
    kx_NoRow_BadKind := kx_NoRow_BadKind
    kx_NoRow_BadProgram := kx_NoRow_BadProgram
    kx_NoRow_BadReader := kx_NoRow_BadReader
    kx_NoRow_BadRun := kx_NoRow_BadRun
    kx_NoRow_BadShape := kx_NoRow_BadShape
    kx_NoRow_BadTable := kx_NoRow_BadTable
    kx_NoRow_GuessError := kx_NoRow_GuessError
    kx_NoRow_LookupError := kx_NoRow_LookupError
    kx_NoRow_Misfit := kx_NoRow_Misfit
    kx_NoRow_NoColumn := kx_NoRow_NoColumn
    kx_NoRow_NoKind := kx_NoRow_NoKind
    kx_NoRow_NoRow := kx_NoRow_NoRow
    kx_NoRow_NotHeld := kx_NoRow_NotHeld
    kx_NoRow_OrderMatters := kx_NoRow_OrderMatters
    kx_NoRow_OtherBook := kx_NoRow_OtherBook
    kx_NoRow_Unfit := kx_NoRow_Unfit
    kx_NoRow_ValueError := kx_NoRow_ValueError
    kx_NotHeld_BadBook := kx_NotHeld_BadBook
    kx_NotHeld_BadCut := kx_NotHeld_BadCut
    kx_NotHeld_BadInput := kx_NotHeld_BadInput
    kx_NotHeld_BadKind := kx_NotHeld_BadKind
    kx_NotHeld_BadProgram := kx_NotHeld_BadProgram
    kx_NotHeld_BadReader := kx_NotHeld_BadReader
    kx_NotHeld_BadRun := kx_NotHeld_BadRun
    kx_NotHeld_BadShape := kx_NotHeld_BadShape
    kx_NotHeld_BadTable := kx_NotHeld_BadTable
    kx_NotHeld_GuessError := kx_NotHeld_GuessError
    kx_NotHeld_LookupError := kx_NotHeld_LookupError
    kx_NotHeld_Misfit := kx_NotHeld_Misfit
    kx_NotHeld_NoColumn := kx_NotHeld_NoColumn
    kx_NotHeld_NoKind := kx_NotHeld_NoKind
    kx_NotHeld_NoRow := kx_NotHeld_NoRow
    kx_NotHeld_NotHeld := kx_NotHeld_NotHeld
    kx_NotHeld_OrderMatters := kx_NotHeld_OrderMatters
    kx_NotHeld_OtherBook := kx_NotHeld_OtherBook
    kx_NotHeld_Unfit := kx_NotHeld_Unfit
    kx_NotHeld_ValueError := kx_NotHeld_ValueError
    kx_OrderMatters_BadBook := kx_OrderMatters_BadBook
    kx_OrderMatters_BadCut := kx_OrderMatters_BadCut
    kx_OrderMatters_BadInput := kx_OrderMatters_BadInput
    kx_OrderMatters_BadKind := kx_OrderMatters_BadKind
    kx_OrderMatters_BadProgram := kx_OrderMatters_BadProgram
    kx_OrderMatters_BadReader := kx_OrderMatters_BadReader
    kx_OrderMatters_BadRun := kx_OrderMatters_BadRun
    kx_OrderMatters_BadShape := kx_OrderMatters_BadShape
    kx_OrderMatters_BadTable := kx_OrderMatters_BadTable
    kx_OrderMatters_GuessError := kx_OrderMatters_GuessError
    kx_OrderMatters_LookupError := kx_OrderMatters_LookupError
    kx_OrderMatters_Misfit := kx_OrderMatters_Misfit
    kx_OrderMatters_NoColumn := kx_OrderMatters_NoColumn
    kx_OrderMatters_NoKind := kx_OrderMatters_NoKind
    kx_OrderMatters_NoRow := kx_OrderMatters_NoRow
    kx_OrderMatters_NotHeld := kx_OrderMatters_NotHeld
    kx_OrderMatters_OrderMatters := kx_OrderMatters_OrderMatters
    kx_OrderMatters_OtherBook := kx_OrderMatters_OtherBook
    kx_OrderMatters_Unfit := kx_OrderMatters_Unfit
    kx_OrderMatters_ValueError := kx_OrderMatters_ValueError
    kx_OtherBook_BadBook := kx_OtherBook_BadBook
    kx_OtherBook_BadCut := kx_OtherBook_BadCut
    kx_OtherBook_BadInput := kx_OtherBook_BadInput
    kx_OtherBook_BadKind := kx_OtherBook_BadKind
    kx_OtherBook_BadProgram := kx_OtherBook_BadProgram
    kx_OtherBook_BadReader := kx_OtherBook_BadReader
    kx_OtherBook_BadRun := kx_OtherBook_BadRun
    kx_OtherBook_BadShape := kx_OtherBook_BadShape
    kx_OtherBook_BadTable := kx_OtherBook_BadTable
    kx_OtherBook_GuessError := kx_OtherBook_GuessError
    kx_OtherBook_LookupError := kx_OtherBook_LookupError
    kx_OtherBook_Misfit := kx_OtherBook_Misfit
    kx_OtherBook_NoColumn := kx_OtherBook_NoColumn
    kx_OtherBook_NoKind := kx_OtherBook_NoKind
    kx_OtherBook_NoRow := kx_OtherBook_NoRow
    kx_OtherBook_NotHeld := kx_OtherBook_NotHeld
    kx_OtherBook_OrderMatters := kx_OtherBook_OrderMatters
    kx_OtherBook_OtherBook := kx_OtherBook_OtherBook
    kx_OtherBook_Unfit := kx_OtherBook_Unfit
    kx_OtherBook_ValueError := kx_OtherBook_ValueError
    kx_Unfit_BadBook := kx_Unfit_BadBook
    kx_Unfit_BadCut := kx_Unfit_BadCut
    kx_Unfit_BadInput := kx_Unfit_BadInput
    kx_Unfit_BadKind := kx_Unfit_BadKind
    kx_Unfit_BadProgram := kx_Unfit_BadProgram
    kx_Unfit_BadReader := kx_Unfit_BadReader
    kx_Unfit_BadRun := kx_Unfit_BadRun
    kx_Unfit_BadShape := kx_Unfit_BadShape
    kx_Unfit_BadTable := kx_Unfit_BadTable
    kx_Unfit_GuessError := kx_Unfit_GuessError
    kx_Unfit_LookupError := kx_Unfit_LookupError
    kx_Unfit_Misfit := kx_Unfit_Misfit
    kx_Unfit_NoColumn := kx_Unfit_NoColumn
    kx_Unfit_NoKind := kx_Unfit_NoKind
    kx_Unfit_NoRow := kx_Unfit_NoRow
    kx_Unfit_NotHeld := kx_Unfit_NotHeld
    kx_Unfit_OrderMatters := kx_Unfit_OrderMatters
    kx_Unfit_OtherBook := kx_Unfit_OtherBook
    kx_Unfit_Unfit := kx_Unfit_Unfit
    kx_Unfit_ValueError := kx_Unfit_ValueError
    m_GuessError := PySem.W.mg_of X G a_GuessError
    m_BadShape := PySem.W.mg_of X G a_BadShape
    m_BadKind := PySem.W.mg_of X G a_BadKind
    m_BadBook := PySem.W.mg_of X G a_BadBook
    m_BadTable := PySem.W.mg_of X G a_BadTable
    m_BadReader := PySem.W.mg_of X G a_BadReader
    m_BadCut := PySem.W.mg_of X G a_BadCut
    m_OtherBook := PySem.W.mg_of X G a_OtherBook
    m_NotHeld := PySem.W.mg_of X G a_NotHeld
    m_OrderMatters := PySem.W.mg_of X G a_OrderMatters
    m_Unfit := PySem.W.mg_of X G a_Unfit
    m_Misfit := PySem.W.mg_of X G a_Misfit
    m_BadProgram := PySem.W.mg_of X G a_BadProgram
    m_BadRun := PySem.W.mg_of X G a_BadRun
    m_BadInput := PySem.W.mg_of X G a_BadInput
    m_NoKind := PySem.W.mg_of X G a_NoKind
    m_NoColumn := PySem.W.mg_of X G a_NoColumn
    m_NoRow := PySem.W.mg_of X G a_NoRow
    z_LookupError := PySem.W.mg_none_of X G z_LookupError
    z_ValueError := PySem.W.mg_none_of X G z_ValueError
    z_abs := PySem.W.mg_none_of X G z_abs
    z_all := PySem.W.mg_none_of X G z_all
    z_enumerate := PySem.W.mg_none_of X G z_enumerate
    z_int := PySem.W.mg_none_of X G z_int
    z_isinstance := PySem.W.mg_none_of X G z_isinstance
    z_len := PySem.W.mg_none_of X G z_len
    z_max := PySem.W.mg_none_of X G z_max
    z_min := PySem.W.mg_none_of X G z_min
    z_range := PySem.W.mg_none_of X G z_range
    z_repr := PySem.W.mg_none_of X G z_repr
    z_tuple := PySem.W.mg_none_of X G z_tuple
  }
  exact ⟨d_law, fun s v => B_law s [v] rfl, fun base _ _ => (ok_law T).imp fun _ _ _ _ => law_cl⟩
theorem facts {l : PySem.W.OpenLaw} {w : World} {K : PySem.W.Frag} {h : Heap} {mg : Str → Option Value} {f : Addr} (X : K.In h) (G : h.Ns mainGlobals mg) (hfa : mg ("law" : Str) = some (.ref f)) (c : SaysX fa fn K) :
    ∃ fd : FuncData, (∀ (s : Shared) (v : Value), BindsTo s fd ⟨[v], []⟩ [("_law_script", v)]) ∧ ∀ base : Heap, K.In base → base.Ns mainGlobals mg → _root_.G.FnOk l.prog w K mg base CX0 9 f fd ["_law_script"] (lowSp K (fun _ => 0) sp_law) := by
  have a_l_marks : PySem.W.nsIn K mainGlobals "_law_marks" = some (some (.ref 403)) := of_decide_eq_true (c.fact 0 0 (l := fa0) rfl rfl)
  obtain ⟨d_l_marks, F_l_marks⟩ := c.fun_ 0 (d := ⟨403, "_law_marks", "_law_marks", s_l_marks, [], []⟩) rfl
  have a_l_is_placed : PySem.W.nsIn K mainGlobals "_law_is_placed" = some (some (.ref 408)) := of_decide_eq_true (c.fact 0 1 (l := fa0) rfl rfl)
  obtain ⟨d_l_is_placed, F_l_is_placed⟩ := c.fun_ 1 (d := ⟨408, "_law_is_placed", "_law_is_placed", s_l_is_placed, [], []⟩) rfl
  have a_l_are_made : PySem.W.nsIn K mainGlobals "_law_are_made" = some (some (.ref 413)) := of_decide_eq_true (c.fact 0 2 (l := fa0) rfl rfl)
  obtain ⟨d_l_are_made, F_l_are_made⟩ := c.fun_ 2 (d := ⟨413, "_law_are_made", "_law_are_made", s_l_are_made, [], []⟩) rfl
  have a_l_take : PySem.W.nsIn K mainGlobals "_law_take" = some (some (.ref 367)) := of_decide_eq_true (c.fact 0 3 (l := fa0) rfl rfl)
  obtain ⟨d_l_take, F_l_take⟩ := c.fun_ 3 (d := ⟨367, "_law_take", "_law_take", s_l_take, [], []⟩) rfl
  have a_l_of : PySem.W.nsIn K mainGlobals "_law_of" = some (some (.ref 374)) := of_decide_eq_true (c.fact 0 4 (l := fa0) rfl rfl)
  obtain ⟨d_l_of, F_l_of⟩ := c.fun_ 4 (d := ⟨374, "_law_of", "_law_of", s_l_of, [], []⟩) rfl
  have a_l_signs : PySem.W.nsIn K mainGlobals "_law_signs" = some (some (.ref 381)) := of_decide_eq_true (c.fact 0 5 (l := fa0) rfl rfl)
  obtain ⟨d_l_signs, F_l_signs⟩ := c.fun_ 5 (d := ⟨381, "_law_signs", "_law_signs", s_l_signs, [], []⟩) rfl
  have a_l_digits : PySem.W.nsIn K mainGlobals "_law_digits" = some (some (.ref 386)) := of_decide_eq_true (c.fact 0 6 (l := fa0) rfl rfl)
  obtain ⟨d_l_digits, F_l_digits⟩ := c.fun_ 6 (d := ⟨386, "_law_digits", "_law_digits", s_l_digits, [], []⟩) rfl
  have a_l_text : PySem.W.nsIn K mainGlobals "_law_text" = some (some (.ref 391)) := of_decide_eq_true (c.fact 0 7 (l := fa0) rfl rfl)
  obtain ⟨d_l_text, F_l_text⟩ := c.fun_ 7 (d := ⟨391, "_law_text", "_law_text", s_l_text, [], []⟩) rfl
  have a_l_thing : PySem.W.nsIn K mainGlobals "_law_thing" = some (some (.ref 396)) := of_decide_eq_true (c.fact 0 8 (l := fa0) rfl rfl)
  obtain ⟨d_l_thing, F_l_thing⟩ := c.fun_ 8 (d := ⟨396, "_law_thing", "_law_thing", s_l_thing, [], []⟩) rfl
  have a_l_bag : PySem.W.nsIn K mainGlobals "_law_bag" = some (some (.ref 360)) := of_decide_eq_true (c.fact 0 9 (l := fa0) rfl rfl)
  obtain ⟨d_l_bag, F_l_bag⟩ := c.fun_ 9 (d := ⟨360, "_law_bag", "_law_bag", s_l_bag, [], []⟩) rfl
  have a_law : PySem.W.nsIn K mainGlobals "law" = some (some (.ref 420)) := of_decide_eq_true (c.fact 0 10 (l := fa0) rfl rfl)
  obtain ⟨d_law, F_law⟩ := c.fun_ 10 (d := ⟨420, "law", "law", s_law, [], []⟩) rfl
  have a_GuessError : PySem.W.nsIn K mainGlobals "GuessError" = some (some (.ref 24)) := of_decide_eq_true (c.fact 0 11 (l := fa0) rfl rfl)
  have a_BadShape : PySem.W.nsIn K mainGlobals "BadShape" = some (some (.ref 44)) := of_decide_eq_true (c.fact 0 12 (l := fa0) rfl rfl)
  have a_BadKind : PySem.W.nsIn K mainGlobals "BadKind" = some (some (.ref 63)) := of_decide_eq_true (c.fact 0 13 (l := fa0) rfl rfl)
  have a_BadBook : PySem.W.nsIn K mainGlobals "BadBook" = some (some (.ref 82)) := of_decide_eq_true (c.fact 0 14 (l := fa0) rfl rfl)
  have a_BadTable : PySem.W.nsIn K mainGlobals "BadTable" = some (some (.ref 101)) := of_decide_eq_true (c.fact 0 15 (l := fa0) rfl rfl)
  have a_BadReader : PySem.W.nsIn K mainGlobals "BadReader" = some (some (.ref 120)) := of_decide_eq_true (c.fact 0 16 (l := fa0) rfl rfl)
  have a_BadCut : PySem.W.nsIn K mainGlobals "BadCut" = some (some (.ref 139)) := of_decide_eq_true (c.fact 0 17 (l := fa0) rfl rfl)
  have a_OtherBook : PySem.W.nsIn K mainGlobals "OtherBook" = some (some (.ref 158)) := of_decide_eq_true (c.fact 0 18 (l := fa0) rfl rfl)
  have a_NotHeld : PySem.W.nsIn K mainGlobals "NotHeld" = some (some (.ref 177)) := of_decide_eq_true (c.fact 0 19 (l := fa0) rfl rfl)
  have a_OrderMatters : PySem.W.nsIn K mainGlobals "OrderMatters" = some (some (.ref 196)) := of_decide_eq_true (c.fact 0 20 (l := fa0) rfl rfl)
  have a_Unfit : PySem.W.nsIn K mainGlobals "Unfit" = some (some (.ref 215)) := of_decide_eq_true (c.fact 0 21 (l := fa0) rfl rfl)
  have a_Misfit : PySem.W.nsIn K mainGlobals "Misfit" = some (some (.ref 234)) := of_decide_eq_true (c.fact 0 22 (l := fa0) rfl rfl)
  have a_BadProgram : PySem.W.nsIn K mainGlobals "BadProgram" = some (some (.ref 253)) := of_decide_eq_true (c.fact 0 23 (l := fa0) rfl rfl)
  have a_BadRun : PySem.W.nsIn K mainGlobals "BadRun" = some (some (.ref 272)) := of_decide_eq_true (c.fact 0 24 (l := fa0) rfl rfl)
  have a_BadInput : PySem.W.nsIn K mainGlobals "BadInput" = some (some (.ref 291)) := of_decide_eq_true (c.fact 0 25 (l := fa0) rfl rfl)
  have a_NoKind : PySem.W.nsIn K mainGlobals "NoKind" = some (some (.ref 310)) := of_decide_eq_true (c.fact 0 26 (l := fa0) rfl rfl)
  have a_NoColumn : PySem.W.nsIn K mainGlobals "NoColumn" = some (some (.ref 330)) := of_decide_eq_true (c.fact 0 27 (l := fa0) rfl rfl)
  have a_NoRow : PySem.W.nsIn K mainGlobals "NoRow" = some (some (.ref 350)) := of_decide_eq_true (c.fact 0 28 (l := fa0) rfl rfl)
  have xi_BadBook : PySem.W.findIn K (.ref 82) "__init__" = some (some (.ref 79)) := of_decide_eq_true (c.fact 0 29 (l := fa0) rfl rfl)
  have xt_BadBook : PySem.W.typeIn K (.ref 79) = some (.type "function") := of_decide_eq_true (c.fact 0 30 (l := fa0) rfl rfl)
  obtain ⟨d_BadBook_init, F_BadBook_init⟩ := c.fun_ 11 (d := ⟨79, "__init__", "BadBook.__init__", s_BadBook_init, [], []⟩) rfl
  have xq_BadBook : PySem.W.excInitIn K 82 [.type "ValueError", .type "Exception", .type "BaseException", .type "object"] "ValueError.__new__" = true := of_decide_eq_true (c.fact 0 31 (l := fa0) rfl rfl)
  have xh_BadBook : PySem.W.hasDictIn K 82 = true := of_decide_eq_true (c.fact 0 32 (l := fa0) rfl rfl)
  have xsa_BadBook : PySem.W.findIn K (.ref 82) "__setattr__" = some (some (.builtin "object.__setattr__")) := of_decide_eq_true (c.fact 0 33 (l := fa0) rfl rfl)
  have xex_BadBook : PySem.W.subIn K (.ref 82) (.type "BaseException") = some true := of_decide_eq_true (c.fact 0 34 (l := fa0) rfl rfl)
  have xty_BadBook : PySem.W.typeIn K (.ref 82) = some (.type "type") := of_decide_eq_true (c.fact 0 35 (l := fa0) rfl rfl)
  have xkp_BadBook : PySem.W.keepIn K (.ref 82) = true := of_decide_eq_true (c.fact 0 36 (l := fa0) rfl rfl)
  have xi_BadCut : PySem.W.findIn K (.ref 139) "__init__" = some (some (.ref 136)) := of_decide_eq_true (c.fact 0 37 (l := fa0) rfl rfl)
  have xt_BadCut : PySem.W.typeIn K (.ref 136) = some (.type "function") := of_decide_eq_true (c.fact 0 38 (l := fa0) rfl rfl)
  obtain ⟨d_BadCut_init, F_BadCut_init⟩ := c.fun_ 12 (d := ⟨136, "__init__", "BadCut.__init__", s_BadCut_init, [], []⟩) rfl
  have xq_BadCut : PySem.W.excInitIn K 139 [.type "ValueError", .type "Exception", .type "BaseException", .type "object"] "ValueError.__new__" = true := of_decide_eq_true (c.fact 0 39 (l := fa0) rfl rfl)
  have xh_BadCut : PySem.W.hasDictIn K 139 = true := of_decide_eq_true (c.fact 1 0 (l := fa1) rfl rfl)
  have xsa_BadCut : PySem.W.findIn K (.ref 139) "__setattr__" = some (some (.builtin "object.__setattr__")) := of_decide_eq_true (c.fact 1 1 (l := fa1) rfl rfl)
  have xex_BadCut : PySem.W.subIn K (.ref 139) (.type "BaseException") = some true := of_decide_eq_true (c.fact 1 2 (l := fa1) rfl rfl)
  have xty_BadCut : PySem.W.typeIn K (.ref 139) = some (.type "type") := of_decide_eq_true (c.fact 1 3 (l := fa1) rfl rfl)
  have xkp_BadCut : PySem.W.keepIn K (.ref 139) = true := of_decide_eq_true (c.fact 1 4 (l := fa1) rfl rfl)
  have xi_BadInput : PySem.W.findIn K (.ref 291) "__init__" = some (some (.ref 288)) := of_decide_eq_true (c.fact 1 5 (l := fa1) rfl rfl)
  have xt_BadInput : PySem.W.typeIn K (.ref 288) = some (.type "function") := of_decide_eq_true (c.fact 1 6 (l := fa1) rfl rfl)
  obtain ⟨d_BadInput_init, F_BadInput_init⟩ := c.fun_ 13 (d := ⟨288, "__init__", "BadInput.__init__", s_BadInput_init, [], []⟩) rfl
  have xq_BadInput : PySem.W.excInitIn K 291 [.type "ValueError", .type "Exception", .type "BaseException", .type "object"] "ValueError.__new__" = true := of_decide_eq_true (c.fact 1 7 (l := fa1) rfl rfl)
  have xh_BadInput : PySem.W.hasDictIn K 291 = true := of_decide_eq_true (c.fact 1 8 (l := fa1) rfl rfl)
  have xsa_BadInput : PySem.W.findIn K (.ref 291) "__setattr__" = some (some (.builtin "object.__setattr__")) := of_decide_eq_true (c.fact 1 9 (l := fa1) rfl rfl)
  have xex_BadInput : PySem.W.subIn K (.ref 291) (.type "BaseException") = some true := of_decide_eq_true (c.fact 1 10 (l := fa1) rfl rfl)
  have xty_BadInput : PySem.W.typeIn K (.ref 291) = some (.type "type") := of_decide_eq_true (c.fact 1 11 (l := fa1) rfl rfl)
  have xkp_BadInput : PySem.W.keepIn K (.ref 291) = true := of_decide_eq_true (c.fact 1 12 (l := fa1) rfl rfl)
  have xi_BadKind : PySem.W.findIn K (.ref 63) "__init__" = some (some (.ref 60)) := of_decide_eq_true (c.fact 1 13 (l := fa1) rfl rfl)
  have xt_BadKind : PySem.W.typeIn K (.ref 60) = some (.type "function") := of_decide_eq_true (c.fact 1 14 (l := fa1) rfl rfl)
  obtain ⟨d_BadKind_init, F_BadKind_init⟩ := c.fun_ 14 (d := ⟨60, "__init__", "BadKind.__init__", s_BadKind_init, [], []⟩) rfl
  have xq_BadKind : PySem.W.excInitIn K 63 [.type "ValueError", .type "Exception", .type "BaseException", .type "object"] "ValueError.__new__" = true := of_decide_eq_true (c.fact 1 15 (l := fa1) rfl rfl)
  have xh_BadKind : PySem.W.hasDictIn K 63 = true := of_decide_eq_true (c.fact 1 16 (l := fa1) rfl rfl)
  have xsa_BadKind : PySem.W.findIn K (.ref 63) "__setattr__" = some (some (.builtin "object.__setattr__")) := of_decide_eq_true (c.fact 1 17 (l := fa1) rfl rfl)
  have xex_BadKind : PySem.W.subIn K (.ref 63) (.type "BaseException") = some true := of_decide_eq_true (c.fact 1 18 (l := fa1) rfl rfl)
  have xty_BadKind : PySem.W.typeIn K (.ref 63) = some (.type "type") := of_decide_eq_true (c.fact 1 19 (l := fa1) rfl rfl)
  have xkp_BadKind : PySem.W.keepIn K (.ref 63) = true := of_decide_eq_true (c.fact 1 20 (l := fa1) rfl rfl)
  have xi_BadProgram : PySem.W.findIn K (.ref 253) "__init__" = some (some (.ref 250)) := of_decide_eq_true (c.fact 1 21 (l := fa1) rfl rfl)
  have xt_BadProgram : PySem.W.typeIn K (.ref 250) = some (.type "function") := of_decide_eq_true (c.fact 1 22 (l := fa1) rfl rfl)
  obtain ⟨d_BadProgram_init, F_BadProgram_init⟩ := c.fun_ 15 (d := ⟨250, "__init__", "BadProgram.__init__", s_BadProgram_init, [], []⟩) rfl
  have xq_BadProgram : PySem.W.excInitIn K 253 [.type "ValueError", .type "Exception", .type "BaseException", .type "object"] "ValueError.__new__" = true := of_decide_eq_true (c.fact 1 23 (l := fa1) rfl rfl)
  have xh_BadProgram : PySem.W.hasDictIn K 253 = true := of_decide_eq_true (c.fact 1 24 (l := fa1) rfl rfl)
  have xsa_BadProgram : PySem.W.findIn K (.ref 253) "__setattr__" = some (some (.builtin "object.__setattr__")) := of_decide_eq_true (c.fact 1 25 (l := fa1) rfl rfl)
  have xex_BadProgram : PySem.W.subIn K (.ref 253) (.type "BaseException") = some true := of_decide_eq_true (c.fact 1 26 (l := fa1) rfl rfl)
  have xty_BadProgram : PySem.W.typeIn K (.ref 253) = some (.type "type") := of_decide_eq_true (c.fact 1 27 (l := fa1) rfl rfl)
  have xkp_BadProgram : PySem.W.keepIn K (.ref 253) = true := of_decide_eq_true (c.fact 1 28 (l := fa1) rfl rfl)
  have xi_BadReader : PySem.W.findIn K (.ref 120) "__init__" = some (some (.ref 117)) := of_decide_eq_true (c.fact 1 29 (l := fa1) rfl rfl)
  have xt_BadReader : PySem.W.typeIn K (.ref 117) = some (.type "function") := of_decide_eq_true (c.fact 1 30 (l := fa1) rfl rfl)
  obtain ⟨d_BadReader_init, F_BadReader_init⟩ := c.fun_ 16 (d := ⟨117, "__init__", "BadReader.__init__", s_BadReader_init, [], []⟩) rfl
  have xq_BadReader : PySem.W.excInitIn K 120 [.type "ValueError", .type "Exception", .type "BaseException", .type "object"] "ValueError.__new__" = true := of_decide_eq_true (c.fact 1 31 (l := fa1) rfl rfl)
  have xh_BadReader : PySem.W.hasDictIn K 120 = true := of_decide_eq_true (c.fact 1 32 (l := fa1) rfl rfl)
  have xsa_BadReader : PySem.W.findIn K (.ref 120) "__setattr__" = some (some (.builtin "object.__setattr__")) := of_decide_eq_true (c.fact 1 33 (l := fa1) rfl rfl)
  have xex_BadReader : PySem.W.subIn K (.ref 120) (.type "BaseException") = some true := of_decide_eq_true (c.fact 1 34 (l := fa1) rfl rfl)
  have xty_BadReader : PySem.W.typeIn K (.ref 120) = some (.type "type") := of_decide_eq_true (c.fact 1 35 (l := fa1) rfl rfl)
  have xkp_BadReader : PySem.W.keepIn K (.ref 120) = true := of_decide_eq_true (c.fact 1 36 (l := fa1) rfl rfl)
  have xi_BadRun : PySem.W.findIn K (.ref 272) "__init__" = some (some (.ref 269)) := of_decide_eq_true (c.fact 1 37 (l := fa1) rfl rfl)
  have xt_BadRun : PySem.W.typeIn K (.ref 269) = some (.type "function") := of_decide_eq_true (c.fact 1 38 (l := fa1) rfl rfl)
  obtain ⟨d_BadRun_init, F_BadRun_init⟩ := c.fun_ 17 (d := ⟨269, "__init__", "BadRun.__init__", s_BadRun_init, [], []⟩) rfl
  have xq_BadRun : PySem.W.excInitIn K 272 [.type "ValueError", .type "Exception", .type "BaseException", .type "object"] "ValueError.__new__" = true := of_decide_eq_true (c.fact 1 39 (l := fa1) rfl rfl)
  have xh_BadRun : PySem.W.hasDictIn K 272 = true := of_decide_eq_true (c.fact 2 0 (l := fa2) rfl rfl)
  have xsa_BadRun : PySem.W.findIn K (.ref 272) "__setattr__" = some (some (.builtin "object.__setattr__")) := of_decide_eq_true (c.fact 2 1 (l := fa2) rfl rfl)
  have xex_BadRun : PySem.W.subIn K (.ref 272) (.type "BaseException") = some true := of_decide_eq_true (c.fact 2 2 (l := fa2) rfl rfl)
  have xty_BadRun : PySem.W.typeIn K (.ref 272) = some (.type "type") := of_decide_eq_true (c.fact 2 3 (l := fa2) rfl rfl)
  have xkp_BadRun : PySem.W.keepIn K (.ref 272) = true := of_decide_eq_true (c.fact 2 4 (l := fa2) rfl rfl)
  have xi_BadShape : PySem.W.findIn K (.ref 44) "__init__" = some (some (.ref 41)) := of_decide_eq_true (c.fact 2 5 (l := fa2) rfl rfl)
  have xt_BadShape : PySem.W.typeIn K (.ref 41) = some (.type "function") := of_decide_eq_true (c.fact 2 6 (l := fa2) rfl rfl)
  obtain ⟨d_BadShape_init, F_BadShape_init⟩ := c.fun_ 18 (d := ⟨41, "__init__", "BadShape.__init__", s_BadShape_init, [], []⟩) rfl
  have xq_BadShape : PySem.W.excInitIn K 44 [.type "ValueError", .type "Exception", .type "BaseException", .type "object"] "ValueError.__new__" = true := of_decide_eq_true (c.fact 2 7 (l := fa2) rfl rfl)
  have xh_BadShape : PySem.W.hasDictIn K 44 = true := of_decide_eq_true (c.fact 2 8 (l := fa2) rfl rfl)
  have xsa_BadShape : PySem.W.findIn K (.ref 44) "__setattr__" = some (some (.builtin "object.__setattr__")) := of_decide_eq_true (c.fact 2 9 (l := fa2) rfl rfl)
  have xex_BadShape : PySem.W.subIn K (.ref 44) (.type "BaseException") = some true := of_decide_eq_true (c.fact 2 10 (l := fa2) rfl rfl)
  have xty_BadShape : PySem.W.typeIn K (.ref 44) = some (.type "type") := of_decide_eq_true (c.fact 2 11 (l := fa2) rfl rfl)
  have xkp_BadShape : PySem.W.keepIn K (.ref 44) = true := of_decide_eq_true (c.fact 2 12 (l := fa2) rfl rfl)
  have xi_BadTable : PySem.W.findIn K (.ref 101) "__init__" = some (some (.ref 98)) := of_decide_eq_true (c.fact 2 13 (l := fa2) rfl rfl)
  have xt_BadTable : PySem.W.typeIn K (.ref 98) = some (.type "function") := of_decide_eq_true (c.fact 2 14 (l := fa2) rfl rfl)
  obtain ⟨d_BadTable_init, F_BadTable_init⟩ := c.fun_ 19 (d := ⟨98, "__init__", "BadTable.__init__", s_BadTable_init, [], []⟩) rfl
  have xq_BadTable : PySem.W.excInitIn K 101 [.type "ValueError", .type "Exception", .type "BaseException", .type "object"] "ValueError.__new__" = true := of_decide_eq_true (c.fact 2 15 (l := fa2) rfl rfl)
  have xh_BadTable : PySem.W.hasDictIn K 101 = true := of_decide_eq_true (c.fact 2 16 (l := fa2) rfl rfl)
  have xsa_BadTable : PySem.W.findIn K (.ref 101) "__setattr__" = some (some (.builtin "object.__setattr__")) := of_decide_eq_true (c.fact 2 17 (l := fa2) rfl rfl)
  have xex_BadTable : PySem.W.subIn K (.ref 101) (.type "BaseException") = some true := of_decide_eq_true (c.fact 2 18 (l := fa2) rfl rfl)
  have xty_BadTable : PySem.W.typeIn K (.ref 101) = some (.type "type") := of_decide_eq_true (c.fact 2 19 (l := fa2) rfl rfl)
  have xkp_BadTable : PySem.W.keepIn K (.ref 101) = true := of_decide_eq_true (c.fact 2 20 (l := fa2) rfl rfl)
  have xi_Misfit : PySem.W.findIn K (.ref 234) "__init__" = some (some (.ref 231)) := of_decide_eq_true (c.fact 2 21 (l := fa2) rfl rfl)
  have xt_Misfit : PySem.W.typeIn K (.ref 231) = some (.type "function") := of_decide_eq_true (c.fact 2 22 (l := fa2) rfl rfl)
  obtain ⟨d_Misfit_init, F_Misfit_init⟩ := c.fun_ 20 (d := ⟨231, "__init__", "Misfit.__init__", s_Misfit_init, [], []⟩) rfl
  have xq_Misfit : PySem.W.excInitIn K 234 [.type "ValueError", .type "Exception", .type "BaseException", .type "object"] "ValueError.__new__" = true := of_decide_eq_true (c.fact 2 23 (l := fa2) rfl rfl)
  have xh_Misfit : PySem.W.hasDictIn K 234 = true := of_decide_eq_true (c.fact 2 24 (l := fa2) rfl rfl)
  have xsa_Misfit : PySem.W.findIn K (.ref 234) "__setattr__" = some (some (.builtin "object.__setattr__")) := of_decide_eq_true (c.fact 2 25 (l := fa2) rfl rfl)
  have xex_Misfit : PySem.W.subIn K (.ref 234) (.type "BaseException") = some true := of_decide_eq_true (c.fact 2 26 (l := fa2) rfl rfl)
  have xty_Misfit : PySem.W.typeIn K (.ref 234) = some (.type "type") := of_decide_eq_true (c.fact 2 27 (l := fa2) rfl rfl)
  have xkp_Misfit : PySem.W.keepIn K (.ref 234) = true := of_decide_eq_true (c.fact 2 28 (l := fa2) rfl rfl)
  have xi_NoColumn : PySem.W.findIn K (.ref 330) "__init__" = some (some (.ref 327)) := of_decide_eq_true (c.fact 2 29 (l := fa2) rfl rfl)
  have xt_NoColumn : PySem.W.typeIn K (.ref 327) = some (.type "function") := of_decide_eq_true (c.fact 2 30 (l := fa2) rfl rfl)
  obtain ⟨d_NoColumn_init, F_NoColumn_init⟩ := c.fun_ 21 (d := ⟨327, "__init__", "NoColumn.__init__", s_NoColumn_init, [], []⟩) rfl
  have xq_NoColumn : PySem.W.excInitIn K 330 [.type "LookupError", .type "Exception", .type "BaseException", .type "object"] "LookupError.__new__" = true := of_decide_eq_true (c.fact 2 31 (l := fa2) rfl rfl)
  have xv_NoColumn : PySem.W.excOver K 330 [.type "LookupError", .type "Exception", .type "BaseException", .type "object"] = true := of_decide_eq_true (c.fact 2 32 (l := fa2) rfl rfl)
  have xh_NoColumn : PySem.W.hasDictIn K 330 = true := of_decide_eq_true (c.fact 2 33 (l := fa2) rfl rfl)
  have xsa_NoColumn : PySem.W.findIn K (.ref 330) "__setattr__" = some (some (.builtin "object.__setattr__")) := of_decide_eq_true (c.fact 2 34 (l := fa2) rfl rfl)
  have xex_NoColumn : PySem.W.subIn K (.ref 330) (.type "BaseException") = some true := of_decide_eq_true (c.fact 2 35 (l := fa2) rfl rfl)
  have xty_NoColumn : PySem.W.typeIn K (.ref 330) = some (.type "type") := of_decide_eq_true (c.fact 2 36 (l := fa2) rfl rfl)
  have xkp_NoColumn : PySem.W.keepIn K (.ref 330) = true := of_decide_eq_true (c.fact 2 37 (l := fa2) rfl rfl)
  have xi_NoKind : PySem.W.findIn K (.ref 310) "__init__" = some (some (.ref 307)) := of_decide_eq_true (c.fact 2 38 (l := fa2) rfl rfl)
  have xt_NoKind : PySem.W.typeIn K (.ref 307) = some (.type "function") := of_decide_eq_true (c.fact 2 39 (l := fa2) rfl rfl)
  obtain ⟨d_NoKind_init, F_NoKind_init⟩ := c.fun_ 22 (d := ⟨307, "__init__", "NoKind.__init__", s_NoKind_init, [], []⟩) rfl
  have xq_NoKind : PySem.W.excInitIn K 310 [.type "LookupError", .type "Exception", .type "BaseException", .type "object"] "LookupError.__new__" = true := of_decide_eq_true (c.fact 3 0 (l := fa3) rfl rfl)
  have xv_NoKind : PySem.W.excOver K 310 [.type "LookupError", .type "Exception", .type "BaseException", .type "object"] = true := of_decide_eq_true (c.fact 3 1 (l := fa3) rfl rfl)
  have xh_NoKind : PySem.W.hasDictIn K 310 = true := of_decide_eq_true (c.fact 3 2 (l := fa3) rfl rfl)
  have xsa_NoKind : PySem.W.findIn K (.ref 310) "__setattr__" = some (some (.builtin "object.__setattr__")) := of_decide_eq_true (c.fact 3 3 (l := fa3) rfl rfl)
  have xex_NoKind : PySem.W.subIn K (.ref 310) (.type "BaseException") = some true := of_decide_eq_true (c.fact 3 4 (l := fa3) rfl rfl)
  have xty_NoKind : PySem.W.typeIn K (.ref 310) = some (.type "type") := of_decide_eq_true (c.fact 3 5 (l := fa3) rfl rfl)
  have xkp_NoKind : PySem.W.keepIn K (.ref 310) = true := of_decide_eq_true (c.fact 3 6 (l := fa3) rfl rfl)
  have xi_NoRow : PySem.W.findIn K (.ref 350) "__init__" = some (some (.ref 347)) := of_decide_eq_true (c.fact 3 7 (l := fa3) rfl rfl)
  have xt_NoRow : PySem.W.typeIn K (.ref 347) = some (.type "function") := of_decide_eq_true (c.fact 3 8 (l := fa3) rfl rfl)
  obtain ⟨d_NoRow_init, F_NoRow_init⟩ := c.fun_ 23 (d := ⟨347, "__init__", "NoRow.__init__", s_NoRow_init, [], []⟩) rfl
  have xq_NoRow : PySem.W.excInitIn K 350 [.type "LookupError", .type "Exception", .type "BaseException", .type "object"] "LookupError.__new__" = true := of_decide_eq_true (c.fact 3 9 (l := fa3) rfl rfl)
  have xv_NoRow : PySem.W.excOver K 350 [.type "LookupError", .type "Exception", .type "BaseException", .type "object"] = true := of_decide_eq_true (c.fact 3 10 (l := fa3) rfl rfl)
  have xh_NoRow : PySem.W.hasDictIn K 350 = true := of_decide_eq_true (c.fact 3 11 (l := fa3) rfl rfl)
  have xsa_NoRow : PySem.W.findIn K (.ref 350) "__setattr__" = some (some (.builtin "object.__setattr__")) := of_decide_eq_true (c.fact 3 12 (l := fa3) rfl rfl)
  have xex_NoRow : PySem.W.subIn K (.ref 350) (.type "BaseException") = some true := of_decide_eq_true (c.fact 3 13 (l := fa3) rfl rfl)
  have xty_NoRow : PySem.W.typeIn K (.ref 350) = some (.type "type") := of_decide_eq_true (c.fact 3 14 (l := fa3) rfl rfl)
  have xkp_NoRow : PySem.W.keepIn K (.ref 350) = true := of_decide_eq_true (c.fact 3 15 (l := fa3) rfl rfl)
  have xi_NotHeld : PySem.W.findIn K (.ref 177) "__init__" = some (some (.ref 174)) := of_decide_eq_true (c.fact 3 16 (l := fa3) rfl rfl)
  have xt_NotHeld : PySem.W.typeIn K (.ref 174) = some (.type "function") := of_decide_eq_true (c.fact 3 17 (l := fa3) rfl rfl)
  obtain ⟨d_NotHeld_init, F_NotHeld_init⟩ := c.fun_ 24 (d := ⟨174, "__init__", "NotHeld.__init__", s_NotHeld_init, [], []⟩) rfl
  have xq_NotHeld : PySem.W.excInitIn K 177 [.type "ValueError", .type "Exception", .type "BaseException", .type "object"] "ValueError.__new__" = true := of_decide_eq_true (c.fact 3 18 (l := fa3) rfl rfl)
  have xh_NotHeld : PySem.W.hasDictIn K 177 = true := of_decide_eq_true (c.fact 3 19 (l := fa3) rfl rfl)
  have xsa_NotHeld : PySem.W.findIn K (.ref 177) "__setattr__" = some (some (.builtin "object.__setattr__")) := of_decide_eq_true (c.fact 3 20 (l := fa3) rfl rfl)
  have xex_NotHeld : PySem.W.subIn K (.ref 177) (.type "BaseException") = some true := of_decide_eq_true (c.fact 3 21 (l := fa3) rfl rfl)
  have xty_NotHeld : PySem.W.typeIn K (.ref 177) = some (.type "type") := of_decide_eq_true (c.fact 3 22 (l := fa3) rfl rfl)
  have xkp_NotHeld : PySem.W.keepIn K (.ref 177) = true := of_decide_eq_true (c.fact 3 23 (l := fa3) rfl rfl)
  have xi_OrderMatters : PySem.W.findIn K (.ref 196) "__init__" = some (some (.ref 193)) := of_decide_eq_true (c.fact 3 24 (l := fa3) rfl rfl)
  have xt_OrderMatters : PySem.W.typeIn K (.ref 193) = some (.type "function") := of_decide_eq_true (c.fact 3 25 (l := fa3) rfl rfl)
  obtain ⟨d_OrderMatters_init, F_OrderMatters_init⟩ := c.fun_ 25 (d := ⟨193, "__init__", "OrderMatters.__init__", s_OrderMatters_init, [], []⟩) rfl
  have xq_OrderMatters : PySem.W.excInitIn K 196 [.type "ValueError", .type "Exception", .type "BaseException", .type "object"] "ValueError.__new__" = true := of_decide_eq_true (c.fact 3 26 (l := fa3) rfl rfl)
  have xh_OrderMatters : PySem.W.hasDictIn K 196 = true := of_decide_eq_true (c.fact 3 27 (l := fa3) rfl rfl)
  have xsa_OrderMatters : PySem.W.findIn K (.ref 196) "__setattr__" = some (some (.builtin "object.__setattr__")) := of_decide_eq_true (c.fact 3 28 (l := fa3) rfl rfl)
  have xex_OrderMatters : PySem.W.subIn K (.ref 196) (.type "BaseException") = some true := of_decide_eq_true (c.fact 3 29 (l := fa3) rfl rfl)
  have xty_OrderMatters : PySem.W.typeIn K (.ref 196) = some (.type "type") := of_decide_eq_true (c.fact 3 30 (l := fa3) rfl rfl)
  have xkp_OrderMatters : PySem.W.keepIn K (.ref 196) = true := of_decide_eq_true (c.fact 3 31 (l := fa3) rfl rfl)
  have xi_OtherBook : PySem.W.findIn K (.ref 158) "__init__" = some (some (.ref 155)) := of_decide_eq_true (c.fact 3 32 (l := fa3) rfl rfl)
  have xt_OtherBook : PySem.W.typeIn K (.ref 155) = some (.type "function") := of_decide_eq_true (c.fact 3 33 (l := fa3) rfl rfl)
  obtain ⟨d_OtherBook_init, F_OtherBook_init⟩ := c.fun_ 26 (d := ⟨155, "__init__", "OtherBook.__init__", s_OtherBook_init, [], []⟩) rfl
  have xq_OtherBook : PySem.W.excInitIn K 158 [.type "ValueError", .type "Exception", .type "BaseException", .type "object"] "ValueError.__new__" = true := of_decide_eq_true (c.fact 3 34 (l := fa3) rfl rfl)
  have xh_OtherBook : PySem.W.hasDictIn K 158 = true := of_decide_eq_true (c.fact 3 35 (l := fa3) rfl rfl)
  have xsa_OtherBook : PySem.W.findIn K (.ref 158) "__setattr__" = some (some (.builtin "object.__setattr__")) := of_decide_eq_true (c.fact 3 36 (l := fa3) rfl rfl)
  have xex_OtherBook : PySem.W.subIn K (.ref 158) (.type "BaseException") = some true := of_decide_eq_true (c.fact 3 37 (l := fa3) rfl rfl)
  have xty_OtherBook : PySem.W.typeIn K (.ref 158) = some (.type "type") := of_decide_eq_true (c.fact 3 38 (l := fa3) rfl rfl)
  have xkp_OtherBook : PySem.W.keepIn K (.ref 158) = true := of_decide_eq_true (c.fact 3 39 (l := fa3) rfl rfl)
  have xi_Unfit : PySem.W.findIn K (.ref 215) "__init__" = some (some (.ref 212)) := of_decide_eq_true (c.fact 4 0 (l := fa4) rfl rfl)
  have xt_Unfit : PySem.W.typeIn K (.ref 212) = some (.type "function") := of_decide_eq_true (c.fact 4 1 (l := fa4) rfl rfl)
  obtain ⟨d_Unfit_init, F_Unfit_init⟩ := c.fun_ 27 (d := ⟨212, "__init__", "Unfit.__init__", s_Unfit_init, [], []⟩) rfl
  have xq_Unfit : PySem.W.excInitIn K 215 [.type "ValueError", .type "Exception", .type "BaseException", .type "object"] "ValueError.__new__" = true := of_decide_eq_true (c.fact 4 2 (l := fa4) rfl rfl)
  have xh_Unfit : PySem.W.hasDictIn K 215 = true := of_decide_eq_true (c.fact 4 3 (l := fa4) rfl rfl)
  have xsa_Unfit : PySem.W.findIn K (.ref 215) "__setattr__" = some (some (.builtin "object.__setattr__")) := of_decide_eq_true (c.fact 4 4 (l := fa4) rfl rfl)
  have xex_Unfit : PySem.W.subIn K (.ref 215) (.type "BaseException") = some true := of_decide_eq_true (c.fact 4 5 (l := fa4) rfl rfl)
  have xty_Unfit : PySem.W.typeIn K (.ref 215) = some (.type "type") := of_decide_eq_true (c.fact 4 6 (l := fa4) rfl rfl)
  have xkp_Unfit : PySem.W.keepIn K (.ref 215) = true := of_decide_eq_true (c.fact 4 7 (l := fa4) rfl rfl)
  have xn_BadBook_part : PySem.W.findIn K (.ref 82) "part" = some none := of_decide_eq_true (c.fact 4 8 (l := fa4) rfl rfl)
  have xn_BadCut_cut : PySem.W.findIn K (.ref 139) "cut" = some none := of_decide_eq_true (c.fact 4 9 (l := fa4) rfl rfl)
  have xn_BadInput_at : PySem.W.findIn K (.ref 291) "at" = some none := of_decide_eq_true (c.fact 4 10 (l := fa4) rfl rfl)
  have xn_BadKind_part : PySem.W.findIn K (.ref 63) "part" = some none := of_decide_eq_true (c.fact 4 11 (l := fa4) rfl rfl)
  have xn_BadProgram_part : PySem.W.findIn K (.ref 253) "part" = some none := of_decide_eq_true (c.fact 4 12 (l := fa4) rfl rfl)
  have xn_BadReader_part : PySem.W.findIn K (.ref 120) "part" = some none := of_decide_eq_true (c.fact 4 13 (l := fa4) rfl rfl)
  have xn_BadRun_part : PySem.W.findIn K (.ref 272) "part" = some none := of_decide_eq_true (c.fact 4 14 (l := fa4) rfl rfl)
  have xn_BadShape_part : PySem.W.findIn K (.ref 44) "part" = some none := of_decide_eq_true (c.fact 4 15 (l := fa4) rfl rfl)
  have xn_BadTable_part : PySem.W.findIn K (.ref 101) "part" = some none := of_decide_eq_true (c.fact 4 16 (l := fa4) rfl rfl)
  have xn_Misfit_row : PySem.W.findIn K (.ref 234) "row" = some none := of_decide_eq_true (c.fact 4 17 (l := fa4) rfl rfl)
  have xn_Misfit_column : PySem.W.findIn K (.ref 234) "column" = some none := of_decide_eq_true (c.fact 4 18 (l := fa4) rfl rfl)
  have xn_Misfit_text : PySem.W.findIn K (.ref 234) "text" = some none := of_decide_eq_true (c.fact 4 19 (l := fa4) rfl rfl)
  have xn_NoColumn_name : PySem.W.findIn K (.ref 330) "name" = some none := of_decide_eq_true (c.fact 4 20 (l := fa4) rfl rfl)
  have xn_NoKind_name : PySem.W.findIn K (.ref 310) "name" = some none := of_decide_eq_true (c.fact 4 21 (l := fa4) rfl rfl)
  have xn_NoRow_at : PySem.W.findIn K (.ref 350) "at" = some none := of_decide_eq_true (c.fact 4 22 (l := fa4) rfl rfl)
  have xn_NotHeld_column : PySem.W.findIn K (.ref 177) "column" = some none := of_decide_eq_true (c.fact 4 23 (l := fa4) rfl rfl)
  have xn_NotHeld_cell : PySem.W.findIn K (.ref 177) "cell" = some none := of_decide_eq_true (c.fact 4 24 (l := fa4) rfl rfl)
  have xn_OrderMatters_pieces : PySem.W.findIn K (.ref 196) "pieces" = some none := of_decide_eq_true (c.fact 4 25 (l := fa4) rfl rfl)
  have xn_OtherBook_name : PySem.W.findIn K (.ref 158) "name" = some none := of_decide_eq_true (c.fact 4 26 (l := fa4) rfl rfl)
  have xn_Unfit_kind : PySem.W.findIn K (.ref 215) "kind" = some none := of_decide_eq_true (c.fact 4 27 (l := fa4) rfl rfl)
  have xn_Unfit_text : PySem.W.findIn K (.ref 215) "text" = some none := of_decide_eq_true (c.fact 4 28 (l := fa4) rfl rfl)
  have zl_LookupError : PySem.W.nsIn K mainGlobals "LookupError" = some none := of_decide_eq_true (c.fact 4 29 (l := fa4) rfl rfl)
  have xb_LookupError : PySem.W.findCls K (.type "LookupError") (.type "type") "__init__" = some (.val (.builtin "LookupError.__init__")) := valX_ok (c.fact 4 30 (l := fa4) rfl rfl)
  have xrd_GuessError : PySem.W.readsIn K 24 (.type "type") = true := of_decide_eq_true (c.fact 4 31 (l := fa4) rfl rfl)
  have xga_GuessError : PySem.W.specialIn K (.ref 24) "__getattribute__" = some (some (.builtin "type.__getattribute__")) := of_decide_eq_true (c.fact 4 32 (l := fa4) rfl rfl)
  have xb_GuessError : PySem.W.findCls K (.ref 24) (.type "type") "__init__" = some (.val (.builtin "ValueError.__init__")) := valX_ok (c.fact 4 33 (l := fa4) rfl rfl)
  have eg_BadBook : PySem.W.findIn K (.ref 82) "__getattribute__" = some (some (.builtin "BaseException.__getattribute__")) := of_decide_eq_true (c.fact 4 34 (l := fa4) rfl rfl)
  have ek_BadBook : PySem.W.findIn K (.ref 82) "__getattr__" = some none := of_decide_eq_true (c.fact 4 35 (l := fa4) rfl rfl)
  have es_BadBook : PySem.W.subIn K (.ref 82) (.type "BaseException") = some true := of_decide_eq_true (c.fact 4 36 (l := fa4) rfl rfl)
  have ed_BadBook : PySem.W.hasDictIn K 82 = true := of_decide_eq_true (c.fact 4 37 (l := fa4) rfl rfl)
  have ea_BadBook : PySem.W.findIn K (.ref 82) "__class__" = some (some (.builtin "object.__class__")) := of_decide_eq_true (c.fact 4 38 (l := fa4) rfl rfl)
  have en_BadBook : PySem.W.specialIn K (.builtin "object.__class__") "__get__" = some (some (.builtin "getset_descriptor.__get__")) := of_decide_eq_true (c.fact 4 39 (l := fa4) rfl rfl)
  have et_BadBook : PySem.W.takesIn K (.builtin "object.__class__") = some true := of_decide_eq_true (c.fact 5 0 (l := fa5) rfl rfl)
  have em_BadBook : PySem.W.mroIn K 82 (.type "object") = some true := of_decide_eq_true (c.fact 5 1 (l := fa5) rfl rfl)
  have eg_BadCut : PySem.W.findIn K (.ref 139) "__getattribute__" = some (some (.builtin "BaseException.__getattribute__")) := of_decide_eq_true (c.fact 5 2 (l := fa5) rfl rfl)
  have ek_BadCut : PySem.W.findIn K (.ref 139) "__getattr__" = some none := of_decide_eq_true (c.fact 5 3 (l := fa5) rfl rfl)
  have es_BadCut : PySem.W.subIn K (.ref 139) (.type "BaseException") = some true := of_decide_eq_true (c.fact 5 4 (l := fa5) rfl rfl)
  have ed_BadCut : PySem.W.hasDictIn K 139 = true := of_decide_eq_true (c.fact 5 5 (l := fa5) rfl rfl)
  have ea_BadCut : PySem.W.findIn K (.ref 139) "__class__" = some (some (.builtin "object.__class__")) := of_decide_eq_true (c.fact 5 6 (l := fa5) rfl rfl)
  have en_BadCut : PySem.W.specialIn K (.builtin "object.__class__") "__get__" = some (some (.builtin "getset_descriptor.__get__")) := of_decide_eq_true (c.fact 5 7 (l := fa5) rfl rfl)
  have et_BadCut : PySem.W.takesIn K (.builtin "object.__class__") = some true := of_decide_eq_true (c.fact 5 8 (l := fa5) rfl rfl)
  have em_BadCut : PySem.W.mroIn K 139 (.type "object") = some true := of_decide_eq_true (c.fact 5 9 (l := fa5) rfl rfl)
  have eg_BadInput : PySem.W.findIn K (.ref 291) "__getattribute__" = some (some (.builtin "BaseException.__getattribute__")) := of_decide_eq_true (c.fact 5 10 (l := fa5) rfl rfl)
  have ek_BadInput : PySem.W.findIn K (.ref 291) "__getattr__" = some none := of_decide_eq_true (c.fact 5 11 (l := fa5) rfl rfl)
  have es_BadInput : PySem.W.subIn K (.ref 291) (.type "BaseException") = some true := of_decide_eq_true (c.fact 5 12 (l := fa5) rfl rfl)
  have ed_BadInput : PySem.W.hasDictIn K 291 = true := of_decide_eq_true (c.fact 5 13 (l := fa5) rfl rfl)
  have ea_BadInput : PySem.W.findIn K (.ref 291) "__class__" = some (some (.builtin "object.__class__")) := of_decide_eq_true (c.fact 5 14 (l := fa5) rfl rfl)
  have en_BadInput : PySem.W.specialIn K (.builtin "object.__class__") "__get__" = some (some (.builtin "getset_descriptor.__get__")) := of_decide_eq_true (c.fact 5 15 (l := fa5) rfl rfl)
  have et_BadInput : PySem.W.takesIn K (.builtin "object.__class__") = some true := of_decide_eq_true (c.fact 5 16 (l := fa5) rfl rfl)
  have em_BadInput : PySem.W.mroIn K 291 (.type "object") = some true := of_decide_eq_true (c.fact 5 17 (l := fa5) rfl rfl)
  have eg_BadKind : PySem.W.findIn K (.ref 63) "__getattribute__" = some (some (.builtin "BaseException.__getattribute__")) := of_decide_eq_true (c.fact 5 18 (l := fa5) rfl rfl)
  have ek_BadKind : PySem.W.findIn K (.ref 63) "__getattr__" = some none := of_decide_eq_true (c.fact 5 19 (l := fa5) rfl rfl)
  have es_BadKind : PySem.W.subIn K (.ref 63) (.type "BaseException") = some true := of_decide_eq_true (c.fact 5 20 (l := fa5) rfl rfl)
  have ed_BadKind : PySem.W.hasDictIn K 63 = true := of_decide_eq_true (c.fact 5 21 (l := fa5) rfl rfl)
  have ea_BadKind : PySem.W.findIn K (.ref 63) "__class__" = some (some (.builtin "object.__class__")) := of_decide_eq_true (c.fact 5 22 (l := fa5) rfl rfl)
  have en_BadKind : PySem.W.specialIn K (.builtin "object.__class__") "__get__" = some (some (.builtin "getset_descriptor.__get__")) := of_decide_eq_true (c.fact 5 23 (l := fa5) rfl rfl)
  have et_BadKind : PySem.W.takesIn K (.builtin "object.__class__") = some true := of_decide_eq_true (c.fact 5 24 (l := fa5) rfl rfl)
  have em_BadKind : PySem.W.mroIn K 63 (.type "object") = some true := of_decide_eq_true (c.fact 5 25 (l := fa5) rfl rfl)
  have eg_BadProgram : PySem.W.findIn K (.ref 253) "__getattribute__" = some (some (.builtin "BaseException.__getattribute__")) := of_decide_eq_true (c.fact 5 26 (l := fa5) rfl rfl)
  have ek_BadProgram : PySem.W.findIn K (.ref 253) "__getattr__" = some none := of_decide_eq_true (c.fact 5 27 (l := fa5) rfl rfl)
  have es_BadProgram : PySem.W.subIn K (.ref 253) (.type "BaseException") = some true := of_decide_eq_true (c.fact 5 28 (l := fa5) rfl rfl)
  have ed_BadProgram : PySem.W.hasDictIn K 253 = true := of_decide_eq_true (c.fact 5 29 (l := fa5) rfl rfl)
  have ea_BadProgram : PySem.W.findIn K (.ref 253) "__class__" = some (some (.builtin "object.__class__")) := of_decide_eq_true (c.fact 5 30 (l := fa5) rfl rfl)
  have en_BadProgram : PySem.W.specialIn K (.builtin "object.__class__") "__get__" = some (some (.builtin "getset_descriptor.__get__")) := of_decide_eq_true (c.fact 5 31 (l := fa5) rfl rfl)
  have et_BadProgram : PySem.W.takesIn K (.builtin "object.__class__") = some true := of_decide_eq_true (c.fact 5 32 (l := fa5) rfl rfl)
  have em_BadProgram : PySem.W.mroIn K 253 (.type "object") = some true := of_decide_eq_true (c.fact 5 33 (l := fa5) rfl rfl)
  have eg_BadReader : PySem.W.findIn K (.ref 120) "__getattribute__" = some (some (.builtin "BaseException.__getattribute__")) := of_decide_eq_true (c.fact 5 34 (l := fa5) rfl rfl)
  have ek_BadReader : PySem.W.findIn K (.ref 120) "__getattr__" = some none := of_decide_eq_true (c.fact 5 35 (l := fa5) rfl rfl)
  have es_BadReader : PySem.W.subIn K (.ref 120) (.type "BaseException") = some true := of_decide_eq_true (c.fact 5 36 (l := fa5) rfl rfl)
  have ed_BadReader : PySem.W.hasDictIn K 120 = true := of_decide_eq_true (c.fact 5 37 (l := fa5) rfl rfl)
  have ea_BadReader : PySem.W.findIn K (.ref 120) "__class__" = some (some (.builtin "object.__class__")) := of_decide_eq_true (c.fact 5 38 (l := fa5) rfl rfl)
  have en_BadReader : PySem.W.specialIn K (.builtin "object.__class__") "__get__" = some (some (.builtin "getset_descriptor.__get__")) := of_decide_eq_true (c.fact 5 39 (l := fa5) rfl rfl)
  have et_BadReader : PySem.W.takesIn K (.builtin "object.__class__") = some true := of_decide_eq_true (c.fact 6 0 (l := fa6) rfl rfl)
  have em_BadReader : PySem.W.mroIn K 120 (.type "object") = some true := of_decide_eq_true (c.fact 6 1 (l := fa6) rfl rfl)
  have eg_BadRun : PySem.W.findIn K (.ref 272) "__getattribute__" = some (some (.builtin "BaseException.__getattribute__")) := of_decide_eq_true (c.fact 6 2 (l := fa6) rfl rfl)
  have ek_BadRun : PySem.W.findIn K (.ref 272) "__getattr__" = some none := of_decide_eq_true (c.fact 6 3 (l := fa6) rfl rfl)
  have es_BadRun : PySem.W.subIn K (.ref 272) (.type "BaseException") = some true := of_decide_eq_true (c.fact 6 4 (l := fa6) rfl rfl)
  have ed_BadRun : PySem.W.hasDictIn K 272 = true := of_decide_eq_true (c.fact 6 5 (l := fa6) rfl rfl)
  have ea_BadRun : PySem.W.findIn K (.ref 272) "__class__" = some (some (.builtin "object.__class__")) := of_decide_eq_true (c.fact 6 6 (l := fa6) rfl rfl)
  have en_BadRun : PySem.W.specialIn K (.builtin "object.__class__") "__get__" = some (some (.builtin "getset_descriptor.__get__")) := of_decide_eq_true (c.fact 6 7 (l := fa6) rfl rfl)
  have et_BadRun : PySem.W.takesIn K (.builtin "object.__class__") = some true := of_decide_eq_true (c.fact 6 8 (l := fa6) rfl rfl)
  have em_BadRun : PySem.W.mroIn K 272 (.type "object") = some true := of_decide_eq_true (c.fact 6 9 (l := fa6) rfl rfl)
  have eg_BadShape : PySem.W.findIn K (.ref 44) "__getattribute__" = some (some (.builtin "BaseException.__getattribute__")) := of_decide_eq_true (c.fact 6 10 (l := fa6) rfl rfl)
  have ek_BadShape : PySem.W.findIn K (.ref 44) "__getattr__" = some none := of_decide_eq_true (c.fact 6 11 (l := fa6) rfl rfl)
  have es_BadShape : PySem.W.subIn K (.ref 44) (.type "BaseException") = some true := of_decide_eq_true (c.fact 6 12 (l := fa6) rfl rfl)
  have ed_BadShape : PySem.W.hasDictIn K 44 = true := of_decide_eq_true (c.fact 6 13 (l := fa6) rfl rfl)
  have ea_BadShape : PySem.W.findIn K (.ref 44) "__class__" = some (some (.builtin "object.__class__")) := of_decide_eq_true (c.fact 6 14 (l := fa6) rfl rfl)
  have en_BadShape : PySem.W.specialIn K (.builtin "object.__class__") "__get__" = some (some (.builtin "getset_descriptor.__get__")) := of_decide_eq_true (c.fact 6 15 (l := fa6) rfl rfl)
  have et_BadShape : PySem.W.takesIn K (.builtin "object.__class__") = some true := of_decide_eq_true (c.fact 6 16 (l := fa6) rfl rfl)
  have em_BadShape : PySem.W.mroIn K 44 (.type "object") = some true := of_decide_eq_true (c.fact 6 17 (l := fa6) rfl rfl)
  have eg_BadTable : PySem.W.findIn K (.ref 101) "__getattribute__" = some (some (.builtin "BaseException.__getattribute__")) := of_decide_eq_true (c.fact 6 18 (l := fa6) rfl rfl)
  have ek_BadTable : PySem.W.findIn K (.ref 101) "__getattr__" = some none := of_decide_eq_true (c.fact 6 19 (l := fa6) rfl rfl)
  have es_BadTable : PySem.W.subIn K (.ref 101) (.type "BaseException") = some true := of_decide_eq_true (c.fact 6 20 (l := fa6) rfl rfl)
  have ed_BadTable : PySem.W.hasDictIn K 101 = true := of_decide_eq_true (c.fact 6 21 (l := fa6) rfl rfl)
  have ea_BadTable : PySem.W.findIn K (.ref 101) "__class__" = some (some (.builtin "object.__class__")) := of_decide_eq_true (c.fact 6 22 (l := fa6) rfl rfl)
  have en_BadTable : PySem.W.specialIn K (.builtin "object.__class__") "__get__" = some (some (.builtin "getset_descriptor.__get__")) := of_decide_eq_true (c.fact 6 23 (l := fa6) rfl rfl)
  have et_BadTable : PySem.W.takesIn K (.builtin "object.__class__") = some true := of_decide_eq_true (c.fact 6 24 (l := fa6) rfl rfl)
  have em_BadTable : PySem.W.mroIn K 101 (.type "object") = some true := of_decide_eq_true (c.fact 6 25 (l := fa6) rfl rfl)
  have eg_Misfit : PySem.W.findIn K (.ref 234) "__getattribute__" = some (some (.builtin "BaseException.__getattribute__")) := of_decide_eq_true (c.fact 6 26 (l := fa6) rfl rfl)
  have ek_Misfit : PySem.W.findIn K (.ref 234) "__getattr__" = some none := of_decide_eq_true (c.fact 6 27 (l := fa6) rfl rfl)
  have es_Misfit : PySem.W.subIn K (.ref 234) (.type "BaseException") = some true := of_decide_eq_true (c.fact 6 28 (l := fa6) rfl rfl)
  have ed_Misfit : PySem.W.hasDictIn K 234 = true := of_decide_eq_true (c.fact 6 29 (l := fa6) rfl rfl)
  have ea_Misfit : PySem.W.findIn K (.ref 234) "__class__" = some (some (.builtin "object.__class__")) := of_decide_eq_true (c.fact 6 30 (l := fa6) rfl rfl)
  have en_Misfit : PySem.W.specialIn K (.builtin "object.__class__") "__get__" = some (some (.builtin "getset_descriptor.__get__")) := of_decide_eq_true (c.fact 6 31 (l := fa6) rfl rfl)
  have et_Misfit : PySem.W.takesIn K (.builtin "object.__class__") = some true := of_decide_eq_true (c.fact 6 32 (l := fa6) rfl rfl)
  have em_Misfit : PySem.W.mroIn K 234 (.type "object") = some true := of_decide_eq_true (c.fact 6 33 (l := fa6) rfl rfl)
  have eg_NoColumn : PySem.W.findIn K (.ref 330) "__getattribute__" = some (some (.builtin "BaseException.__getattribute__")) := of_decide_eq_true (c.fact 6 34 (l := fa6) rfl rfl)
  have ek_NoColumn : PySem.W.findIn K (.ref 330) "__getattr__" = some none := of_decide_eq_true (c.fact 6 35 (l := fa6) rfl rfl)
  have es_NoColumn : PySem.W.subIn K (.ref 330) (.type "BaseException") = some true := of_decide_eq_true (c.fact 6 36 (l := fa6) rfl rfl)
  have ed_NoColumn : PySem.W.hasDictIn K 330 = true := of_decide_eq_true (c.fact 6 37 (l := fa6) rfl rfl)
  have ea_NoColumn : PySem.W.findIn K (.ref 330) "__class__" = some (some (.builtin "object.__class__")) := of_decide_eq_true (c.fact 6 38 (l := fa6) rfl rfl)
  have en_NoColumn : PySem.W.specialIn K (.builtin "object.__class__") "__get__" = some (some (.builtin "getset_descriptor.__get__")) := of_decide_eq_true (c.fact 6 39 (l := fa6) rfl rfl)
  have et_NoColumn : PySem.W.takesIn K (.builtin "object.__class__") = some true := of_decide_eq_true (c.fact 7 0 (l := fa7) rfl rfl)
  have em_NoColumn : PySem.W.mroIn K 330 (.type "object") = some true := of_decide_eq_true (c.fact 7 1 (l := fa7) rfl rfl)
  have eg_NoKind : PySem.W.findIn K (.ref 310) "__getattribute__" = some (some (.builtin "BaseException.__getattribute__")) := of_decide_eq_true (c.fact 7 2 (l := fa7) rfl rfl)
  have ek_NoKind : PySem.W.findIn K (.ref 310) "__getattr__" = some none := of_decide_eq_true (c.fact 7 3 (l := fa7) rfl rfl)
  have es_NoKind : PySem.W.subIn K (.ref 310) (.type "BaseException") = some true := of_decide_eq_true (c.fact 7 4 (l := fa7) rfl rfl)
  have ed_NoKind : PySem.W.hasDictIn K 310 = true := of_decide_eq_true (c.fact 7 5 (l := fa7) rfl rfl)
  have ea_NoKind : PySem.W.findIn K (.ref 310) "__class__" = some (some (.builtin "object.__class__")) := of_decide_eq_true (c.fact 7 6 (l := fa7) rfl rfl)
  have en_NoKind : PySem.W.specialIn K (.builtin "object.__class__") "__get__" = some (some (.builtin "getset_descriptor.__get__")) := of_decide_eq_true (c.fact 7 7 (l := fa7) rfl rfl)
  have et_NoKind : PySem.W.takesIn K (.builtin "object.__class__") = some true := of_decide_eq_true (c.fact 7 8 (l := fa7) rfl rfl)
  have em_NoKind : PySem.W.mroIn K 310 (.type "object") = some true := of_decide_eq_true (c.fact 7 9 (l := fa7) rfl rfl)
  have eg_NoRow : PySem.W.findIn K (.ref 350) "__getattribute__" = some (some (.builtin "BaseException.__getattribute__")) := of_decide_eq_true (c.fact 7 10 (l := fa7) rfl rfl)
  have ek_NoRow : PySem.W.findIn K (.ref 350) "__getattr__" = some none := of_decide_eq_true (c.fact 7 11 (l := fa7) rfl rfl)
  have es_NoRow : PySem.W.subIn K (.ref 350) (.type "BaseException") = some true := of_decide_eq_true (c.fact 7 12 (l := fa7) rfl rfl)
  have ed_NoRow : PySem.W.hasDictIn K 350 = true := of_decide_eq_true (c.fact 7 13 (l := fa7) rfl rfl)
  have ea_NoRow : PySem.W.findIn K (.ref 350) "__class__" = some (some (.builtin "object.__class__")) := of_decide_eq_true (c.fact 7 14 (l := fa7) rfl rfl)
  have en_NoRow : PySem.W.specialIn K (.builtin "object.__class__") "__get__" = some (some (.builtin "getset_descriptor.__get__")) := of_decide_eq_true (c.fact 7 15 (l := fa7) rfl rfl)
  have et_NoRow : PySem.W.takesIn K (.builtin "object.__class__") = some true := of_decide_eq_true (c.fact 7 16 (l := fa7) rfl rfl)
  have em_NoRow : PySem.W.mroIn K 350 (.type "object") = some true := of_decide_eq_true (c.fact 7 17 (l := fa7) rfl rfl)
  have eg_NotHeld : PySem.W.findIn K (.ref 177) "__getattribute__" = some (some (.builtin "BaseException.__getattribute__")) := of_decide_eq_true (c.fact 7 18 (l := fa7) rfl rfl)
  have ek_NotHeld : PySem.W.findIn K (.ref 177) "__getattr__" = some none := of_decide_eq_true (c.fact 7 19 (l := fa7) rfl rfl)
  have es_NotHeld : PySem.W.subIn K (.ref 177) (.type "BaseException") = some true := of_decide_eq_true (c.fact 7 20 (l := fa7) rfl rfl)
  have ed_NotHeld : PySem.W.hasDictIn K 177 = true := of_decide_eq_true (c.fact 7 21 (l := fa7) rfl rfl)
  have ea_NotHeld : PySem.W.findIn K (.ref 177) "__class__" = some (some (.builtin "object.__class__")) := of_decide_eq_true (c.fact 7 22 (l := fa7) rfl rfl)
  have en_NotHeld : PySem.W.specialIn K (.builtin "object.__class__") "__get__" = some (some (.builtin "getset_descriptor.__get__")) := of_decide_eq_true (c.fact 7 23 (l := fa7) rfl rfl)
  have et_NotHeld : PySem.W.takesIn K (.builtin "object.__class__") = some true := of_decide_eq_true (c.fact 7 24 (l := fa7) rfl rfl)
  have em_NotHeld : PySem.W.mroIn K 177 (.type "object") = some true := of_decide_eq_true (c.fact 7 25 (l := fa7) rfl rfl)
  have eg_OrderMatters : PySem.W.findIn K (.ref 196) "__getattribute__" = some (some (.builtin "BaseException.__getattribute__")) := of_decide_eq_true (c.fact 7 26 (l := fa7) rfl rfl)
  have ek_OrderMatters : PySem.W.findIn K (.ref 196) "__getattr__" = some none := of_decide_eq_true (c.fact 7 27 (l := fa7) rfl rfl)
  have es_OrderMatters : PySem.W.subIn K (.ref 196) (.type "BaseException") = some true := of_decide_eq_true (c.fact 7 28 (l := fa7) rfl rfl)
  have ed_OrderMatters : PySem.W.hasDictIn K 196 = true := of_decide_eq_true (c.fact 7 29 (l := fa7) rfl rfl)
  have ea_OrderMatters : PySem.W.findIn K (.ref 196) "__class__" = some (some (.builtin "object.__class__")) := of_decide_eq_true (c.fact 7 30 (l := fa7) rfl rfl)
  have en_OrderMatters : PySem.W.specialIn K (.builtin "object.__class__") "__get__" = some (some (.builtin "getset_descriptor.__get__")) := of_decide_eq_true (c.fact 7 31 (l := fa7) rfl rfl)
  have et_OrderMatters : PySem.W.takesIn K (.builtin "object.__class__") = some true := of_decide_eq_true (c.fact 7 32 (l := fa7) rfl rfl)
  have em_OrderMatters : PySem.W.mroIn K 196 (.type "object") = some true := of_decide_eq_true (c.fact 7 33 (l := fa7) rfl rfl)
  have eg_OtherBook : PySem.W.findIn K (.ref 158) "__getattribute__" = some (some (.builtin "BaseException.__getattribute__")) := of_decide_eq_true (c.fact 7 34 (l := fa7) rfl rfl)
  have ek_OtherBook : PySem.W.findIn K (.ref 158) "__getattr__" = some none := of_decide_eq_true (c.fact 7 35 (l := fa7) rfl rfl)
  have es_OtherBook : PySem.W.subIn K (.ref 158) (.type "BaseException") = some true := of_decide_eq_true (c.fact 7 36 (l := fa7) rfl rfl)
  have ed_OtherBook : PySem.W.hasDictIn K 158 = true := of_decide_eq_true (c.fact 7 37 (l := fa7) rfl rfl)
  have ea_OtherBook : PySem.W.findIn K (.ref 158) "__class__" = some (some (.builtin "object.__class__")) := of_decide_eq_true (c.fact 7 38 (l := fa7) rfl rfl)
  have en_OtherBook : PySem.W.specialIn K (.builtin "object.__class__") "__get__" = some (some (.builtin "getset_descriptor.__get__")) := of_decide_eq_true (c.fact 7 39 (l := fa7) rfl rfl)
  have et_OtherBook : PySem.W.takesIn K (.builtin "object.__class__") = some true := of_decide_eq_true (c.fact 8 0 (l := fa8) rfl rfl)
  have em_OtherBook : PySem.W.mroIn K 158 (.type "object") = some true := of_decide_eq_true (c.fact 8 1 (l := fa8) rfl rfl)
  have eg_Unfit : PySem.W.findIn K (.ref 215) "__getattribute__" = some (some (.builtin "BaseException.__getattribute__")) := of_decide_eq_true (c.fact 8 2 (l := fa8) rfl rfl)
  have ek_Unfit : PySem.W.findIn K (.ref 215) "__getattr__" = some none := of_decide_eq_true (c.fact 8 3 (l := fa8) rfl rfl)
  have es_Unfit : PySem.W.subIn K (.ref 215) (.type "BaseException") = some true := of_decide_eq_true (c.fact 8 4 (l := fa8) rfl rfl)
  have ed_Unfit : PySem.W.hasDictIn K 215 = true := of_decide_eq_true (c.fact 8 5 (l := fa8) rfl rfl)
  have ea_Unfit : PySem.W.findIn K (.ref 215) "__class__" = some (some (.builtin "object.__class__")) := of_decide_eq_true (c.fact 8 6 (l := fa8) rfl rfl)
  have en_Unfit : PySem.W.specialIn K (.builtin "object.__class__") "__get__" = some (some (.builtin "getset_descriptor.__get__")) := of_decide_eq_true (c.fact 8 7 (l := fa8) rfl rfl)
  have et_Unfit : PySem.W.takesIn K (.builtin "object.__class__") = some true := of_decide_eq_true (c.fact 8 8 (l := fa8) rfl rfl)
  have em_Unfit : PySem.W.mroIn K 215 (.type "object") = some true := of_decide_eq_true (c.fact 8 9 (l := fa8) rfl rfl)
  have kx_BadBook_BadBook : PySem.W.kitOne K (.ref 82) (.ref 82) = some true := of_decide_eq_true (c.fact 8 10 (l := fa8) rfl rfl)
  have kx_BadBook_BadCut : PySem.W.kitOne K (.ref 82) (.ref 139) = some false := of_decide_eq_true (c.fact 8 11 (l := fa8) rfl rfl)
  have kx_BadBook_BadInput : PySem.W.kitOne K (.ref 82) (.ref 291) = some false := of_decide_eq_true (c.fact 8 12 (l := fa8) rfl rfl)
  have kx_BadBook_BadKind : PySem.W.kitOne K (.ref 82) (.ref 63) = some false := of_decide_eq_true (c.fact 8 13 (l := fa8) rfl rfl)
  have kx_BadBook_BadProgram : PySem.W.kitOne K (.ref 82) (.ref 253) = some false := of_decide_eq_true (c.fact 8 14 (l := fa8) rfl rfl)
  have kx_BadBook_BadReader : PySem.W.kitOne K (.ref 82) (.ref 120) = some false := of_decide_eq_true (c.fact 8 15 (l := fa8) rfl rfl)
  have kx_BadBook_BadRun : PySem.W.kitOne K (.ref 82) (.ref 272) = some false := of_decide_eq_true (c.fact 8 16 (l := fa8) rfl rfl)
  have kx_BadBook_BadShape : PySem.W.kitOne K (.ref 82) (.ref 44) = some false := of_decide_eq_true (c.fact 8 17 (l := fa8) rfl rfl)
  have kx_BadBook_BadTable : PySem.W.kitOne K (.ref 82) (.ref 101) = some false := of_decide_eq_true (c.fact 8 18 (l := fa8) rfl rfl)
  have kx_BadBook_GuessError : PySem.W.kitOne K (.ref 82) (.ref 24) = some true := of_decide_eq_true (c.fact 8 19 (l := fa8) rfl rfl)
  have kx_BadBook_LookupError : PySem.W.kitOne K (.ref 82) (.type "LookupError") = some false := of_decide_eq_true (c.fact 8 20 (l := fa8) rfl rfl)
  have kx_BadBook_Misfit : PySem.W.kitOne K (.ref 82) (.ref 234) = some false := of_decide_eq_true (c.fact 8 21 (l := fa8) rfl rfl)
  have kx_BadBook_NoColumn : PySem.W.kitOne K (.ref 82) (.ref 330) = some false := of_decide_eq_true (c.fact 8 22 (l := fa8) rfl rfl)
  have kx_BadBook_NoKind : PySem.W.kitOne K (.ref 82) (.ref 310) = some false := of_decide_eq_true (c.fact 8 23 (l := fa8) rfl rfl)
  have kx_BadBook_NoRow : PySem.W.kitOne K (.ref 82) (.ref 350) = some false := of_decide_eq_true (c.fact 8 24 (l := fa8) rfl rfl)
  have kx_BadBook_NotHeld : PySem.W.kitOne K (.ref 82) (.ref 177) = some false := of_decide_eq_true (c.fact 8 25 (l := fa8) rfl rfl)
  have kx_BadBook_OrderMatters : PySem.W.kitOne K (.ref 82) (.ref 196) = some false := of_decide_eq_true (c.fact 8 26 (l := fa8) rfl rfl)
  have kx_BadBook_OtherBook : PySem.W.kitOne K (.ref 82) (.ref 158) = some false := of_decide_eq_true (c.fact 8 27 (l := fa8) rfl rfl)
  have kx_BadBook_Unfit : PySem.W.kitOne K (.ref 82) (.ref 215) = some false := of_decide_eq_true (c.fact 8 28 (l := fa8) rfl rfl)
  have kx_BadBook_ValueError : PySem.W.kitOne K (.ref 82) (.type "ValueError") = some true := of_decide_eq_true (c.fact 8 29 (l := fa8) rfl rfl)
  have kx_BadCut_BadBook : PySem.W.kitOne K (.ref 139) (.ref 82) = some false := of_decide_eq_true (c.fact 8 30 (l := fa8) rfl rfl)
  have kx_BadCut_BadCut : PySem.W.kitOne K (.ref 139) (.ref 139) = some true := of_decide_eq_true (c.fact 8 31 (l := fa8) rfl rfl)
  have kx_BadCut_BadInput : PySem.W.kitOne K (.ref 139) (.ref 291) = some false := of_decide_eq_true (c.fact 8 32 (l := fa8) rfl rfl)
  have kx_BadCut_BadKind : PySem.W.kitOne K (.ref 139) (.ref 63) = some false := of_decide_eq_true (c.fact 8 33 (l := fa8) rfl rfl)
  have kx_BadCut_BadProgram : PySem.W.kitOne K (.ref 139) (.ref 253) = some false := of_decide_eq_true (c.fact 8 34 (l := fa8) rfl rfl)
  have kx_BadCut_BadReader : PySem.W.kitOne K (.ref 139) (.ref 120) = some false := of_decide_eq_true (c.fact 8 35 (l := fa8) rfl rfl)
  have kx_BadCut_BadRun : PySem.W.kitOne K (.ref 139) (.ref 272) = some false := of_decide_eq_true (c.fact 8 36 (l := fa8) rfl rfl)
  have kx_BadCut_BadShape : PySem.W.kitOne K (.ref 139) (.ref 44) = some false := of_decide_eq_true (c.fact 8 37 (l := fa8) rfl rfl)
  have kx_BadCut_BadTable : PySem.W.kitOne K (.ref 139) (.ref 101) = some false := of_decide_eq_true (c.fact 8 38 (l := fa8) rfl rfl)
  have kx_BadCut_GuessError : PySem.W.kitOne K (.ref 139) (.ref 24) = some true := of_decide_eq_true (c.fact 8 39 (l := fa8) rfl rfl)
  have kx_BadCut_LookupError : PySem.W.kitOne K (.ref 139) (.type "LookupError") = some false := of_decide_eq_true (c.fact 9 0 (l := fa9) rfl rfl)
  have kx_BadCut_Misfit : PySem.W.kitOne K (.ref 139) (.ref 234) = some false := of_decide_eq_true (c.fact 9 1 (l := fa9) rfl rfl)
  have kx_BadCut_NoColumn : PySem.W.kitOne K (.ref 139) (.ref 330) = some false := of_decide_eq_true (c.fact 9 2 (l := fa9) rfl rfl)
  have kx_BadCut_NoKind : PySem.W.kitOne K (.ref 139) (.ref 310) = some false := of_decide_eq_true (c.fact 9 3 (l := fa9) rfl rfl)
  have kx_BadCut_NoRow : PySem.W.kitOne K (.ref 139) (.ref 350) = some false := of_decide_eq_true (c.fact 9 4 (l := fa9) rfl rfl)
  have kx_BadCut_NotHeld : PySem.W.kitOne K (.ref 139) (.ref 177) = some false := of_decide_eq_true (c.fact 9 5 (l := fa9) rfl rfl)
  have kx_BadCut_OrderMatters : PySem.W.kitOne K (.ref 139) (.ref 196) = some false := of_decide_eq_true (c.fact 9 6 (l := fa9) rfl rfl)
  have kx_BadCut_OtherBook : PySem.W.kitOne K (.ref 139) (.ref 158) = some false := of_decide_eq_true (c.fact 9 7 (l := fa9) rfl rfl)
  have kx_BadCut_Unfit : PySem.W.kitOne K (.ref 139) (.ref 215) = some false := of_decide_eq_true (c.fact 9 8 (l := fa9) rfl rfl)
  have kx_BadCut_ValueError : PySem.W.kitOne K (.ref 139) (.type "ValueError") = some true := of_decide_eq_true (c.fact 9 9 (l := fa9) rfl rfl)
  have kx_BadInput_BadBook : PySem.W.kitOne K (.ref 291) (.ref 82) = some false := of_decide_eq_true (c.fact 9 10 (l := fa9) rfl rfl)
  have kx_BadInput_BadCut : PySem.W.kitOne K (.ref 291) (.ref 139) = some false := of_decide_eq_true (c.fact 9 11 (l := fa9) rfl rfl)
  have kx_BadInput_BadInput : PySem.W.kitOne K (.ref 291) (.ref 291) = some true := of_decide_eq_true (c.fact 9 12 (l := fa9) rfl rfl)
  have kx_BadInput_BadKind : PySem.W.kitOne K (.ref 291) (.ref 63) = some false := of_decide_eq_true (c.fact 9 13 (l := fa9) rfl rfl)
  have kx_BadInput_BadProgram : PySem.W.kitOne K (.ref 291) (.ref 253) = some false := of_decide_eq_true (c.fact 9 14 (l := fa9) rfl rfl)
  have kx_BadInput_BadReader : PySem.W.kitOne K (.ref 291) (.ref 120) = some false := of_decide_eq_true (c.fact 9 15 (l := fa9) rfl rfl)
  have kx_BadInput_BadRun : PySem.W.kitOne K (.ref 291) (.ref 272) = some false := of_decide_eq_true (c.fact 9 16 (l := fa9) rfl rfl)
  have kx_BadInput_BadShape : PySem.W.kitOne K (.ref 291) (.ref 44) = some false := of_decide_eq_true (c.fact 9 17 (l := fa9) rfl rfl)
  have kx_BadInput_BadTable : PySem.W.kitOne K (.ref 291) (.ref 101) = some false := of_decide_eq_true (c.fact 9 18 (l := fa9) rfl rfl)
  have kx_BadInput_GuessError : PySem.W.kitOne K (.ref 291) (.ref 24) = some true := of_decide_eq_true (c.fact 9 19 (l := fa9) rfl rfl)
  have kx_BadInput_LookupError : PySem.W.kitOne K (.ref 291) (.type "LookupError") = some false := of_decide_eq_true (c.fact 9 20 (l := fa9) rfl rfl)
  have kx_BadInput_Misfit : PySem.W.kitOne K (.ref 291) (.ref 234) = some false := of_decide_eq_true (c.fact 9 21 (l := fa9) rfl rfl)
  have kx_BadInput_NoColumn : PySem.W.kitOne K (.ref 291) (.ref 330) = some false := of_decide_eq_true (c.fact 9 22 (l := fa9) rfl rfl)
  have kx_BadInput_NoKind : PySem.W.kitOne K (.ref 291) (.ref 310) = some false := of_decide_eq_true (c.fact 9 23 (l := fa9) rfl rfl)
  have kx_BadInput_NoRow : PySem.W.kitOne K (.ref 291) (.ref 350) = some false := of_decide_eq_true (c.fact 9 24 (l := fa9) rfl rfl)
  have kx_BadInput_NotHeld : PySem.W.kitOne K (.ref 291) (.ref 177) = some false := of_decide_eq_true (c.fact 9 25 (l := fa9) rfl rfl)
  have kx_BadInput_OrderMatters : PySem.W.kitOne K (.ref 291) (.ref 196) = some false := of_decide_eq_true (c.fact 9 26 (l := fa9) rfl rfl)
  have kx_BadInput_OtherBook : PySem.W.kitOne K (.ref 291) (.ref 158) = some false := of_decide_eq_true (c.fact 9 27 (l := fa9) rfl rfl)
  have kx_BadInput_Unfit : PySem.W.kitOne K (.ref 291) (.ref 215) = some false := of_decide_eq_true (c.fact 9 28 (l := fa9) rfl rfl)
  have kx_BadInput_ValueError : PySem.W.kitOne K (.ref 291) (.type "ValueError") = some true := of_decide_eq_true (c.fact 9 29 (l := fa9) rfl rfl)
  have kx_BadKind_BadBook : PySem.W.kitOne K (.ref 63) (.ref 82) = some false := of_decide_eq_true (c.fact 9 30 (l := fa9) rfl rfl)
  have kx_BadKind_BadCut : PySem.W.kitOne K (.ref 63) (.ref 139) = some false := of_decide_eq_true (c.fact 9 31 (l := fa9) rfl rfl)
  have kx_BadKind_BadInput : PySem.W.kitOne K (.ref 63) (.ref 291) = some false := of_decide_eq_true (c.fact 9 32 (l := fa9) rfl rfl)
  have kx_BadKind_BadKind : PySem.W.kitOne K (.ref 63) (.ref 63) = some true := of_decide_eq_true (c.fact 9 33 (l := fa9) rfl rfl)
  have kx_BadKind_BadProgram : PySem.W.kitOne K (.ref 63) (.ref 253) = some false := of_decide_eq_true (c.fact 9 34 (l := fa9) rfl rfl)
  have kx_BadKind_BadReader : PySem.W.kitOne K (.ref 63) (.ref 120) = some false := of_decide_eq_true (c.fact 9 35 (l := fa9) rfl rfl)
  have kx_BadKind_BadRun : PySem.W.kitOne K (.ref 63) (.ref 272) = some false := of_decide_eq_true (c.fact 9 36 (l := fa9) rfl rfl)
  have kx_BadKind_BadShape : PySem.W.kitOne K (.ref 63) (.ref 44) = some false := of_decide_eq_true (c.fact 9 37 (l := fa9) rfl rfl)
  have kx_BadKind_BadTable : PySem.W.kitOne K (.ref 63) (.ref 101) = some false := of_decide_eq_true (c.fact 9 38 (l := fa9) rfl rfl)
  have kx_BadKind_GuessError : PySem.W.kitOne K (.ref 63) (.ref 24) = some true := of_decide_eq_true (c.fact 9 39 (l := fa9) rfl rfl)
  have kx_BadKind_LookupError : PySem.W.kitOne K (.ref 63) (.type "LookupError") = some false := of_decide_eq_true (c.fact 10 0 (l := fa10) rfl rfl)
  have kx_BadKind_Misfit : PySem.W.kitOne K (.ref 63) (.ref 234) = some false := of_decide_eq_true (c.fact 10 1 (l := fa10) rfl rfl)
  have kx_BadKind_NoColumn : PySem.W.kitOne K (.ref 63) (.ref 330) = some false := of_decide_eq_true (c.fact 10 2 (l := fa10) rfl rfl)
  have kx_BadKind_NoKind : PySem.W.kitOne K (.ref 63) (.ref 310) = some false := of_decide_eq_true (c.fact 10 3 (l := fa10) rfl rfl)
  have kx_BadKind_NoRow : PySem.W.kitOne K (.ref 63) (.ref 350) = some false := of_decide_eq_true (c.fact 10 4 (l := fa10) rfl rfl)
  have kx_BadKind_NotHeld : PySem.W.kitOne K (.ref 63) (.ref 177) = some false := of_decide_eq_true (c.fact 10 5 (l := fa10) rfl rfl)
  have kx_BadKind_OrderMatters : PySem.W.kitOne K (.ref 63) (.ref 196) = some false := of_decide_eq_true (c.fact 10 6 (l := fa10) rfl rfl)
  have kx_BadKind_OtherBook : PySem.W.kitOne K (.ref 63) (.ref 158) = some false := of_decide_eq_true (c.fact 10 7 (l := fa10) rfl rfl)
  have kx_BadKind_Unfit : PySem.W.kitOne K (.ref 63) (.ref 215) = some false := of_decide_eq_true (c.fact 10 8 (l := fa10) rfl rfl)
  have kx_BadKind_ValueError : PySem.W.kitOne K (.ref 63) (.type "ValueError") = some true := of_decide_eq_true (c.fact 10 9 (l := fa10) rfl rfl)
  have kx_BadProgram_BadBook : PySem.W.kitOne K (.ref 253) (.ref 82) = some false := of_decide_eq_true (c.fact 10 10 (l := fa10) rfl rfl)
  have kx_BadProgram_BadCut : PySem.W.kitOne K (.ref 253) (.ref 139) = some false := of_decide_eq_true (c.fact 10 11 (l := fa10) rfl rfl)
  have kx_BadProgram_BadInput : PySem.W.kitOne K (.ref 253) (.ref 291) = some false := of_decide_eq_true (c.fact 10 12 (l := fa10) rfl rfl)
  have kx_BadProgram_BadKind : PySem.W.kitOne K (.ref 253) (.ref 63) = some false := of_decide_eq_true (c.fact 10 13 (l := fa10) rfl rfl)
  have kx_BadProgram_BadProgram : PySem.W.kitOne K (.ref 253) (.ref 253) = some true := of_decide_eq_true (c.fact 10 14 (l := fa10) rfl rfl)
  have kx_BadProgram_BadReader : PySem.W.kitOne K (.ref 253) (.ref 120) = some false := of_decide_eq_true (c.fact 10 15 (l := fa10) rfl rfl)
  have kx_BadProgram_BadRun : PySem.W.kitOne K (.ref 253) (.ref 272) = some false := of_decide_eq_true (c.fact 10 16 (l := fa10) rfl rfl)
  have kx_BadProgram_BadShape : PySem.W.kitOne K (.ref 253) (.ref 44) = some false := of_decide_eq_true (c.fact 10 17 (l := fa10) rfl rfl)
  have kx_BadProgram_BadTable : PySem.W.kitOne K (.ref 253) (.ref 101) = some false := of_decide_eq_true (c.fact 10 18 (l := fa10) rfl rfl)
  have kx_BadProgram_GuessError : PySem.W.kitOne K (.ref 253) (.ref 24) = some true := of_decide_eq_true (c.fact 10 19 (l := fa10) rfl rfl)
  have kx_BadProgram_LookupError : PySem.W.kitOne K (.ref 253) (.type "LookupError") = some false := of_decide_eq_true (c.fact 10 20 (l := fa10) rfl rfl)
  have kx_BadProgram_Misfit : PySem.W.kitOne K (.ref 253) (.ref 234) = some false := of_decide_eq_true (c.fact 10 21 (l := fa10) rfl rfl)
  have kx_BadProgram_NoColumn : PySem.W.kitOne K (.ref 253) (.ref 330) = some false := of_decide_eq_true (c.fact 10 22 (l := fa10) rfl rfl)
  have kx_BadProgram_NoKind : PySem.W.kitOne K (.ref 253) (.ref 310) = some false := of_decide_eq_true (c.fact 10 23 (l := fa10) rfl rfl)
  have kx_BadProgram_NoRow : PySem.W.kitOne K (.ref 253) (.ref 350) = some false := of_decide_eq_true (c.fact 10 24 (l := fa10) rfl rfl)
  have kx_BadProgram_NotHeld : PySem.W.kitOne K (.ref 253) (.ref 177) = some false := of_decide_eq_true (c.fact 10 25 (l := fa10) rfl rfl)
  have kx_BadProgram_OrderMatters : PySem.W.kitOne K (.ref 253) (.ref 196) = some false := of_decide_eq_true (c.fact 10 26 (l := fa10) rfl rfl)
  have kx_BadProgram_OtherBook : PySem.W.kitOne K (.ref 253) (.ref 158) = some false := of_decide_eq_true (c.fact 10 27 (l := fa10) rfl rfl)
  have kx_BadProgram_Unfit : PySem.W.kitOne K (.ref 253) (.ref 215) = some false := of_decide_eq_true (c.fact 10 28 (l := fa10) rfl rfl)
  have kx_BadProgram_ValueError : PySem.W.kitOne K (.ref 253) (.type "ValueError") = some true := of_decide_eq_true (c.fact 10 29 (l := fa10) rfl rfl)
  have kx_BadReader_BadBook : PySem.W.kitOne K (.ref 120) (.ref 82) = some false := of_decide_eq_true (c.fact 10 30 (l := fa10) rfl rfl)
  have kx_BadReader_BadCut : PySem.W.kitOne K (.ref 120) (.ref 139) = some false := of_decide_eq_true (c.fact 10 31 (l := fa10) rfl rfl)
  have kx_BadReader_BadInput : PySem.W.kitOne K (.ref 120) (.ref 291) = some false := of_decide_eq_true (c.fact 10 32 (l := fa10) rfl rfl)
  have kx_BadReader_BadKind : PySem.W.kitOne K (.ref 120) (.ref 63) = some false := of_decide_eq_true (c.fact 10 33 (l := fa10) rfl rfl)
  have kx_BadReader_BadProgram : PySem.W.kitOne K (.ref 120) (.ref 253) = some false := of_decide_eq_true (c.fact 10 34 (l := fa10) rfl rfl)
  have kx_BadReader_BadReader : PySem.W.kitOne K (.ref 120) (.ref 120) = some true := of_decide_eq_true (c.fact 10 35 (l := fa10) rfl rfl)
  have kx_BadReader_BadRun : PySem.W.kitOne K (.ref 120) (.ref 272) = some false := of_decide_eq_true (c.fact 10 36 (l := fa10) rfl rfl)
  have kx_BadReader_BadShape : PySem.W.kitOne K (.ref 120) (.ref 44) = some false := of_decide_eq_true (c.fact 10 37 (l := fa10) rfl rfl)
  have kx_BadReader_BadTable : PySem.W.kitOne K (.ref 120) (.ref 101) = some false := of_decide_eq_true (c.fact 10 38 (l := fa10) rfl rfl)
  have kx_BadReader_GuessError : PySem.W.kitOne K (.ref 120) (.ref 24) = some true := of_decide_eq_true (c.fact 10 39 (l := fa10) rfl rfl)
  have kx_BadReader_LookupError : PySem.W.kitOne K (.ref 120) (.type "LookupError") = some false := of_decide_eq_true (c.fact 11 0 (l := fa11) rfl rfl)
  have kx_BadReader_Misfit : PySem.W.kitOne K (.ref 120) (.ref 234) = some false := of_decide_eq_true (c.fact 11 1 (l := fa11) rfl rfl)
  have kx_BadReader_NoColumn : PySem.W.kitOne K (.ref 120) (.ref 330) = some false := of_decide_eq_true (c.fact 11 2 (l := fa11) rfl rfl)
  have kx_BadReader_NoKind : PySem.W.kitOne K (.ref 120) (.ref 310) = some false := of_decide_eq_true (c.fact 11 3 (l := fa11) rfl rfl)
  have kx_BadReader_NoRow : PySem.W.kitOne K (.ref 120) (.ref 350) = some false := of_decide_eq_true (c.fact 11 4 (l := fa11) rfl rfl)
  have kx_BadReader_NotHeld : PySem.W.kitOne K (.ref 120) (.ref 177) = some false := of_decide_eq_true (c.fact 11 5 (l := fa11) rfl rfl)
  have kx_BadReader_OrderMatters : PySem.W.kitOne K (.ref 120) (.ref 196) = some false := of_decide_eq_true (c.fact 11 6 (l := fa11) rfl rfl)
  have kx_BadReader_OtherBook : PySem.W.kitOne K (.ref 120) (.ref 158) = some false := of_decide_eq_true (c.fact 11 7 (l := fa11) rfl rfl)
  have kx_BadReader_Unfit : PySem.W.kitOne K (.ref 120) (.ref 215) = some false := of_decide_eq_true (c.fact 11 8 (l := fa11) rfl rfl)
  have kx_BadReader_ValueError : PySem.W.kitOne K (.ref 120) (.type "ValueError") = some true := of_decide_eq_true (c.fact 11 9 (l := fa11) rfl rfl)
  have kx_BadRun_BadBook : PySem.W.kitOne K (.ref 272) (.ref 82) = some false := of_decide_eq_true (c.fact 11 10 (l := fa11) rfl rfl)
  have kx_BadRun_BadCut : PySem.W.kitOne K (.ref 272) (.ref 139) = some false := of_decide_eq_true (c.fact 11 11 (l := fa11) rfl rfl)
  have kx_BadRun_BadInput : PySem.W.kitOne K (.ref 272) (.ref 291) = some false := of_decide_eq_true (c.fact 11 12 (l := fa11) rfl rfl)
  have kx_BadRun_BadKind : PySem.W.kitOne K (.ref 272) (.ref 63) = some false := of_decide_eq_true (c.fact 11 13 (l := fa11) rfl rfl)
  have kx_BadRun_BadProgram : PySem.W.kitOne K (.ref 272) (.ref 253) = some false := of_decide_eq_true (c.fact 11 14 (l := fa11) rfl rfl)
  have kx_BadRun_BadReader : PySem.W.kitOne K (.ref 272) (.ref 120) = some false := of_decide_eq_true (c.fact 11 15 (l := fa11) rfl rfl)
  have kx_BadRun_BadRun : PySem.W.kitOne K (.ref 272) (.ref 272) = some true := of_decide_eq_true (c.fact 11 16 (l := fa11) rfl rfl)
  have kx_BadRun_BadShape : PySem.W.kitOne K (.ref 272) (.ref 44) = some false := of_decide_eq_true (c.fact 11 17 (l := fa11) rfl rfl)
  have kx_BadRun_BadTable : PySem.W.kitOne K (.ref 272) (.ref 101) = some false := of_decide_eq_true (c.fact 11 18 (l := fa11) rfl rfl)
  have kx_BadRun_GuessError : PySem.W.kitOne K (.ref 272) (.ref 24) = some true := of_decide_eq_true (c.fact 11 19 (l := fa11) rfl rfl)
  have kx_BadRun_LookupError : PySem.W.kitOne K (.ref 272) (.type "LookupError") = some false := of_decide_eq_true (c.fact 11 20 (l := fa11) rfl rfl)
  have kx_BadRun_Misfit : PySem.W.kitOne K (.ref 272) (.ref 234) = some false := of_decide_eq_true (c.fact 11 21 (l := fa11) rfl rfl)
  have kx_BadRun_NoColumn : PySem.W.kitOne K (.ref 272) (.ref 330) = some false := of_decide_eq_true (c.fact 11 22 (l := fa11) rfl rfl)
  have kx_BadRun_NoKind : PySem.W.kitOne K (.ref 272) (.ref 310) = some false := of_decide_eq_true (c.fact 11 23 (l := fa11) rfl rfl)
  have kx_BadRun_NoRow : PySem.W.kitOne K (.ref 272) (.ref 350) = some false := of_decide_eq_true (c.fact 11 24 (l := fa11) rfl rfl)
  have kx_BadRun_NotHeld : PySem.W.kitOne K (.ref 272) (.ref 177) = some false := of_decide_eq_true (c.fact 11 25 (l := fa11) rfl rfl)
  have kx_BadRun_OrderMatters : PySem.W.kitOne K (.ref 272) (.ref 196) = some false := of_decide_eq_true (c.fact 11 26 (l := fa11) rfl rfl)
  have kx_BadRun_OtherBook : PySem.W.kitOne K (.ref 272) (.ref 158) = some false := of_decide_eq_true (c.fact 11 27 (l := fa11) rfl rfl)
  have kx_BadRun_Unfit : PySem.W.kitOne K (.ref 272) (.ref 215) = some false := of_decide_eq_true (c.fact 11 28 (l := fa11) rfl rfl)
  have kx_BadRun_ValueError : PySem.W.kitOne K (.ref 272) (.type "ValueError") = some true := of_decide_eq_true (c.fact 11 29 (l := fa11) rfl rfl)
  have kx_BadShape_BadBook : PySem.W.kitOne K (.ref 44) (.ref 82) = some false := of_decide_eq_true (c.fact 11 30 (l := fa11) rfl rfl)
  have kx_BadShape_BadCut : PySem.W.kitOne K (.ref 44) (.ref 139) = some false := of_decide_eq_true (c.fact 11 31 (l := fa11) rfl rfl)
  have kx_BadShape_BadInput : PySem.W.kitOne K (.ref 44) (.ref 291) = some false := of_decide_eq_true (c.fact 11 32 (l := fa11) rfl rfl)
  have kx_BadShape_BadKind : PySem.W.kitOne K (.ref 44) (.ref 63) = some false := of_decide_eq_true (c.fact 11 33 (l := fa11) rfl rfl)
  have kx_BadShape_BadProgram : PySem.W.kitOne K (.ref 44) (.ref 253) = some false := of_decide_eq_true (c.fact 11 34 (l := fa11) rfl rfl)
  have kx_BadShape_BadReader : PySem.W.kitOne K (.ref 44) (.ref 120) = some false := of_decide_eq_true (c.fact 11 35 (l := fa11) rfl rfl)
  have kx_BadShape_BadRun : PySem.W.kitOne K (.ref 44) (.ref 272) = some false := of_decide_eq_true (c.fact 11 36 (l := fa11) rfl rfl)
  have kx_BadShape_BadShape : PySem.W.kitOne K (.ref 44) (.ref 44) = some true := of_decide_eq_true (c.fact 11 37 (l := fa11) rfl rfl)
  have kx_BadShape_BadTable : PySem.W.kitOne K (.ref 44) (.ref 101) = some false := of_decide_eq_true (c.fact 11 38 (l := fa11) rfl rfl)
  have kx_BadShape_GuessError : PySem.W.kitOne K (.ref 44) (.ref 24) = some true := of_decide_eq_true (c.fact 11 39 (l := fa11) rfl rfl)
  have kx_BadShape_LookupError : PySem.W.kitOne K (.ref 44) (.type "LookupError") = some false := of_decide_eq_true (c.fact 12 0 (l := fa12) rfl rfl)
  have kx_BadShape_Misfit : PySem.W.kitOne K (.ref 44) (.ref 234) = some false := of_decide_eq_true (c.fact 12 1 (l := fa12) rfl rfl)
  have kx_BadShape_NoColumn : PySem.W.kitOne K (.ref 44) (.ref 330) = some false := of_decide_eq_true (c.fact 12 2 (l := fa12) rfl rfl)
  have kx_BadShape_NoKind : PySem.W.kitOne K (.ref 44) (.ref 310) = some false := of_decide_eq_true (c.fact 12 3 (l := fa12) rfl rfl)
  have kx_BadShape_NoRow : PySem.W.kitOne K (.ref 44) (.ref 350) = some false := of_decide_eq_true (c.fact 12 4 (l := fa12) rfl rfl)
  have kx_BadShape_NotHeld : PySem.W.kitOne K (.ref 44) (.ref 177) = some false := of_decide_eq_true (c.fact 12 5 (l := fa12) rfl rfl)
  have kx_BadShape_OrderMatters : PySem.W.kitOne K (.ref 44) (.ref 196) = some false := of_decide_eq_true (c.fact 12 6 (l := fa12) rfl rfl)
  have kx_BadShape_OtherBook : PySem.W.kitOne K (.ref 44) (.ref 158) = some false := of_decide_eq_true (c.fact 12 7 (l := fa12) rfl rfl)
  have kx_BadShape_Unfit : PySem.W.kitOne K (.ref 44) (.ref 215) = some false := of_decide_eq_true (c.fact 12 8 (l := fa12) rfl rfl)
  have kx_BadShape_ValueError : PySem.W.kitOne K (.ref 44) (.type "ValueError") = some true := of_decide_eq_true (c.fact 12 9 (l := fa12) rfl rfl)
  have kx_BadTable_BadBook : PySem.W.kitOne K (.ref 101) (.ref 82) = some false := of_decide_eq_true (c.fact 12 10 (l := fa12) rfl rfl)
  have kx_BadTable_BadCut : PySem.W.kitOne K (.ref 101) (.ref 139) = some false := of_decide_eq_true (c.fact 12 11 (l := fa12) rfl rfl)
  have kx_BadTable_BadInput : PySem.W.kitOne K (.ref 101) (.ref 291) = some false := of_decide_eq_true (c.fact 12 12 (l := fa12) rfl rfl)
  have kx_BadTable_BadKind : PySem.W.kitOne K (.ref 101) (.ref 63) = some false := of_decide_eq_true (c.fact 12 13 (l := fa12) rfl rfl)
  have kx_BadTable_BadProgram : PySem.W.kitOne K (.ref 101) (.ref 253) = some false := of_decide_eq_true (c.fact 12 14 (l := fa12) rfl rfl)
  have kx_BadTable_BadReader : PySem.W.kitOne K (.ref 101) (.ref 120) = some false := of_decide_eq_true (c.fact 12 15 (l := fa12) rfl rfl)
  have kx_BadTable_BadRun : PySem.W.kitOne K (.ref 101) (.ref 272) = some false := of_decide_eq_true (c.fact 12 16 (l := fa12) rfl rfl)
  have kx_BadTable_BadShape : PySem.W.kitOne K (.ref 101) (.ref 44) = some false := of_decide_eq_true (c.fact 12 17 (l := fa12) rfl rfl)
  have kx_BadTable_BadTable : PySem.W.kitOne K (.ref 101) (.ref 101) = some true := of_decide_eq_true (c.fact 12 18 (l := fa12) rfl rfl)
  have kx_BadTable_GuessError : PySem.W.kitOne K (.ref 101) (.ref 24) = some true := of_decide_eq_true (c.fact 12 19 (l := fa12) rfl rfl)
  have kx_BadTable_LookupError : PySem.W.kitOne K (.ref 101) (.type "LookupError") = some false := of_decide_eq_true (c.fact 12 20 (l := fa12) rfl rfl)
  have kx_BadTable_Misfit : PySem.W.kitOne K (.ref 101) (.ref 234) = some false := of_decide_eq_true (c.fact 12 21 (l := fa12) rfl rfl)
  have kx_BadTable_NoColumn : PySem.W.kitOne K (.ref 101) (.ref 330) = some false := of_decide_eq_true (c.fact 12 22 (l := fa12) rfl rfl)
  have kx_BadTable_NoKind : PySem.W.kitOne K (.ref 101) (.ref 310) = some false := of_decide_eq_true (c.fact 12 23 (l := fa12) rfl rfl)
  have kx_BadTable_NoRow : PySem.W.kitOne K (.ref 101) (.ref 350) = some false := of_decide_eq_true (c.fact 12 24 (l := fa12) rfl rfl)
  have kx_BadTable_NotHeld : PySem.W.kitOne K (.ref 101) (.ref 177) = some false := of_decide_eq_true (c.fact 12 25 (l := fa12) rfl rfl)
  have kx_BadTable_OrderMatters : PySem.W.kitOne K (.ref 101) (.ref 196) = some false := of_decide_eq_true (c.fact 12 26 (l := fa12) rfl rfl)
  have kx_BadTable_OtherBook : PySem.W.kitOne K (.ref 101) (.ref 158) = some false := of_decide_eq_true (c.fact 12 27 (l := fa12) rfl rfl)
  have kx_BadTable_Unfit : PySem.W.kitOne K (.ref 101) (.ref 215) = some false := of_decide_eq_true (c.fact 12 28 (l := fa12) rfl rfl)
  have kx_BadTable_ValueError : PySem.W.kitOne K (.ref 101) (.type "ValueError") = some true := of_decide_eq_true (c.fact 12 29 (l := fa12) rfl rfl)
  have kx_Misfit_BadBook : PySem.W.kitOne K (.ref 234) (.ref 82) = some false := of_decide_eq_true (c.fact 12 30 (l := fa12) rfl rfl)
  have kx_Misfit_BadCut : PySem.W.kitOne K (.ref 234) (.ref 139) = some false := of_decide_eq_true (c.fact 12 31 (l := fa12) rfl rfl)
  have kx_Misfit_BadInput : PySem.W.kitOne K (.ref 234) (.ref 291) = some false := of_decide_eq_true (c.fact 12 32 (l := fa12) rfl rfl)
  have kx_Misfit_BadKind : PySem.W.kitOne K (.ref 234) (.ref 63) = some false := of_decide_eq_true (c.fact 12 33 (l := fa12) rfl rfl)
  have kx_Misfit_BadProgram : PySem.W.kitOne K (.ref 234) (.ref 253) = some false := of_decide_eq_true (c.fact 12 34 (l := fa12) rfl rfl)
  have kx_Misfit_BadReader : PySem.W.kitOne K (.ref 234) (.ref 120) = some false := of_decide_eq_true (c.fact 12 35 (l := fa12) rfl rfl)
  have kx_Misfit_BadRun : PySem.W.kitOne K (.ref 234) (.ref 272) = some false := of_decide_eq_true (c.fact 12 36 (l := fa12) rfl rfl)
  have kx_Misfit_BadShape : PySem.W.kitOne K (.ref 234) (.ref 44) = some false := of_decide_eq_true (c.fact 12 37 (l := fa12) rfl rfl)
  have kx_Misfit_BadTable : PySem.W.kitOne K (.ref 234) (.ref 101) = some false := of_decide_eq_true (c.fact 12 38 (l := fa12) rfl rfl)
  have kx_Misfit_GuessError : PySem.W.kitOne K (.ref 234) (.ref 24) = some true := of_decide_eq_true (c.fact 12 39 (l := fa12) rfl rfl)
  have kx_Misfit_LookupError : PySem.W.kitOne K (.ref 234) (.type "LookupError") = some false := of_decide_eq_true (c.fact 13 0 (l := fa13) rfl rfl)
  have kx_Misfit_Misfit : PySem.W.kitOne K (.ref 234) (.ref 234) = some true := of_decide_eq_true (c.fact 13 1 (l := fa13) rfl rfl)
  have kx_Misfit_NoColumn : PySem.W.kitOne K (.ref 234) (.ref 330) = some false := of_decide_eq_true (c.fact 13 2 (l := fa13) rfl rfl)
  have kx_Misfit_NoKind : PySem.W.kitOne K (.ref 234) (.ref 310) = some false := of_decide_eq_true (c.fact 13 3 (l := fa13) rfl rfl)
  have kx_Misfit_NoRow : PySem.W.kitOne K (.ref 234) (.ref 350) = some false := of_decide_eq_true (c.fact 13 4 (l := fa13) rfl rfl)
  have kx_Misfit_NotHeld : PySem.W.kitOne K (.ref 234) (.ref 177) = some false := of_decide_eq_true (c.fact 13 5 (l := fa13) rfl rfl)
  have kx_Misfit_OrderMatters : PySem.W.kitOne K (.ref 234) (.ref 196) = some false := of_decide_eq_true (c.fact 13 6 (l := fa13) rfl rfl)
  have kx_Misfit_OtherBook : PySem.W.kitOne K (.ref 234) (.ref 158) = some false := of_decide_eq_true (c.fact 13 7 (l := fa13) rfl rfl)
  have kx_Misfit_Unfit : PySem.W.kitOne K (.ref 234) (.ref 215) = some false := of_decide_eq_true (c.fact 13 8 (l := fa13) rfl rfl)
  have kx_Misfit_ValueError : PySem.W.kitOne K (.ref 234) (.type "ValueError") = some true := of_decide_eq_true (c.fact 13 9 (l := fa13) rfl rfl)
  have kx_NoColumn_BadBook : PySem.W.kitOne K (.ref 330) (.ref 82) = some false := of_decide_eq_true (c.fact 13 10 (l := fa13) rfl rfl)
  have kx_NoColumn_BadCut : PySem.W.kitOne K (.ref 330) (.ref 139) = some false := of_decide_eq_true (c.fact 13 11 (l := fa13) rfl rfl)
  have kx_NoColumn_BadInput : PySem.W.kitOne K (.ref 330) (.ref 291) = some false := of_decide_eq_true (c.fact 13 12 (l := fa13) rfl rfl)
  have kx_NoColumn_BadKind : PySem.W.kitOne K (.ref 330) (.ref 63) = some false := of_decide_eq_true (c.fact 13 13 (l := fa13) rfl rfl)
  have kx_NoColumn_BadProgram : PySem.W.kitOne K (.ref 330) (.ref 253) = some false := of_decide_eq_true (c.fact 13 14 (l := fa13) rfl rfl)
  have kx_NoColumn_BadReader : PySem.W.kitOne K (.ref 330) (.ref 120) = some false := of_decide_eq_true (c.fact 13 15 (l := fa13) rfl rfl)
  have kx_NoColumn_BadRun : PySem.W.kitOne K (.ref 330) (.ref 272) = some false := of_decide_eq_true (c.fact 13 16 (l := fa13) rfl rfl)
  have kx_NoColumn_BadShape : PySem.W.kitOne K (.ref 330) (.ref 44) = some false := of_decide_eq_true (c.fact 13 17 (l := fa13) rfl rfl)
  have kx_NoColumn_BadTable : PySem.W.kitOne K (.ref 330) (.ref 101) = some false := of_decide_eq_true (c.fact 13 18 (l := fa13) rfl rfl)
  have kx_NoColumn_GuessError : PySem.W.kitOne K (.ref 330) (.ref 24) = some false := of_decide_eq_true (c.fact 13 19 (l := fa13) rfl rfl)
  have kx_NoColumn_LookupError : PySem.W.kitOne K (.ref 330) (.type "LookupError") = some true := of_decide_eq_true (c.fact 13 20 (l := fa13) rfl rfl)
  have kx_NoColumn_Misfit : PySem.W.kitOne K (.ref 330) (.ref 234) = some false := of_decide_eq_true (c.fact 13 21 (l := fa13) rfl rfl)
  have kx_NoColumn_NoColumn : PySem.W.kitOne K (.ref 330) (.ref 330) = some true := of_decide_eq_true (c.fact 13 22 (l := fa13) rfl rfl)
  have kx_NoColumn_NoKind : PySem.W.kitOne K (.ref 330) (.ref 310) = some false := of_decide_eq_true (c.fact 13 23 (l := fa13) rfl rfl)
  have kx_NoColumn_NoRow : PySem.W.kitOne K (.ref 330) (.ref 350) = some false := of_decide_eq_true (c.fact 13 24 (l := fa13) rfl rfl)
  have kx_NoColumn_NotHeld : PySem.W.kitOne K (.ref 330) (.ref 177) = some false := of_decide_eq_true (c.fact 13 25 (l := fa13) rfl rfl)
  have kx_NoColumn_OrderMatters : PySem.W.kitOne K (.ref 330) (.ref 196) = some false := of_decide_eq_true (c.fact 13 26 (l := fa13) rfl rfl)
  have kx_NoColumn_OtherBook : PySem.W.kitOne K (.ref 330) (.ref 158) = some false := of_decide_eq_true (c.fact 13 27 (l := fa13) rfl rfl)
  have kx_NoColumn_Unfit : PySem.W.kitOne K (.ref 330) (.ref 215) = some false := of_decide_eq_true (c.fact 13 28 (l := fa13) rfl rfl)
  have kx_NoColumn_ValueError : PySem.W.kitOne K (.ref 330) (.type "ValueError") = some false := of_decide_eq_true (c.fact 13 29 (l := fa13) rfl rfl)
  have kx_NoKind_BadBook : PySem.W.kitOne K (.ref 310) (.ref 82) = some false := of_decide_eq_true (c.fact 13 30 (l := fa13) rfl rfl)
  have kx_NoKind_BadCut : PySem.W.kitOne K (.ref 310) (.ref 139) = some false := of_decide_eq_true (c.fact 13 31 (l := fa13) rfl rfl)
  have kx_NoKind_BadInput : PySem.W.kitOne K (.ref 310) (.ref 291) = some false := of_decide_eq_true (c.fact 13 32 (l := fa13) rfl rfl)
  have kx_NoKind_BadKind : PySem.W.kitOne K (.ref 310) (.ref 63) = some false := of_decide_eq_true (c.fact 13 33 (l := fa13) rfl rfl)
  have kx_NoKind_BadProgram : PySem.W.kitOne K (.ref 310) (.ref 253) = some false := of_decide_eq_true (c.fact 13 34 (l := fa13) rfl rfl)
  have kx_NoKind_BadReader : PySem.W.kitOne K (.ref 310) (.ref 120) = some false := of_decide_eq_true (c.fact 13 35 (l := fa13) rfl rfl)
  have kx_NoKind_BadRun : PySem.W.kitOne K (.ref 310) (.ref 272) = some false := of_decide_eq_true (c.fact 13 36 (l := fa13) rfl rfl)
  have kx_NoKind_BadShape : PySem.W.kitOne K (.ref 310) (.ref 44) = some false := of_decide_eq_true (c.fact 13 37 (l := fa13) rfl rfl)
  have kx_NoKind_BadTable : PySem.W.kitOne K (.ref 310) (.ref 101) = some false := of_decide_eq_true (c.fact 13 38 (l := fa13) rfl rfl)
  have kx_NoKind_GuessError : PySem.W.kitOne K (.ref 310) (.ref 24) = some false := of_decide_eq_true (c.fact 13 39 (l := fa13) rfl rfl)
  have kx_NoKind_LookupError : PySem.W.kitOne K (.ref 310) (.type "LookupError") = some true := of_decide_eq_true (c.fact 14 0 (l := fa14) rfl rfl)
  have kx_NoKind_Misfit : PySem.W.kitOne K (.ref 310) (.ref 234) = some false := of_decide_eq_true (c.fact 14 1 (l := fa14) rfl rfl)
  have kx_NoKind_NoColumn : PySem.W.kitOne K (.ref 310) (.ref 330) = some false := of_decide_eq_true (c.fact 14 2 (l := fa14) rfl rfl)
  have kx_NoKind_NoKind : PySem.W.kitOne K (.ref 310) (.ref 310) = some true := of_decide_eq_true (c.fact 14 3 (l := fa14) rfl rfl)
  have kx_NoKind_NoRow : PySem.W.kitOne K (.ref 310) (.ref 350) = some false := of_decide_eq_true (c.fact 14 4 (l := fa14) rfl rfl)
  have kx_NoKind_NotHeld : PySem.W.kitOne K (.ref 310) (.ref 177) = some false := of_decide_eq_true (c.fact 14 5 (l := fa14) rfl rfl)
  have kx_NoKind_OrderMatters : PySem.W.kitOne K (.ref 310) (.ref 196) = some false := of_decide_eq_true (c.fact 14 6 (l := fa14) rfl rfl)
  have kx_NoKind_OtherBook : PySem.W.kitOne K (.ref 310) (.ref 158) = some false := of_decide_eq_true (c.fact 14 7 (l := fa14) rfl rfl)
  have kx_NoKind_Unfit : PySem.W.kitOne K (.ref 310) (.ref 215) = some false := of_decide_eq_true (c.fact 14 8 (l := fa14) rfl rfl)
  have kx_NoKind_ValueError : PySem.W.kitOne K (.ref 310) (.type "ValueError") = some false := of_decide_eq_true (c.fact 14 9 (l := fa14) rfl rfl)
  have kx_NoRow_BadBook : PySem.W.kitOne K (.ref 350) (.ref 82) = some false := of_decide_eq_true (c.fact 14 10 (l := fa14) rfl rfl)
  have kx_NoRow_BadCut : PySem.W.kitOne K (.ref 350) (.ref 139) = some false := of_decide_eq_true (c.fact 14 11 (l := fa14) rfl rfl)
  have kx_NoRow_BadInput : PySem.W.kitOne K (.ref 350) (.ref 291) = some false := of_decide_eq_true (c.fact 14 12 (l := fa14) rfl rfl)
  have kx_NoRow_BadKind : PySem.W.kitOne K (.ref 350) (.ref 63) = some false := of_decide_eq_true (c.fact 14 13 (l := fa14) rfl rfl)
  have kx_NoRow_BadProgram : PySem.W.kitOne K (.ref 350) (.ref 253) = some false := of_decide_eq_true (c.fact 14 14 (l := fa14) rfl rfl)
  have kx_NoRow_BadReader : PySem.W.kitOne K (.ref 350) (.ref 120) = some false := of_decide_eq_true (c.fact 14 15 (l := fa14) rfl rfl)
  have kx_NoRow_BadRun : PySem.W.kitOne K (.ref 350) (.ref 272) = some false := of_decide_eq_true (c.fact 14 16 (l := fa14) rfl rfl)
  have kx_NoRow_BadShape : PySem.W.kitOne K (.ref 350) (.ref 44) = some false := of_decide_eq_true (c.fact 14 17 (l := fa14) rfl rfl)
  have kx_NoRow_BadTable : PySem.W.kitOne K (.ref 350) (.ref 101) = some false := of_decide_eq_true (c.fact 14 18 (l := fa14) rfl rfl)
  have kx_NoRow_GuessError : PySem.W.kitOne K (.ref 350) (.ref 24) = some false := of_decide_eq_true (c.fact 14 19 (l := fa14) rfl rfl)
  have kx_NoRow_LookupError : PySem.W.kitOne K (.ref 350) (.type "LookupError") = some true := of_decide_eq_true (c.fact 14 20 (l := fa14) rfl rfl)
  have kx_NoRow_Misfit : PySem.W.kitOne K (.ref 350) (.ref 234) = some false := of_decide_eq_true (c.fact 14 21 (l := fa14) rfl rfl)
  have kx_NoRow_NoColumn : PySem.W.kitOne K (.ref 350) (.ref 330) = some false := of_decide_eq_true (c.fact 14 22 (l := fa14) rfl rfl)
  have kx_NoRow_NoKind : PySem.W.kitOne K (.ref 350) (.ref 310) = some false := of_decide_eq_true (c.fact 14 23 (l := fa14) rfl rfl)
  have kx_NoRow_NoRow : PySem.W.kitOne K (.ref 350) (.ref 350) = some true := of_decide_eq_true (c.fact 14 24 (l := fa14) rfl rfl)
  have kx_NoRow_NotHeld : PySem.W.kitOne K (.ref 350) (.ref 177) = some false := of_decide_eq_true (c.fact 14 25 (l := fa14) rfl rfl)
  have kx_NoRow_OrderMatters : PySem.W.kitOne K (.ref 350) (.ref 196) = some false := of_decide_eq_true (c.fact 14 26 (l := fa14) rfl rfl)
  have kx_NoRow_OtherBook : PySem.W.kitOne K (.ref 350) (.ref 158) = some false := of_decide_eq_true (c.fact 14 27 (l := fa14) rfl rfl)
  have kx_NoRow_Unfit : PySem.W.kitOne K (.ref 350) (.ref 215) = some false := of_decide_eq_true (c.fact 14 28 (l := fa14) rfl rfl)
  have kx_NoRow_ValueError : PySem.W.kitOne K (.ref 350) (.type "ValueError") = some false := of_decide_eq_true (c.fact 14 29 (l := fa14) rfl rfl)
  have kx_NotHeld_BadBook : PySem.W.kitOne K (.ref 177) (.ref 82) = some false := of_decide_eq_true (c.fact 14 30 (l := fa14) rfl rfl)
  have kx_NotHeld_BadCut : PySem.W.kitOne K (.ref 177) (.ref 139) = some false := of_decide_eq_true (c.fact 14 31 (l := fa14) rfl rfl)
  have kx_NotHeld_BadInput : PySem.W.kitOne K (.ref 177) (.ref 291) = some false := of_decide_eq_true (c.fact 14 32 (l := fa14) rfl rfl)
  have kx_NotHeld_BadKind : PySem.W.kitOne K (.ref 177) (.ref 63) = some false := of_decide_eq_true (c.fact 14 33 (l := fa14) rfl rfl)
  have kx_NotHeld_BadProgram : PySem.W.kitOne K (.ref 177) (.ref 253) = some false := of_decide_eq_true (c.fact 14 34 (l := fa14) rfl rfl)
  have kx_NotHeld_BadReader : PySem.W.kitOne K (.ref 177) (.ref 120) = some false := of_decide_eq_true (c.fact 14 35 (l := fa14) rfl rfl)
  have kx_NotHeld_BadRun : PySem.W.kitOne K (.ref 177) (.ref 272) = some false := of_decide_eq_true (c.fact 14 36 (l := fa14) rfl rfl)
  have kx_NotHeld_BadShape : PySem.W.kitOne K (.ref 177) (.ref 44) = some false := of_decide_eq_true (c.fact 14 37 (l := fa14) rfl rfl)
  have kx_NotHeld_BadTable : PySem.W.kitOne K (.ref 177) (.ref 101) = some false := of_decide_eq_true (c.fact 14 38 (l := fa14) rfl rfl)
  have kx_NotHeld_GuessError : PySem.W.kitOne K (.ref 177) (.ref 24) = some true := of_decide_eq_true (c.fact 14 39 (l := fa14) rfl rfl)
  have kx_NotHeld_LookupError : PySem.W.kitOne K (.ref 177) (.type "LookupError") = some false := of_decide_eq_true (c.fact 15 0 (l := fa15) rfl rfl)
  have kx_NotHeld_Misfit : PySem.W.kitOne K (.ref 177) (.ref 234) = some false := of_decide_eq_true (c.fact 15 1 (l := fa15) rfl rfl)
  have kx_NotHeld_NoColumn : PySem.W.kitOne K (.ref 177) (.ref 330) = some false := of_decide_eq_true (c.fact 15 2 (l := fa15) rfl rfl)
  have kx_NotHeld_NoKind : PySem.W.kitOne K (.ref 177) (.ref 310) = some false := of_decide_eq_true (c.fact 15 3 (l := fa15) rfl rfl)
  have kx_NotHeld_NoRow : PySem.W.kitOne K (.ref 177) (.ref 350) = some false := of_decide_eq_true (c.fact 15 4 (l := fa15) rfl rfl)
  have kx_NotHeld_NotHeld : PySem.W.kitOne K (.ref 177) (.ref 177) = some true := of_decide_eq_true (c.fact 15 5 (l := fa15) rfl rfl)
  have kx_NotHeld_OrderMatters : PySem.W.kitOne K (.ref 177) (.ref 196) = some false := of_decide_eq_true (c.fact 15 6 (l := fa15) rfl rfl)
  have kx_NotHeld_OtherBook : PySem.W.kitOne K (.ref 177) (.ref 158) = some false := of_decide_eq_true (c.fact 15 7 (l := fa15) rfl rfl)
  have kx_NotHeld_Unfit : PySem.W.kitOne K (.ref 177) (.ref 215) = some false := of_decide_eq_true (c.fact 15 8 (l := fa15) rfl rfl)
  have kx_NotHeld_ValueError : PySem.W.kitOne K (.ref 177) (.type "ValueError") = some true := of_decide_eq_true (c.fact 15 9 (l := fa15) rfl rfl)
  have kx_OrderMatters_BadBook : PySem.W.kitOne K (.ref 196) (.ref 82) = some false := of_decide_eq_true (c.fact 15 10 (l := fa15) rfl rfl)
  have kx_OrderMatters_BadCut : PySem.W.kitOne K (.ref 196) (.ref 139) = some false := of_decide_eq_true (c.fact 15 11 (l := fa15) rfl rfl)
  have kx_OrderMatters_BadInput : PySem.W.kitOne K (.ref 196) (.ref 291) = some false := of_decide_eq_true (c.fact 15 12 (l := fa15) rfl rfl)
  have kx_OrderMatters_BadKind : PySem.W.kitOne K (.ref 196) (.ref 63) = some false := of_decide_eq_true (c.fact 15 13 (l := fa15) rfl rfl)
  have kx_OrderMatters_BadProgram : PySem.W.kitOne K (.ref 196) (.ref 253) = some false := of_decide_eq_true (c.fact 15 14 (l := fa15) rfl rfl)
  have kx_OrderMatters_BadReader : PySem.W.kitOne K (.ref 196) (.ref 120) = some false := of_decide_eq_true (c.fact 15 15 (l := fa15) rfl rfl)
  have kx_OrderMatters_BadRun : PySem.W.kitOne K (.ref 196) (.ref 272) = some false := of_decide_eq_true (c.fact 15 16 (l := fa15) rfl rfl)
  have kx_OrderMatters_BadShape : PySem.W.kitOne K (.ref 196) (.ref 44) = some false := of_decide_eq_true (c.fact 15 17 (l := fa15) rfl rfl)
  have kx_OrderMatters_BadTable : PySem.W.kitOne K (.ref 196) (.ref 101) = some false := of_decide_eq_true (c.fact 15 18 (l := fa15) rfl rfl)
  have kx_OrderMatters_GuessError : PySem.W.kitOne K (.ref 196) (.ref 24) = some true := of_decide_eq_true (c.fact 15 19 (l := fa15) rfl rfl)
  have kx_OrderMatters_LookupError : PySem.W.kitOne K (.ref 196) (.type "LookupError") = some false := of_decide_eq_true (c.fact 15 20 (l := fa15) rfl rfl)
  have kx_OrderMatters_Misfit : PySem.W.kitOne K (.ref 196) (.ref 234) = some false := of_decide_eq_true (c.fact 15 21 (l := fa15) rfl rfl)
  have kx_OrderMatters_NoColumn : PySem.W.kitOne K (.ref 196) (.ref 330) = some false := of_decide_eq_true (c.fact 15 22 (l := fa15) rfl rfl)
  have kx_OrderMatters_NoKind : PySem.W.kitOne K (.ref 196) (.ref 310) = some false := of_decide_eq_true (c.fact 15 23 (l := fa15) rfl rfl)
  have kx_OrderMatters_NoRow : PySem.W.kitOne K (.ref 196) (.ref 350) = some false := of_decide_eq_true (c.fact 15 24 (l := fa15) rfl rfl)
  have kx_OrderMatters_NotHeld : PySem.W.kitOne K (.ref 196) (.ref 177) = some false := of_decide_eq_true (c.fact 15 25 (l := fa15) rfl rfl)
  have kx_OrderMatters_OrderMatters : PySem.W.kitOne K (.ref 196) (.ref 196) = some true := of_decide_eq_true (c.fact 15 26 (l := fa15) rfl rfl)
  have kx_OrderMatters_OtherBook : PySem.W.kitOne K (.ref 196) (.ref 158) = some false := of_decide_eq_true (c.fact 15 27 (l := fa15) rfl rfl)
  have kx_OrderMatters_Unfit : PySem.W.kitOne K (.ref 196) (.ref 215) = some false := of_decide_eq_true (c.fact 15 28 (l := fa15) rfl rfl)
  have kx_OrderMatters_ValueError : PySem.W.kitOne K (.ref 196) (.type "ValueError") = some true := of_decide_eq_true (c.fact 15 29 (l := fa15) rfl rfl)
  have kx_OtherBook_BadBook : PySem.W.kitOne K (.ref 158) (.ref 82) = some false := of_decide_eq_true (c.fact 15 30 (l := fa15) rfl rfl)
  have kx_OtherBook_BadCut : PySem.W.kitOne K (.ref 158) (.ref 139) = some false := of_decide_eq_true (c.fact 15 31 (l := fa15) rfl rfl)
  have kx_OtherBook_BadInput : PySem.W.kitOne K (.ref 158) (.ref 291) = some false := of_decide_eq_true (c.fact 15 32 (l := fa15) rfl rfl)
  have kx_OtherBook_BadKind : PySem.W.kitOne K (.ref 158) (.ref 63) = some false := of_decide_eq_true (c.fact 15 33 (l := fa15) rfl rfl)
  have kx_OtherBook_BadProgram : PySem.W.kitOne K (.ref 158) (.ref 253) = some false := of_decide_eq_true (c.fact 15 34 (l := fa15) rfl rfl)
  have kx_OtherBook_BadReader : PySem.W.kitOne K (.ref 158) (.ref 120) = some false := of_decide_eq_true (c.fact 15 35 (l := fa15) rfl rfl)
  have kx_OtherBook_BadRun : PySem.W.kitOne K (.ref 158) (.ref 272) = some false := of_decide_eq_true (c.fact 15 36 (l := fa15) rfl rfl)
  have kx_OtherBook_BadShape : PySem.W.kitOne K (.ref 158) (.ref 44) = some false := of_decide_eq_true (c.fact 15 37 (l := fa15) rfl rfl)
  have kx_OtherBook_BadTable : PySem.W.kitOne K (.ref 158) (.ref 101) = some false := of_decide_eq_true (c.fact 15 38 (l := fa15) rfl rfl)
  have kx_OtherBook_GuessError : PySem.W.kitOne K (.ref 158) (.ref 24) = some true := of_decide_eq_true (c.fact 15 39 (l := fa15) rfl rfl)
  have kx_OtherBook_LookupError : PySem.W.kitOne K (.ref 158) (.type "LookupError") = some false := of_decide_eq_true (c.fact 16 0 (l := fa16) rfl rfl)
  have kx_OtherBook_Misfit : PySem.W.kitOne K (.ref 158) (.ref 234) = some false := of_decide_eq_true (c.fact 16 1 (l := fa16) rfl rfl)
  have kx_OtherBook_NoColumn : PySem.W.kitOne K (.ref 158) (.ref 330) = some false := of_decide_eq_true (c.fact 16 2 (l := fa16) rfl rfl)
  have kx_OtherBook_NoKind : PySem.W.kitOne K (.ref 158) (.ref 310) = some false := of_decide_eq_true (c.fact 16 3 (l := fa16) rfl rfl)
  have kx_OtherBook_NoRow : PySem.W.kitOne K (.ref 158) (.ref 350) = some false := of_decide_eq_true (c.fact 16 4 (l := fa16) rfl rfl)
  have kx_OtherBook_NotHeld : PySem.W.kitOne K (.ref 158) (.ref 177) = some false := of_decide_eq_true (c.fact 16 5 (l := fa16) rfl rfl)
  have kx_OtherBook_OrderMatters : PySem.W.kitOne K (.ref 158) (.ref 196) = some false := of_decide_eq_true (c.fact 16 6 (l := fa16) rfl rfl)
  have kx_OtherBook_OtherBook : PySem.W.kitOne K (.ref 158) (.ref 158) = some true := of_decide_eq_true (c.fact 16 7 (l := fa16) rfl rfl)
  have kx_OtherBook_Unfit : PySem.W.kitOne K (.ref 158) (.ref 215) = some false := of_decide_eq_true (c.fact 16 8 (l := fa16) rfl rfl)
  have kx_OtherBook_ValueError : PySem.W.kitOne K (.ref 158) (.type "ValueError") = some true := of_decide_eq_true (c.fact 16 9 (l := fa16) rfl rfl)
  have kx_Unfit_BadBook : PySem.W.kitOne K (.ref 215) (.ref 82) = some false := of_decide_eq_true (c.fact 16 10 (l := fa16) rfl rfl)
  have kx_Unfit_BadCut : PySem.W.kitOne K (.ref 215) (.ref 139) = some false := of_decide_eq_true (c.fact 16 11 (l := fa16) rfl rfl)
  have kx_Unfit_BadInput : PySem.W.kitOne K (.ref 215) (.ref 291) = some false := of_decide_eq_true (c.fact 16 12 (l := fa16) rfl rfl)
  have kx_Unfit_BadKind : PySem.W.kitOne K (.ref 215) (.ref 63) = some false := of_decide_eq_true (c.fact 16 13 (l := fa16) rfl rfl)
  have kx_Unfit_BadProgram : PySem.W.kitOne K (.ref 215) (.ref 253) = some false := of_decide_eq_true (c.fact 16 14 (l := fa16) rfl rfl)
  have kx_Unfit_BadReader : PySem.W.kitOne K (.ref 215) (.ref 120) = some false := of_decide_eq_true (c.fact 16 15 (l := fa16) rfl rfl)
  have kx_Unfit_BadRun : PySem.W.kitOne K (.ref 215) (.ref 272) = some false := of_decide_eq_true (c.fact 16 16 (l := fa16) rfl rfl)
  have kx_Unfit_BadShape : PySem.W.kitOne K (.ref 215) (.ref 44) = some false := of_decide_eq_true (c.fact 16 17 (l := fa16) rfl rfl)
  have kx_Unfit_BadTable : PySem.W.kitOne K (.ref 215) (.ref 101) = some false := of_decide_eq_true (c.fact 16 18 (l := fa16) rfl rfl)
  have kx_Unfit_GuessError : PySem.W.kitOne K (.ref 215) (.ref 24) = some true := of_decide_eq_true (c.fact 16 19 (l := fa16) rfl rfl)
  have kx_Unfit_LookupError : PySem.W.kitOne K (.ref 215) (.type "LookupError") = some false := of_decide_eq_true (c.fact 16 20 (l := fa16) rfl rfl)
  have kx_Unfit_Misfit : PySem.W.kitOne K (.ref 215) (.ref 234) = some false := of_decide_eq_true (c.fact 16 21 (l := fa16) rfl rfl)
  have kx_Unfit_NoColumn : PySem.W.kitOne K (.ref 215) (.ref 330) = some false := of_decide_eq_true (c.fact 16 22 (l := fa16) rfl rfl)
  have kx_Unfit_NoKind : PySem.W.kitOne K (.ref 215) (.ref 310) = some false := of_decide_eq_true (c.fact 16 23 (l := fa16) rfl rfl)
  have kx_Unfit_NoRow : PySem.W.kitOne K (.ref 215) (.ref 350) = some false := of_decide_eq_true (c.fact 16 24 (l := fa16) rfl rfl)
  have kx_Unfit_NotHeld : PySem.W.kitOne K (.ref 215) (.ref 177) = some false := of_decide_eq_true (c.fact 16 25 (l := fa16) rfl rfl)
  have kx_Unfit_OrderMatters : PySem.W.kitOne K (.ref 215) (.ref 196) = some false := of_decide_eq_true (c.fact 16 26 (l := fa16) rfl rfl)
  have kx_Unfit_OtherBook : PySem.W.kitOne K (.ref 215) (.ref 158) = some false := of_decide_eq_true (c.fact 16 27 (l := fa16) rfl rfl)
  have kx_Unfit_Unfit : PySem.W.kitOne K (.ref 215) (.ref 215) = some true := of_decide_eq_true (c.fact 16 28 (l := fa16) rfl rfl)
  have kx_Unfit_ValueError : PySem.W.kitOne K (.ref 215) (.type "ValueError") = some true := of_decide_eq_true (c.fact 16 29 (l := fa16) rfl rfl)
  have z_LookupError : PySem.W.nsIn K mainGlobals "LookupError" = some none := of_decide_eq_true (c.fact 16 30 (l := fa16) rfl rfl)
  have z_ValueError : PySem.W.nsIn K mainGlobals "ValueError" = some none := of_decide_eq_true (c.fact 16 31 (l := fa16) rfl rfl)
  have z_abs : PySem.W.nsIn K mainGlobals "abs" = some none := of_decide_eq_true (c.fact 16 32 (l := fa16) rfl rfl)
  have z_all : PySem.W.nsIn K mainGlobals "all" = some none := of_decide_eq_true (c.fact 16 33 (l := fa16) rfl rfl)
  have z_enumerate : PySem.W.nsIn K mainGlobals "enumerate" = some none := of_decide_eq_true (c.fact 16 34 (l := fa16) rfl rfl)
  have z_int : PySem.W.nsIn K mainGlobals "int" = some none := of_decide_eq_true (c.fact 16 35 (l := fa16) rfl rfl)
  have z_isinstance : PySem.W.nsIn K mainGlobals "isinstance" = some none := of_decide_eq_true (c.fact 16 36 (l := fa16) rfl rfl)
  have z_len : PySem.W.nsIn K mainGlobals "len" = some none := of_decide_eq_true (c.fact 16 37 (l := fa16) rfl rfl)
  have z_max : PySem.W.nsIn K mainGlobals "max" = some none := of_decide_eq_true (c.fact 16 38 (l := fa16) rfl rfl)
  have z_min : PySem.W.nsIn K mainGlobals "min" = some none := of_decide_eq_true (c.fact 16 39 (l := fa16) rfl rfl)
  have z_range : PySem.W.nsIn K mainGlobals "range" = some none := of_decide_eq_true (c.fact 17 0 (l := fa17) rfl rfl)
  have z_repr : PySem.W.nsIn K mainGlobals "repr" = some none := of_decide_eq_true (c.fact 17 1 (l := fa17) rfl rfl)
  have z_tuple : PySem.W.nsIn K mainGlobals "tuple" = some none := of_decide_eq_true (c.fact 17 2 (l := fa17) rfl rfl)
  exact all_mk X G hfa a_l_marks F_l_marks a_l_is_placed F_l_is_placed a_l_are_made F_l_are_made a_l_take F_l_take a_l_of F_l_of a_l_signs F_l_signs a_l_digits F_l_digits a_l_text F_l_text a_l_thing F_l_thing a_l_bag F_l_bag a_law F_law a_GuessError a_BadShape a_BadKind a_BadBook a_BadTable a_BadReader a_BadCut a_OtherBook a_NotHeld a_OrderMatters a_Unfit a_Misfit a_BadProgram a_BadRun a_BadInput a_NoKind a_NoColumn a_NoRow xi_BadBook xt_BadBook F_BadBook_init xq_BadBook xh_BadBook xsa_BadBook xex_BadBook xty_BadBook xkp_BadBook xi_BadCut xt_BadCut F_BadCut_init xq_BadCut xh_BadCut xsa_BadCut xex_BadCut xty_BadCut xkp_BadCut xi_BadInput xt_BadInput F_BadInput_init xq_BadInput xh_BadInput xsa_BadInput xex_BadInput xty_BadInput xkp_BadInput xi_BadKind xt_BadKind F_BadKind_init xq_BadKind xh_BadKind xsa_BadKind xex_BadKind xty_BadKind xkp_BadKind xi_BadProgram xt_BadProgram F_BadProgram_init xq_BadProgram xh_BadProgram xsa_BadProgram xex_BadProgram xty_BadProgram xkp_BadProgram xi_BadReader xt_BadReader F_BadReader_init xq_BadReader xh_BadReader xsa_BadReader xex_BadReader xty_BadReader xkp_BadReader xi_BadRun xt_BadRun F_BadRun_init xq_BadRun xh_BadRun xsa_BadRun xex_BadRun xty_BadRun xkp_BadRun xi_BadShape xt_BadShape F_BadShape_init xq_BadShape xh_BadShape xsa_BadShape xex_BadShape xty_BadShape xkp_BadShape xi_BadTable xt_BadTable F_BadTable_init xq_BadTable xh_BadTable xsa_BadTable xex_BadTable xty_BadTable xkp_BadTable xi_Misfit xt_Misfit F_Misfit_init xq_Misfit xh_Misfit xsa_Misfit xex_Misfit xty_Misfit xkp_Misfit xi_NoColumn xt_NoColumn F_NoColumn_init xq_NoColumn xv_NoColumn xh_NoColumn xsa_NoColumn xex_NoColumn xty_NoColumn xkp_NoColumn xi_NoKind xt_NoKind F_NoKind_init xq_NoKind xv_NoKind xh_NoKind xsa_NoKind xex_NoKind xty_NoKind xkp_NoKind xi_NoRow xt_NoRow F_NoRow_init xq_NoRow xv_NoRow xh_NoRow xsa_NoRow xex_NoRow xty_NoRow xkp_NoRow xi_NotHeld xt_NotHeld F_NotHeld_init xq_NotHeld xh_NotHeld xsa_NotHeld xex_NotHeld xty_NotHeld xkp_NotHeld xi_OrderMatters xt_OrderMatters F_OrderMatters_init xq_OrderMatters xh_OrderMatters xsa_OrderMatters xex_OrderMatters xty_OrderMatters xkp_OrderMatters xi_OtherBook xt_OtherBook F_OtherBook_init xq_OtherBook xh_OtherBook xsa_OtherBook xex_OtherBook xty_OtherBook xkp_OtherBook xi_Unfit xt_Unfit F_Unfit_init xq_Unfit xh_Unfit xsa_Unfit xex_Unfit xty_Unfit xkp_Unfit xn_BadBook_part xn_BadCut_cut xn_BadInput_at xn_BadKind_part xn_BadProgram_part xn_BadReader_part xn_BadRun_part xn_BadShape_part xn_BadTable_part xn_Misfit_row xn_Misfit_column xn_Misfit_text xn_NoColumn_name xn_NoKind_name xn_NoRow_at xn_NotHeld_column xn_NotHeld_cell xn_OrderMatters_pieces xn_OtherBook_name xn_Unfit_kind xn_Unfit_text zl_LookupError xb_LookupError xrd_GuessError xga_GuessError xb_GuessError eg_BadBook ek_BadBook es_BadBook ed_BadBook ea_BadBook en_BadBook et_BadBook em_BadBook eg_BadCut ek_BadCut es_BadCut ed_BadCut ea_BadCut en_BadCut et_BadCut em_BadCut eg_BadInput ek_BadInput es_BadInput ed_BadInput ea_BadInput en_BadInput et_BadInput em_BadInput eg_BadKind ek_BadKind es_BadKind ed_BadKind ea_BadKind en_BadKind et_BadKind em_BadKind eg_BadProgram ek_BadProgram es_BadProgram ed_BadProgram ea_BadProgram en_BadProgram et_BadProgram em_BadProgram eg_BadReader ek_BadReader es_BadReader ed_BadReader ea_BadReader en_BadReader et_BadReader em_BadReader eg_BadRun ek_BadRun es_BadRun ed_BadRun ea_BadRun en_BadRun et_BadRun em_BadRun eg_BadShape ek_BadShape es_BadShape ed_BadShape ea_BadShape en_BadShape et_BadShape em_BadShape eg_BadTable ek_BadTable es_BadTable ed_BadTable ea_BadTable en_BadTable et_BadTable em_BadTable eg_Misfit ek_Misfit es_Misfit ed_Misfit ea_Misfit en_Misfit et_Misfit em_Misfit eg_NoColumn ek_NoColumn es_NoColumn ed_NoColumn ea_NoColumn en_NoColumn et_NoColumn em_NoColumn eg_NoKind ek_NoKind es_NoKind ed_NoKind ea_NoKind en_NoKind et_NoKind em_NoKind eg_NoRow ek_NoRow es_NoRow ed_NoRow ea_NoRow en_NoRow et_NoRow em_NoRow eg_NotHeld ek_NotHeld es_NotHeld ed_NotHeld ea_NotHeld en_NotHeld et_NotHeld em_NotHeld eg_OrderMatters ek_OrderMatters es_OrderMatters ed_OrderMatters ea_OrderMatters en_OrderMatters et_OrderMatters em_OrderMatters eg_OtherBook ek_OtherBook es_OtherBook ed_OtherBook ea_OtherBook en_OtherBook et_OtherBook em_OtherBook eg_Unfit ek_Unfit es_Unfit ed_Unfit ea_Unfit en_Unfit et_Unfit em_Unfit kx_BadBook_BadBook kx_BadBook_BadCut kx_BadBook_BadInput kx_BadBook_BadKind kx_BadBook_BadProgram kx_BadBook_BadReader kx_BadBook_BadRun kx_BadBook_BadShape kx_BadBook_BadTable kx_BadBook_GuessError kx_BadBook_LookupError kx_BadBook_Misfit kx_BadBook_NoColumn kx_BadBook_NoKind kx_BadBook_NoRow kx_BadBook_NotHeld kx_BadBook_OrderMatters kx_BadBook_OtherBook kx_BadBook_Unfit kx_BadBook_ValueError kx_BadCut_BadBook kx_BadCut_BadCut kx_BadCut_BadInput kx_BadCut_BadKind kx_BadCut_BadProgram kx_BadCut_BadReader kx_BadCut_BadRun kx_BadCut_BadShape kx_BadCut_BadTable kx_BadCut_GuessError kx_BadCut_LookupError kx_BadCut_Misfit kx_BadCut_NoColumn kx_BadCut_NoKind kx_BadCut_NoRow kx_BadCut_NotHeld kx_BadCut_OrderMatters kx_BadCut_OtherBook kx_BadCut_Unfit kx_BadCut_ValueError kx_BadInput_BadBook kx_BadInput_BadCut kx_BadInput_BadInput kx_BadInput_BadKind kx_BadInput_BadProgram kx_BadInput_BadReader kx_BadInput_BadRun kx_BadInput_BadShape kx_BadInput_BadTable kx_BadInput_GuessError kx_BadInput_LookupError kx_BadInput_Misfit kx_BadInput_NoColumn kx_BadInput_NoKind kx_BadInput_NoRow kx_BadInput_NotHeld kx_BadInput_OrderMatters kx_BadInput_OtherBook kx_BadInput_Unfit kx_BadInput_ValueError kx_BadKind_BadBook kx_BadKind_BadCut kx_BadKind_BadInput kx_BadKind_BadKind kx_BadKind_BadProgram kx_BadKind_BadReader kx_BadKind_BadRun kx_BadKind_BadShape kx_BadKind_BadTable kx_BadKind_GuessError kx_BadKind_LookupError kx_BadKind_Misfit kx_BadKind_NoColumn kx_BadKind_NoKind kx_BadKind_NoRow kx_BadKind_NotHeld kx_BadKind_OrderMatters kx_BadKind_OtherBook kx_BadKind_Unfit kx_BadKind_ValueError kx_BadProgram_BadBook kx_BadProgram_BadCut kx_BadProgram_BadInput kx_BadProgram_BadKind kx_BadProgram_BadProgram kx_BadProgram_BadReader kx_BadProgram_BadRun kx_BadProgram_BadShape kx_BadProgram_BadTable kx_BadProgram_GuessError kx_BadProgram_LookupError kx_BadProgram_Misfit kx_BadProgram_NoColumn kx_BadProgram_NoKind kx_BadProgram_NoRow kx_BadProgram_NotHeld kx_BadProgram_OrderMatters kx_BadProgram_OtherBook kx_BadProgram_Unfit kx_BadProgram_ValueError kx_BadReader_BadBook kx_BadReader_BadCut kx_BadReader_BadInput kx_BadReader_BadKind kx_BadReader_BadProgram kx_BadReader_BadReader kx_BadReader_BadRun kx_BadReader_BadShape kx_BadReader_BadTable kx_BadReader_GuessError kx_BadReader_LookupError kx_BadReader_Misfit kx_BadReader_NoColumn kx_BadReader_NoKind kx_BadReader_NoRow kx_BadReader_NotHeld kx_BadReader_OrderMatters kx_BadReader_OtherBook kx_BadReader_Unfit kx_BadReader_ValueError kx_BadRun_BadBook kx_BadRun_BadCut kx_BadRun_BadInput kx_BadRun_BadKind kx_BadRun_BadProgram kx_BadRun_BadReader kx_BadRun_BadRun kx_BadRun_BadShape kx_BadRun_BadTable kx_BadRun_GuessError kx_BadRun_LookupError kx_BadRun_Misfit kx_BadRun_NoColumn kx_BadRun_NoKind kx_BadRun_NoRow kx_BadRun_NotHeld kx_BadRun_OrderMatters kx_BadRun_OtherBook kx_BadRun_Unfit kx_BadRun_ValueError kx_BadShape_BadBook kx_BadShape_BadCut kx_BadShape_BadInput kx_BadShape_BadKind kx_BadShape_BadProgram kx_BadShape_BadReader kx_BadShape_BadRun kx_BadShape_BadShape kx_BadShape_BadTable kx_BadShape_GuessError kx_BadShape_LookupError kx_BadShape_Misfit kx_BadShape_NoColumn kx_BadShape_NoKind kx_BadShape_NoRow kx_BadShape_NotHeld kx_BadShape_OrderMatters kx_BadShape_OtherBook kx_BadShape_Unfit kx_BadShape_ValueError kx_BadTable_BadBook kx_BadTable_BadCut kx_BadTable_BadInput kx_BadTable_BadKind kx_BadTable_BadProgram kx_BadTable_BadReader kx_BadTable_BadRun kx_BadTable_BadShape kx_BadTable_BadTable kx_BadTable_GuessError kx_BadTable_LookupError kx_BadTable_Misfit kx_BadTable_NoColumn kx_BadTable_NoKind kx_BadTable_NoRow kx_BadTable_NotHeld kx_BadTable_OrderMatters kx_BadTable_OtherBook kx_BadTable_Unfit kx_BadTable_ValueError kx_Misfit_BadBook kx_Misfit_BadCut kx_Misfit_BadInput kx_Misfit_BadKind kx_Misfit_BadProgram kx_Misfit_BadReader kx_Misfit_BadRun kx_Misfit_BadShape kx_Misfit_BadTable kx_Misfit_GuessError kx_Misfit_LookupError kx_Misfit_Misfit kx_Misfit_NoColumn kx_Misfit_NoKind kx_Misfit_NoRow kx_Misfit_NotHeld kx_Misfit_OrderMatters kx_Misfit_OtherBook kx_Misfit_Unfit kx_Misfit_ValueError kx_NoColumn_BadBook kx_NoColumn_BadCut kx_NoColumn_BadInput kx_NoColumn_BadKind kx_NoColumn_BadProgram kx_NoColumn_BadReader kx_NoColumn_BadRun kx_NoColumn_BadShape kx_NoColumn_BadTable kx_NoColumn_GuessError kx_NoColumn_LookupError kx_NoColumn_Misfit kx_NoColumn_NoColumn kx_NoColumn_NoKind kx_NoColumn_NoRow kx_NoColumn_NotHeld kx_NoColumn_OrderMatters kx_NoColumn_OtherBook kx_NoColumn_Unfit kx_NoColumn_ValueError kx_NoKind_BadBook kx_NoKind_BadCut kx_NoKind_BadInput kx_NoKind_BadKind kx_NoKind_BadProgram kx_NoKind_BadReader kx_NoKind_BadRun kx_NoKind_BadShape kx_NoKind_BadTable kx_NoKind_GuessError kx_NoKind_LookupError kx_NoKind_Misfit kx_NoKind_NoColumn kx_NoKind_NoKind kx_NoKind_NoRow kx_NoKind_NotHeld kx_NoKind_OrderMatters kx_NoKind_OtherBook kx_NoKind_Unfit kx_NoKind_ValueError kx_NoRow_BadBook kx_NoRow_BadCut kx_NoRow_BadInput kx_NoRow_BadKind kx_NoRow_BadProgram kx_NoRow_BadReader kx_NoRow_BadRun kx_NoRow_BadShape kx_NoRow_BadTable kx_NoRow_GuessError kx_NoRow_LookupError kx_NoRow_Misfit kx_NoRow_NoColumn kx_NoRow_NoKind kx_NoRow_NoRow kx_NoRow_NotHeld kx_NoRow_OrderMatters kx_NoRow_OtherBook kx_NoRow_Unfit kx_NoRow_ValueError kx_NotHeld_BadBook kx_NotHeld_BadCut kx_NotHeld_BadInput kx_NotHeld_BadKind kx_NotHeld_BadProgram kx_NotHeld_BadReader kx_NotHeld_BadRun kx_NotHeld_BadShape kx_NotHeld_BadTable kx_NotHeld_GuessError kx_NotHeld_LookupError kx_NotHeld_Misfit kx_NotHeld_NoColumn kx_NotHeld_NoKind kx_NotHeld_NoRow kx_NotHeld_NotHeld kx_NotHeld_OrderMatters kx_NotHeld_OtherBook kx_NotHeld_Unfit kx_NotHeld_ValueError kx_OrderMatters_BadBook kx_OrderMatters_BadCut kx_OrderMatters_BadInput kx_OrderMatters_BadKind kx_OrderMatters_BadProgram kx_OrderMatters_BadReader kx_OrderMatters_BadRun kx_OrderMatters_BadShape kx_OrderMatters_BadTable kx_OrderMatters_GuessError kx_OrderMatters_LookupError kx_OrderMatters_Misfit kx_OrderMatters_NoColumn kx_OrderMatters_NoKind kx_OrderMatters_NoRow kx_OrderMatters_NotHeld kx_OrderMatters_OrderMatters kx_OrderMatters_OtherBook kx_OrderMatters_Unfit kx_OrderMatters_ValueError kx_OtherBook_BadBook kx_OtherBook_BadCut kx_OtherBook_BadInput kx_OtherBook_BadKind kx_OtherBook_BadProgram kx_OtherBook_BadReader kx_OtherBook_BadRun kx_OtherBook_BadShape kx_OtherBook_BadTable kx_OtherBook_GuessError kx_OtherBook_LookupError kx_OtherBook_Misfit kx_OtherBook_NoColumn kx_OtherBook_NoKind kx_OtherBook_NoRow kx_OtherBook_NotHeld kx_OtherBook_OrderMatters kx_OtherBook_OtherBook kx_OtherBook_Unfit kx_OtherBook_ValueError kx_Unfit_BadBook kx_Unfit_BadCut kx_Unfit_BadInput kx_Unfit_BadKind kx_Unfit_BadProgram kx_Unfit_BadReader kx_Unfit_BadRun kx_Unfit_BadShape kx_Unfit_BadTable kx_Unfit_GuessError kx_Unfit_LookupError kx_Unfit_Misfit kx_Unfit_NoColumn kx_Unfit_NoKind kx_Unfit_NoRow kx_Unfit_NotHeld kx_Unfit_OrderMatters kx_Unfit_OtherBook kx_Unfit_Unfit kx_Unfit_ValueError z_LookupError z_ValueError z_abs z_all z_enumerate z_int z_isinstance z_len z_max z_min z_range z_repr z_tuple
end Lw
open PySem PySem.W PySem.Calls PyProof.Rows
set_option maxRecDepth 100000 in
set_option maxHeartbeats 0 in
theorem PySem.Challenge.cw_guessedkinds_k89_errors_made_holds : PySem.Challenge.rw_guessedkinds_k89_errors_made.Holds := by
  refine Lw.pre ?_
  · refine G.walk_G (l := PySem.Challenge.rw_guessedkinds_k89_errors_made) (n := 63) (k := 9) (x := "_law_script") (CX := L2.CX0) rfl (by decide) (by kernel_rfl) ⟨rfl, by decide, by decide⟩ ?F (fun _ _ _ _ z => z)
    intro w mg fa h Y Gn hmg0
    obtain ⟨K, KX, c⟩ := Y
    have hmg : mg ("law" : PySem.Str) = some (.ref fa) := by
      have e : (HandSHeadRun.topDef (OpenLaw.row PySem.Challenge.rw_guessedkinds_k89_errors_made).prog 30).name = ("law" : PySem.Str) := by kernel_rfl
      rw [← e]
      exact hmg0
    obtain ⟨fd, hb, hF⟩ := Lw.facts (l := PySem.Challenge.rw_guessedkinds_k89_errors_made) (w := w) KX Gn hmg c
    exact ⟨K, fd, [], G.lowSp K (fun _ => 0) G.sp_law, KX, nofun, nofun, nofun, hb, fun H a ns hl _ hS => G.law_in ns hl hS, fun base h1 h2 _ => hF base h1 h2⟩
