import PyProof.Rows.All
import Wide.All
import OpenK.AllK
import Wide.FinOn
import HandS.ForMost
import HandS.Lambda
import HandS.WordsExc
import HandS.Defaults
import HandS.Rev
import HandS.Wide
import HandS.StrMore
import HandS.TupAny
import HandS.IsInst
import HandS.MakeKwOnly
import HandS.ClsMeth
import HandS.Star
import KE.KOpsOwn
import HandS.FStr
import HandS.Style
import PyProof.P3Eq
import KE.KFmtOwn
import HandS.OwnEq
import HandS.DictComp
import HandS.Property
import KE.GoesEnum
import KE.GoesZip
import HandS.SetKeys
import HandS.ExcInit
import HandS.ExcField
import KE.KExcIs
import HandS.ExcIs
import KE.KExcInit
import KE.KExcLine
import HandS.RaiseMore
import KE.KCallOwn
import HandS.NoneIn
import KE.KRevSl
import HandS.Strs
import HandS.EndTab
import HandS.HeadEnd
import HandS.Ends
import HandS.Words
import HandS.Head0
import HandS.Head1
import HandS.Head2
import HandS.HeadHook1
import HandS.HeadHook2
import HandS.HeadHook4
import KE.RegKIsAll
import PySem.Challenge.RW_guessedkinds_k17_kinds_refused
set_option Elab.async false
set_option linter.all false
set_option maxRecDepth 100000
set_option maxHeartbeats 4000000
namespace G
open PySem PySem.Spec PyProof.Rows L2
/-! ### the head by one run in the kernel: facts of the module's things at told places -/
abbrev FaX := PySem.W.Frag → Bool
/-- a def: its place, its statement, its defaults -/
structure DefG where
  ad : Addr
  nm : Str
  ql : Str
  st : Stmt
  dfl : List V := []
  kwd : List (Str × V) := []
def seenF (K : PySem.W.Frag) (a : Addr) : He.FnW := (K.lookup a).bind fun o => match o with
  | ⟨_, _, .func z, _⟩ => some (z.name, z.qualname, z.params, z.body, z.scope, z.globals, z.closure, z.builtins)
  | _ => none
def DefG.tells (d : DefG) : He.FnW := some (d.nm, d.ql, defArgs d.st, .stmts (defBody d.st), defScope d.st, mainGlobals, [], builtinsNs)
def DefG.good (K : PySem.W.Frag) (d : DefG) : Bool := PySem.W.keepIn K (.ref d.ad) && ((K.lookup d.ad).any fun o => match o with
  | ⟨_, _, .func z, _⟩ => PySem.W.codeIn K z.code d.ql && (He.dflB K z.defaults d.dfl && He.kwdB K z.kwdefaults d.kwd)
  | _ => false)
theorem DefG.funD {K : PySem.W.Frag} {d : DefG} (e : seenF K d.ad = d.tells) (c : d.good K = true) : ∃ z, FunD K d.nm d.ql (defArgs d.st) (defBody d.st) (defScope d.st) d.dfl d.kwd d.ad z := by
  unfold DefG.good at c
  rw [Bool.and_eq_true] at c
  obtain ⟨kp, c⟩ := c
  unfold seenF at e
  cases hl : K.lookup d.ad with
  | none => rw [hl] at c; cases c
  | some o =>
    rw [hl] at c e
    obtain ⟨oc, od, dt, sl⟩ := o
    cases dt with
    | func z =>
      obtain ⟨z1, z2, z3, z4, z5, z6, z7, z8, z9, z10, z11, z12, z13, z14, z15⟩ := z
      have e' : (some (z1, z2, z3, z4, z5, z6, z7, z15) : He.FnW) = some (d.nm, d.ql, defArgs d.st, .stmts (defBody d.st), defScope d.st, mainGlobals, [], builtinsNs) := e
      injection e' with e'
      simp only [Prod.mk.injEq] at e'
      obtain ⟨rfl, rfl, rfl, rfl, rfl, rfl, rfl, rfl⟩ := e'
      have c' : (PySem.W.codeIn K z13 d.ql && (He.dflB K z8 d.dfl && He.kwdB K z9 d.kwd)) = true := c
      simp only [Bool.and_eq_true] at c'
      exact ⟨_, ⟨oc, od, z8, z9, z10, z11, z12, z13, z14, sl, rfl, hl, c'.1, He.dflB_ok c'.2.1, He.kwdB_ok c'.2.2⟩, kp⟩
    | _ => cases c
theorem fun_ofD {K : PySem.W.Frag} {x q : Str} {st : Stmt} {f : Addr} {z : FuncData} (F : FunD K x q (defArgs st) (defBody st) (defScope st) [] [] f z) : Fun K x q st f z := by
  obtain ⟨oc, od, dV, kV, doc, pm, an, cdv, ct, sl, e, lk, hc, hd, _⟩ := F.ex
  rcases hd with ⟨_, rfl⟩ | ⟨h, _⟩
  · exact ⟨⟨oc, od, kV, doc, pm, an, cdv, ct, sl, e, lk, hc⟩, F.kp⟩
  · exact absurd rfl h
def obsX (as : List Addr) (fa : List (List FaX)) (fn : List DefG) (g : Addr → Option Obj) : Bool × List He.FnW :=
  ((fa.all fun l => l.all fun f => f (He.frG g as)) && (fn.all fun d => d.good (He.frG g as)), fn.map fun d => seenF (He.frG g as) d.ad)
def SaysX (fa : List (List FaX)) (fn : List DefG) (K : PySem.W.Frag) : Prop := ((fa.all fun l => l.all fun f => f K) && (fn.all fun d => d.good K), fn.map fun d => seenF K d.ad) = (true, fn.map DefG.tells)
def hookX (as : List Addr) (fa : List (List FaX)) (fn : List DefG) : PySem.W.Hook where
  α := Bool × List He.FnW
  obs := fun s => obsX as fa fn s.heap.get?
  val := fun _ => (true, fn.map DefG.tells)
  says := fun _ h => ∃ K : PySem.W.Frag, K.In h ∧ SaysX fa fn K
  of := fun _ _ e => ⟨_, He.frG_in, e⟩
  keeps := fun _ _ _ ⟨K, hK, c⟩ k => ⟨K, PySem.W.Frag.In.keeps hK k, c⟩
theorem obsX_eq {as : List Addr} {fa : List (List FaX)} {fn : List DefG} {g : Addr → Option Obj} {s : Shared} (h : ∀ a, g a = s.heap.get? a) : obsX as fa fn g = (hookX as fa fn).obs s := by
  have e : g = s.heap.get? := funext h
  rw [e]
  rfl
section
variable {fa : List (List FaX)} {fn : List DefG} {K : PySem.W.Frag}
theorem SaysX.fact (c : SaysX fa fn K) (i j : Nat) {l : List FaX} {f : FaX} (h : fa[i]? = some l := by rfl) (h2 : l[j]? = some f := by rfl) : f K = true := by
  have c1 : ((fa.all fun l => l.all fun f => f K) && (fn.all fun d => d.good K)) = true := congrArg Prod.fst c
  rw [Bool.and_eq_true] at c1
  exact List.all_eq_true.mp (List.all_eq_true.mp c1.1 l (List.mem_of_getElem? h)) f (List.mem_of_getElem? h2)
theorem SaysX.fun_ (c : SaysX fa fn K) (i : Nat) {d : DefG} (h : fn[i]? = some d := by rfl) : ∃ z, FunD K d.nm d.ql (defArgs d.st) (defBody d.st) (defScope d.st) d.dfl d.kwd d.ad z := by
  have c1 : ((fa.all fun l => l.all fun f => f K) && (fn.all fun d => d.good K)) = true := congrArg Prod.fst c
  rw [Bool.and_eq_true] at c1
  have c2 : fn.map (fun d => seenF K d.ad) = fn.map DefG.tells := congrArg Prod.snd c
  have c3 := congrArg (fun l => l[i]?) c2
  simp only [List.getElem?_map, h, Option.map_some, Option.some.injEq] at c3
  exact DefG.funD c3 (List.all_eq_true.mp c1.2 d (List.mem_of_getElem? h))
end
/-! the same, empty tables left out and told -/
def tabB (g : Addr → Option Obj) (tb : List Addr) : Bool := tb.all fun P => match g P with
  | some o => He.emptyTab o
  | none => false
def obsT (as : List Addr) (fa : List (List FaX)) (fn : List DefG) (tb : List Addr) (g : Addr → Option Obj) : Bool × List He.FnW :=
  (((fa.all fun l => l.all fun f => f (He.frT g as)) && (fn.all fun d => d.good (He.frT g as))) && tabB g tb, fn.map fun d => seenF (He.frT g as) d.ad)
def SaysT (tb : List Addr) (h : Heap) (K : PySem.W.Frag) : Prop := ∀ P ∈ tb, K.lookup P = none ∧ h.get? P = some { cls := .none, data := .fields #[] }
theorem obsT_of {as : List Addr} {fa : List (List FaX)} {fn : List DefG} {tb : List Addr} {h : Heap} (e : obsT as fa fn tb h.get? = (true, fn.map DefG.tells)) : SaysX fa fn (He.frT h.get? as) ∧ SaysT tb h (He.frT h.get? as) := by
  have e1 : (((fa.all fun l => l.all fun f => f (He.frT h.get? as)) && (fn.all fun d => d.good (He.frT h.get? as))) && tabB h.get? tb) = true := congrArg Prod.fst e
  have e2 : fn.map (fun d => seenF (He.frT h.get? as) d.ad) = fn.map DefG.tells := congrArg Prod.snd e
  rw [Bool.and_eq_true] at e1
  refine ⟨?_, fun P hP => ?_⟩
  · unfold SaysX
    rw [e1.1, e2]
  · have e3 := List.all_eq_true.mp e1.2 P hP
    cases q : h.get? P with
    | none => rw [q] at e3; cases e3
    | some o =>
      rw [q] at e3
      exact ⟨He.frT_none q e3, by rw [He.emptyTab_eq e3]⟩
def hookT (as : List Addr) (fa : List (List FaX)) (fn : List DefG) (tb : List Addr) : PySem.W.Hook where
  α := Bool × List He.FnW
  obs := fun s => obsT as fa fn tb s.heap.get?
  val := fun _ => (true, fn.map DefG.tells)
  says := fun _ h => ∃ K : PySem.W.Frag, K.In h ∧ SaysX fa fn K ∧ SaysT tb h K
  of := fun _ _ e => ⟨_, He.frT_in, obsT_of e⟩
  keeps := fun _ _ _ ⟨K, hK, c, t⟩ k => ⟨K, PySem.W.Frag.In.keeps hK k, c, fun P hP => ⟨(t P hP).1, k _ _ (t P hP).2⟩⟩
theorem obsT_eq {as : List Addr} {fa : List (List FaX)} {fn : List DefG} {tb : List Addr} {g : Addr → Option Obj} {s : Shared} (h : ∀ a, g a = s.heap.get? a) : obsT as fa fn tb g = (hookT as fa fn tb).obs s := by
  have e : g = s.heap.get? := funext h
  rw [e]
  rfl
/-! facts that are no equations one can decide -/
def getX (K : PySem.W.Frag) (C : Addr) (x : Str) (g : String) (p : Addr) : Bool := match PySem.W.findCls K (.ref C) (.type "type") x with
  | some (.get a b c d) => decide (a = .builtin g ∧ b = .ref p ∧ c = .none ∧ d = .ref C)
  | _ => false
theorem getX_ok {K : PySem.W.Frag} {C p : Addr} {x : Str} {g : String} (h : getX K C x g p = true) : PySem.W.findCls K (.ref C) (.type "type") x = some (.get (.builtin g) (.ref p) .none (.ref C)) := by
  unfold getX at h
  split at h
  · rename_i a b c d e
    obtain ⟨rfl, rfl, rfl, rfl⟩ := of_decide_eq_true h
    exact e
  · cases h
def valX (K : PySem.W.Frag) (c : Value) (x : Str) (v : Value) : Bool := match PySem.W.findCls K c (.type "type") x with
  | some (.val a) => decide (a = v)
  | _ => false
theorem valX_ok {K : PySem.W.Frag} {c v : Value} {x : Str} (h : valX K c x v = true) : PySem.W.findCls K c (.type "type") x = some (.val v) := by
  unfold valX at h
  split at h
  · rename_i a e
    have := of_decide_eq_true h
    subst this
    exact e
  · cases h
def recX (K : PySem.W.Frag) (p : Addr) (T : String) (f : Addr) : Bool := match PySem.W.recIn K p T with
  | some (a :: _) => decide (a = .ref f)
  | _ => false
theorem recX_ok {K : PySem.W.Frag} {p f : Addr} {T : String} (h : recX K p T f = true) : ∃ rest, PySem.W.recIn K p T = some (.ref f :: rest) := by
  unfold recX at h
  split at h
  · rename_i a r e
    have := of_decide_eq_true h
    subst this
    exact ⟨r, e⟩
  · cases h
def intX (K : PySem.W.Frag) (x : Str) (i : Int) : Bool := match PySem.W.nsIn K mainGlobals x with
  | some (some (.int j _)) => decide (j = i)
  | _ => false
theorem intX_ok {K : PySem.W.Frag} {x : Str} {i : Int} (h : intX K x i = true) : ∃ t, PySem.W.nsIn K mainGlobals x = some (some (.int i t)) := by
  unfold intX at h
  split at h
  · rename_i j t e
    have := of_decide_eq_true h
    subst this
    exact ⟨t, e⟩
  · cases h
def strX (K : PySem.W.Frag) (x z : Str) : Bool := match PySem.W.nsIn K mainGlobals x with
  | some (some (.str y _)) => decide (y = z)
  | _ => false
theorem strX_ok {K : PySem.W.Frag} {x z : Str} (h : strX K x z = true) : ∃ t, PySem.W.nsIn K mainGlobals x = some (some (.str z t)) := by
  unfold strX at h
  split at h
  · rename_i j t e
    have := of_decide_eq_true h
    subst this
    exact ⟨t, e⟩
  · cases h
def tupX (K : PySem.W.Frag) (a : Addr) (vs : List V) : Bool := (K.lookup a).any fun o => match o with
  | ⟨.type c, _, .seq its _, _⟩ => decide (c = "tuple") && (Nat.ble its.size 1000 && He.relAll vs its.toList)
  | _ => false
theorem tupX_ok {K : PySem.W.Frag} {a : Addr} {vs : List V} (h : tupX K a vs = true) : ∃ (o : Obj) (its : Array Value) (n : Nat), K.lookup a = some o ∧ o.cls = .type "tuple" ∧ o.data = .seq its n ∧ its.size ≤ sizeLine ∧ Vals vs its.toList := by
  unfold tupX at h
  cases hl : K.lookup a with
  | none => rw [hl] at h; cases h
  | some o =>
    rw [hl] at h
    obtain ⟨oc, od, dt, sl⟩ := o
    cases oc with
    | type c =>
      cases dt with
      | seq its n =>
        have h' : (decide (c = "tuple") && (Nat.ble its.size 1000 && He.relAll vs its.toList)) = true := h
        simp only [Bool.and_eq_true] at h'
        have e := of_decide_eq_true h'.1
        subst e
        exact ⟨_, its, n, rfl, rfl, rfl, Nat.le_trans (Nat.le_of_ble_eq_true h'.2.1) (by decide), He.relAll_ok h'.2.2⟩
      | _ => cases h
    | _ => cases dt <;> cases h
/-- the code object of the function at f -/
def codeX (K : PySem.W.Frag) (f c : Addr) : Bool := match K.lookup f with
  | some ⟨_, _, .func z, _⟩ => decide (z.code = .ref c)
  | _ => false
end G
namespace Lw
open PySem PySem.Spec PyProof.Rows L2 G
def top (i : Nat) : Stmt := PySem.Challenge.pw_guessedkinds_k17_kinds_refused.main.body.getD i (.Pass ⟨0, 0, 0, 0⟩)
abbrev s_l_part : Stmt := (top 34)
abbrev s_Kind_init : Stmt := (inClass (top 22) 1)
abbrev s_is_betweenU : Stmt := (top 16)
abbrev s_is_word : Stmt := (top 13)
abbrev s_Kind_of_numbersX : Stmt := (inClass (top 22) 4)
abbrev s_l_take : Stmt := (top 25)
abbrev s_l_of : Stmt := (top 26)
abbrev s_l_no_count : Stmt := (top 36)
abbrev s_l_no_word : Stmt := (top 35)
abbrev s_l_numbers_right : Stmt := (top 39)
abbrev s_is_text : Stmt := (top 14)
abbrev s_are_textsU : Stmt := (top 15)
abbrev s_Kind_of_marksX : Stmt := (inClass (top 22) 2)
abbrev s_l_digits : Stmt := (top 28)
abbrev s_l_number : Stmt := (top 29)
abbrev s_l_signs : Stmt := (top 27)
abbrev s_l_text : Stmt := (top 30)
abbrev s_l_marks_right : Stmt := (top 37)
abbrev s_Kind_of_wordsX : Stmt := (inClass (top 22) 3)
abbrev s_Kind_of_textsX : Stmt := (inClass (top 22) 5)
abbrev s_l_other_texts : Stmt := (top 31)
abbrev s_l_words_right : Stmt := (top 38)
abbrev s_l_word : Stmt := (top 32)
abbrev s_l_words : Stmt := (top 33)
abbrev s_l_bag : Stmt := (top 24)
abbrev s_law : Stmt := (top 40)
abbrev s_BadKind_init : Stmt := (inClass (top 3) 0)
def fa0 : List FaX := [
  fun K => decide (PySem.W.nsIn K mainGlobals "Kind" = some (some (.ref 257))),
  fun K => decide (PySem.W.plainGet K 257 Str.empty = true),
  fun K => decide (PySem.W.hasDictIn K 257 = true),
  fun K => decide (PySem.W.plainOver K 257 = true),
  fun K => decide (PySem.W.findIn K (.ref 257) "__setattr__" = some (some (.builtin "object.__setattr__"))),
  fun K => decide (PySem.W.readsIn K 257 (.type "type") = true),
  fun K => decide (PySem.W.specialIn K (.ref 257) "__getattribute__" = some (some (.builtin "type.__getattribute__"))),
  fun K => decide (PySem.W.findIn K (.ref 257) "digits" = some none),
  fun K => decide (PySem.W.findIn K (.ref 257) "family" = some none),
  fun K => decide (PySem.W.findIn K (.ref 257) "keep" = some none),
  fun K => decide (PySem.W.findIn K (.ref 257) "marks" = some none),
  fun K => decide (PySem.W.findIn K (.ref 257) "name" = some none),
  fun K => decide (PySem.W.findIn K (.ref 257) "no" = some none),
  fun K => decide (PySem.W.findIn K (.ref 257) "point" = some none),
  fun K => decide (PySem.W.findIn K (.ref 257) "shown" = some none),
  fun K => decide (PySem.W.findIn K (.ref 257) "signs" = some none),
  fun K => decide (PySem.W.findIn K (.ref 257) "yes" = some none),
  fun K => decide (PySem.W.findIn K (.ref 257) "zeros" = some none),
  fun K => decide (PySem.W.nsIn K mainGlobals "_law_part" = some (some (.ref 332))),
  fun K => decide (PySem.W.findIn K (.ref 257) "__init__" = some (some (.ref 165))),
  fun K => decide (PySem.W.isFn K (.ref 165) = true),
  fun K => decide (PySem.W.makesIn K 257 = true),
  fun K => decide (PySem.W.keepIn K (.ref 257) = true),
  fun K => tupX K 155 [],
  fun K => tupX K 156 [],
  fun K => tupX K 157 [],
  fun K => decide (PySem.W.nsIn K mainGlobals "is_between" = some (some (.ref 113))),
  fun K => decide (PySem.W.nsIn K mainGlobals "is_word" = some (some (.ref 96))),
  fun K => getX K 257 "of_numbers" "staticmethod.__get__" 193,
  fun K => recX K 193 "staticmethod" 191,
  fun K => decide (PySem.W.nsIn K mainGlobals "_law_take" = some (some (.ref 275))),
  fun K => decide (PySem.W.nsIn K mainGlobals "_law_of" = some (some (.ref 282))),
  fun K => decide (PySem.W.nsIn K mainGlobals "_law_no_count" = some (some (.ref 346))),
  fun K => decide (PySem.W.nsIn K mainGlobals "_law_no_word" = some (some (.ref 339))),
  fun K => decide (PySem.W.nsIn K mainGlobals "_law_numbers_right" = some (some (.ref 365))),
  fun K => decide (codeX K 365 364 = true),
  fun K => decide (PySem.W.codeHdIn K 364 360 = true),
  fun K => decide (PySem.W.nsIn K mainGlobals "is_text" = some (some (.ref 101))),
  fun K => decide (PySem.W.nsIn K mainGlobals "are_texts" = some (some (.ref 106))),
  fun K => getX K 257 "of_marks" "staticmethod.__get__" 174]
def fa1 : List FaX := [
  fun K => recX K 174 "staticmethod" 172,
  fun K => decide (PySem.W.nsIn K mainGlobals "_law_digits" = some (some (.ref 296))),
  fun K => decide (PySem.W.nsIn K mainGlobals "_law_number" = some (some (.ref 303))),
  fun K => decide (PySem.W.nsIn K mainGlobals "_law_signs" = some (some (.ref 289))),
  fun K => decide (PySem.W.nsIn K mainGlobals "_law_text" = some (some (.ref 308))),
  fun K => decide (PySem.W.nsIn K mainGlobals "_law_marks_right" = some (some (.ref 351))),
  fun K => decide (codeX K 351 350 = true),
  fun K => decide (PySem.W.codeHdIn K 350 348 = true),
  fun K => getX K 257 "of_words" "staticmethod.__get__" 182,
  fun K => recX K 182 "staticmethod" 180,
  fun K => getX K 257 "of_texts" "staticmethod.__get__" 203,
  fun K => recX K 203 "staticmethod" 201,
  fun K => decide (PySem.W.nsIn K mainGlobals "_law_other_texts" = some (some (.ref 315))),
  fun K => decide (PySem.W.nsIn K mainGlobals "_law_words_right" = some (some (.ref 358))),
  fun K => decide (codeX K 358 357 = true),
  fun K => decide (PySem.W.codeHdIn K 357 353 = true),
  fun K => decide (PySem.W.nsIn K mainGlobals "_law_word" = some (some (.ref 320))),
  fun K => decide (PySem.W.nsIn K mainGlobals "_law_words" = some (some (.ref 325))),
  fun K => decide (PySem.W.nsIn K mainGlobals "_law_bag" = some (some (.ref 268))),
  fun K => decide (PySem.W.nsIn K mainGlobals "law" = some (some (.ref 372))),
  fun K => decide (PySem.W.nsIn K mainGlobals "GuessError" = some (some (.ref 31))),
  fun K => decide (PySem.W.nsIn K mainGlobals "BadKind" = some (some (.ref 51))),
  fun K => decide (PySem.W.nsIn K mainGlobals "BadBook" = some (some (.ref 70))),
  fun K => decide (PySem.W.findIn K (.ref 51) "__init__" = some (some (.ref 48))),
  fun K => decide (PySem.W.typeIn K (.ref 48) = some (.type "function")),
  fun K => decide (PySem.W.excInitIn K 51 [.type "ValueError", .type "Exception", .type "BaseException", .type "object"] "ValueError.__new__" = true),
  fun K => decide (PySem.W.hasDictIn K 51 = true),
  fun K => decide (PySem.W.findIn K (.ref 51) "__setattr__" = some (some (.builtin "object.__setattr__"))),
  fun K => decide (PySem.W.subIn K (.ref 51) (.type "BaseException") = some true),
  fun K => decide (PySem.W.typeIn K (.ref 51) = some (.type "type")),
  fun K => decide (PySem.W.keepIn K (.ref 51) = true),
  fun K => decide (PySem.W.findIn K (.ref 51) "part" = some none),
  fun K => decide (PySem.W.readsIn K 31 (.type "type") = true),
  fun K => decide (PySem.W.specialIn K (.ref 31) "__getattribute__" = some (some (.builtin "type.__getattribute__"))),
  fun K => valX K (.ref 31) "__init__" (.builtin "ValueError.__init__"),
  fun K => decide (PySem.W.findIn K (.ref 51) "__getattribute__" = some (some (.builtin "BaseException.__getattribute__"))),
  fun K => decide (PySem.W.findIn K (.ref 51) "__getattr__" = some none),
  fun K => decide (PySem.W.subIn K (.ref 51) (.type "BaseException") = some true),
  fun K => decide (PySem.W.hasDictIn K 51 = true),
  fun K => decide (PySem.W.findIn K (.ref 51) "__class__" = some (some (.builtin "object.__class__")))]
def fa2 : List FaX := [
  fun K => decide (PySem.W.specialIn K (.builtin "object.__class__") "__get__" = some (some (.builtin "getset_descriptor.__get__"))),
  fun K => decide (PySem.W.takesIn K (.builtin "object.__class__") = some true),
  fun K => decide (PySem.W.mroIn K 51 (.type "object") = some true),
  fun K => decide (PySem.W.subIn K (.ref 31) (.type "BaseException") = some true),
  fun K => decide (PySem.W.hasDictIn K 31 = true),
  fun K => decide (PySem.W.typeIn K (.ref 31) = some (.type "type")),
  fun K => decide (PySem.W.subIn K (.ref 51) (.ref 31) = some true),
  fun K => decide (PySem.W.kitOne K (.ref 51) (.ref 70) = some false),
  fun K => decide (PySem.W.kitOne K (.ref 51) (.ref 51) = some true),
  fun K => decide (PySem.W.kitOne K (.ref 51) (.type "ValueError") = some true),
  fun K => decide (PySem.W.nsIn K mainGlobals "ValueError" = some none),
  fun K => decide (PySem.W.nsIn K mainGlobals "abs" = some none),
  fun K => decide (PySem.W.nsIn K mainGlobals "all" = some none),
  fun K => decide (PySem.W.nsIn K mainGlobals "any" = some none),
  fun K => decide (PySem.W.nsIn K mainGlobals "bool" = some none),
  fun K => decide (PySem.W.nsIn K mainGlobals "int" = some none),
  fun K => decide (PySem.W.nsIn K mainGlobals "isinstance" = some none),
  fun K => decide (PySem.W.nsIn K mainGlobals "len" = some none),
  fun K => decide (PySem.W.nsIn K mainGlobals "list" = some none),
  fun K => decide (PySem.W.nsIn K mainGlobals "max" = some none),
  fun K => decide (PySem.W.nsIn K mainGlobals "min" = some none),
  fun K => decide (PySem.W.nsIn K mainGlobals "ord" = some none),
  fun K => decide (PySem.W.nsIn K mainGlobals "range" = some none),
  fun K => decide (PySem.W.nsIn K mainGlobals "set" = some none),
  fun K => decide (PySem.W.nsIn K mainGlobals "str" = some none),
  fun K => decide (PySem.W.nsIn K mainGlobals "tuple" = some none),
  fun K => strX K "LETTERS" ⟨[97, 98, 99, 100, 101, 102, 103, 104, 105, 106, 107, 108, 109, 110, 111, 112, 113, 114, 115, 116, 117, 118, 119, 120, 121, 122].toArray⟩,
  fun K => intX K "MOST_DIGITS" 20,
  fun K => intX K "MOST_MARKS" 6,
  fun K => intX K "MOST_SHOWN" 3,
  fun K => intX K "MOST_WORDS" 4]
def fa : List (List FaX) := [fa0, fa1, fa2]
def fn0 : List DefG := [
  ⟨332, "_law_part", "_law_part", s_l_part, [], []⟩,
  ⟨165, "__init__", "Kind.__init__", s_Kind_init, [], [("marks", (.ref 155)), ("yes", (.ref 156)), ("no", (.ref 157)), ("digits", .non), ("point", (.bl false)), ("signs", (.str ⟨[45].toArray⟩)), ("zeros", (.bl true)), ("keep", .non), ("shown", (.int 0))]⟩,
  ⟨113, "is_between", "is_between", s_is_betweenU, [], []⟩,
  ⟨96, "is_word", "is_word", s_is_word, [], []⟩,
  ⟨191, "of_numbers", "Kind.of_numbers", s_Kind_of_numbersX, [], [("digits", .non), ("point", (.bl false)), ("signs", (.str ⟨[45].toArray⟩)), ("zeros", (.bl true)), ("keep", .non), ("shown", (.int 0))]⟩,
  ⟨275, "_law_take", "_law_take", s_l_take, [], []⟩,
  ⟨282, "_law_of", "_law_of", s_l_of, [], []⟩,
  ⟨346, "_law_no_count", "_law_no_count", s_l_no_count, [], []⟩,
  ⟨339, "_law_no_word", "_law_no_word", s_l_no_word, [], []⟩,
  ⟨365, "_law_numbers_right", "_law_numbers_right", s_l_numbers_right, [], []⟩,
  ⟨101, "is_text", "is_text", s_is_text, [], []⟩,
  ⟨106, "are_texts", "are_texts", s_are_textsU, [], []⟩,
  ⟨172, "of_marks", "Kind.of_marks", s_Kind_of_marksX, [], []⟩,
  ⟨296, "_law_digits", "_law_digits", s_l_digits, [], []⟩,
  ⟨303, "_law_number", "_law_number", s_l_number, [], []⟩,
  ⟨289, "_law_signs", "_law_signs", s_l_signs, [], []⟩,
  ⟨308, "_law_text", "_law_text", s_l_text, [], []⟩,
  ⟨351, "_law_marks_right", "_law_marks_right", s_l_marks_right, [], []⟩,
  ⟨180, "of_words", "Kind.of_words", s_Kind_of_wordsX, [], []⟩,
  ⟨201, "of_texts", "Kind.of_texts", s_Kind_of_textsX, [], []⟩,
  ⟨315, "_law_other_texts", "_law_other_texts", s_l_other_texts, [], []⟩,
  ⟨358, "_law_words_right", "_law_words_right", s_l_words_right, [], []⟩,
  ⟨320, "_law_word", "_law_word", s_l_word, [], []⟩,
  ⟨325, "_law_words", "_law_words", s_l_words, [], []⟩,
  ⟨268, "_law_bag", "_law_bag", s_l_bag, [], []⟩,
  ⟨372, "law", "law", s_law, [], []⟩,
  ⟨48, "__init__", "BadKind.__init__", s_BadKind_init, [], []⟩]
def fn : List DefG := fn0
def as0 : List Addr := [3, 2, 257, 31, 51, 70, 332, 165, 155, 156, 157, 113, 96, 193, 191, 275, 282, 346, 339, 365, 101, 106, 174, 172, 296, 303, 289, 308, 351, 182, 180, 203, 201, 315, 358, 320, 325, 268, 372, 364]
def as1 : List Addr := [360, 350, 348, 357, 353, 48, 6, 4, 21, 89, 118, 125, 132, 139, 146, 256, 30, 50, 69, 331, 164, 158, 112, 95, 192, 190, 184, 274, 281, 345, 338, 100, 105, 173, 171, 295, 302, 288, 307, 181]
def as2 : List Addr := [179, 202, 200, 314, 319, 324, 267, 371, 359, 361, 362, 363, 347, 349, 352, 354, 355, 356, 47, 15, 16, 17, 18, 19, 20, 22, 29, 32, 35, 42, 43, 44, 45, 46, 49, 54, 61, 62, 63, 64]
def as3 : List Addr := [65, 66, 67, 68, 73, 80, 81, 82, 83, 84, 85, 86, 87, 88, 92, 93, 94, 97, 98, 99, 102, 103, 104, 107, 108, 109, 110, 111, 114, 115, 116, 117, 119, 120, 121, 122, 123, 124, 126, 127]
def as4 : List Addr := [128, 129, 130, 131, 133, 134, 135, 136, 137, 138, 140, 141, 142, 143, 144, 145, 154, 159, 160, 161, 162, 163, 166, 167, 168, 169, 170, 175, 176, 177, 178, 183, 185, 186, 187, 188, 189, 194, 195, 196]
def as5 : List Addr := [197, 198, 199, 204, 205, 206, 207, 208, 209, 210, 211, 212, 213, 214, 215, 216, 217, 218, 219, 220, 221, 222, 223, 224, 225, 226, 227, 228, 229, 230, 231, 232, 233, 234, 235, 236, 237, 238, 239, 240]
def as6 : List Addr := [241, 242, 243, 244, 245, 246, 247, 248, 249, 250, 251, 252, 253, 254, 255, 258, 259, 262, 263, 264, 265, 266, 269, 270, 271, 272, 273, 276, 277, 278, 279, 280, 283, 284, 285, 286, 287, 290, 291, 292]
def as7 : List Addr := [293, 294, 297, 298, 299, 300, 301, 304, 305, 306, 309, 310, 311, 312, 313, 316, 317, 318, 321, 322, 323, 326, 327, 328, 329, 330, 333, 334, 335, 336, 337, 340, 341, 342, 343, 344, 366, 367, 368, 369]
def as8 : List Addr := [370]
def as : List Addr := as0 ++ as1 ++ as2 ++ as3 ++ as4 ++ as5 ++ as6 ++ as7 ++ as8
def hxN0 : List PySem.Str := ["_wall", "__name__", "GuessError", "BadKind", "BadBook", "Unfit", "DIGITS", "LETTERS", "MOST_MARKS", "MOST_WORDS", "MOST_DIGITS", "MOST_SHOWN", "is_word", "is_text", "are_texts", "is_between", "all_digits", "split_number", "shortest", "plain_form", "cut_number", "Kind", "_law_bag", "_law_take", "_law_of", "_law_signs", "_law_digits", "_law_number", "_law_text", "_law_other_texts"]
def hxN1 : List PySem.Str := ["_law_word", "_law_words", "_law_part", "_law_no_word", "_law_no_count", "_law_marks_right", "_law_words_right", "_law_numbers_right"]
def names : List PySem.Str := hxN0 ++ hxN1
abbrev R : PySem.W.OpenRow := PySem.W.OpenLaw.row PySem.Challenge.rw_guessedkinds_k17_kinds_refused
abbrev qv : Program := PySem.W.view R.prog [40]
abbrev hk : PySem.W.Hook := hookT as fa fn [360, 348, 353]
def ob (s : PySem.W.SharedT) : Bool × List He.FnW := obsT as fa fn [360, 348, 353] (HandSHeadRun.getT s)
theorem ob_eq (s : PySem.W.SharedT) : ob s = hk.obs s.abs := obsT_eq (HandSHeadRun.getT_eq s)
theorem run (w : World) : HandSHeadRun.RunEq R qv hk ob 60000 names w := by
  intro os
  kernel_rfl
end Lw
open PySem PySem.W PySem.Calls PyProof.Rows in
set_option maxRecDepth 100000 in
set_option maxHeartbeats 0 in
theorem Lw.pre (hc : PySem.W.WalkO Lw.qv Lw.names (PySem.W.XL Lw.qv []) Lw.hk.says (OpenLaw.row PySem.Challenge.rw_guessedkinds_k17_kinds_refused).toRowW (HandSHeadRun.topDef (OpenLaw.row PySem.Challenge.rw_guessedkinds_k17_kinds_refused).prog 40) [] fun f vs => PySem.call f vs) : PySem.Challenge.rw_guessedkinds_k17_kinds_refused.Holds := by
  w_on; o_law
  refine HandSHeadRun.head_any (r := OpenLaw.row PySem.Challenge.rw_guessedkinds_k17_kinds_refused) (q := Lw.qv) (H := Lw.hk) (ob := Lw.ob) (M := 60000) (loose := Lw.names) (d := HandSHeadRun.topDef (OpenLaw.row PySem.Challenge.rw_guessedkinds_k17_kinds_refused).prog 40) (kwd := []) Lw.ob_eq
    (by kernel_rfl) (fun s => by kernel_rfl) Lw.run (by kernel_rfl) (by kernel_rfl) (by kernel_rfl) (by rfl) (by first | assumption | decide +kernel) (by decide +kernel) ⟨rfl, rfl, rfl, rfl, rfl, by decide +kernel⟩ ?hw hc
  w_witness2
/-! room where nothing is being shown; defs that ask for it -/
namespace G
open PySem PySem.Spec PyProof.Rows L2
structure Room (k : Nat) (A : Around) : Prop where
  r : L2.Room k A
  gd : A.guards = some []
instance {k : Nat} {A : Around} : CoeOut (Room k A) (L2.Room k A) := ⟨Room.r⟩
section
variable {j k : Nat} {A : Around}
theorem Room.mono (h : Room k A) (l : j ≤ k) : Room j A := ⟨h.r.mono l, h.gd⟩
theorem Room.deeper (h : Room (k + 1) A) (env : Env) : Room k (A.deeper env) := ⟨h.r.deeper env, h.gd⟩
theorem Room.in1 (h : Room (k + 1) A) : Room k A.in1 := ⟨h.r.in1, h.gd⟩
theorem make_guards {C : Addr} {us : List Value} {kw : List (Str × Value)} (h : A.guards = some []) : (A.under (.builtin "type.__call__" ⟨.ref C :: us, kw⟩)).guards = some [] := by
  first | rfl | simp [Around.under, Code.guards, Code.isGuard, guardIds, pushGuards, h]
theorem Room.make (h : Room (k + 1) A) (C : Addr) (us : List Value) (kw : List (Str × Value)) : Room k (A.under (.builtin "type.__call__" ⟨.ref C :: us, kw⟩)) := ⟨h.r.make C us kw, make_guards h.gd⟩
theorem Room.depth (h : Room k A) : A.depth < recursionLimit := h.r.depth
theorem Room.units (h : Room k A) : A.units + 64 < cLine := h.r.units
theorem Room.un (h : Room k A) : A.units + 16 * k + 200 < cLine := h.r.un
theorem Room.hd (h : Room k A) : A.handled = none := h.r.hd
end
/-- a def's promise, asked where nothing is being shown -/
structure FnOk (P : Program) (w : World) (K : PySem.W.Frag) (mg : Str → Option Value) (base : Heap) (CX : CXT) (k : Nat) (f : Addr) (fd : FuncData) (ps : List Str) (sp : Sp) : Prop where
  len : ∀ vs H Q E, sp vs H Q E → vs.length = ps.length
  run : ∀ (A : Around) (outer : List Env) (s : Shared) (H : Hp) (args : Args) (us : List Value) (vs : List V) (Q : VK) (E : XK),
    Room k A → Env0 P w K mg base A outer s H → BindsTo s fd args (ps.zip us) → Vals vs us → sp vs H Q E → codeAny (model P w) A (.call (.ref f) args) (CR CX outer P w H s Q E) s
section
variable {P : Program} {w : World} {K : PySem.W.Frag} {mg : Str → Option Value} {base : Heap} {CX : CXT} {j k : Nat} {f : Addr} {fd : FuncData} {N ps : List Str} {sp sp' : Sp}
theorem FnOk.mono (F : FnOk P w K mg base CX j f fd ps sp) (h : j ≤ k) : FnOk P w K mg base CX k f fd ps sp :=
  ⟨F.len, fun A outer s H args us vs Q E hr e0 hb r q => F.run A outer s H args us vs Q E (hr.mono h) e0 hb r q⟩
theorem FnOk.imp (F : FnOk P w K mg base CX k f fd ps sp) (h : ∀ vs H Q E, sp' vs H Q E → sp vs H Q E) : FnOk P w K mg base CX k f fd ps sp' :=
  ⟨fun vs H Q E q => F.len vs H Q E (h vs H Q E q), fun A outer s H args us vs Q E hr e0 hb r q => F.run A outer s H args us vs Q E hr e0 hb r (h vs H Q E q)⟩
theorem fn_any {name qual : Str} {params : Arguments} {body : List Stmt} {scope : Scope} {dV kV doc pm cdv ct oc : Value} {an od : Option Addr} {osl : Array (Option Value)}
    (lk : K.lookup f = some ⟨oc, od, .func (PySem.W.fnOf name qual params body scope dV kV doc pm an cdv ct), osl⟩) (hcd : PySem.W.codeIn K cdv qual = true) (S : FnScope N ps scope) (len : ∀ vs H Q E, sp vs H Q E → vs.length = ps.length)
    (hbody : ∀ (A : Around) (outer : List Env) (s : Shared) (H : Hp) (vs : List V) (Q : VK) (E : XK), Room k (A.deeper (envOfC qual scope s.heap.objs.size f cdv)) → sp vs H Q E →
      ∃ t, PSs (cxOf CX P w K mg base N qual scope f cdv A outer s H E) body t ∧ t { nx := fun _ H' => Q .non H', rt := Q } (L2.start N vs) H) :
    FnOk P w K mg base CX (k + 1) f (PySem.W.fnOf name qual params body scope dV kV doc pm an cdv ct) ps sp :=
  ⟨len, fun A outer s H args us vs Q E hr e0 hb r q => LamX.run_ofS lk hcd S hr.r e0 hb r (len vs H Q E q) fun hr' => hbody A outer s H vs Q E ⟨hr', hr.gd⟩ q⟩
theorem funOk {x qual : Str} {st : Stmt} (F : Fun K x qual st f fd) (S : FnScope N ps (defScope st)) (len : ∀ vs H Q E, sp vs H Q E → vs.length = ps.length)
    (hbody : ∀ (cdv : Value) (A : Around) (outer : List Env) (s : Shared) (H : Hp) (vs : List V) (Q : VK) (E : XK), Room k (A.deeper (envOfC qual (defScope st) s.heap.objs.size f cdv)) → sp vs H Q E →
      ∃ t, PSs (cxOf CX0 P w K mg base N qual (defScope st) f cdv A outer s H E).nox (defBody st) t ∧ t { nx := fun _ H' => Q .non H', rt := Q } (L2.start N vs) H) : FnOk P w K mg base CX0 (k + 1) f fd ps sp := by
  obtain ⟨oc, od, kV, doc, pm, an, cdv, ct, osl, e, lk, hcd⟩ := F.ex
  subst e
  refine fn_any lk hcd S len fun A outer s H vs Q E hr q => ?_
  obtain ⟨t, h1, h2⟩ := hbody cdv A outer s H vs Q E hr q
  exact ⟨t, h1.nox, h2⟩
theorem funOkX {x qual : Str} {st : Stmt} (F : Fun K x qual st f fd) (S : FnScope N ps (defScope st)) (len : ∀ vs H Q E, sp vs H Q E → vs.length = ps.length)
    (hbody : ∀ (cdv : Value) (A : Around) (outer : List Env) (s : Shared) (H : Hp) (vs : List V) (Q : VK) (E : XK), Room k (A.deeper (envOfC qual (defScope st) s.heap.objs.size f cdv)) → sp vs H Q E →
      ∃ t, PSs (cxOf CX P w K mg base N qual (defScope st) f cdv A outer s H E) (defBody st) t ∧ t { nx := fun _ H' => Q .non H', rt := Q } (L2.start N vs) H) : FnOk P w K mg base CX (k + 1) f fd ps sp := by
  obtain ⟨oc, od, kV, doc, pm, an, cdv, ct, osl, e, lk, hcd⟩ := F.ex
  subst e
  exact fn_any lk hcd S len fun A outer s H vs Q E hr q => hbody cdv A outer s H vs Q E hr q
theorem funDOk {x qual : Str} {params : Arguments} {body : List Stmt} {scope : Scope} {dvs : List V} {kws : List (Str × V)} (F : FunD K x qual params body scope dvs kws f fd) (S : FnScope N ps scope) (len : ∀ vs H Q E, sp vs H Q E → vs.length = ps.length)
    (hbody : ∀ (cdv : Value) (A : Around) (outer : List Env) (s : Shared) (H : Hp) (vs : List V) (Q : VK) (E : XK), Room k (A.deeper (envOfC qual scope s.heap.objs.size f cdv)) → sp vs H Q E →
      ∃ t, PSs (cxOf CX P w K mg base N qual scope f cdv A outer s H E) body t ∧ t { nx := fun _ H' => Q .non H', rt := Q } (L2.start N vs) H) : FnOk P w K mg base CX (k + 1) f fd ps sp := by
  obtain ⟨oc, od, dV, kV, doc, pm, an, cdv, ct, osl, e, lk, hcd, _, _⟩ := F.ex
  subst e
  exact fn_any lk hcd S len fun A outer s H vs Q E hr q => hbody cdv A outer s H vs Q E hr q
end
/-! ### calls of such defs -/
section
variable {X : Cx} {CX : CXT} {k : Nat} {f : Addr} {fd : FuncData} {ps : List Str} {sp : Sp} {ds : List Value} {dvs : List V} {E : XK} {pins : List (Addr × Obj)} {σ : L2.St} {H : Hp} {s : Shared} {x : Str} {p pos : Pos} {e : Expr} {es : List Expr} {t : TA}
theorem fn_run {us : List Value} {vs : List V} {Q : VK} (F : FnOk X.prog X.w X.K X.mg X.base CX k f fd ps sp) (hr : Room k X.A) (hb : Binds X.K fd ps ds) (hd : Vals dvs ds) (hx : Passes CX X E) (I : Inv X pins σ H s) (r : Vals vs us)
    (h : sp (vs ++ dvs) H Q E) : wpAny (model X.prog X.w) X.A (call (.ref f) us) (EP X pins σ Q) X.xe s := by
  have r2 := r.append hd
  have hl : (us ++ ds).length = ps.length := r2.length.symm.trans (F.len _ _ _ _ h)
  refine wpAny_call (codeAny_mono (F.run X.A X.stack s H ⟨us, []⟩ (us ++ ds) (vs ++ dvs) Q E hr I.env0 (hb s us I.kIn hl) r2 h) fun res s' hq => ?_)
  cases res with
  | error er => exact hx pins σ H s er s' I hq
  | ok fl =>
    cases fl with
    | ret u => exact I.after hq
    | next => exact hq.elim
    | brk => exact hq.elim
    | cont => exact hq.elim
theorem pe_callG (F : FnOk X.prog X.w X.K X.mg X.base CX k f fd ps sp) (hr : Room k X.A) (hg : Gl X x) (hm : X.mg x = some (.ref f)) (hk : PySem.W.keepIn X.K (.ref f) = true) (hb : Binds X.K fd ps ds) (hd : Vals dvs ds)
    (hx : Passes CX X E) (ha : PA X (e :: es) t) (hdb : (x == ("__debug__" : Str)) = false) (he : starEach (e :: es) X.env = (false, eval e X.env) :: starEach es X.env) (hpl : (backTo pos (starEach es X.env)).any (·.1) = false) :
    PE X (.Call (.Name x p) (e :: es) [] pos) (tCall sp dvs E t) := by
  refine ⟨fun pins s σ H Q I h => wpAny_Call_Name_kw (ld_glob I hg hm ?_ hdb)⟩
  exact PySem.W.callWith_K (h₀ := X.base) I.ok.mod.kin hk (thn (ha.run pos pins s σ H _ I h) fun us s1 ⟨vs, H1, I1, r, q⟩ => ⟨I1.kIn, fn_run F hr hb hd hx I1 r q⟩) he hpl
theorem pe_callG0 (F : FnOk X.prog X.w X.K X.mg X.base CX k f fd ps sp) (hr : Room k X.A) (hg : Gl X x) (hm : X.mg x = some (.ref f)) (hk : PySem.W.keepIn X.K (.ref f) = true) (hb : Binds X.K fd ps ds) (hd : Vals dvs ds)
    (hx : Passes CX X E) (hdb : (x == ("__debug__" : Str)) = false) : PE X (.Call (.Name x p) [] [] pos) (tCall sp dvs E tNil) := by
  refine ⟨fun pins s σ H Q I h => wpAny_Call_Name_kw (ld_glob I hg hm ?_ hdb)⟩
  exact PySem.W.callWith_K0 I.kIn hk (fn_run (us := []) F hr hb hd hx I .nil h)
end
end G
/-! data trees over the abstract heap: what never changes again is a tree, what changes is a cell -/
namespace G
open PySem PySem.Spec PyProof.Rows L2

inductive D where
  | non
  | bl (b : Bool)
  | int (i : Int)
  | str (l : List Nat)
  | ref (a : Addr)
  | ty (n : String)
  | cls (c : String)
  | tup (ds : List D)
  | lst (ds : List D)
  | rol (ds : List D)
  | dic (kvs : List (Key × D))
  | dct (kvs : List (List Key × D))
  | ins (c : String) (fs : List (Str × D))

/-- the classes' addresses, by name -/
abbrev Nm := String → Addr

section
variable (K : PySem.W.Frag) (cl : Nm) (F : Hp)
mutual
inductive Rep : V → D → Prop
  | non : Rep .non .non
  | bl (b : Bool) : Rep (.bl b) (.bl b)
  | int (i : Int) : Rep (.int i) (.int i)
  | str (l : List Nat) : Rep (.str ⟨l.toArray⟩) (.str l)
  | ref (a : Addr) : Rep (.ref a) (.ref a)
  | ty (n : String) : Rep (.ty n) (.ty n)
  | cls (c : String) : Rep (.ref (cl c)) (.cls c)
  | tup {a : Addr} {xs : List V} {ds : List D} : SqT K F a xs → RepL xs ds → Rep (.ref a) (.tup ds)
  | lst {a : Addr} {xs : List V} {ds : List D} : F a = some (.lst xs) → RepL xs ds → Rep (.ref a) (.lst ds)
  | rol {a : Addr} {xs : List V} {ds : List D} : SqL K F a xs → RepL xs ds → Rep (.ref a) (.rol ds)
  | dic {a : Addr} {kvs : List (Key × V)} {ds : List (Key × D)} : Rd F a (.dK kvs) → RepK kvs ds → Rep (.ref a) (.dic ds)
  | dct {a : Addr} {kvs : List (List Key × V)} {ds : List (List Key × D)} : F a = some (.dT kvs) → RepT kvs ds → Rep (.ref a) (.dct ds)
  | ins {a dx : Addr} {c : String} {fs : List (Str × V)} {ds : List (Str × D)} : F a = some (.ins (cl c) dx fs) → RepF fs ds → Rep (.ref a) (.ins c ds)
inductive RepL : List V → List D → Prop
  | nil : RepL [] []
  | cons {v : V} {d : D} {vs : List V} {ds : List D} : Rep v d → RepL vs ds → RepL (v :: vs) (d :: ds)
inductive RepK : List (Key × V) → List (Key × D) → Prop
  | nil : RepK [] []
  | cons {k : Key} {v : V} {d : D} {vs : List (Key × V)} {ds : List (Key × D)} : Rep v d → RepK vs ds → RepK ((k, v) :: vs) ((k, d) :: ds)
inductive RepT : List (List Key × V) → List (List Key × D) → Prop
  | nil : RepT [] []
  | cons {k : List Key} {v : V} {d : D} {vs : List (List Key × V)} {ds : List (List Key × D)} : Rep v d → RepT vs ds → RepT ((k, v) :: vs) ((k, d) :: ds)
inductive RepF : List (Str × V) → List (Str × D) → Prop
  | nil : RepF [] []
  | cons {k : Str} {v : V} {d : D} {vs : List (Str × V)} {ds : List (Str × D)} : Rep v d → RepF vs ds → RepF ((k, v) :: vs) ((k, d) :: ds)
end
end

theorem rd_mono {F F' : Hp} {a : Addr} {u : HO} (s : Same F F') (h : Rd F a u) : Rd F' a u := h.elim (fun h => .inl (s _ _ h)) fun ⟨o, h⟩ => .inr ⟨o, s _ _ h⟩
theorem sqT_mono {K : PySem.W.Frag} {F F' : Hp} {a : Addr} {xs : List V} (e : Same F F') (h : SqT K F a xs) : SqT K F' a xs := by
  rcases h with (h | ⟨o, h⟩) | h
  · exact .inl (.inl (e _ _ h))
  · exact .inl (.inr ⟨o, e _ _ h⟩)
  · exact .inr h

section
variable {K : PySem.W.Frag} {cl : Nm} {F F' : Hp}
mutual
theorem Rep.mono (s : Same F F') : ∀ {v : V} {d : D}, Rep K cl F v d → Rep K cl F' v d
  | _, _, .non => .non
  | _, _, .bl b => .bl b
  | _, _, .int i => .int i
  | _, _, .str x => .str x
  | _, _, .ref a => .ref a
  | _, _, .ty n => .ty n
  | _, _, .cls c => .cls c
  | _, _, .tup h r => .tup (sqT_mono s h) (RepL.mono s r)
  | _, _, .lst h r => .lst (s _ _ h) (RepL.mono s r)
  | _, _, .rol h r => .rol (s.seq h) (RepL.mono s r)
  | _, _, .dic h r => .dic (rd_mono s h) (RepK.mono s r)
  | _, _, .dct h r => .dct (s _ _ h) (RepT.mono s r)
  | _, _, .ins h r => .ins (s _ _ h) (RepF.mono s r)
theorem RepL.mono (s : Same F F') : ∀ {vs : List V} {ds : List D}, RepL K cl F vs ds → RepL K cl F' vs ds
  | _, _, .nil => .nil
  | _, _, .cons h r => .cons (Rep.mono s h) (RepL.mono s r)
theorem RepK.mono (s : Same F F') : ∀ {vs : List (Key × V)} {ds : List (Key × D)}, RepK K cl F vs ds → RepK K cl F' vs ds
  | _, _, .nil => .nil
  | _, _, .cons h r => .cons (Rep.mono s h) (RepK.mono s r)
theorem RepT.mono (s : Same F F') : ∀ {vs : List (List Key × V)} {ds : List (List Key × D)}, RepT K cl F vs ds → RepT K cl F' vs ds
  | _, _, .nil => .nil
  | _, _, .cons h r => .cons (Rep.mono s h) (RepT.mono s r)
theorem RepF.mono (s : Same F F') : ∀ {vs : List (Str × V)} {ds : List (Str × D)}, RepF K cl F vs ds → RepF K cl F' vs ds
  | _, _, .nil => .nil
  | _, _, .cons h r => .cons (Rep.mono s h) (RepF.mono s r)
end
theorem RepL.length : ∀ {vs : List V} {ds : List D}, RepL K cl F vs ds → vs.length = ds.length
  | _, _, .nil => rfl
  | _, _, .cons _ r => congrArg (· + 1) (RepL.length r)
theorem RepL.get : ∀ {vs : List V} {ds : List D} {i : Nat} {d : D}, RepL K cl F vs ds → ds[i]? = some d → ∃ v, vs[i]? = some v ∧ Rep K cl F v d
  | _, _, _, _, .nil, e => by simp at e
  | _, _, 0, _, .cons h _, e => by simp at e; subst e; exact ⟨_, rfl, h⟩
  | _, _, i + 1, d, .cons _ r, e => by
    obtain ⟨v, h1, h2⟩ := RepL.get (i := i) (d := d) r (by simpa using e)
    exact ⟨v, by simpa using h1, h2⟩
theorem RepL.append : ∀ {vs ws : List V} {ds es : List D}, RepL K cl F vs ds → RepL K cl F ws es → RepL K cl F (vs ++ ws) (ds ++ es)
  | _, _, _, _, .nil, s => s
  | _, _, _, _, .cons r t, s => .cons r (RepL.append t s)
theorem RepL.take : ∀ {vs : List V} {ds : List D} (n : Nat), RepL K cl F vs ds → RepL K cl F (vs.take n) (ds.take n)
  | _, _, 0, _ => .nil
  | _, _, _ + 1, .nil => .nil
  | _, _, n + 1, .cons r t => .cons r (RepL.take n t)
theorem RepL.drop : ∀ {vs : List V} {ds : List D} (n : Nat), RepL K cl F vs ds → RepL K cl F (vs.drop n) (ds.drop n)
  | _, _, 0, r => r
  | _, _, _ + 1, .nil => .nil
  | _, _, n + 1, .cons _ t => RepL.drop n t
theorem RepL.set {v : V} {d : D} (h : Rep K cl F v d) : ∀ {vs : List V} {ds : List D} (i : Nat), RepL K cl F vs ds → RepL K cl F (vs.set i v) (ds.set i d)
  | _, _, _, .nil => .nil
  | _, _, 0, .cons _ t => .cons h t
  | _, _, i + 1, .cons q t => .cons q (RepL.set h i t)
theorem RepL.reverse : ∀ {vs : List V} {ds : List D}, RepL K cl F vs ds → RepL K cl F vs.reverse ds.reverse
  | _, _, .nil => .nil
  | _, _, .cons r t => by
    rw [List.reverse_cons, List.reverse_cons]
    exact (RepL.reverse t).append (.cons r .nil)
theorem RepF.get : ∀ {vs : List (Str × V)} {ds : List (Str × D)} {f : Str} {d : D}, RepF K cl F vs ds → ds.lookup f = some d → ∃ v, vs.lookup f = some v ∧ Rep K cl F v d
  | _, _, _, _, .nil, e => by simp at e
  | _, _, f, d, .cons (k := k) h r, e => by
    by_cases c : f = k
    · subst c
      rw [List.lookup_cons_self] at e
      cases e
      exact ⟨_, List.lookup_cons_self, h⟩
    · have c' : (f == k) = false := by simpa using c
      rw [List.lookup_cons, c'] at e
      obtain ⟨v, h1, h2⟩ := RepF.get r e
      exact ⟨v, by rw [List.lookup_cons, c']; exact h1, h2⟩
end

/-! ### cells -/
inductive Cell where
  | lst (ds : List D)
  | dic (kvs : List (Key × D))
  | dct (kvs : List (List Key × D))
  | ins (c : String) (fs : List (Str × D))
  /-- a table of the code objects of lambdas of this name -/
  | tbl (q : String)
abbrev Cl := Addr → Option Cell
def updC (C : Cl) (a : Addr) (c : Cell) : Cl := fun b => if b = a then some c else C b
theorem updC_same {C : Cl} {a : Addr} {c : Cell} : updC C a c a = some c := by unfold updC; rw [if_pos rfl]
theorem updC_ne {C : Cl} {a b : Addr} {c : Cell} (h : b ≠ a) : updC C a c b = C b := by unfold updC; rw [if_neg h]
theorem updC_updC {C : Cl} {a : Addr} {c c' : Cell} : updC (updC C a c) a c' = updC C a c' := by
  funext b; unfold updC; split <;> rfl
def delC (C : Cl) (a : Addr) : Cl := fun b => if b = a then none else C b
def SubC (C C' : Cl) : Prop := ∀ a c, C a = some c → C' a = some c
theorem SubC.refl (C : Cl) : SubC C C := fun _ _ h => h
theorem SubC.trans {A B C : Cl} (h : SubC A B) (k : SubC B C) : SubC A C := fun a c e => k a c (h a c e)
theorem SubC.new {C C' : Cl} {p : Addr} {c : Cell} (h : SubC C C') (e : C p = none) : SubC C (updC C' p c) := fun a x q => by
  by_cases z : a = p
  · subst z; rw [e] at q; cases q
  · rw [updC_ne z]; exact h a x q

inductive CRep (K : PySem.W.Frag) (cl : Nm) (F : Hp) : HO → Cell → Prop
  | lst {xs : List V} {ds : List D} : RepL K cl F xs ds → CRep K cl F (.lst xs) (.lst ds)
  | dic {kvs : List (Key × V)} {ds : List (Key × D)} : RepK K cl F kvs ds → CRep K cl F (.dK kvs) (.dic ds)
  | dct {kvs : List (List Key × V)} {ds : List (List Key × D)} : RepT K cl F kvs ds → CRep K cl F (.dT kvs) (.dct ds)
  | ins {c : String} {dx : Addr} {fs : List (Str × V)} {ds : List (Str × D)} : RepF K cl F fs ds → CRep K cl F (.ins (cl c) dx fs) (.ins c ds)
  | tbl {ps : Array Value} {q : String} : TriplesOk ps.toList → (∀ (pos : Pos) (cv : Value), codeAmong pos ps.toList = some cv → ∃ c, cv = .ref c ∧ F c = some (LamX.CodeO c q)) → CRep K cl F (.tbl ps) (.tbl q)
theorem CRep.mono {K : PySem.W.Frag} {cl : Nm} {F F' : Hp} {o : HO} {c : Cell} (s : Same F F') : CRep K cl F o c → CRep K cl F' o c
  | .lst r => .lst (r.mono s)
  | .dic r => .dic (r.mono s)
  | .dct r => .dct (r.mono s)
  | .ins r => .ins (r.mono s)
  | .tbl t h => .tbl t fun pos cv e => let ⟨c, e1, e2⟩ := h pos cv e; ⟨c, e1, s _ _ e2⟩

structure RC (K : PySem.W.Frag) (cl : Nm) (C : Cl) (F H : Hp) : Prop where
  sub : Same F H
  cel : ∀ a c, C a = some c → F a = none ∧ ∃ o, H a = some o ∧ CRep K cl F o c
  tab : ∀ a q, C a = some (.tbl q) → a = cl q
section
variable {K : PySem.W.Frag} {cl : Nm} {C C' : Cl} {F F' H H' : Hp}
theorem same_upd {H : Hp} {p : Addr} {o : HO} (h : H p = none) : Same H (upd H p o) := fun b x e => by
  rw [upd_ne (ne_of_none e h)]
  exact e
theorem RC.freeF (R : RC K cl C F H) {p : Addr} (h : H p = none) : F p = none := R.sub.free h
theorem RC.freeC (R : RC K cl C F H) {p : Addr} (h : H p = none) : C p = none := by
  cases e : C p with
  | none => rfl
  | some c =>
    obtain ⟨_, o, q, _⟩ := R.cel p c e
    rw [h] at q; cases q
/-- a new tree -/
theorem RC.new (R : RC K cl C F H) {p : Addr} {o : HO} (h : H p = none) : RC K cl C (upd F p o) (upd H p o) where
  sub := fun b x e => by
    by_cases z : b = p
    · subst z; rw [upd_same] at e ⊢; exact e
    · rw [upd_ne z] at e ⊢; exact R.sub b x e
  cel := fun a c e => by
    obtain ⟨f, x, hx, r⟩ := R.cel a c e
    have z : a ≠ p := ne_of_none hx h
    exact ⟨by rw [upd_ne z]; exact f, x, by rw [upd_ne z]; exact hx, r.mono (same_upd (R.freeF h))⟩
  tab := R.tab
/-- a new thing that is not looked at again -/
theorem RC.over (R : RC K cl C F H) (s : Same H H') : RC K cl C F H' where
  sub := R.sub.trans s
  cel := fun a c e => by
    obtain ⟨f, x, hx, r⟩ := R.cel a c e
    exact ⟨f, x, s _ _ hx, r⟩
  tab := R.tab
/-- a new cell -/
theorem RC.cell (R : RC K cl C F H) {p : Addr} {o : HO} {c : Cell} (h : H p = none) (r : CRep K cl F o c) (ht : ∀ q, c = .tbl q → p = cl q := by nofun) : RC K cl (updC C p c) F (upd H p o) where
  sub := R.sub.trans (same_upd h)
  cel := fun a x e => by
    by_cases z : a = p
    · subst z
      rw [updC_same] at e; cases e
      exact ⟨R.freeF h, o, upd_same, r⟩
    · rw [updC_ne z] at e
      obtain ⟨f, x', hx, r'⟩ := R.cel a x e
      exact ⟨f, x', by rw [upd_ne z]; exact hx, r'⟩
  tab := fun a q e => by
    by_cases z : a = p
    · subst z
      rw [updC_same] at e; cases e
      exact ht q rfl
    · rw [updC_ne z] at e
      exact R.tab a q e
/-- a cell is written -/
theorem RC.put (R : RC K cl C F H) {p : Addr} {o : HO} {c c0 : Cell} (h : C p = some c0) (r : CRep K cl F o c) (ht : ∀ q, c = .tbl q → p = cl q := by nofun) : RC K cl (updC C p c) F (upd H p o) where
  sub := fun b x e => by
    have z : b ≠ p := ne_of_none e (R.cel p c0 h).1
    rw [upd_ne z]; exact R.sub b x e
  cel := fun a x e => by
    by_cases z : a = p
    · subst z
      rw [updC_same] at e; cases e
      exact ⟨(R.cel a c0 h).1, o, upd_same, r⟩
    · rw [updC_ne z] at e
      obtain ⟨f, x', hx, r'⟩ := R.cel a x e
      exact ⟨f, x', by rw [upd_ne z]; exact hx, r'⟩
  tab := fun a q e => by
    by_cases z : a = p
    · subst z
      rw [updC_same] at e; cases e
      exact ht q rfl
    · rw [updC_ne z] at e
      exact R.tab a q e
/-- cells are forgotten -/
theorem RC.drop (R : RC K cl C F H) (s : SubC C' C) : RC K cl C' F H := ⟨R.sub, fun a c e => R.cel a c (s a c e), fun a q e => R.tab a q (s a _ e)⟩
/-- a cell becomes a tree -/
theorem RC.freeze (R : RC K cl C F H) {p : Addr} {o : HO} {c : Cell} (h : C p = some c) (ho : H p = some o) : RC K cl (delC C p) (upd F p o) H ∧ Same F (upd F p o) := by
  have f := (R.cel p c h).1
  refine ⟨⟨fun b x e => ?_, fun a x e => ?_, fun a q e => ?_⟩, same_upd f⟩
  · by_cases z : b = p
    · subst z; rw [upd_same] at e; rw [← e]; exact ho
    · rw [upd_ne z] at e; exact R.sub b x e
  · unfold delC at e
    by_cases z : a = p
    · rw [if_pos z] at e; cases e
    · rw [if_neg z] at e
      obtain ⟨f', x', hx, r'⟩ := R.cel a x e
      exact ⟨by rw [upd_ne z]; exact f', x', hx, r'.mono (same_upd f)⟩
  · unfold delC at e
    by_cases z : a = p
    · rw [if_pos z] at e; cases e
    · rw [if_neg z] at e
      exact R.tab a q e
end

/-- the classes' addresses, and the trees that stood at the start -/
structure NmB where
  f : Nm
  bs : Hp
instance : Coe NmB Nm := ⟨NmB.f⟩
instance : CoeFun NmB (fun _ => String → Addr) := ⟨NmB.f⟩
abbrev nb (cl : Nm) : NmB := ⟨cl, fun _ => none⟩
/-! ### slots -/
abbrev DEnv := List (Option D)
structure RS (K : PySem.W.Frag) (cl : NmB) (ρ : DEnv) (C : Cl) (F : Hp) (σ : L2.St) (H : Hp) : Prop where
  rc : RC K cl C F H
  len : ρ.length = σ.length
  env : ∀ (i : Nat) (d : D), ρ[i]? = some (some d) → ∃ v, σ[i]? = some (some v) ∧ Rep K cl F v d
  bs : Same cl.bs F
section
variable {K : PySem.W.Frag} {cl : NmB} {C C' : Cl} {F F' H H' : Hp} {ρ : DEnv} {σ : L2.St}
theorem RS.next (R : RS K cl ρ C F σ H) (s : Same F F') (r : RC K cl C' F' H') : RS K cl ρ C' F' σ H' :=
  ⟨r, R.len, fun i d e => let ⟨v, h1, h2⟩ := R.env i d e; ⟨v, h1, h2.mono s⟩, R.bs.trans s⟩
theorem RS.set (R : RS K cl ρ C F σ H) {v : V} {d : D} (i : Nat) (h : Rep K cl F v d) : RS K cl (ρ.set i (some d)) C F (σ.set i (some v)) H where
  rc := R.rc
  bs := R.bs
  len := by rw [List.length_set, List.length_set]; exact R.len
  env := fun j e q => by
    by_cases z : i = j
    · subst z
      have hl : i < ρ.length := by
        have := (List.getElem?_eq_some_iff.mp q).1
        simpa using this
      rw [List.getElem?_set_self hl] at q
      cases q
      exact ⟨v, List.getElem?_set_self (by rw [← R.len]; exact hl), h⟩
    · rw [List.getElem?_set_ne z] at q
      obtain ⟨u, h1, h2⟩ := R.env j e q
      exact ⟨u, by rw [List.getElem?_set_ne z]; exact h1, h2⟩
theorem RS.unset (R : RS K cl ρ C F σ H) (i : Nat) {x : Option V} : RS K cl (ρ.set i none) C F (σ.set i x) H where
  rc := R.rc
  bs := R.bs
  len := by rw [List.length_set, List.length_set]; exact R.len
  env := fun j e q => by
    by_cases z : i = j
    · subst z
      by_cases hl : i < ρ.length
      · rw [List.getElem?_set_self hl] at q
        cases q
      · rw [List.getElem?_eq_none (by simpa using hl)] at q; cases q
    · rw [List.getElem?_set_ne z] at q
      obtain ⟨u, h1, h2⟩ := R.env j e q
      exact ⟨u, by rw [List.getElem?_set_ne z]; exact h1, h2⟩
end
theorem szl {n : Nat} (h : n ≤ 16000000) : n ≤ sizeLine := Nat.le_trans h (by rw [sizeLine_eq]; decide)
end G
namespace G
open PySem PySem.Spec PyProof.Rows L2

abbrev DQ := D → Cl → Prop
abbrev DE := DEnv → Cl → DQ → Prop
abbrev DT := DEnv → Cl → (Bool → Cl → Prop) → Prop
abbrev DA := DEnv → Cl → (List D → Cl → Prop) → Prop
structure DEnds where
  nx : DEnv → Cl → Prop
  rt : DQ
  bk : DEnv → Cl → Prop := fun _ _ => False
  ct : DEnv → Cl → Prop := fun _ _ => False
abbrev DS := DEnds → DEnv → Cl → Prop
/-- an exception's class, its fields -/
abbrev DX := String → List (Str × D) → Cl → Prop
abbrev DSp := List D → Cl → DQ → DX → Prop

section
variable (K : PySem.W.Frag) (cl : Nm)
def Fin (F : Hp) (Qd : DQ) (Q : VK) : Prop := ∀ v d C H F', Same F F' → RC K cl C F' H → Rep K cl F' v d → Qd d C → Q v H
end
section
variable (K : PySem.W.Frag) (cl : NmB)
def lowE (td : DE) : TE := fun σ H Q => ∃ ρ C F Qd, RS K cl ρ C F σ H ∧ td ρ C Qd ∧ Fin K cl F Qd Q
def lowT (td : DT) : TT := fun σ H Q => ∃ ρ C F Qd, RS K cl ρ C F σ H ∧ td ρ C Qd ∧ ∀ b C H F', Same F F' → RC K cl C F' H → Qd b C → Q b H
def lowA (td : DA) : TA := fun σ H Q => ∃ ρ C F Qd, RS K cl ρ C F σ H ∧ td ρ C Qd ∧ ∀ vs ds C H F', Same F F' → RC K cl C F' H → RepL K cl F' vs ds → Qd ds C → Q vs H
structure FinS (F : Hp) (Dd : DEnds) (De : Ends) : Prop where
  nx : ∀ ρ C F' σ H, Same F F' → RS K cl ρ C F' σ H → Dd.nx ρ C → De.nx σ H
  bk : ∀ ρ C F' σ H, Same F F' → RS K cl ρ C F' σ H → Dd.bk ρ C → De.bk σ H
  ct : ∀ ρ C F' σ H, Same F F' → RS K cl ρ C F' σ H → Dd.ct ρ C → De.ct σ H
  rt : ∀ v d C F' H, Same F F' → RC K cl C F' H → Rep K cl F' v d → Dd.rt d C → De.rt v H
def lowS (td : DS) : TS := fun De σ H => ∃ ρ C F Dd, RS K cl ρ C F σ H ∧ td Dd ρ C ∧ FinS K cl F Dd De
end
section
variable (K : PySem.W.Frag) (cl : Nm)
/-- an exception of a class of one's own, as it lies -/
def ExcRep (F : Hp) (c : String) (ds : List (Str × D)) (cv : Value) (d : Option Addr) (H : Hp) : Prop := cv = .ref (cl c) ∧ ∃ dd fs, d = some dd ∧ H dd = some (.xd fs) ∧ RepF K cl F fs ds
def FinX (F : Hp) (Ed : DX) (E : XK) : Prop := ∀ c ds cv d C H F', Same F F' → RC K cl C F' H → ExcRep K cl F' c ds cv d H → Ed c ds C → E cv d H
def lowSp (sp : DSp) : Sp := fun vs H Q E => ∃ ds C F Qd Ed, RC K cl C F H ∧ RepL K cl F vs ds ∧ sp ds C Qd Ed ∧ Fin K cl F Qd Q ∧ FinX K cl F Ed E
end

section
variable {K : PySem.W.Frag} {cl : Nm} {F F' : Hp}
theorem Fin.at {Qd : DQ} {Q : VK} (k : Fin K cl F Qd Q) (s : Same F F') : Fin K cl F' Qd Q := fun v d C H F2 s2 => k v d C H F2 (s.trans s2)
theorem FinX.at {Ed : DX} {E : XK} (k : FinX K cl F Ed E) (s : Same F F') : FinX K cl F' Ed E := fun c ds cv d C H F2 s2 => k c ds cv d C H F2 (s.trans s2)
theorem FinS.at {cl : NmB} {Dd : DEnds} {De : Ends} (k : FinS K cl F Dd De) (s : Same F F') : FinS K cl F' Dd De :=
  ⟨fun ρ C F2 σ H s2 => k.nx ρ C F2 σ H (s.trans s2), fun ρ C F2 σ H s2 => k.bk ρ C F2 σ H (s.trans s2), fun ρ C F2 σ H s2 => k.ct ρ C F2 σ H (s.trans s2), fun v d C F2 H s2 => k.rt v d C F2 H (s.trans s2)⟩
end

/-! ### the judgements -/
abbrev PEd (X : Cx) (cl : NmB) (e : Expr) (t : DE) : Prop := PE X e (lowE X.K cl t)
abbrev PTd (X : Cx) (cl : NmB) (e : Expr) (t : DT) : Prop := PT X e (lowT X.K cl t)
abbrev PAd (X : Cx) (cl : NmB) (es : List Expr) (t : DA) : Prop := PA X es (lowA X.K cl t)
abbrev PSd (X : Cx) (cl : NmB) (st : Stmt) (t : DS) : Prop := PS X st (lowS X.K cl t)
abbrev PSsd (X : Cx) (cl : NmB) (st : List Stmt) (t : DS) : Prop := PSs X st (lowS X.K cl t)

section
variable {X : Cx}
theorem weakE {e : Expr} {t t' : TE} (h : PE X e t) (w : ∀ σ H Q, t' σ H Q → t σ H Q) : PE X e t' := ⟨fun pins s σ H Q I q => h.run pins s σ H Q I (w σ H Q q)⟩
theorem weakT {e : Expr} {t t' : TT} (h : PT X e t) (w : ∀ σ H Q, t' σ H Q → t σ H Q) : PT X e t' := ⟨fun pins s σ H Q I q => h.run pins s σ H Q I (w σ H Q q)⟩
theorem weakW {e : Expr} {t t' : TT} (h : PW X e t) (w : ∀ σ H Q, t' σ H Q → t σ H Q) : PW X e t' := ⟨fun wh pins s σ H Q I q => h.run wh pins s σ H Q I (w σ H Q q)⟩
theorem weakA {e : List Expr} {t t' : TA} (h : PA X e t) (w : ∀ σ H Q, t' σ H Q → t σ H Q) : PA X e t' := ⟨fun p pins s σ H Q I q => h.run p pins s σ H Q I (w σ H Q q)⟩
theorem weakS {e : Stmt} {t t' : TS} (h : PS X e t) (w : ∀ D σ H, t' D σ H → t D σ H) : PS X e t' := ⟨fun pins s σ H D I q => h.run pins s σ H D I (w D σ H q)⟩
theorem weakSs {e : List Stmt} {t t' : TS} (h : PSs X e t) (w : ∀ D σ H, t' D σ H → t D σ H) : PSs X e t' := ⟨fun pins s σ H D I q => h.run pins s σ H D I (w D σ H q)⟩
end

/-! ### names, constants -/
def dVar (i : Nat) : DE := fun ρ C Q => ∃ d, ρ[i]? = some (some d) ∧ Q d C
def dC (d : D) : DE := fun _ C Q => Q d C
section
variable {X : Cx} {cl : NmB} {pos : Pos}
theorem dv (i : Nat) {x : Str} (hN : X.N[i]? = some x := by rfl) (hv : Vis X.env.scope x := by first | exact Or.inl rfl | exact Or.inr (Or.inl rfl) | exact Or.inr (Or.inr rfl)) (hd : (x == ("__debug__" : Str)) = false := by decide)
    (hcd : (x == ("__classdict__" : Str)) = false := by decide) : PEd X cl (.Name x pos) (dVar i) := by
  refine weakE (pv i hN hv hd hcd) fun σ H Q ⟨ρ, C, F, Qd, R, ⟨d, e, q⟩, k⟩ => ?_
  obtain ⟨v, ev, rv⟩ := R.env i d e
  exact ⟨v, ev, k v d C H F (Same.refl F) R.rc rv q⟩
theorem de_const {e : Expr} {v : V} {d : D} (h : PE X e (tC v)) (r : ∀ F, Rep X.K cl F v d) : PEd X cl e (dC d) :=
  weakE h fun σ H Q ⟨ρ, C, F, Qd, R, q, k⟩ => k v d C H F (Same.refl F) R.rc (r F) q
theorem de_int {i j} : PEd X cl (.Constant (.int i) j pos) (dC (.int i)) := de_const pe_int fun _ => .int i
theorem de_bl {b j} : PEd X cl (.Constant (.bool b) j pos) (dC (.bl b)) := de_const pe_bl fun _ => .bl b
theorem de_non {j} : PEd X cl (.Constant .none j pos) (dC .non) := de_const pe_non fun _ => .non
theorem de_str {x : Str} {l : List Nat} {j} (h : x = ⟨l.toArray⟩ := by decide +kernel) : PEd X cl (.Constant (.str x) j pos) (dC (.str l)) := by
  subst h
  exact de_const pe_str fun _ => .str l
theorem de_glob {x : Str} {v : V} {u : Value} {d : D} (hm : X.mg x = some u) (r : RelV v u) (h : ∀ F, Rep X.K cl F v d) (hg : Gl X x := by rfl) (hd : (x == ("__debug__" : Str)) = false := by decide) : PEd X cl (.Name x pos) (dC d) :=
  de_const (pe_glob hg hm r hd) h
theorem de_bltn {x : Str} {v : V} {u : Value} {d : D} (hm : X.mg x = none) (hv : bootBuiltins x = some u) (r : RelV v u) (h : ∀ F, Rep X.K cl F v d) (hg : Gl X x := by rfl) (hn : x ≠ "__name__" := by decide) (hd : (x == ("__debug__" : Str)) = false := by decide) : PEd X cl (.Name x pos) (dC d) :=
  de_const (pe_bltn hg hm hv r hn hd) h
end

/-! ### operators -/
abbrev RD2 := D → D → Cl → DQ → Prop
section
variable (K : PySem.W.Frag) (cl : Nm)
def lowR (rd : RD2) : R2 := fun x y H Q => ∃ dx dy C F Qd, RC K cl C F H ∧ Rep K cl F x dx ∧ Rep K cl F y dy ∧ rd dx dy C Qd ∧ Fin K cl F Qd Q
end
abbrev OpD (X : Cx) (cl : Nm) (f : Value → Value → Sem Value) (rd : RD2) : Prop := OpR X f (lowR X.K cl rd)
def dOp (rd : RD2) (ta tb : DE) : DE := fun ρ C Q => ta ρ C fun x C1 => tb ρ C1 fun y C2 => rd x y C2 Q
section
variable {X : Cx} {cl : NmB} {a b : Expr} {ta tb : DE} {pos : Pos} {K : PySem.W.Frag}
theorem low_op {rd : RD2} {σ : L2.St} {H : Hp} {Q : VK} (h : lowE K cl (dOp rd ta tb) σ H Q) : tOp (lowR K cl rd) (lowE K cl ta) (lowE K cl tb) σ H Q := by
  obtain ⟨ρ, C, F, Qd, R, h, k⟩ := h
  refine ⟨ρ, C, F, _, R, h, fun v d C1 H1 F1 s1 R1 r1 q1 => ?_⟩
  refine ⟨ρ, C1, F1, _, R.next s1 R1, q1, fun w e C2 H2 F2 s2 R2 r2 q2 => ?_⟩
  exact ⟨d, e, C2, F2, Qd, R2, r1.mono s2, r2, q2, k.at (s1.trans s2)⟩
theorem de_op {op : Operator} {rd : RD2} (ho : OpD X cl (binaryOp op) rd) (ha : PEd X cl a ta) (hb : PEd X cl b tb) : PEd X cl (.BinOp a op b pos) (dOp rd ta tb) :=
  weakE (pe_op ho ha hb) fun _ _ _ h => low_op h
theorem de_cmp {op : CmpOp} {rd : RD2} (ho : OpD X cl (compareOp op) rd) (ha : PEd X cl a ta) (hb : PEd X cl b tb) (hm : behindInMarks op b = false) : PEd X cl (.Compare a [op] [b] pos) (dOp rd ta tb) :=
  weakE (pe_cmpR ho ha hb hm) fun _ _ _ h => low_op h
/-- a value that is a truth value, as a test -/
def dTest (t : DE) : DT := fun ρ C Q => t ρ C fun x C1 => ∃ k, x = .bl k ∧ Q k C1
theorem low_test {t : DE} {σ : L2.St} {H : Hp} {Q : Bool → Hp → Prop} (h : lowT K cl (dTest t) σ H Q) : lowE K cl t σ H fun x H1 => ∃ k, x = .bl k ∧ Q k H1 := by
  obtain ⟨ρ, C, F, Qd, R, h, k⟩ := h
  refine ⟨ρ, C, F, _, R, h, fun v d C1 H1 F1 s1 R1 r1 q1 => ?_⟩
  obtain ⟨b, rfl, q⟩ := q1
  cases r1
  exact ⟨b, rfl, k b C1 H1 F1 s1 R1 q⟩
theorem low_test_op {rd : RD2} {σ : L2.St} {H : Hp} {Q : Bool → Hp → Prop} (h : lowT K cl (dTest (dOp rd ta tb)) σ H Q) : tTest (tOp (lowR K cl rd) (lowE K cl ta) (lowE K cl tb)) σ H Q := low_op (low_test h)
theorem dt_cmp {op : CmpOp} {rd : RD2} (ho : OpD X cl (compareOp op) rd) (ha : PEd X cl a ta) (hb : PEd X cl b tb) (hm : behindInMarks op b = false) : PTd X cl (.Compare a [op] [b] pos) (dTest (dOp rd ta tb)) :=
  weakT (pt_cmpR ho ha hb hm) fun _ _ _ h => low_test_op h
theorem dt_val {e : Expr} {t : DE} (h : PEd X cl e t) (he : ∀ whole, isTrue e X.env whole = (do let v ← whole; standAt e.pos; holding [v] (truthy v)) := by intro _; rfl) : PTd X cl e (dTest t) :=
  weakT (pt_val h he) fun _ _ _ h => low_test h
/-- a op b op c -/
def dChain (r r' : RD2) (ta tb tc : DE) : DE := fun ρ C Q => ta ρ C fun x C1 => tb ρ C1 fun y C2 => r x y C2 fun z C3 => ∃ k, z = .bl k ∧ if k = true then tc ρ C3 fun w C4 => r' y w C4 Q else Q (.bl false) C3
variable {c : Expr} {tc : DE}
theorem low_chain {r r' : RD2} {σ : L2.St} {H : Hp} {Q : VK} (h : lowE K cl (dChain r r' ta tb tc) σ H Q) : tChain (lowR K cl r) (lowR K cl r') (lowE K cl ta) (lowE K cl tb) (lowE K cl tc) σ H Q := by
  obtain ⟨ρ, C, F, Qd, R, h, k⟩ := h
  refine ⟨ρ, C, F, _, R, h, fun v d C1 H1 F1 s1 R1 r1 q1 => ?_⟩
  refine ⟨ρ, C1, F1, _, R.next s1 R1, q1, fun w e C2 H2 F2 s2 R2 r2 q2 => ?_⟩
  refine ⟨d, e, C2, F2, _, R2, r1.mono s2, r2, q2, fun z dz C3 H3 F3 s3 R3 r3 q3 => ?_⟩
  obtain ⟨kk, rfl, q3⟩ := q3
  cases r3
  refine ⟨kk, rfl, ?_⟩
  cases kk with
  | true =>
    rw [if_pos rfl] at q3 ⊢
    refine ⟨ρ, C3, F3, _, R.next (s1.trans (s2.trans s3)) R3, q3, fun u du C4 H4 F4 s4 R4 r4 q4 => ?_⟩
    exact ⟨e, du, C4, F4, Qd, R4, r2.mono (s3.trans s4), r4, q4, k.at (s1.trans (s2.trans (s3.trans s4)))⟩
  | false =>
    rw [if_neg Bool.false_ne_true] at q3 ⊢
    exact k (.bl false) (.bl false) C3 H3 F3 (s1.trans (s2.trans s3)) R3 (.bl false) q3
theorem de_chain {op op' : CmpOp} {r r' : RD2} (ho : OpD X cl (compareOp op) r) (ho' : OpD X cl (compareOp op') r') (ha : PEd X cl a ta) (hb : PEd X cl b tb) (hc : PEd X cl c tc) (hm : lastMarks [op, op'] [b, c] = false := by with_unfolding_all rfl) : PEd X cl (.Compare a [op, op'] [b, c] pos) (dChain r r' ta tb tc) :=
  weakE (pe_chain ho ho' ha hb hc hm) fun _ _ _ h => low_chain h
theorem dt_chain {op op' : CmpOp} {r r' : RD2} (ho : OpD X cl (compareOp op) r) (ho' : OpD X cl (compareOp op') r') (ha : PEd X cl a ta) (hb : PEd X cl b tb) (hc : PEd X cl c tc) (hm : lastMarks [op, op'] [b, c] = false := by with_unfolding_all rfl) : PTd X cl (.Compare a [op, op'] [b, c] pos) (dTest (dChain r r' ta tb tc)) :=
  weakT (pt_chain ho ho' ha hb hc hm) fun _ _ _ h => low_chain (low_test h)
/-- one-place operators -/
abbrev RD1 := D → Cl → DQ → Prop
def lowR1 (K : PySem.W.Frag) (cl : Nm) (rd : RD1) : V → Hp → VK → Prop := fun x H Q => ∃ dx C F Qd, RC K cl C F H ∧ Rep K cl F x dx ∧ rd dx C Qd ∧ Fin K cl F Qd Q
def dUn (rd : RD1) (ta : DE) : DE := fun ρ C Q => ta ρ C fun x C1 => rd x C1 Q
theorem low_un {rd : RD1} {σ : L2.St} {H : Hp} {Q : VK} (h : lowE K cl (dUn rd ta) σ H Q) : tUn (lowR1 K cl rd) (lowE K cl ta) σ H Q := by
  obtain ⟨ρ, C, F, Qd, R, h, k⟩ := h
  exact ⟨ρ, C, F, _, R, h, fun v d C1 H1 F1 s1 R1 r1 q1 => ⟨d, C1, F1, Qd, R1, r1, q1, k.at s1⟩⟩
theorem de_un {op : UnaryOp} {rd : RD1} (ho : UnR X (unaryOp op) (lowR1 X.K cl rd)) (ha : PEd X cl a ta) : PEd X cl (.UnaryOp op a pos) (dUn rd ta) :=
  weakE (pe_un ho ha) fun _ _ _ h => low_un h
end

/-! ### and, or, not, if -/
section
variable {X : Cx} {cl : NmB} {a b : Expr} {rest : List Expr} {ta tb : DE} {tA tB : DT} {pos : Pos} {K : PySem.W.Frag}
def dAnd (t u : DT) : DT := fun ρ C Q => t ρ C fun c C1 => if c = true then u ρ C1 Q else Q false C1
def dOr (t u : DT) : DT := fun ρ C Q => t ρ C fun c C1 => if c = true then Q true C1 else u ρ C1 Q
def dNot (t : DT) : DT := fun ρ C Q => t ρ C fun c C1 => Q (!c) C1
abbrev PWd (X : Cx) (cl : NmB) (e : Expr) (t : DT) : Prop := PW X e (lowT X.K cl t)
theorem dw_and1 (h : PTd X cl a tA) : PWd X cl (.BoolOp .And [a] pos) tA := pw_and1 h
theorem dw_or1 (h : PTd X cl a tA) : PWd X cl (.BoolOp .Or [a] pos) tA := pw_or1 h
theorem dw_and (ha : PTd X cl a tA) (hb : PWd X cl (.BoolOp .And (b :: rest) pos) tB) : PWd X cl (.BoolOp .And (a :: b :: rest) pos) (dAnd tA tB) := by
  refine weakW (pw_and ha hb) fun σ H Q ⟨ρ, C, F, Qd, R, h, k⟩ => ?_
  refine ⟨ρ, C, F, _, R, h, fun c C1 H1 F1 s1 R1 q1 => ?_⟩
  cases c with
  | true =>
    rw [if_pos rfl] at q1 ⊢
    exact ⟨ρ, C1, F1, Qd, R.next s1 R1, q1, fun b C2 H2 F2 s2 => k b C2 H2 F2 (s1.trans s2)⟩
  | false =>
    rw [if_neg Bool.false_ne_true] at q1 ⊢
    exact k false C1 H1 F1 s1 R1 q1
theorem dw_or (ha : PTd X cl a tA) (hb : PWd X cl (.BoolOp .Or (b :: rest) pos) tB) : PWd X cl (.BoolOp .Or (a :: b :: rest) pos) (dOr tA tB) := by
  refine weakW (pw_or ha hb) fun σ H Q ⟨ρ, C, F, Qd, R, h, k⟩ => ?_
  refine ⟨ρ, C, F, _, R, h, fun c C1 H1 F1 s1 R1 q1 => ?_⟩
  cases c with
  | true =>
    rw [if_pos rfl] at q1 ⊢
    exact k true C1 H1 F1 s1 R1 q1
  | false =>
    rw [if_neg Bool.false_ne_true] at q1 ⊢
    exact ⟨ρ, C1, F1, Qd, R.next s1 R1, q1, fun b C2 H2 F2 s2 => k b C2 H2 F2 (s1.trans s2)⟩
theorem dt_not (h : PTd X cl a tA) : PTd X cl (.UnaryOp .Not a pos) (dNot tA) := by
  refine weakT (pt_not h) fun σ H Q ⟨ρ, C, F, Qd, R, h, k⟩ => ?_
  exact ⟨ρ, C, F, _, R, h, fun c C1 H1 F1 s1 R1 q1 => k _ C1 H1 F1 s1 R1 q1⟩
/-- as values, all but the last a truth value -/
def dAndV (ta tb : DE) : DE := fun ρ C Q => ta ρ C fun x C1 => ∃ c, x = .bl c ∧ if c = true then tb ρ C1 Q else Q (.bl false) C1
def dOrV (ta tb : DE) : DE := fun ρ C Q => ta ρ C fun x C1 => ∃ c, x = .bl c ∧ if c = true then Q (.bl true) C1 else tb ρ C1 Q
def dNotV (ta : DE) : DE := fun ρ C Q => ta ρ C fun x C1 => ∃ c, x = .bl c ∧ Q (.bl (!c)) C1
theorem de_one {op : BoolOp} (h : PEd X cl a ta) : PEd X cl (.BoolOp op [a] pos) ta := pe_one h
theorem de_and (ha : PEd X cl a ta) (hb : PEd X cl (.BoolOp .And (b :: rest) pos) tb) : PEd X cl (.BoolOp .And (a :: b :: rest) pos) (dAndV ta tb) := by
  refine weakE (pe_and ha hb) fun σ H Q ⟨ρ, C, F, Qd, R, h, k⟩ => ?_
  refine ⟨ρ, C, F, _, R, h, fun v d C1 H1 F1 s1 R1 r1 q1 => ?_⟩
  obtain ⟨c, rfl, q1⟩ := q1
  cases r1
  refine ⟨c, rfl, ?_⟩
  cases c with
  | true =>
    rw [if_pos rfl] at q1 ⊢
    exact ⟨ρ, C1, F1, Qd, R.next s1 R1, q1, k.at s1⟩
  | false =>
    rw [if_neg Bool.false_ne_true] at q1 ⊢
    exact k _ _ C1 H1 F1 s1 R1 (.bl false) q1
theorem de_not (h : PEd X cl a ta) : PEd X cl (.UnaryOp .Not a pos) (dNotV ta) := by
  refine weakE (pe_not h) fun σ H Q ⟨ρ, C, F, Qd, R, h, k⟩ => ?_
  refine ⟨ρ, C, F, _, R, h, fun v d C1 H1 F1 s1 R1 r1 q1 => ?_⟩
  obtain ⟨c, rfl, q1⟩ := q1
  cases r1
  exact ⟨c, rfl, k _ _ C1 H1 F1 s1 R1 (.bl _) q1⟩
def dIf (t : DT) (ta tb : DE) : DE := fun ρ C Q => t ρ C fun c C1 => if c = true then ta ρ C1 Q else tb ρ C1 Q
theorem de_ifExp {c : Expr} (hc : PTd X cl c tA) (ha : PEd X cl a ta) (hb : PEd X cl b tb) : PEd X cl (.IfExp c a b pos) (dIf tA ta tb) := by
  refine weakE (pe_ifExp hc ha hb) fun σ H Q ⟨ρ, C, F, Qd, R, h, k⟩ => ?_
  refine ⟨ρ, C, F, _, R, h, fun c C1 H1 F1 s1 R1 q1 => ?_⟩
  cases c with
  | true =>
    rw [if_pos rfl] at q1 ⊢
    exact ⟨ρ, C1, F1, Qd, R.next s1 R1, q1, k.at s1⟩
  | false =>
    rw [if_neg Bool.false_ne_true] at q1 ⊢
    exact ⟨ρ, C1, F1, Qd, R.next s1 R1, q1, k.at s1⟩
end

/-! ### arguments, displays -/
def dNil : DA := fun _ C Q => Q [] C
def dCons (ta : DE) (tr : DA) : DA := fun ρ C Q => ta ρ C fun x C1 => tr ρ C1 fun xs C2 => Q (x :: xs) C2
def dTup (t : DA) : DE := fun ρ C Q => t ρ C fun xs C1 => xs.length ≤ sizeLine ∧ Q (.tup xs) C1
def dLst (t : DA) : DE := fun ρ C Q => t ρ C fun xs C1 => xs.length ≤ sizeLine ∧ Q (.lst xs) C1
/-- a list that is to be changed -/
def dLstC (t : DA) : DE := fun ρ C Q => t ρ C fun xs C1 => xs.length ≤ sizeLine ∧ ∀ p, C1 p = none → Q (.ref p) (updC C1 p (.lst xs))
section
variable {X : Cx} {cl : NmB} {e : Expr} {es : List Expr} {te : DE} {t : DA} {pos : Pos} {K : PySem.W.Frag}
theorem da_nil : PAd X cl [] dNil := weakA pa_nil fun σ H Q ⟨ρ, C, F, Qd, R, h, k⟩ => k [] [] C H F (Same.refl F) R.rc .nil h
theorem low_cons {σ : L2.St} {H : Hp} {Q : List V → Hp → Prop} (h : lowA K cl (dCons te t) σ H Q) : tCons (lowE K cl te) (lowA K cl t) σ H Q := by
  obtain ⟨ρ, C, F, Qd, R, h, k⟩ := h
  refine ⟨ρ, C, F, _, R, h, fun v d C1 H1 F1 s1 R1 r1 q1 => ?_⟩
  refine ⟨ρ, C1, F1, _, R.next s1 R1, q1, fun vs ds C2 H2 F2 s2 R2 r2 q2 => ?_⟩
  exact k _ _ C2 H2 F2 (s1.trans s2) R2 (.cons (r1.mono s2) r2) q2
theorem da_cons (ha : PEd X cl e te) (hr : PAd X cl es t) (hs : starEach (e :: es) X.env = (false, eval e X.env) :: starEach es X.env := by rfl) : PAd X cl (e :: es) (dCons te t) :=
  weakA (pa_cons ha hr hs) fun _ _ _ h => low_cons h
theorem de_tup {x1} (h : PAd X cl es t) : PEd X cl (.Tuple es x1 pos) (dTup t) := by
  refine weakE (pe_tup h) fun σ H Q ⟨ρ, C, F, Qd, R, h, k⟩ => ?_
  refine ⟨ρ, C, F, _, R, h, fun vs ds C1 H1 F1 s1 R1 r1 ⟨z, q1⟩ => ⟨by rw [r1.length]; exact z, fun p np => ?_⟩⟩
  have s2 := same_upd (o := .tup vs) (R1.freeF np)
  exact k _ _ C1 _ _ (s1.trans s2) (R1.new np) (.tup (.of upd_same) (r1.mono s2)) q1
theorem de_lst (h : PAd X cl es t) : PEd X cl (.List es pos) (dLst t) := by
  refine weakE (pe_lst h) fun σ H Q ⟨ρ, C, F, Qd, R, h, k⟩ => ?_
  refine ⟨ρ, C, F, _, R, h, fun vs ds C1 H1 F1 s1 R1 r1 ⟨z, q1⟩ => ⟨by rw [r1.length]; exact z, fun p np => ?_⟩⟩
  have s2 := same_upd (o := .lst vs) (R1.freeF np)
  exact k _ _ C1 _ _ (s1.trans s2) (R1.new np) (.lst upd_same (r1.mono s2)) q1
theorem de_lstC (h : PAd X cl es t) : PEd X cl (.List es pos) (dLstC t) := by
  refine weakE (pe_lst h) fun σ H Q ⟨ρ, C, F, Qd, R, h, k⟩ => ?_
  refine ⟨ρ, C, F, _, R, h, fun vs ds C1 H1 F1 s1 R1 r1 ⟨z, q1⟩ => ⟨by rw [r1.length]; exact z, fun p np => ?_⟩⟩
  exact k _ _ _ _ _ s1 (R1.cell np (.lst r1)) (.ref p) (q1 p (R1.freeC np))
end

/-! ### ghosts: a cell becomes a tree, cells are forgotten -/
inductive Gh : D → Cl → D → Cl → Prop
  | same {d : D} {C : Cl} : Gh d C d C
  | drop {d : D} {C C' : Cl} : SubC C' C → Gh d C d C'
  | lst {a : Addr} {C : Cl} {ds : List D} : C a = some (.lst ds) → Gh (.ref a) C (.lst ds) (delC C a)
  | dic {a : Addr} {C : Cl} {ds : List (Key × D)} : C a = some (.dic ds) → Gh (.ref a) C (.dic ds) (delC C a)
  | dct {a : Addr} {C : Cl} {ds : List (List Key × D)} : C a = some (.dct ds) → Gh (.ref a) C (.dct ds) (delC C a)
  | ins {a : Addr} {C : Cl} {c : String} {ds : List (Str × D)} : C a = some (.ins c ds) → Gh (.ref a) C (.ins c ds) (delC C a)
  | trans {d d1 d2 : D} {C C1 C2 : Cl} : Gh d C d1 C1 → Gh d1 C1 d2 C2 → Gh d C d2 C2
theorem Gh.ok {K : PySem.W.Frag} {cl : Nm} {F H : Hp} {d d' : D} {C C' : Cl} {v : V} (g : Gh d C d' C') : RC K cl C F H → Rep K cl F v d → ∃ F', Same F F' ∧ RC K cl C' F' H ∧ Rep K cl F' v d' := by
  induction g generalizing F with
  | same => exact fun R r => ⟨F, Same.refl F, R, r⟩
  | drop s => exact fun R r => ⟨F, Same.refl F, R.drop s, r⟩
  | lst h =>
    intro R r
    cases r
    obtain ⟨_, o, ho, c⟩ := R.cel _ _ h
    cases c with
    | lst rl =>
      obtain ⟨R', s⟩ := R.freeze h ho
      exact ⟨_, s, R', .lst upd_same (rl.mono s)⟩
  | dic h =>
    intro R r
    cases r
    obtain ⟨_, o, ho, c⟩ := R.cel _ _ h
    cases c with
    | dic rl =>
      obtain ⟨R', s⟩ := R.freeze h ho
      exact ⟨_, s, R', .dic (.inl upd_same) (rl.mono s)⟩
  | dct h =>
    intro R r
    cases r
    obtain ⟨_, o, ho, c⟩ := R.cel _ _ h
    cases c with
    | dct rl =>
      obtain ⟨R', s⟩ := R.freeze h ho
      exact ⟨_, s, R', .dct upd_same (rl.mono s)⟩
  | ins h =>
    intro R r
    cases r
    obtain ⟨_, o, ho, c⟩ := R.cel _ _ h
    cases c with
    | ins rl =>
      obtain ⟨R', s⟩ := R.freeze h ho
      exact ⟨_, s, R', .ins upd_same (rl.mono s)⟩
  | trans _ _ i1 i2 =>
    intro R r
    obtain ⟨F1, s1, R1, r1⟩ := i1 R r
    obtain ⟨F2, s2, R2, r2⟩ := i2 R1 r1
    exact ⟨F2, s1.trans s2, R2, r2⟩
end G
namespace G
open PySem PySem.Spec PyProof.Rows L2

/-! ### blocks and small statements -/
def dNext : DS := fun D ρ C => D.nx ρ C
def dSeq (t u : DS) : DS := fun D ρ C => t { D with nx := u D } ρ C
def dDrop (te : DE) : DS := fun D ρ C => te ρ C fun _ C1 => D.nx ρ C1
def dRet (te : DE) : DS := fun D ρ C => te ρ C D.rt
def dIfS (c : DT) (t u : DS) : DS := fun D ρ C => c ρ C fun b C1 => if b = true then t D ρ C1 else u D ρ C1
section
variable {X : Cx} {cl : NmB} {st : Stmt} {rest : List Stmt} {t u : DS} {e : Expr} {te : DE} {pos : Pos}
theorem dss_nil : PSsd X cl [] dNext := weakSs pss_nil fun De σ H ⟨ρ, C, F, Dd, R, h, k⟩ => k.nx ρ C F σ H (Same.refl F) R h
theorem dss_cons (h1 : PSd X cl st t) (h2 : PSsd X cl rest u) : PSsd X cl (st :: rest) (dSeq t u) := by
  refine weakSs (pss_cons h1 h2) fun De σ H ⟨ρ, C, F, Dd, R, h, k⟩ => ?_
  exact ⟨ρ, C, F, { Dd with nx := u Dd }, R, h, ⟨fun ρ' C' F' σ' H' s R' q => ⟨ρ', C', F', Dd, R', q, k.at s⟩, k.bk, k.ct, k.rt⟩⟩
theorem dss_one (h1 : PSd X cl st t) : PSsd X cl [st] t := pss_one h1
theorem ds_expr (he : PEd X cl e te) (hs : swapsWith e none pos.line X.env = pure false := by rfl) : PSd X cl (.Expr e pos) (dDrop te) := by
  refine weakS (ps_expr he hs) fun De σ H ⟨ρ, C, F, Dd, R, h, k⟩ => ?_
  exact ⟨ρ, C, F, _, R, h, fun v d C1 H1 F1 s1 R1 r1 q1 => k.nx ρ C1 F1 σ H1 s1 (R.next s1 R1) q1⟩
theorem ds_ret (he : PEd X cl e te) : PSd X cl (.Return (some e) pos) (dRet te) := by
  refine weakS (ps_ret he) fun De σ H ⟨ρ, C, F, Dd, R, h, k⟩ => ?_
  exact ⟨ρ, C, F, _, R, h, fun v d C1 H1 F1 s1 R1 r1 q1 => k.rt v d C1 F1 H1 s1 R1 r1 q1⟩
theorem ds_if {c : Expr} {a b : List Stmt} {tc : DT} (hc : PTd X cl c tc) (ha : PSsd X cl a t) (hb : PSsd X cl b u) : PSd X cl (.If c a b pos) (dIfS tc t u) := by
  refine weakS (ps_if hc ha hb) fun De σ H ⟨ρ, C, F, Dd, R, h, k⟩ => ?_
  refine ⟨ρ, C, F, _, R, h, fun d C1 H1 F1 s1 R1 q1 => ?_⟩
  cases d with
  | true =>
    rw [if_pos rfl] at q1 ⊢
    exact ⟨ρ, C1, F1, Dd, R.next s1 R1, q1, k.at s1⟩
  | false =>
    rw [if_neg Bool.false_ne_true] at q1 ⊢
    exact ⟨ρ, C1, F1, Dd, R.next s1 R1, q1, k.at s1⟩
end

/-! ### a name, seen otherwise -/
/-! ### targets -/
abbrev DG := D → DEnv → Cl → (DEnv → Cl → Prop) → Prop
abbrev DGs := List D → DEnv → Cl → (DEnv → Cl → Prop) → Prop
def lowG (K : PySem.W.Frag) (cl : NmB) (g : DG) : TG := fun v σ H Q => ∃ d ρ C F Qd, RS K cl ρ C F σ H ∧ Rep K cl F v d ∧ g d ρ C Qd ∧ ∀ ρ' C' F' σ' H', Same F F' → RS K cl ρ' C' F' σ' H' → Qd ρ' C' → Q σ' H'
def lowGs (K : PySem.W.Frag) (cl : NmB) (g : DGs) : TGs := fun v σ H Q => ∃ d ρ C F Qd, RS K cl ρ C F σ H ∧ RepL K cl F v d ∧ g d ρ C Qd ∧ ∀ ρ' C' F' σ' H', Same F F' → RS K cl ρ' C' F' σ' H' → Qd ρ' C' → Q σ' H'
abbrev PGd (X : Cx) (cl : NmB) (tg : Expr) (g : DG) : Prop := PG X tg (lowG X.K cl g)
abbrev PGsd (X : Cx) (cl : NmB) (tg : List Expr) (g : DGs) : Prop := PGs X tg (lowGs X.K cl g)
theorem weakG {X : Cx} {e : Expr} {t t' : TG} (h : PG X e t) (w : ∀ v σ H Q, t' v σ H Q → t v σ H Q) : PG X e t' := ⟨fun pins s σ H v u Q I r q => h.run pins s σ H v u Q I r (w v σ H Q q)⟩
theorem weakGs {X : Cx} {e : List Expr} {t t' : TGs} (h : PGs X e t) (w : ∀ v σ H Q, t' v σ H Q → t v σ H Q) : PGs X e t' := ⟨fun pins s σ H v u Q I r q => h.run pins s σ H v u Q I r (w v σ H Q q)⟩
def dName (i : Nat) : DG := fun d ρ C Q => Q (ρ.set i (some d)) C
def dgNil : DGs := fun ds ρ C Q => ds = [] ∧ Q ρ C
def dgCons (t : DG) (u : DGs) : DGs := fun ds ρ C Q => ∃ d r, ds = d :: r ∧ t d ρ C fun ρ' C' => u r ρ' C' Q
def dgTup (n : Nat) (t : DGs) : DG := fun d ρ C Q => ∃ ds, d = .tup ds ∧ ds.length = n ∧ t ds ρ C Q
section
variable {X : Cx} {cl : NmB} {pos : Pos}
theorem dg_name (i : Nat) {x : Str} (hN : X.N.Nodup) (hi : X.N[i]? = some x := by rfl) (hx : Loc X.env.scope x := by first | exact Or.inl rfl | exact Or.inr rfl) (hf : X.fn x = true ∨ X.env.scope.names.lookup x = some .local := by first | exact .inl rfl | exact .inr rfl | assumption) : PGd X cl (.Name x pos) (dName i) := by
  refine weakG (pg_name hN hi hx hf) fun v σ H Q ⟨d, ρ, C, F, Qd, R, r, q, k⟩ => ?_
  exact k _ C F _ H (Same.refl F) (R.set i r) q
theorem dgs_nil : PGsd X cl [] dgNil := by
  refine weakGs pgs_nil fun v σ H Q ⟨d, ρ, C, F, Qd, R, r, ⟨e, q⟩, k⟩ => ?_
  subst e
  cases r
  exact ⟨rfl, k ρ C F σ H (Same.refl F) R q⟩
theorem dgs_cons {e : Expr} {es : List Expr} {t : DG} {u : DGs} (h1 : PGd X cl e t) (h2 : PGsd X cl es u)
    (hs : (assignEach (e :: es) X.env).map (·.2) = assign e X.env :: (assignEach es X.env).map (·.2) := by rfl) : PGsd X cl (e :: es) (dgCons t u) := by
  refine weakGs (pgs_cons h1 h2 hs) fun v σ H Q ⟨ds, ρ, C, F, Qd, R, r, ⟨d, r', e, q⟩, k⟩ => ?_
  subst e
  cases r with
  | cons rd rr =>
    refine ⟨_, _, rfl, d, ρ, C, F, _, R, rd, q, fun ρ1 C1 F1 σ1 H1 s1 R1 q1 => ?_⟩
    exact ⟨r', ρ1, C1, F1, Qd, R1, rr.mono s1, q1, fun ρ2 C2 F2 σ2 H2 s2 => k ρ2 C2 F2 σ2 H2 (s1.trans s2)⟩
theorem dg_tup {es : List Expr} {j : Nat} {t : DGs} {n : Nat} (h : PGsd X cl es t) (hc : X.calm = true := by rfl)
    (hn : (assignEach es X.env).length = n := by rfl) (hst : (assignEach es X.env).findIdx? (·.1) = none := by rfl) : PGd X cl (.Tuple es j pos) (dgTup n t) := by
  refine weakG (pg_tup hc h hn hst) fun v σ H Q ⟨d, ρ, C, F, Qd, R, r, ⟨ds, e, hl, q⟩, k⟩ => ?_
  subst e
  cases r with
  | tup hq rl => exact ⟨_, _, rfl, sqT_mono R.rc.sub hq, rl.length.trans hl, ds, ρ, C, F, Qd, R, rl, q, k⟩
/-- o[i] = v -/
abbrev RSet := D → D → D → Cl → (Cl → Prop) → Prop
def lowSet (K : PySem.W.Frag) (cl : Nm) (rd : RSet) : TSet := fun o i v H Q => ∃ dO dI dV C F Qd, RC K cl C F H ∧ Rep K cl F o dO ∧ Rep K cl F i dI ∧ Rep K cl F v dV ∧ rd dO dI dV C Qd ∧ ∀ C' F' H', Same F F' → RC K cl C' F' H' → Qd C' → Q H'
abbrev SetD (X : Cx) (cl : Nm) (rd : RSet) : Prop := PSet X (lowSet X.K cl rd)
def dgSub (to ti : DE) (rd : RSet) : DG := fun d ρ C Q => to ρ C fun o C1 => ti ρ C1 fun i C2 => rd o i d C2 fun C3 => Q ρ C3
theorem dg_sub {o i : Expr} {to ti : DE} {rd : RSet} (ho : PEd X cl o to) (hi : PEd X cl i ti) (hs : SetD X cl rd)
    (ha : ∀ v, assign (.Subscript o i pos) X.env v = (do
      let ov ← holding [v] (eval o X.env)
      let iv ← holding [v, ov] (eval i X.env)
      standAt pos
      holding [v, ov, iv] (setItem ov iv v)
      release [v, ov, iv] []) := by intro _; rfl) : PGd X cl (.Subscript o i pos) (dgSub to ti rd) := by
  refine weakG (pg_sub ho hi hs ha) fun v σ H Q ⟨d, ρ, C, F, Qd, R, r, q, k⟩ => ?_
  refine ⟨ρ, C, F, _, R, q, fun vo dO C1 H1 F1 s1 R1 r1 q1 => ?_⟩
  refine ⟨ρ, C1, F1, _, R.next s1 R1, q1, fun vi dI C2 H2 F2 s2 R2 r2 q2 => ?_⟩
  refine ⟨dO, dI, d, C2, F2, _, R2, r1.mono s2, r2, r.mono (s1.trans s2), q2, fun C3 F3 H3 s3 R3 q3 => ?_⟩
  exact k ρ C3 F3 σ H3 (s1.trans (s2.trans s3)) (R.next (s1.trans (s2.trans s3)) R3) q3
/-- target = value -/
def dAsg (te : DE) (g : DG) : DS := fun D ρ C => te ρ C fun x C1 => g x ρ C1 D.nx
theorem ds_asg {tg e : Expr} {te : DE} {g : DG} (he : PEd X cl e te) (hg : PGd X cl tg g) (hs : swapsWithSole [tg] e pos.line X.env = pure false := by rfl) (hw : swappedStores [tg] e X.env = pure none := by rfl)
    (h1 : (assignEach [tg] X.env).map (·.2) = [assign tg X.env] := by rfl) : PSd X cl (.Assign [tg] e pos) (dAsg te g) := by
  refine weakS (ps_asg he hg hs hw h1) fun De σ H ⟨ρ, C, F, Dd, R, h, k⟩ => ?_
  refine ⟨ρ, C, F, _, R, h, fun v d C1 H1 F1 s1 R1 r1 q1 => ?_⟩
  exact ⟨d, ρ, C1, F1, _, R.next s1 R1, r1, q1, fun ρ2 C2 F2 σ2 H2 s2 R2 q2 => k.nx ρ2 C2 F2 σ2 H2 (s1.trans s2) R2 q2⟩
theorem ds_set (i : Nat) {x : Str} {e : Expr} {te : DE} {pos' : Pos} (hN : X.N.Nodup) (he : PEd X cl e te) (hi : X.N[i]? = some x := by rfl) (hx : Loc X.env.scope x := by first | exact Or.inl rfl | exact Or.inr rfl) (hs : swapsWith e (some (.Name x pos')) pos.line X.env = pure false := by rfl) (hf : X.fn x = true ∨ X.env.scope.names.lookup x = some .local := by first | exact .inl rfl | exact .inr rfl | assumption) :
    PSd X cl (.Assign [.Name x pos'] e pos) (dAsg te (dName i)) := by
  refine weakS (ps_set hN hi hx he hs hf) fun De σ H ⟨ρ, C, F, Dd, R, h, k⟩ => ?_
  refine ⟨ρ, C, F, _, R, h, fun v d C1 H1 F1 s1 R1 r1 q1 => ?_⟩
  exact k.nx _ C1 F1 _ H1 s1 ((R.next s1 R1).set i r1) q1
/-- a, b = x, y with plain names: stored from the right; no tuple is made -/
def dPar (i j : Nat) (t : DA) : DS := fun D ρ C => t ρ C fun ds C2 => ∃ v w, ds = [v, w] ∧ D.nx ((ρ.set i (some v)).set j (some w)) C2
/-! ### loops -/
def dWhile (c : DT) (tb : DS) : DS := fun D ρ C => ∃ W : Nat → DEnv → Cl → Prop, (∃ m, W m ρ C) ∧ ∀ m ρ C, W m ρ C →
  c ρ C fun b C1 => if b = true then tb { D with nx := fun ρ' C' => ∃ m', m' < m ∧ W m' ρ' C', ct := fun ρ' C' => ∃ m', m' < m ∧ W m' ρ' C', bk := D.nx } ρ C1 else D.nx ρ C1
theorem ds_while {c : Expr} {body : List Stmt} {tc : DT} {tb : DS} (hp : PassesOwn (model X.prog X.w) X.A X.env X.xe) (hc : PTd X cl c tc) (hb : PSsd X cl body tb) : PSd X cl (.While c body [] pos) (dWhile tc tb) := by
  refine weakS (ps_while hp hc hb) fun De σ H ⟨ρ, C, F, Dd, R, ⟨W, ⟨m0, w0⟩, turn⟩, k⟩ => ?_
  refine ⟨fun m σ H => ∃ ρ C F', Same F F' ∧ RS X.K cl ρ C F' σ H ∧ W m ρ C, ⟨m0, ρ, C, F, Same.refl F, R, w0⟩, ?_⟩
  rintro m σ1 H1 ⟨ρ1, C1, F1, s1, R1, w1⟩
  refine ⟨ρ1, C1, F1, _, R1, turn m ρ1 C1 w1, fun b C2 H2 F2 s2 R2 q2 => ?_⟩
  cases b with
  | true =>
    rw [if_pos rfl] at q2 ⊢
    have again : ∀ ρ' C' F' σ' H', Same F2 F' → RS X.K cl ρ' C' F' σ' H' → (∃ m', m' < m ∧ W m' ρ' C') → ∃ m', m' < m ∧ ∃ ρ C F', Same F F' ∧ RS X.K cl ρ C F' σ' H' ∧ W m' ρ C := fun ρ' C' F' σ' H' s' R' ⟨m', lt, w'⟩ => ⟨m', lt, ρ', C', F', s1.trans (s2.trans s'), R', w'⟩
    refine ⟨fun σ' H' => ∃ m', m' < m ∧ ∃ ρ C F', Same F F' ∧ RS X.K cl ρ C F' σ' H' ∧ W m' ρ C, fun σ' H' z => z, ρ1, C2, F2, _, R1.next s2 R2, q2, ?_⟩
    exact ⟨again, fun ρ' C' F' σ' H' s' => k.nx ρ' C' F' σ' H' (s1.trans (s2.trans s')), again, (k.at (s1.trans s2)).rt⟩
  | false =>
    rw [if_neg Bool.false_ne_true] at q2 ⊢
    exact k.nx ρ1 C2 F2 σ1 H2 (s1.trans s2) (R1.next s2 R2) q2
/-- J yields the items xs, one a turn -/
def Walk (K : PySem.W.Frag) (cl : Nm) (J : It) (xs : List D) (F : Hp) : Prop := ∀ i C F1 H, Same F F1 → RC K cl C F1 H →
  (∀ x, xs[i]? = some x → J.go i H ∧ ∀ v H', J.yld i H v H' → ∃ F2, Same F1 F2 ∧ RC K cl C F2 H' ∧ Rep K cl F2 v x) ∧ (xs.length = i → J.stop i H)
theorem Walk.at {K : PySem.W.Frag} {J : It} {xs : List D} {F F' : Hp} (w : Walk K cl J xs F) (s : Same F F') : Walk K cl J xs F' := fun i C F1 H s1 => w i C F1 H (s.trans s1)
abbrev DI := DEnv → Cl → (List D → Cl → Prop) → Prop
def lowI (K : PySem.W.Frag) (cl : NmB) (wi : DI) : TI := fun σ H R => ∃ ρ C F Qd, RS K cl ρ C F σ H ∧ wi ρ C Qd ∧ ∀ J xs C' H' F', Same F F' → RC K cl C' F' H' → Walk K cl J xs F' → Qd xs C' → R J H'
abbrev PId (X : Cx) (cl : NmB) (tg iter : Expr) (wi : DI) : Prop := PI X tg iter (lowI X.K cl wi)
theorem weakI {tg iter : Expr} {t t' : TI} (h : PI X tg iter t) (w : ∀ σ H Q, t' σ H Q → t σ H Q) : PI X tg iter t' := ⟨fun pins s σ H Q I q => h.run pins s σ H Q I (w σ H Q q)⟩
def dFor (wi : DI) (g : DG) (tb : DS) : DS := fun D ρ C => wi ρ C fun xs C1 => ∃ Pv : Nat → DEnv → Cl → Prop, Pv 0 ρ C1 ∧
  (∀ i x ρ C, xs[i]? = some x → Pv i ρ C → g x ρ C fun ρ2 C2 => tb { D with nx := Pv (i + 1), ct := Pv (i + 1), bk := D.nx } ρ2 C2) ∧ ∀ ρ C, Pv xs.length ρ C → D.nx ρ C
theorem ds_for {tg iter : Expr} {body : List Stmt} {wi : DI} {g : DG} {tb : DS} (hp : PassesOwn (model X.prog X.w) X.A X.env X.xe) (hi : PId X cl tg iter wi) (hg : PGd X cl tg g) (hb : PSsd X cl body tb) (hc : X.calm = true := by rfl)
    (hs : ∀ x, foldedSetIterable iter X.env x = pure x := by intro _; rfl) : PSd X cl (.For tg iter body [] pos) (dFor wi g tb) := by
  refine weakS (ps_for hp hc hi hg hb hs) fun De σ H ⟨ρ, C, F, Dd, R, h, k⟩ => ?_
  refine ⟨ρ, C, F, _, R, h, fun J xs C1 H1 F1 s1 R1 wk ⟨Pv, p0, ps, pd⟩ => ?_⟩
  refine ⟨fun i m σ H => m = xs.length - i ∧ i ≤ xs.length ∧ ∃ ρ C F', Same F1 F' ∧ RS X.K cl ρ C F' σ H ∧ Pv i ρ C, ⟨xs.length, by simp, Nat.zero_le _, ρ, C1, F1, Same.refl F1, R.next s1 R1, p0⟩, ?_⟩
  rintro i m σ2 H2 ⟨rfl, hi, ρ2, C2, F2, s2, R2, p2⟩
  obtain ⟨wy, we⟩ := wk i C2 F2 H2 s2 R2.rc
  by_cases hlt : i < xs.length
  · obtain ⟨go, yl⟩ := wy _ (List.getElem?_eq_getElem hlt)
    have again : ∀ ρ' C' F' σ' H', Same F1 F' → RS X.K cl ρ' C' F' σ' H' → Pv (i + 1) ρ' C' → ∃ ρ C F', Same F1 F' ∧ RS X.K cl ρ C F' σ' H' ∧ Pv (i + 1) ρ C := fun ρ' C' F' σ' H' s' R' p' => ⟨ρ', C', F', s', R', p'⟩
    refine .inr ⟨go, fun σ' H' => ∃ ρ C F', Same F1 F' ∧ RS X.K cl ρ C F' σ' H' ∧ Pv (i + 1) ρ C, fun σ' H' z => ⟨xs.length - (i + 1), by omega, rfl, hlt, z⟩, fun v H3 y => ?_⟩
    obtain ⟨F3, s3, R3, r3⟩ := yl v H3 y
    refine ⟨_, ρ2, C2, F3, _, R2.next s3 R3, r3, ps i _ ρ2 C2 (List.getElem?_eq_getElem hlt) p2, fun ρ4 C4 F4 σ4 H4 s4 R4 q4 => ?_⟩
    have sb : Same F1 F4 := s2.trans (s3.trans s4)
    exact ⟨ρ4, C4, F4, _, R4, q4, ⟨fun ρ' C' F' σ' H' s' => again ρ' C' F' σ' H' (sb.trans s'), fun ρ' C' F' σ' H' s' => k.nx ρ' C' F' σ' H' (s1.trans (sb.trans s')), fun ρ' C' F' σ' H' s' => again ρ' C' F' σ' H' (sb.trans s'), (k.at (s1.trans sb)).rt⟩⟩
  · have e : i = xs.length := by omega
    subst e
    exact .inl ⟨we rfl, k.nx ρ2 C2 F2 σ2 H2 (s1.trans s2) R2 (pd ρ2 C2 p2)⟩
end
end G
namespace G
open PySem PySem.Spec PyProof.Rows L2

/-! ### what is walked -/
section
variable {X : Cx} {cl : NmB} {tg e : Expr} {te : DE} {K : PySem.W.Frag}
/-- the items of a list that stands -/
def lstOf : D → Option (List D)
  | .lst ds => some ds
  | .rol ds => some ds
  | _ => none
theorem Rep.asL {F : Hp} {v : V} {d : D} {ds : List D} (r : Rep K cl F v d) (h : lstOf d = some ds) : ∃ a xs, v = .ref a ∧ SqL K F a xs ∧ RepL K cl F xs ds := by
  cases r with
  | lst h1 h2 => cases h; exact ⟨_, _, rfl, .of h1, h2⟩
  | rol h1 h2 => cases h; exact ⟨_, _, rfl, h1, h2⟩
  | _ => cases h
theorem walk_tup {F : Hp} {a : Addr} {xs : List V} {ds : List D} (h : SqT K F a xs) (r : RepL K cl F xs ds) : Walk K cl (Itt K a) ds F := by
  intro i C F1 H s R
  have h1 : SqT K H a xs := sqT_mono R.sub (sqT_mono s h)
  refine ⟨fun x hx => ?_, fun hi => ⟨xs, h1, by rw [r.length]; exact Nat.le_of_eq hi⟩⟩
  obtain ⟨v, hv, rv⟩ := r.get hx
  refine ⟨⟨xs, v, h1, hv⟩, fun v' H' ⟨e, y⟩ => ?_⟩
  subst e
  have e2 := y xs h1
  rw [hv] at e2
  cases e2
  exact ⟨F1, Same.refl F1, R, rv.mono s⟩
def diTup (te : DE) : DI := fun ρ C R => te ρ C fun x C1 => ∃ xs, x = .tup xs ∧ R xs C1
theorem di_tup (he : PEd X cl e te) : PId X cl tg e (diTup te) := by
  refine weakI (pi_tup he) fun σ H R ⟨ρ, C, F, Rd, RR, h, k⟩ => ?_
  refine ⟨ρ, C, F, _, RR, h, fun v d C1 H1 F1 s1 R1 r1 ⟨xs, e, q1⟩ => ?_⟩
  subst e
  cases r1 with
  | tup hs rl => exact ⟨_, rfl, ⟨_, sqT_mono R1.sub hs⟩, k _ xs C1 H1 F1 s1 R1 (walk_tup hs rl) q1⟩
/-- the signs of a text -/
def signs (x : List Nat) : List D := x.map fun c => .str [c]
theorem walk_str {F : Hp} (x : List Nat) : Walk K cl (Its ⟨x.toArray⟩) (signs x) F := by
  intro i C F1 H s R
  refine ⟨fun d hd => ?_, fun hi => show x.toArray.size ≤ i from Nat.le_of_eq (by simpa [signs] using hi)⟩
  unfold signs at hd
  rw [List.getElem?_map] at hd
  cases hc : x[i]? with
  | none => rw [hc] at hd; cases hd
  | some c =>
    rw [hc] at hd
    have e : D.str [c] = d := Option.some.inj hd
    subst e
    have hc' : x.toArray[i]? = some c := by rw [List.getElem?_toArray]; exact hc
    refine ⟨(Array.getElem?_eq_some_iff.mp hc').1, fun v H' ⟨e, c', hx, ev⟩ => ?_⟩
    subst e
    rw [hc'] at hx; cases hx
    subst ev
    exact ⟨F1, Same.refl F1, R, .str [c]⟩
def diStr (te : DE) : DI := fun ρ C R => te ρ C fun x C1 => ∃ z, x = .str z ∧ R (signs z) C1
theorem di_str (he : PEd X cl e te) : PId X cl tg e (diStr te) := by
  refine weakI (pi_str he) fun σ H R ⟨ρ, C, F, Rd, RR, h, k⟩ => ?_
  refine ⟨ρ, C, F, _, RR, h, fun v d C1 H1 F1 s1 R1 r1 ⟨z, e, q1⟩ => ?_⟩
  subst e
  cases r1
  exact ⟨_, rfl, k _ _ C1 H1 F1 s1 R1 (walk_str z) q1⟩
/-- lo, lo + 1, .. -/
def ranged (lo : Int) (n : Nat) : List D := (List.range n).map fun (i : Nat) => .int (lo + (i : Int))
theorem ranged_get {lo : Int} {n i : Nat} {d : D} (h : (ranged lo n)[i]? = some d) : i < n ∧ d = .int (lo + (i : Int)) := by
  unfold ranged at h
  rw [List.getElem?_map] at h
  by_cases hi : i < n
  · rw [List.getElem?_range hi] at h
    exact ⟨hi, (Option.some.inj h).symm⟩
  · rw [List.getElem?_eq_none (by simpa using hi)] at h; cases h
theorem ranged_length (lo : Int) (n : Nat) : (ranged lo n).length = n := by unfold ranged; simp
theorem walk_range {F : Hp} (lo : Int) (n : Nat) : Walk K cl (Itr lo n) (ranged lo n) F := by
  intro i C F1 H s R
  refine ⟨fun d hd => ?_, fun hi => by rw [ranged_length] at hi; exact Nat.le_of_eq hi⟩
  obtain ⟨hi, rfl⟩ := ranged_get hd
  refine ⟨hi, fun v H' ⟨e, ev⟩ => ?_⟩
  subst e
  subst ev
  exact ⟨F1, Same.refl F1, R, .int _⟩
def diRng1 (t : DA) : DI := fun ρ C R => t ρ C fun ds C1 => ∃ j : Int, ds = [.int j] ∧ (-(2 ^ 62) ≤ j ∧ j < 2 ^ 62) ∧ R (ranged 0 j.toNat) C1
theorem di_rng1 {a : Expr} {t : DA} {p pos : Pos} (hm : X.mg "range" = none) (ha : PAd X cl [a] t) (hg : Gl X "range" := by rfl) (hs : starEach [a] X.env = [(false, eval a X.env)] := by rfl) : PId X cl tg (.Call (.Name "range" p) [a] [] pos) (diRng1 t) := by
  refine weakI (pi_range1 hg hm ha hs) fun σ H R ⟨ρ, C, F, Rd, RR, h, k⟩ => ?_
  refine ⟨ρ, C, F, _, RR, h, fun vs ds C1 H1 F1 s1 R1 r1 ⟨j, e, b, q1⟩ => ?_⟩
  subst e
  cases r1 with
  | cons r rr =>
    cases rr
    cases r
    exact ⟨j, rfl, b.1, b.2, k _ _ C1 H1 F1 s1 R1 (walk_range 0 _) q1⟩
end
end G
namespace G
open PySem PySem.Spec PyProof.Rows L2

/-! ### a comprehension's own targets -/
def wipeD (ρ : DEnv) : List Nat → DEnv
  | [] => ρ
  | v :: vs => (wipeD ρ vs).set v none
section
variable {K : PySem.W.Frag} {cl : NmB} {C : Cl} {F H : Hp} {ρ : DEnv} {σ : L2.St}
theorem RS.wipe (R : RS K cl ρ C F σ H) : ∀ vs : List Nat, RS K cl (wipeD ρ vs) C F (wipe σ vs) H
  | [] => R
  | v :: vs => (R.wipe vs).unset v
theorem wipe_set {x : Option V} {i : Nat} : ∀ {vs : List Nat}, i ∈ vs → wipe (σ.set i x) vs = wipe σ vs
  | [], h => by simp at h
  | v :: vs, h => by
    unfold L2.wipe
    by_cases e : i = v
    · subst e
      by_cases hi : i ∈ vs
      · rw [wipe_set hi]
      · rw [wipe_comm hi, List.set_set]
    · have hi : i ∈ vs := by
        rcases List.mem_cons.mp h with z | z
        · exact absurd z e
        · exact z
      rw [wipe_set hi]
where
  wipe_comm {x : Option V} {i : Nat} {σ : L2.St} : ∀ {vs : List Nat}, i ∉ vs → wipe (σ.set i x) vs = (wipe σ vs).set i x
    | [], _ => rfl
    | v :: vs, h => by
      unfold L2.wipe
      have h1 : i ≠ v := fun z => h (by simp [z])
      have h2 : i ∉ vs := fun z => h (List.mem_cons_of_mem _ z)
      rw [wipe_comm h2, List.set_comm _ _ h1]
end
def lowO (K : PySem.W.Frag) (cl : NmB) (vs : List Nat) (g : DG) : TG := fun v σ H Q => ∃ d ρ C F Qd, RS K cl ρ C F σ H ∧ Rep K cl F v d ∧ g d ρ C Qd ∧ ∀ ρ' C' F' σ' H', Same F F' → RS K cl ρ' C' F' σ' H' → wipe σ' vs = wipe σ vs → Qd ρ' C' → Q σ' H'
abbrev POd (X : Cx) (cl : NmB) (vs : List Nat) (tg : Expr) (g : DG) : Prop := PG X tg (lowO X.K cl vs g)
section
variable {X : Cx} {cl : NmB} {pos : Pos} {vs : List Nat}
theorem do_name (i : Nat) {x : Str} (hN : X.N.Nodup) (hi : X.N[i]? = some x := by rfl) (hx : Loc X.env.scope x := by first | exact Or.inl rfl | exact Or.inr rfl) (hv : i ∈ vs := by decide) (hf : X.fn x = true ∨ X.env.scope.names.lookup x = some .local := by first | exact .inl rfl | exact .inr rfl | assumption) : POd X cl vs (.Name x pos) (dName i) := by
  refine weakG (pg_name hN hi hx hf) fun v σ H Q ⟨d, ρ, C, F, Qd, R, r, q, k⟩ => ?_
  exact k _ C F _ H (Same.refl F) (R.set i r) (wipe_set hv) q
/-! ### list comprehensions -/
abbrev PTsd (X : Cx) (cl : NmB) (ifs : List Expr) (t : DT) : Prop := PTs X ifs (lowT X.K cl t)
def dYes : DT := fun _ C Q => Q true C
theorem dts_nil : PTsd X cl [] dYes := ⟨fun pins s σ H Q I ⟨ρ, C, F, Qd, R, q, k⟩ => pts_nil.run pins s σ H Q I (k true C H F (Same.refl F) R.rc q)⟩
/-- the list is a cell while it grows -/
def dLc (wi : DI) (g : DG) (tt : DT) (te : DE) (vs : List Nat) : DE := fun ρ C Q => wi ρ C fun xs C1 => ∀ p, C1 p = none → ∃ Pv : Nat → Cl → Prop, Pv 0 (updC C1 p (.lst [])) ∧
  (∀ i x C, xs[i]? = some x → Pv i C → g x (wipeD ρ vs) C fun ρ2 C2 => tt ρ2 C2 fun b C3 =>
    if b = true then te ρ2 C3 fun y C4 => ∃ acc, C4 p = some (.lst acc) ∧ acc.length < sizeLine ∧ Pv (i + 1) (updC C4 p (.lst (acc ++ [y]))) else Pv (i + 1) C3) ∧
  ∀ C, Pv xs.length C → Q (.ref p) C
theorem low_lc {K : PySem.W.Frag} {wi : DI} {g : DG} {tt : DT} {te : DE} {σ : L2.St} {H : Hp} {Q : VK} (h : lowE K cl (dLc wi g tt te vs) σ H Q) :
    tLc (lowI K cl wi) (lowO K cl vs g) (lowT K cl tt) (lowE K cl te) vs σ H Q := by
  obtain ⟨ρ, C, F, Qd, R, h, k⟩ := h
  refine ⟨ρ, C, F, _, R, h, fun J xs C1 H1 F1 s1 R1 wk q1 p np => ?_⟩
  obtain ⟨Pv, p0, ps, pd⟩ := q1 p (R1.freeC np)
  refine ⟨fun i m H => m = xs.length - i ∧ i ≤ xs.length ∧ ∃ C F', Same F1 F' ∧ RC K cl C F' H ∧ Pv i C, ⟨xs.length, by simp, Nat.zero_le _, _, F1, Same.refl F1, R1.cell np (.lst .nil), p0⟩, ?_⟩
  rintro i m H2 ⟨rfl, hi, C2, F2, s2, R2, p2⟩
  obtain ⟨wy, we⟩ := wk i C2 F2 H2 s2 R2
  by_cases hlt : i < xs.length
  · obtain ⟨go, yl⟩ := wy _ (List.getElem?_eq_getElem hlt)
    refine .inr ⟨go, fun H' => ∃ C F', Same F1 F' ∧ RC K cl C F' H' ∧ Pv (i + 1) C, fun H' z => ⟨xs.length - (i + 1), by omega, rfl, hlt, z⟩, fun v H3 y => ?_⟩
    obtain ⟨F3, s3, R3, r3⟩ := yl v H3 y
    have Rw : RS K cl (wipeD ρ vs) C2 F3 (wipe σ vs) H3 := (R.wipe vs).next (s1.trans (s2.trans s3)) R3
    refine ⟨_, _, C2, F3, _, Rw, r3, ps i _ C2 (List.getElem?_eq_getElem hlt) p2, fun ρ4 C4 F4 σ4 H4 s4 R4 w4 q4 => ⟨?_, ?_⟩⟩
    · rw [w4, wipe_wipe]
    refine ⟨ρ4, C4, F4, _, R4, q4, fun b C5 H5 F5 s5 R5 q5 => ?_⟩
    have sb : Same F1 F5 := s2.trans (s3.trans (s4.trans s5))
    cases b with
    | false =>
      rw [if_neg Bool.false_ne_true] at q5
      exact iteF ⟨C5, F5, sb, R5, q5⟩
    | true =>
      rw [if_pos rfl] at q5
      refine iteT ⟨ρ4, C5, F5, _, R4.next s5 R5, q5, fun u d C6 H6 F6 s6 R6 r6 ⟨acc, ha, hl, q6⟩ => ?_⟩
      obtain ⟨_, o, ho, cr⟩ := R6.cel p _ ha
      cases cr with
      | lst rl =>
        exact ⟨_, ho, by rw [rl.length]; exact hl, _, F6, sb.trans s6, R6.put ha (.lst (rl.append (.cons r6 .nil))), q6⟩
  · have e : i = xs.length := by omega
    subst e
    exact .inl ⟨we rfl, k (.ref p) (.ref p) C2 H2 F2 (s1.trans s2) R2 (.ref p) (pd C2 p2)⟩
where
  wipe_wipe {σ : L2.St} : ∀ {vs : List Nat}, wipe (wipe σ vs) vs = wipe σ vs
    | [] => rfl
    | v :: vs => by
      have e : wipe (wipe σ (v :: vs)) (v :: vs) = wipe (wipe σ (v :: vs)) (v :: vs) := rfl
      show (wipe ((wipe σ vs).set v none) vs).set v none = (wipe σ vs).set v none
      by_cases hv : v ∈ vs
      · rw [wipe_set hv, wipe_wipe]
      · rw [wipe_set.wipe_comm hv, wipe_wipe, List.set_set]
theorem de_lc {elt tg iter : Expr} {ifs : List Expr} {scope : Scope} {own : List (Str × Nat)} {wi : DI} {g : DG} {tt : DT} {te : DE} (hN : X.N.Nodup) (hi : PId X cl tg iter wi) (ok : BlkOk X.N X.env.scope scope own)
    (hg : ∀ (s : Shared) (H : Hp) (C : Addr) (l : List (Str × Addr)) (fp : List Addr), POd (X.blk s H scope (compEnvC scope l C X.env) fp) cl vs tg g) (ht : ∀ (s : Shared) (H : Hp) (C : Addr) (l : List (Str × Addr)) (fp : List Addr), PTsd (X.blk s H scope (compEnvC scope l C X.env) fp) cl ifs tt)
    (he : ∀ (s : Shared) (H : Hp) (C : Addr) (l : List (Str × Addr)) (fp : List Addr), PEd (X.blk s H scope (compEnvC scope l C X.env) fp) cl elt te) (hv : own.map (·.2) = vs := by rfl) (hc : X.calm = true := by rfl) (hs : ∀ x, foldedSetIterable iter X.env x = pure x := by intro _; rfl) :
    PEd X cl (.ListComp elt [⟨tg, iter, ifs, 0⟩] scope pos) (dLc wi g tt te vs) := by
  subst hv
  exact weakE (pe_lc hc hN hi ok hg ht he hs) fun _ _ _ h => low_lc h
end

/-- a list that has just been made, seen as a tree -/
def dFz (t : DE) : DE := fun ρ C Q => t ρ C fun d C1 => ∃ a ds, d = .ref a ∧ C1 a = some (.lst ds) ∧ Q (.lst ds) (delC C1 a)
theorem delC_new {C : Cl} {p : Addr} {c : Cell} (h : C p = none) : delC (updC C p c) p = C := by
  funext b
  unfold delC
  by_cases e : b = p
  · rw [if_pos e, e, h]
  · rw [if_neg e, updC_ne e]
section
variable {X : Cx} {cl : NmB} {pos : Pos} {K : PySem.W.Frag}
theorem low_fz {t : DE} {σ : L2.St} {H : Hp} {Q : VK} (h : lowE K cl (dFz t) σ H Q) : lowE K cl t σ H Q := by
  obtain ⟨ρ, C, F, Qd, R, h, k⟩ := h
  refine ⟨ρ, C, F, _, R, h, fun v d C1 H1 F1 s1 R1 r1 ⟨a, ds, e, hc, q⟩ => ?_⟩
  subst e
  obtain ⟨F2, s2, R2, r2⟩ := (Gh.lst hc).ok R1 r1
  exact k v _ _ H1 F2 (s1.trans s2) R2 r2 q
theorem de_fz {e : Expr} {t : DE} (h : PEd X cl e t) : PEd X cl e (dFz t) := weakE h fun _ _ _ h => low_fz h
end
/-- a comprehension whose elements are told one by one, each leaving the cells as they are -/
theorem lc_map {xs : List D} {C1 : Cl} {ρ : DEnv} {g : DG} {te : DE} {vs : List Nat} {Q : DQ} (f : D → D) (hl : xs.length ≤ sizeLine)
    (h : ∀ (i : Nat) (x : D) (C : Cl) (N : DQ), xs[i]? = some x → SubC C1 C → N (f x) C → g x (wipeD ρ vs) C fun ρ2 C2 => te ρ2 C2 N) (hq : Q (.lst (xs.map f)) C1) :
    ∀ p, C1 p = none → ∃ Pv : Nat → Cl → Prop, Pv 0 (updC C1 p (.lst [])) ∧
      (∀ i x C, xs[i]? = some x → Pv i C → g x (wipeD ρ vs) C fun ρ2 C2 => dYes ρ2 C2 fun b C3 =>
        if b = true then te ρ2 C3 fun y C4 => ∃ acc, C4 p = some (.lst acc) ∧ acc.length < sizeLine ∧ Pv (i + 1) (updC C4 p (.lst (acc ++ [y]))) else Pv (i + 1) C3) ∧
      ∀ C, Pv xs.length C → ∃ a ds, D.ref p = .ref a ∧ C a = some (.lst ds) ∧ Q (.lst ds) (delC C a) := by
  intro p np
  refine ⟨fun i C => C = updC C1 p (.lst ((xs.take i).map f)), by simp, fun i x C hx e => ?_, fun C e => ?_⟩
  · subst e
    refine h i x _ _ hx ((SubC.refl C1).new np) ⟨_, updC_same, ?_, ?_⟩
    · have := (List.getElem?_eq_some_iff.mp hx).1
      rw [List.length_map, List.length_take]
      omega
    · show updC (updC C1 p _) p _ = updC C1 p (.lst ((xs.take (i + 1)).map f))
      rw [updC_updC, List.take_add_one, hx, List.map_append]
      rfl
  · subst e
    refine ⟨p, _, rfl, updC_same, ?_⟩
    rw [delC_new np, List.take_length]
    exact hq
/-! ### calls -/
abbrev RDC := List D → Cl → DQ → Prop
def lowC (K : PySem.W.Frag) (cl : Nm) (rd : RDC) : List V → Hp → VK → Prop := fun xs H Q => ∃ ds C F Qd, RC K cl C F H ∧ RepL K cl F xs ds ∧ rd ds C Qd ∧ Fin K cl F Qd Q
abbrev CallD (X : Cx) (cl : Nm) (f : Value) (rd : RDC) : Prop := CallR X f (lowC X.K cl rd)
def dCB (rd : RDC) (t : DA) : DE := fun ρ C Q => t ρ C fun ds C1 => rd ds C1 Q
abbrev RDM := D → List D → Cl → DQ → Prop
def lowM (K : PySem.W.Frag) (cl : Nm) (rd : RDM) : V → List V → Hp → VK → Prop := fun x xs H Q => ∃ dx ds C F Qd, RC K cl C F H ∧ Rep K cl F x dx ∧ RepL K cl F xs ds ∧ rd dx ds C Qd ∧ Fin K cl F Qd Q
abbrev MtD (X : Cx) (cl : Nm) (id : String) (rd : RDM) : Prop := MtR X id (lowM X.K cl rd)
/-- the value is of that built-in type -/
def tyD (T : String) (d : D) (C : Cl) : Prop := match d with
  | .str _ => T = "str"
  | .int _ => T = "int"
  | .lst _ => T = "list"
  | .rol _ => T = "list"
  | .dct _ => T = "dict"
  | .ref a => (T = "list" ∧ ∃ ds, C a = some (.lst ds)) ∨ (T = "dict" ∧ ((∃ ds, C a = some (.dic ds)) ∨ ∃ ds, C a = some (.dct ds)))
  | _ => False
theorem tyD_ok {K : PySem.W.Frag} {cl : Nm} {T : String} {d : D} {v : V} {C : Cl} {F H : Hp} (R : RC K cl C F H) (r : Rep K cl F v d) (h : tyD T d C) : tyV K T v H := by
  cases r with
  | str x => exact h
  | int x => exact h
  | lst h1 _ => exact .inl ⟨h, _, .of (R.sub _ _ h1)⟩
  | rol h1 _ => exact .inl ⟨h, _, R.sub.seq h1⟩
  | dic h1 _ => exact h.elim
  | dct h1 _ => exact .inr (.inr (.inl ⟨h, .inr ⟨_, R.sub _ _ h1⟩⟩))
  | ref a =>
    rcases h with ⟨e, ds, hc⟩ | ⟨e, ⟨ds, hc⟩ | ⟨ds, hc⟩⟩
    · obtain ⟨_, o, ho, c⟩ := R.cel _ _ hc
      cases c
      exact .inl ⟨e, _, .of ho⟩
    · obtain ⟨_, o, ho, c⟩ := R.cel _ _ hc
      cases c
      exact .inr (.inr (.inl ⟨e, .inl ⟨_, ho⟩⟩))
    · obtain ⟨_, o, ho, c⟩ := R.cel _ _ hc
      cases c
      exact .inr (.inr (.inl ⟨e, .inr ⟨_, ho⟩⟩))
  | _ => exact h.elim
def dBM (T : String) (rd : RDM) (to : DE) (t : DA) : DE := fun ρ C Q => to ρ C fun x C1 => tyD T x C1 ∧ t ρ C1 fun ds C2 => rd x ds C2 Q
def dBM0 (T : String) (rd : RDM) (to : DE) : DE := fun ρ C Q => to ρ C fun x C1 => tyD T x C1 ∧ rd x [] C1 Q
def dCall (sp : DSp) (ds : List D) (t : DA) : DE := fun ρ C Q => t ρ C fun xs C1 => sp (xs ++ ds) C1 Q fun _ _ _ => False
section
variable {X : Cx} {cl : NmB} {e o : Expr} {es : List Expr} {t : DA} {to : DE} {pos cpos apos p : Pos} {K : PySem.W.Frag} {x name : Str}
theorem low_cb {rd : RDC} {σ : L2.St} {H : Hp} {Q : VK} (h : lowE K cl (dCB rd t) σ H Q) : tCB (lowC K cl rd) (lowA K cl t) σ H Q := by
  obtain ⟨ρ, C, F, Qd, R, h, k⟩ := h
  exact ⟨ρ, C, F, _, R, h, fun vs ds C1 H1 F1 s1 R1 r1 q1 => ⟨ds, C1, F1, Qd, R1, r1, q1, k.at s1⟩⟩
theorem de_callB {rd : RDC} {id : String} (hc : CallD X cl (.builtin id) rd) (hm : X.mg x = none) (hv : bootBuiltins x = some (.builtin id)) (ha : PAd X cl (e :: es) t) (hg : Gl X x := by rfl) (hn : x ≠ "__name__" := by decide) (hdb : (x == ("__debug__" : Str)) = false := by decide)
    (he : starEach (e :: es) X.env = (false, eval e X.env) :: starEach es X.env := by rfl) (hpl : (backTo pos (starEach es X.env)).any (·.1) = false := by rfl) : PEd X cl (.Call (.Name x p) (e :: es) [] pos) (dCB rd t) :=
  weakE (pe_callB hc hg hm hv ha hn hdb he hpl) fun _ _ _ h => low_cb h
theorem de_callTy {rd : RDC} {T : String} (hc : CallD X cl (.type T) rd) (hm : X.mg x = none) (hv : bootBuiltins x = some (.type T)) (ha : PAd X cl (e :: es) t) (hg : Gl X x := by rfl) (hn : x ≠ "__name__" := by decide) (hdb : (x == ("__debug__" : Str)) = false := by decide)
    (he : starEach (e :: es) X.env = (false, eval e X.env) :: starEach es X.env := by rfl) (hpl : (backTo pos (starEach es X.env)).any (·.1) = false := by rfl) : PEd X cl (.Call (.Name x p) (e :: es) [] pos) (dCB rd t) :=
  weakE (pe_callTy hc hg hm hv ha hn hdb he hpl) fun _ _ _ h => low_cb h
theorem de_bm {rd : RDM} {T id : String} (pa : PlainAttrs T) (slot : Slot T name id) (hty : typeOf (.builtin id) = pure (.type "method_descriptor")) (hm : MtD X cl id rd) (ho : PEd X cl o to) (ha : PAd X cl (e :: es) t)
    (hbase : attributeBase o name X.env (eval o X.env) = eval o X.env := by rfl)
    (hfew : ((backTo cpos (starEach (e :: es) X.env)).all (fun x => !x.1) && (backToKw cpos (keywordEach [] X.env)).all (fun x => x.1.isSome)
      && decide ((e :: es).length + ([] : List Keyword).length + (if ([] : List Keyword).isEmpty then 0 else 1) < 30)) = true := by rfl)
    (hline : (apos.endLine == cpos.line) = true := by rfl) (hs : starEach (e :: es) X.env = (false, eval e X.env) :: starEach es X.env := by rfl) (hplain : (backTo cpos (starEach es X.env)).any (·.1) = false := by rfl) : PEd X cl (.Call (.Attribute o name apos) (e :: es) [] cpos) (dBM T rd to t) := by
  refine weakE (pe_bm pa slot hty hm ho ha hbase hfew hline hs hplain) fun σ H Q ⟨ρ, C, F, Qd, R, h, k⟩ => ?_
  refine ⟨ρ, C, F, _, R, h, fun v d C1 H1 F1 s1 R1 r1 ⟨ty, q1⟩ => ⟨tyD_ok R1 r1 ty, ?_⟩⟩
  exact ⟨ρ, C1, F1, _, R.next s1 R1, q1, fun vs ds C2 H2 F2 s2 R2 r2 q2 => ⟨d, ds, C2, F2, Qd, R2, r1.mono s2, r2, q2, k.at (s1.trans s2)⟩⟩
variable {f : Addr} {fd : FuncData} {ps : List Str} {sp : DSp} {n : Nat}
/-- a def that lets nothing out -/
abbrev FnD (P : Program) (w : World) (K : PySem.W.Frag) (cl : Nm) (mg : Str → Option Value) (base : Heap) (n : Nat) (f : Addr) (fd : FuncData) (ps : List Str) (sp : DSp) : Prop := FnOk P w K mg base CX0 n f fd ps (lowSp K cl sp)
theorem de_call {dv : List Value} {vs : List V} {ds : List D} (FG : FnD X.prog X.w X.K cl X.mg X.base n f fd ps sp) (hr : Room n X.A) (hm : X.mg x = some (.ref f)) (hk : PySem.W.keepIn X.K (.ref f) = true) (hb : Binds X.K fd ps dv) (hd : Vals vs dv) (hv : ∀ F, RepL X.K cl F vs ds)
    (ha : PAd X cl (e :: es) t) (hg : Gl X x := by rfl) (hdb : (x == ("__debug__" : Str)) = false := by decide) (he : starEach (e :: es) X.env = (false, eval e X.env) :: starEach es X.env := by rfl) (hpl : (backTo pos (starEach es X.env)).any (·.1) = false := by rfl) :
    PEd X cl (.Call (.Name x p) (e :: es) [] pos) (dCall sp ds t) := by
  refine weakE (pe_callG (E := E0) FG hr hg hm hk hb hd pass0 ha hdb he hpl) fun σ H Q ⟨ρ, C, F, Qd, R, h, k⟩ => ?_
  refine ⟨ρ, C, F, _, R, h, fun us es C1 H1 F1 s1 R1 r1 q1 => ?_⟩
  exact ⟨es ++ ds, C1, F1, Qd, _, R1, r1.append (hv F1), q1, k.at s1, fun _ _ _ _ _ _ _ _ _ _ z => z.elim⟩
theorem de_call0 {dv : List Value} {vs : List V} {ds : List D} (FG : FnD X.prog X.w X.K cl X.mg X.base n f fd ps sp) (hr : Room n X.A) (hm : X.mg x = some (.ref f)) (hk : PySem.W.keepIn X.K (.ref f) = true) (hb : Binds X.K fd ps dv) (hd : Vals vs dv) (hv : ∀ F, RepL X.K cl F vs ds)
    (hg : Gl X x := by rfl) (hdb : (x == ("__debug__" : Str)) = false := by decide) :
    PEd X cl (.Call (.Name x p) [] [] pos) (dCall sp ds dNil) := by
  refine weakE (pe_callG0 (E := E0) FG hr hg hm hk hb hd pass0 hdb) fun σ H Q ⟨ρ, C, F, Qd, R, h, k⟩ => ?_
  exact ⟨ds, C, F, Qd, _, R.rc, hv F, h, k, fun _ _ _ _ _ _ _ _ _ _ z => z.elim⟩
end

/-! ### a def -/
def startD (N : List Str) (ds : List D) : DEnv := ds.map some ++ List.replicate (N.length - ds.length) none
/-- what a def's body is to reach -/
def endsD (Q : DQ) : DEnds := { nx := fun _ C => ∃ C', SubC C' C ∧ Q .non C', rt := fun d C => ∃ d' C', Gh d C d' C' ∧ Q d' C' }
theorem RS.startB {K : PySem.W.Frag} {cl : NmB} {C : Cl} {F H : Hp} {vs : List V} {ds : List D} (N : List Str) (R : RC K cl C F H) (r : RepL K cl F vs ds) (hb : Same cl.bs F) : RS K cl (startD N ds) C F (start N vs) H where
  rc := R
  bs := hb
  len := by unfold startD L2.start; simp [r.length]
  env := fun i d e => by
    unfold startD at e
    unfold L2.start
    by_cases h : i < ds.length
    · rw [List.getElem?_append_left (by simpa using h), List.getElem?_map] at e
      cases q : ds[i]? with
      | none => rw [q] at e; cases e
      | some d' =>
        rw [q] at e
        have e' : d' = d := Option.some.inj (Option.some.inj e)
        subst e'
        obtain ⟨v, hv, rv⟩ := r.get q
        refine ⟨v, ?_, rv⟩
        rw [List.getElem?_append_left (by simpa [r.length] using h), List.getElem?_map, hv]
        rfl
    · rw [List.getElem?_append_right (by simpa using h), List.getElem?_replicate] at e
      split at e <;> cases e
theorem RS.start {K : PySem.W.Frag} {cl : Nm} {C : Cl} {F H : Hp} {vs : List V} {ds : List D} (N : List Str) (R : RC K cl C F H) (r : RepL K cl F vs ds) : RS K (nb cl) (startD N ds) C F (start N vs) H := RS.startB N R r fun _ _ z => nomatch z
section
variable {P : Program} {w : World} {K : PySem.W.Frag} {cl : Nm} {mg : Str → Option Value} {base : Heap}
theorem fn_d {x qual : Str} {st : Stmt} {f : Addr} {fd : FuncData} {N ps : List Str} {k : Nat} {sp : DSp} {td : DS} (Fu : Fun K x qual st f fd) (S : FnScope N ps (defScope st)) (len : ∀ ds C Q E, sp ds C Q E → ds.length = ps.length)
    (pure : ∀ ds C Q E, sp ds C Q E → td (endsD Q) (startD N ds) C)
    (body : ∀ (cdv : Value) (A : Around) (outer : List Env) (s : Shared) (H : Hp) (E : XK), Room k (A.deeper (envOfC qual (defScope st) s.heap.objs.size f cdv)) → PSsd (cxOf CX0 P w K mg base N qual (defScope st) f cdv A outer s H E).nox (nb cl) (defBody st) td) :
    FnD P w K cl mg base (k + 1) f fd ps sp := by
  refine funOk Fu S (fun vs H Q E ⟨ds, C, F, Qd, Ed, R, r, h, _, _⟩ => r.length.trans (len ds C Qd Ed h)) fun cdv A outer s H vs Q E hr ⟨ds, C, F, Qd, Ed, R, r, h, kq, kx⟩ => ?_
  refine ⟨_, body cdv A outer s H E hr, startD N ds, C, F, _, RS.start N R r, pure ds C Qd Ed h, ?_⟩
  refine ⟨fun ρ C1 F1 σ H1 s1 R1 ⟨C2, sc, q⟩ => kq .non .non C2 H1 F1 s1 (R1.rc.drop sc) .non q, fun _ _ _ _ _ _ _ z => z.elim, fun _ _ _ _ _ _ _ z => z.elim, fun v d C1 F1 H1 s1 R1 r1 ⟨d', C2, g, q⟩ => ?_⟩
  obtain ⟨F2, s2, R2, r2⟩ := g.ok R1 r1
  exact kq v d' C2 H1 F2 (s1.trans s2) R2 r2 q
end
end G
namespace G
open PySem PySem.Spec PyProof.Rows L2

def szD : D → Prop
  | .str l => l.length ≤ sizeLine
  | .tup ds => ds.length ≤ sizeLine
  | .lst ds => ds.length ≤ sizeLine
  | _ => True
def rOf (f : D → D → Option D) : RD2 := fun x y C Q => ∃ z, f x y = some z ∧ szD z ∧ Q z C
theorem str_app (a b : List Nat) : ((⟨a.toArray⟩ : Str) ++ ⟨b.toArray⟩) = ⟨(a ++ b).toArray⟩ := TL.ext_tl (by rw [TL.tl_append])
theorem len_mk (a : List Nat) : (⟨a.toArray⟩ : Str).length = a.length := by rw [TL.len_tl]
/-! ### arithmetic -/
def addF : D → D → Option D
  | .int i, .int j => some (.int (i + j))
  | .int i, .bl k => some (.int (i + b2i k))
  | .str a, .str b => some (.str (a ++ b))
  | .tup a, .tup b => some (.tup (a ++ b))
  | .lst a, .lst b => some (.lst (a ++ b))
  | _, _ => none
section
variable {X : Cx} {cl : NmB}
theorem od_add : OpD X cl (binaryOp .Add) (rOf addF) := by
  intro pins s σ H x y v u Q I rx ry ⟨dx, dy, C, F, Qd, R, r1, r2, ⟨z, e, sz, q⟩, k⟩
  have ss := Same.refl F
  unfold addF at e
  split at e
  · cases e; cases r1; cases r2
    exact op_add pins s σ H _ _ v u Q I rx ry ⟨_, _, rfl, rfl, k _ _ C H F ss R (.int _) q⟩
  · cases e; cases r1; cases r2
    exact op_add_ib pins s σ H _ _ v u Q I rx ry ⟨_, _, rfl, rfl, k _ _ C H F ss R (.int _) q⟩
  · rename_i a b
    cases e; cases r1; cases r2
    refine op_add_str pins s σ H _ _ v u Q I rx ry ⟨_, _, rfl, rfl, ?_, ?_⟩
    · rw [len_mk, len_mk, ← List.length_append]; exact sz
    · rw [str_app]; exact k _ _ C H F ss R (.str _) q
  · rename_i a b
    cases e
    cases r1 with
    | tup h1 l1 =>
      cases r2 with
      | tup h2 l2 =>
        rename_i p1 xs p2 ys
        refine op_catA pins s σ H _ _ v u Q I rx ry ⟨_, _, xs, ys, rfl, rfl, sqT_mono R.sub h1, sqT_mono R.sub h2, ?_, fun e => ?_, fun _ e => ?_, fun _ _ p np => ?_⟩
        · rw [l1.length, l2.length, ← List.length_append]; exact sz
        · subst e
          cases l1
          exact k _ _ C H F ss R (.tup h2 l2) q
        · subst e
          cases l2
          rw [List.append_nil] at q
          exact k _ _ C H F ss R (.tup h1 l1) q
        · have s2 := same_upd (o := .tup (xs ++ ys)) (R.freeF np)
          exact k _ _ C _ _ s2 (R.new np) (.tup (.of upd_same) ((l1.append l2).mono s2)) q
  · rename_i a b
    cases e
    cases r1 with
    | lst h1 l1 =>
      cases r2 with
      | lst h2 l2 =>
        rename_i p1 xs p2 ys
        refine op_cat pins s σ H _ _ v u Q I rx ry ⟨_, _, xs, ys, rfl, rfl, R.sub _ _ h1, R.sub _ _ h2, ?_, fun p np => ?_⟩
        · rw [l1.length, l2.length, ← List.length_append]; exact sz
        · have s2 := same_upd (o := .lst (xs ++ ys)) (R.freeF np)
          exact k _ _ C _ _ s2 (R.new np) (.lst upd_same ((l1.append l2).mono s2)) q
  · cases e
def ioF (g : Int → Int → Int) : D → D → Option D
  | .int i, .int j => some (.int (g i j))
  | _, _ => none
theorem ioF_inv {g : Int → Int → Int} {x y z : D} (h : ioF g x y = some z) : ∃ i j, x = .int i ∧ y = .int j ∧ z = .int (g i j) := by
  unfold ioF at h
  split at h
  · exact ⟨_, _, rfl, rfl, (Option.some.inj h).symm⟩
  · cases h
theorem od_sub : OpD X cl (binaryOp .Sub) (rOf (ioF fun i j => i - j)) := by
  intro pins s σ H x y v u Q I rx ry ⟨dx, dy, C, F, Qd, R, r1, r2, ⟨z, e, sz, q⟩, k⟩
  obtain ⟨i, j, rfl, rfl, rfl⟩ := ioF_inv e
  cases r1; cases r2
  exact op_sub pins s σ H _ _ v u Q I rx ry ⟨_, _, rfl, rfl, k _ _ C H F (Same.refl F) R (.int _) q⟩
/-- ints under a condition -/
def rIC (P : Int → Int → Prop) (g : Int → Int → Int) : RD2 := fun x y C Q => ∃ i j, x = .int i ∧ y = .int j ∧ P i j ∧ Q (.int (g i j)) C
theorem od_ic {f : Value → Value → Sem Value} {P : Int → Int → Prop} {g : Int → Int → Int} (h : OpR X f (rI P fun i j => .int (g i j))) : OpD X cl f (rIC P g) := by
  intro pins s σ H x y v u Q I rx ry ⟨dx, dy, C, F, Qd, R, r1, r2, ⟨i, j, e1, e2, p, q⟩, k⟩
  subst e1 e2
  cases r1; cases r2
  exact h pins s σ H _ _ v u Q I rx ry ⟨_, _, rfl, rfl, p, k _ _ C H F (Same.refl F) R (.int _) q⟩
theorem od_fdiv : OpD X cl (binaryOp .FloorDiv) (rIC CDivW fun i j => i / j) := od_ic op_fdivW
theorem od_mod : OpD X cl (binaryOp .Mod) (rIC (fun _ j => 0 < j) fun i j => i % j) := od_ic op_mod
theorem od_pow : OpD X cl (binaryOp .Pow) (rIC CPow fun i j => i ^ j.toNat) := od_ic op_pow
/-- a text so many times -/
def repL (l : List Nat) (n : Nat) : List Nat := (List.replicate n l).flatten
def rMul : RD2 := fun x y C Q => (∃ i j, x = .int i ∧ y = .int j ∧ CMul i j ∧ Q (.int (i * j)) C) ∨ (∃ l j, x = .str l ∧ y = .int j ∧ (j ≤ 1000000 ∧ l.length ≤ 1000000 ∧ l.length * j.toNat ≤ 1000000) ∧ -1000000 ≤ j ∧ Q (.str (repL l j.toNat)) C)
theorem rep_cps (x : Str) : ∀ (n : Nat) (acc : Array Nat), ((List.replicate n x.cps).foldl (· ++ ·) acc).toList = acc.toList ++ (List.replicate n x.cps.toList).flatten
  | 0, acc => by simp
  | n + 1, acc => by
    rw [List.replicate_succ, List.foldl_cons, rep_cps x n, List.replicate_succ, List.flatten_cons, Array.toList_append, List.append_assoc]
theorem txt_mul (l : List Nat) (j : Int) : Txt.mul ⟨l.toArray⟩ j = ⟨(repL l j.toNat).toArray⟩ := by
  apply TL.ext_tl
  unfold Txt.mul repL
  by_cases h1 : j < 1
  · rw [if_pos h1, show j.toNat = 0 by omega]
    rfl
  · rw [if_neg h1]
    by_cases h2 : (j == 1 || (⟨l.toArray⟩ : Str).length == 0) = true
    · rw [if_pos h2]
      rw [Bool.or_eq_true] at h2
      rcases h2 with h2 | h2
      · have e : j = 1 := eq_of_beq h2
        subst e
        show l = ([l] : List (List Nat)).flatten
        simp
      · have e : (⟨l.toArray⟩ : Str).length = 0 := eq_of_beq h2
        rw [len_mk] at e
        have e : l = [] := List.length_eq_zero_iff.mp e
        subst e
        show ([] : List Nat) = _
        simp
    · rw [if_neg h2]
      exact rep_cps ⟨l.toArray⟩ j.toNat #[]
theorem mul_ok {l : List Nat} {j : Int} (h : j ≤ 1000000 ∧ l.length ≤ 1000000 ∧ l.length * j.toNat ≤ 1000000) (h2 : -1000000 ≤ j) : MulOk ⟨l.toArray⟩ j := by
  obtain ⟨h0, h1, h3⟩ := h
  refine ⟨?_, fun hn _ => ?_, fun hn _ => ?_⟩
  · rw [Bool.or_eq_false_iff]
    exact ⟨decide_eq_false (by omega), decide_eq_false (by omega)⟩
  · rw [len_mk]
    have e : (2 : Int) ^ 63 - 1 = 9223372036854775807 := by decide
    rw [e]
    have hj : (0 : Int) < j := by omega
    have key : (l.length : Int) ≤ 9223372036854775807 / j := by
      rw [Int.le_ediv_iff_mul_le hj]
      have e2 : (l.length : Int) * j = ((l.length * j.toNat : Nat) : Int) := by
        rw [Int.natCast_mul]
        congr 1
        omega
      rw [e2]
      omega
    omega
  · rw [len_mk]
    unfold Builtin.Str.tooLong
    exact decide_eq_false (by
      have : ∀ n : Nat, n ≤ 1000000 → ¬ n > 16777216 := fun n hn => by omega
      first
        | exact this _ h3
        | (intro hx; have := h3; simp at hx; omega))
theorem od_mul : OpD X cl (binaryOp .Mult) rMul := by
  intro pins s σ H x y v u Q I rx ry ⟨dx, dy, C, F, Qd, R, r1, r2, h, k⟩
  rcases h with ⟨i, j, e1, e2, p, q⟩ | ⟨l, j, e1, e2, p, p2, q⟩
  · subst e1 e2
    cases r1; cases r2
    exact op_mul pins s σ H _ _ v u Q I rx ry ⟨_, _, rfl, rfl, p, k _ _ C H F (Same.refl F) R (.int _) q⟩
  · subst e1 e2
    cases r1; cases r2
    obtain ⟨t, rfl⟩ := rx
    obtain ⟨t', rfl⟩ := ry
    refine SB.mul (mul_ok p p2) fun t2 k2 => ?_
    rw [txt_mul]
    exact ⟨.str _, H, I.tok _, ⟨_, rfl⟩, k _ _ C H F (Same.refl F) R (.str _) q⟩
def rNeg : RD1 := fun x C Q => ∃ i, x = .int i ∧ Q (.int (-i)) C
theorem ud_neg : UnR X (unaryOp .USub) (lowR1 X.K cl rNeg) := by
  intro pins s σ H x v Q I rx ⟨dx, C, F, Qd, R, r1, ⟨i, e, q⟩, k⟩
  subst e
  cases r1
  exact un_neg pins s σ H _ v Q I rx ⟨_, rfl, k _ _ C H F (Same.refl F) R (.int _) q⟩

/-! ### comparisons -/
def flatEq : D → D → Option Bool
  | .non, .non => some true
  | .int a, .int b => some (decide (a = b))
  | .bl a, .bl b => some (decide (a = b))
  | .str a, .str b => some (decide (a = b))
  | .non, .int _ => some false | .int _, .non => some false | .non, .bl _ => some false | .bl _, .non => some false | .non, .str _ => some false | .str _, .non => some false
  | .int _, .str _ => some false | .str _, .int _ => some false | .bl _, .str _ => some false | .str _, .bl _ => some false
  | _, _ => none
theorem flatEq_ok {K : PySem.W.Frag} {F : Hp} {x y : V} {dx dy : D} {b : Bool} (r1 : Rep K cl F x dx) (r2 : Rep K cl F y dy) (h : flatEq dx dy = some b) : scal x y = true ∧ decide (x = y) = b := by
  unfold flatEq at h
  split at h <;> first
    | (cases h; cases r1; cases r2; exact ⟨rfl, by first | rfl | (simp)⟩)
    | cases h
/-! #### data as a whole -/
mutual
def toPy : D → PyData
  | .bl b => .bool b
  | .int i => .int i
  | .str l => .str ⟨l.toArray⟩
  | .tup ds => .tuple (toPyL ds)
  | .lst ds => .list (toPyL ds)
  | .rol ds => .list (toPyL ds)
  | _ => .none
def toPyL : List D → List PyData
  | [] => []
  | d :: ds => toPy d :: toPyL ds
end
mutual
def plain : D → Bool
  | .non => true
  | .bl _ => true
  | .int _ => true
  | .str _ => true
  | .tup ds => plainL ds
  | .lst ds => plainL ds
  | .rol ds => plainL ds
  | _ => false
def plainL : List D → Bool
  | [] => true
  | d :: ds => plain d && plainL ds
end
mutual
theorem Rep.dp {K : PySem.W.Frag} {F H : Hp} (s : Same F H) : ∀ {v : V} {d : D}, Rep K cl F v d → plain d = true → Dp K H v (toPy d)
  | _, _, .non, _ => by unfold toPy; exact .non
  | _, _, .bl b, _ => by unfold toPy; exact .bl b
  | _, _, .int i, _ => by unfold toPy; exact .int i
  | _, _, .str l, _ => by unfold toPy; exact .str _
  | _, _, .ref a, h => by unfold plain at h; cases h
  | _, _, .ty n, h => by unfold plain at h; cases h
  | _, _, .tup h1 h2, h => by unfold plain at h; unfold toPy; exact .tup (sqT_mono s h1) (RepL.dp s h2 h)
  | _, _, .lst h1 h2, h => by unfold plain at h; unfold toPy; exact .lst (.of (s _ _ h1)) (RepL.dp s h2 h)
  | _, _, .rol h1 h2, h => by unfold plain at h; unfold toPy; exact .lst (s.seq h1) (RepL.dp s h2 h)
  | _, _, .dic h1 h2, h => by unfold plain at h; cases h
  | _, _, .dct h1 h2, h => by unfold plain at h; cases h
  | _, _, .ins h1 h2, h => by unfold plain at h; cases h
theorem RepL.dp {K : PySem.W.Frag} {F H : Hp} (s : Same F H) : ∀ {vs : List V} {ds : List D}, RepL K cl F vs ds → plainL ds = true → DpAll K H vs (toPyL ds)
  | _, _, .nil, _ => by unfold toPyL; exact .nil
  | _, _, .cons h r, e => by
    unfold plainL at e
    rw [Bool.and_eq_true] at e
    unfold toPyL
    exact .cons (Rep.dp s h e.1) (RepL.dp s r e.2)
end
/-- what == of two plain things is -/
def eqT (x y : D) : Bool := PyData.eqv (toPy x) (toPy y)
def shp (x : D) : Bool := plain x && SeqAt.shaped (toPy x)
def rEqD : RD2 := fun x y C Q => (∃ b, flatEq x y = some b ∧ Q (.bl b) C) ∨ (shp x = true ∧ shp y = true ∧ Q (.bl (eqT x y)) C)
def rNeD : RD2 := fun x y C Q => (∃ b, flatEq x y = some b ∧ Q (.bl (!b)) C) ∨ (shp x = true ∧ shp y = true ∧ Q (.bl (!eqT x y)) C)
theorem od_eq {n : Nat} (hr : Room n X.A) : OpD X cl (compareOp .Eq) rEqD := by
  intro pins s σ H x y v u Q I rx ry ⟨dx, dy, C, F, Qd, R, r1, r2, h, k⟩
  rcases h with ⟨b, e, q⟩ | ⟨h1, h2, q⟩
  · obtain ⟨hs, hd⟩ := flatEq_ok r1 r2 e
    refine op_eq pins s σ H _ _ v u Q I rx ry ⟨hs, ?_⟩
    rw [hd]
    exact k _ _ C H F (Same.refl F) R (.bl _) q
  · unfold shp at h1 h2
    rw [Bool.and_eq_true] at h1 h2
    exact op_eqD hr.units pins s σ H _ _ v u Q I rx ry ⟨_, _, r1.dp R.sub h1.1, r2.dp R.sub h2.1, h1.2, h2.2, k _ _ C H F (Same.refl F) R (.bl _) q⟩
theorem od_ne {n : Nat} (hr : Room n X.A) : OpD X cl (compareOp .NotEq) rNeD := by
  intro pins s σ H x y v u Q I rx ry ⟨dx, dy, C, F, Qd, R, r1, r2, h, k⟩
  rcases h with ⟨b, e, q⟩ | ⟨h1, h2, q⟩
  · obtain ⟨hs, hd⟩ := flatEq_ok r1 r2 e
    refine op_ne pins s σ H _ _ v u Q I rx ry ⟨hs, ?_⟩
    rw [hd]
    exact k _ _ C H F (Same.refl F) R (.bl _) q
  · unfold shp at h1 h2
    rw [Bool.and_eq_true] at h1 h2
    exact op_neD hr.units pins s σ H _ _ v u Q I rx ry ⟨_, _, r1.dp R.sub h1.1, r2.dp R.sub h2.1, h1.2, h2.2, k _ _ C H F (Same.refl F) R (.bl _) q⟩
/-- order of ints, of texts -/
def ordF (p : Int → Int → Bool) (q : List Nat → List Nat → Bool) : D → D → Option D
  | .int i, .int j => some (.bl (p i j))
  | .str a, .str b => some (.bl (q a b))
  | _, _ => none
theorem od_ord {op : CmpOp} {p : Int → Int → Bool} {q : List Nat → List Nat → Bool} (h1 : OpR X (compareOp op) (rI0 fun i j => .bl (p i j)))
    (h2 : OpR X (compareOp op) (fun x y H Q => ∃ i j, x = .str i ∧ y = .str j ∧ Q (.bl (q i.cps.toList j.cps.toList)) H)) : OpD X cl (compareOp op) (rOf (ordF p q)) := by
  intro pins s σ H x y v u Q I rx ry ⟨dx, dy, C, F, Qd, R, r1, r2, ⟨z, e, sz, qq⟩, k⟩
  unfold ordF at e
  split at e
  · cases e; cases r1; cases r2
    exact h1 pins s σ H _ _ v u Q I rx ry ⟨_, _, rfl, rfl, k _ _ C H F (Same.refl F) R (.bl _) qq⟩
  · cases e; cases r1; cases r2
    exact h2 pins s σ H _ _ v u Q I rx ry ⟨_, _, rfl, rfl, k _ _ C H F (Same.refl F) R (.bl _) qq⟩
  · cases e
abbrev ltF := ordF (fun i j => decide (i < j)) (fun a b => decide (a < b))
abbrev leF := ordF (fun i j => decide (i ≤ j)) (fun a b => !decide (b < a))
abbrev gtF := ordF (fun i j => decide (j < i)) (fun a b => decide (b < a))
abbrev geF := ordF (fun i j => decide (j ≤ i)) (fun a b => !decide (a < b))
theorem od_lt : OpD X cl (compareOp .Lt) (rOf ltF) := od_ord op_lt op_lt_str
theorem od_le : OpD X cl (compareOp .LtE) (rOf leF) := od_ord op_le op_le_str
theorem od_gt : OpD X cl (compareOp .Gt) (rOf gtF) := od_ord op_gt op_gt_str
theorem od_ge : OpD X cl (compareOp .GtE) (rOf geF) := od_ord op_ge op_ge_str
/-- is None -/
def isNonD : D → Bool
  | .non => true
  | _ => false
def rNotN : RD2 := fun x y C Q => y = .non ∧ Q (.bl (!isNonD x)) C
theorem isNon_ok {K : PySem.W.Frag} {F : Hp} {x : V} {d : D} (r : Rep K cl F x d) : decide (x = .non) = isNonD d := by
  cases r <;> simp [isNonD]
theorem od_notN : OpD X cl (compareOp .IsNot) rNotN := by
  intro pins s σ H x y v u Q I rx ry ⟨dx, dy, C, F, Qd, R, r1, r2, ⟨e, q⟩, k⟩
  subst e
  cases r2
  refine op_notN pins s σ H _ _ v u Q I rx ry ⟨rfl, ?_⟩
  rw [isNon_ok r1]
  exact k _ _ C H F (Same.refl F) R (.bl _) q
end
end G
namespace G
open PySem PySem.Spec PyProof.Rows L2

/-! ### texts as lists of signs -/
/-- a stands in z -/
def subIn (a z : List Nat) : Bool := (List.range (z.length + 1)).any fun i => (z.drop i).take a.length == a
theorem subIn_ok (a z : List Nat) : (!(Builtin.Str.occurrences (⟨z.toArray⟩ : Str) ⟨a.toArray⟩ 0 (⟨z.toArray⟩ : Str).length 1).isEmpty) = subIn a z := by
  have key := StrLaws.found_iff (⟨z.toArray⟩ : Str) ⟨a.toArray⟩
  rw [Bool.eq_iff_iff, key]
  unfold subIn
  rw [List.any_eq_true]
  constructor
  · rintro ⟨i, h1, h2⟩
    rw [StrLaws.subAt_eq, len_mk] at h2
    rw [len_mk, len_mk] at h1
    exact ⟨i, List.mem_range.mpr (by omega), h2⟩
  · rintro ⟨i, h1, h2⟩
    have h1 := List.mem_range.mp h1
    have e : (z.drop i).take a.length = a := eq_of_beq h2
    have e1 := congrArg List.length e
    rw [List.length_take, List.length_drop] at e1
    refine ⟨i, by rw [len_mk, len_mk]; omega, ?_⟩
    rw [StrLaws.subAt_eq, len_mk]
    exact h2
/-- without the signs of y at the end -/
def rdrop (g : Nat → Bool) (l : List Nat) : List Nat := (l.reverse.dropWhile g).reverse
end G
namespace G
open PySem PySem.Spec PyProof.Rows L2

/-! ### sequences -/
def cellL (C : Cl) (a : Addr) : Option (List D) :=
  match C a with
  | some (.lst ds) => some ds
  | _ => none
theorem cellL_eq {C : Cl} {a : Addr} {ds : List D} (h : cellL C a = some ds) : C a = some (.lst ds) := by
  unfold cellL at h
  split at h
  · rename_i e; cases h; exact e
  · cases h
theorem cellL_of {C : Cl} {a : Addr} {ds : List D} (h : C a = some (.lst ds)) : cellL C a = some ds := by
  unfold cellL
  rw [h]
def seqOf (C : Cl) : D → Option (List D)
  | .tup ds => some ds
  | .lst ds => some ds
  | .rol ds => some ds
  | .ref a => cellL C a
  | _ => none
section
variable {K : PySem.W.Frag} {cl : Nm} {C : Cl} {F H : Hp} {v : V} {d : D} {ds : List D}
theorem seq_ok (R : RC K cl C F H) (r : Rep K cl F v d) (h : seqOf C d = some ds) : ∃ a xs, v = .ref a ∧ (SqL K H a xs ∨ SqT K H a xs) ∧ RepL K cl F xs ds := by
  cases r with
  | tup h1 h2 => cases h; exact ⟨_, _, rfl, .inr (sqT_mono R.sub h1), h2⟩
  | lst h1 h2 => cases h; exact ⟨_, _, rfl, .inl (.of (R.sub _ _ h1)), h2⟩
  | rol h1 h2 => cases h; exact ⟨_, _, rfl, .inl (R.sub.seq h1), h2⟩
  | ref a =>
    obtain ⟨_, o, ho, c⟩ := R.cel _ _ (cellL_eq h)
    cases c with
    | lst rl => exact ⟨_, _, rfl, .inl (.of ho), rl⟩
  | _ => cases h
end
def flatD : D → Bool
  | .non => true
  | .bl _ => true
  | .int _ => true
  | .str _ => true
  | _ => false
/-- == of flat things -/
def eqFl : D → D → Bool
  | .non, .non => true
  | .bl a, .bl b => a == b
  | .bl a, .int b => (if a then 1 else 0) == b
  | .int a, .bl b => a == (if b then 1 else 0)
  | .int a, .int b => a == b
  | .str a, .str b => a == b
  | _, _ => false
section
variable {K : PySem.W.Frag} {cl : Nm} {F : Hp}
theorem flat_ok {v : V} {d : D} (r : Rep K cl F v d) (h : flatD d = true) : flatV v = true := by
  cases r <;> first | rfl | cases h
theorem beq_mk (a b : List Nat) : ((⟨a.toArray⟩ : Str) == ⟨b.toArray⟩) = (a == b) := by
  rw [Bool.eq_iff_iff, beq_iff_eq, beq_iff_eq]
  constructor
  · intro h
    have := congrArg TL.tl h
    exact this
  · intro h
    rw [h]
theorem eqFl_ok {v u : V} {d e : D} (r : Rep K cl F v d) (q : Rep K cl F u e) (h : flatD d = true) (g : flatD e = true) : eqV v u = eqFl d e := by
  cases r <;> first
    | (cases q <;> first | rfl | exact beq_mk _ _ | cases g)
    | cases h
theorem any_ok {v : V} {d : D} (r : Rep K cl F v d) (h : flatD d = true) : ∀ {xs : List V} {ds : List D}, RepL K cl F xs ds → ds.all flatD = true → xs.all flatV = true ∧ inV v xs = ds.any fun e => eqFl e d
  | _, _, .nil, _ => ⟨rfl, rfl⟩
  | _, _, .cons r1 rr, e => by
    rw [List.all_cons, Bool.and_eq_true] at e
    obtain ⟨h1, h2⟩ := any_ok r h rr e.2
    refine ⟨by rw [List.all_cons, flat_ok r1 e.1, h1]; rfl, ?_⟩
    unfold inV at h2 ⊢
    rw [List.any_cons, List.any_cons, h2, eqFl_ok r1 r e.1 h]
end
def rIn : RD2 := fun x y C Q => (∃ c z, x = .str [c] ∧ y = .str z ∧ Q (.bl (decide (c ∈ z))) C) ∨ (∃ a z, x = .str a ∧ y = .str z ∧ Q (.bl (subIn a z)) C) ∨ (∃ ys, seqOf C y = some ys ∧ flatD x = true ∧ ys.all flatD = true ∧ Q (.bl (ys.any fun e => eqFl e x)) C)
def rNotIn : RD2 := fun x y C Q => (∃ c z, x = .str [c] ∧ y = .str z ∧ Q (.bl (!decide (c ∈ z))) C) ∨ (∃ a z, x = .str a ∧ y = .str z ∧ Q (.bl (!subIn a z)) C) ∨ (∃ ys, seqOf C y = some ys ∧ flatD x = true ∧ ys.all flatD = true ∧ Q (.bl (!ys.any fun e => eqFl e x)) C)
section
variable {X : Cx} {cl : NmB}
theorem od_in : OpD X cl (compareOp .In) rIn := by
  intro pins s σ H x y v u Q I rx ry ⟨dx, dy, C, F, Qd, R, r1, r2, h, k⟩
  rcases h with ⟨c, z, e1, e2, q⟩ | ⟨a, z, e1, e2, q⟩ | ⟨ys, e, f1, f2, q⟩
  · subst e1 e2
    cases r1; cases r2
    exact op_in_sign pins s σ H _ _ v u Q I rx ry ⟨c, _, rfl, rfl, k _ _ C H F (Same.refl F) R (.bl _) q⟩
  · subst e1 e2
    cases r1; cases r2
    refine op_in_str pins s σ H _ _ v u Q I rx ry ⟨_, _, rfl, rfl, ?_⟩
    rw [subIn_ok]
    exact k _ _ C H F (Same.refl F) R (.bl _) q
  · obtain ⟨p, xs, rfl, hs, rl⟩ := seq_ok R r2 e
    obtain ⟨g1, g2⟩ := any_ok r1 f1 rl f2
    refine op_in_seq pins s σ H _ _ v u Q I rx ry ⟨p, xs, rfl, hs, flat_ok r1 f1, g1, ?_⟩
    rw [if_neg Bool.false_ne_true, g2]
    exact k _ _ C H F (Same.refl F) R (.bl _) q
theorem od_notin : OpD X cl (compareOp .NotIn) rNotIn := by
  intro pins s σ H x y v u Q I rx ry ⟨dx, dy, C, F, Qd, R, r1, r2, h, k⟩
  rcases h with ⟨c, z, e1, e2, q⟩ | ⟨a, z, e1, e2, q⟩ | ⟨ys, e, f1, f2, q⟩
  · subst e1 e2
    cases r1; cases r2
    exact op_notIn_sign pins s σ H _ _ v u Q I rx ry ⟨c, _, rfl, rfl, k _ _ C H F (Same.refl F) R (.bl _) q⟩
  · subst e1 e2
    cases r1; cases r2
    refine op_notin_str pins s σ H _ _ v u Q I rx ry ⟨_, _, rfl, rfl, ?_⟩
    rw [subIn_ok]
    exact k _ _ C H F (Same.refl F) R (.bl _) q
  · obtain ⟨p, xs, rfl, hs, rl⟩ := seq_ok R r2 e
    obtain ⟨g1, g2⟩ := any_ok r1 f1 rl f2
    refine op_notIn_seq pins s σ H _ _ v u Q I rx ry ⟨p, xs, rfl, hs, flat_ok r1 f1, g1, ?_⟩
    rw [if_pos rfl, g2]
    exact k _ _ C H F (Same.refl F) R (.bl _) q

/-! ### subscripts, slices -/
theorem atI_map {α β : Type} {R : α → β → Prop} {xs : List α} {ds : List β} (hl : xs.length = ds.length) (hg : ∀ (i : Nat) d, ds[i]? = some d → ∃ v, xs[i]? = some v ∧ R v d) {i : Int} {d : β} (h : atI ds i = some d) : ∃ v, atI xs i = some v ∧ R v d := by
  unfold atI at h ⊢
  rw [hl]
  cases e : ixN ds.length i with
  | none => rw [e] at h; cases h
  | some j =>
    rw [e] at h
    obtain ⟨v, h1, h2⟩ := hg j d h
    exact ⟨v, h1, h2⟩
def rIx : RD2 := fun x y C Q => ∃ i, y = .int i ∧ ((∃ l c, x = .str l ∧ l.length ≤ sizeLine ∧ atI l i = some c ∧ Q (.str [c]) C) ∨ (∃ ds d, seqOf C x = some ds ∧ atI ds i = some d ∧ Q d C))
theorem ix_ok : IxR X (lowR X.K cl rIx) := by
  intro value slice pins s σ H x y v u Q I rx ry ⟨dx, dy, C, F, Qd, R, r1, r2, ⟨i, e, h⟩, k⟩ hs
  subst e
  cases r2
  rcases h with ⟨l, c, e, hl, ha, q⟩ | ⟨ds, d, e, ha, q⟩
  · subst e
    cases r1
    refine ix_seq value slice pins s σ H _ _ v u Q I rx ry (.inr (.inr ⟨_, _, c, rfl, rfl, ?_, ha, k _ _ C H F (Same.refl F) R (.str [c]) q⟩)) hs
    rw [len_mk]; exact hl
  · obtain ⟨p, xs, rfl, hq, rl⟩ := seq_ok R r1 e
    obtain ⟨w, hw, rw'⟩ := atI_map (R := Rep X.K cl F) rl.length (fun j d hd => rl.get hd) ha
    have fin := k w d C H F (Same.refl F) R rw' q
    rcases hq with hq | hq
    · exact ix_seq value slice pins s σ H _ _ v u Q I rx ry (.inl ⟨p, xs, _, w, rfl, rfl, hq, hw, fin⟩) hs
    · exact ix_seq value slice pins s σ H _ _ v u Q I rx ry (.inr (.inl ⟨p, xs, _, w, rfl, rfl, hq, hw, fin⟩)) hs
theorem de_ix {a b : Expr} {ta tb : DE} {pos : Pos} (ha : PEd X cl a ta) (hb : PEd X cl b tb) (hs : PlainIx b := by intro _ _; rfl) : PEd X cl (.Subscript a b pos) (dOp rIx ta tb) :=
  weakE (pe_ix ix_ok ha hb hs) fun _ _ _ h => low_op h
/-- l[lo:hi] -/
def cutL {α : Type} (l : List α) (lo hi : Option Int) : List α := (l.drop (HT.sIx l.length 0 lo)).take (HT.sIx l.length l.length hi - HT.sIx l.length 0 lo)
abbrev DO := DEnv → Cl → (Option Int → Cl → Prop) → Prop
def lowO' (K : PySem.W.Frag) (cl : NmB) (td : DO) : TO := fun σ H Q => ∃ ρ C F Qd, RS K cl ρ C F σ H ∧ td ρ C Qd ∧ ∀ o C' F' H', Same F F' → RC K cl C' F' H' → Qd o C' → Q o H'
abbrev PPd (X : Cx) (cl : NmB) (e : Option Expr) (t : DO) : Prop := PO X e (lowO' X.K cl t)
def dNoPart : DO := fun _ C Q => Q none C
def dPart (t : DE) : DO := fun ρ C Q => t ρ C fun x C1 => ∃ i, x = .int i ∧ Q (some i) C1
theorem dp_none : PPd X cl none dNoPart := ⟨fun pins s σ H Q I ⟨ρ, C, F, Qd, R, h, k⟩ => po_none.run pins s σ H Q I (k none C F H (Same.refl F) R.rc h)⟩
theorem dp_some {e : Expr} {t : DE} (h : PEd X cl e t) : PPd X cl (some e) (dPart t) := ⟨fun pins s σ H Q I ⟨ρ, C, F, Qd, R, hh, k⟩ => (po_some h).run pins s σ H Q I
  ⟨ρ, C, F, _, R, hh, fun v d C1 H1 F1 s1 R1 r1 ⟨i, e, q⟩ => by
    subst e
    cases r1
    exact ⟨i, rfl, k _ C1 F1 H1 s1 R1 q⟩⟩⟩
/-- what is cut out of x -/
def slF (C : Cl) (x : D) (lo hi : Option Int) : Option D :=
  match x with
  | .str l => some (.str (cutL l lo hi))
  | .tup ds => some (.tup (cutL ds lo hi))
  | .lst ds => some (.lst (cutL ds lo hi))
  | .rol ds => some (.lst (cutL ds lo hi))
  | .ref a => (cellL C a).map fun ds => .lst (cutL ds lo hi)
  | _ => none
def srcOk : D → Prop
  | .str l => l.length ≤ sizeLine
  | _ => True
abbrev RSl := D → Option Int → Option Int → Cl → DQ → Prop
def rSl : RSl := fun x lo hi C Q => ∃ z, slF C x lo hi = some z ∧ srcOk x ∧ Q z C
def lowSl (K : PySem.W.Frag) (cl : Nm) (rd : RSl) : V → Option Int → Option Int → Hp → VK → Prop := fun x lo hi H Q => ∃ dx C F Qd, RC K cl C F H ∧ Rep K cl F x dx ∧ rd dx lo hi C Qd ∧ Fin K cl F Qd Q
theorem RepL.cut {K : PySem.W.Frag} {F : Hp} {xs : List V} {ds : List D} (lo hi : Option Int) (r : RepL K cl F xs ds) : RepL K cl F (cutV xs lo hi) (cutL ds lo hi) := by
  unfold cutV cutL
  rw [r.length]
  exact (r.drop _).take _
theorem sl_ok : SlR X (lowSl X.K cl rSl) := by
  intro pins s σ H x v vl vu lo hi sl Q I rx hs pl pu ⟨dx, C, F, Qd, R, r1, ⟨z, e, so, q⟩, k⟩
  have onL : ∀ (a : Addr) (xs : List V) (ds : List D), x = .ref a → SqL X.K H a xs → RepL X.K cl F xs ds → z = .lst (cutL ds lo hi) → ∃ T id, typeLookup (.type T) "__getitem__" = pure (some (.builtin id)) ∧ s.TypeIs v T ∧ wpAny (model X.prog X.w) X.A (getItem v (.ref sl)) (EP X pins σ Q) X.xe s := by
    intro a xs ds ex hq rl ez
    subst ex ez
    refine sl_list pins s σ H _ v vl vu lo hi sl Q I rx hs pl pu ⟨a, xs, rfl, hq, fun p np => ?_⟩
    have s2 := same_upd (o := .lst (cutV xs lo hi)) (R.freeF np)
    exact k _ _ C _ _ s2 (R.new np) (.lst upd_same ((rl.cut lo hi).mono s2)) q
  cases r1 with
  | str l =>
    cases e
    refine sl_str pins s σ H _ v vl vu lo hi sl Q I rx hs pl pu ⟨_, rfl, by rw [len_mk]; exact so, ?_⟩
    have e : cutS ⟨l.toArray⟩ lo hi = ⟨(cutL l lo hi).toArray⟩ := by
      unfold cutS cutL
      rw [len_mk]
    rw [e]
    exact k _ _ C H F (Same.refl F) R (.str _) q
  | tup h1 h2 =>
    rename_i a xs ds
    cases e
    refine sl_tupA pins s σ H _ v vl vu lo hi sl Q I rx hs pl pu ⟨_, _, rfl, sqT_mono R.sub h1, fun ⟨w1, w2⟩ => ?_, fun _ p np => ?_⟩
    · have e : cutL ds lo hi = ds := by
        unfold cutL
        rw [← h2.length, w1, w2, List.drop_zero, Nat.sub_zero, h2.length, List.take_length]
      rw [e] at q
      exact k _ _ C H F (Same.refl F) R (.tup h1 h2) q
    · have s2 := same_upd (o := .tup (cutV xs lo hi)) (R.freeF np)
      exact k _ _ C _ _ s2 (R.new np) (.tup (.of upd_same) ((h2.cut lo hi).mono s2)) q
  | lst h1 h2 =>
    cases e
    exact onL _ _ _ rfl (.of (R.sub _ _ h1)) h2 rfl
  | rol h1 h2 =>
    cases e
    exact onL _ _ _ rfl (R.sub.seq h1) h2 rfl
  | ref a =>
    have e' : (cellL C a).map (fun ds => D.lst (cutL ds lo hi)) = some z := e
    cases hh : cellL C a with
    | none => rw [hh] at e'; cases e'
    | some d' =>
      rw [hh] at e'
      cases e'
      obtain ⟨_, o, ho, c⟩ := R.cel _ _ (cellL_eq hh)
      cases c with
      | lst rl => exact onL _ _ _ rfl (.of ho) rl rfl
  | _ => cases e
def dSl (rd : RSl) (te : DE) (tl th : DO) : DE := fun ρ C Q => te ρ C fun x C1 => tl ρ C1 fun l C2 => th ρ C2 fun u C3 => rd x l u C3 Q
theorem de_slice {e : Expr} {lo hi : Option Expr} {te : DE} {tl th : DO} {pos p2 : Pos} (he : PEd X cl e te) (hl : PPd X cl lo tl) (hu : PPd X cl hi th) : PEd X cl (.Subscript e (.Slice lo hi none p2) pos) (dSl rSl te tl th) := by
  refine weakE (pe_slice (sl_ok (cl := cl)) he hl hu) fun σ H Q ⟨ρ, C, F, Qd, R, h, k⟩ => ?_
  refine ⟨ρ, C, F, _, R, h, fun v d C1 H1 F1 s1 R1 r1 q1 => ?_⟩
  refine ⟨ρ, C1, F1, _, R.next s1 R1, q1, fun l C2 F2 H2 s2 R2 q2 => ?_⟩
  refine ⟨ρ, C2, F2, _, R.next (s1.trans s2) R2, q2, fun u C3 F3 H3 s3 R3 q3 => ?_⟩
  exact ⟨d, C3, F3, Qd, R3, r1.mono (s2.trans s3), q3, k.at (s1.trans (s2.trans s3))⟩
/-- xs[i] = v -/
def rSetL : RSet := fun o i v C Q => ∃ a k j ds, o = .ref a ∧ i = .int k ∧ C a = some (.lst ds) ∧ ixN ds.length k = some j ∧ Q (updC C a (.lst (ds.set j v)))
theorem st_list : SetD X cl rSetL := by
  intro pins s σ H o i v ov iv u Q I r1 r2 r3 ⟨dO, dI, dV, C, F, Qd, R, p1, p2, p3, ⟨a, kk, j, ds, e1, e2, hc, hj, q⟩, k⟩
  subst e1 e2
  cases p1; cases p2
  obtain ⟨_, ob, ho, c⟩ := R.cel _ _ hc
  cases c with
  | lst rl =>
    exact set_list pins s σ H _ _ v ov iv u Q I r1 r2 r3 ⟨a, _, kk, j, rfl, rfl, ho, by rw [rl.length]; exact hj, k _ F _ (Same.refl F) (R.put hc (.lst (rl.set p3 j))) q⟩

/-! ### built-in calls -/
def lenF (C : Cl) : D → Option Nat
  | .str l => some l.length
  | .tup ds => some ds.length
  | .lst ds => some ds.length
  | .rol ds => some ds.length
  | .ref a => (cellL C a).map List.length
  | _ => none
def rLen : RDC := fun xs C Q => ∃ x n, xs = [x] ∧ lenF C x = some n ∧ srcOk x ∧ Q (.int n) C
theorem cd_len : CallD X cl (.builtin "len") rLen := by
  intro pins s σ H xs us Q I r ⟨ds, C, F, Qd, R, rl, ⟨x, n, e, hn, so, q⟩, k⟩
  subst e
  cases rl with
  | cons r1 rr =>
    cases rr
    refine call_len pins s σ H _ us Q I r ⟨_, n, rfl, ?_, k _ _ C H F (Same.refl F) R (.int _) q⟩
    cases r1 with
    | str l => cases hn; exact ⟨by rw [len_mk]; exact so, by rw [len_mk]⟩
    | tup h1 h2 => cases hn; exact .inr ⟨_, sqT_mono R.sub h1, h2.length.symm⟩
    | lst h1 h2 => cases hn; exact .inl ⟨_, .of (R.sub _ _ h1), h2.length.symm⟩
    | rol h1 h2 => cases hn; exact .inl ⟨_, R.sub.seq h1, h2.length.symm⟩
    | ref a =>
      have e' : (cellL C a).map List.length = some n := hn
      cases hh : cellL C a with
      | none => rw [hh] at e'; cases e'
      | some d' =>
        rw [hh] at e'
        cases e'
        obtain ⟨_, o, ho, c⟩ := R.cel _ _ (cellL_eq hh)
        cases c with
        | lst rl => exact .inl ⟨_, .of ho, rl.length.symm⟩
    | _ => cases hn
def rAbs : RDC := fun xs C Q => ∃ i, xs = [.int i] ∧ Q (.int (if i < 0 then -i else i)) C
theorem cd_abs : CallD X cl (.builtin "abs") rAbs := by
  intro pins s σ H xs us Q I r ⟨ds, C, F, Qd, R, rl, ⟨i, e, q⟩, k⟩
  subst e
  cases rl with
  | cons r1 rr =>
    cases rr; cases r1
    exact call_abs pins s σ H _ us Q I r ⟨i, rfl, k _ _ C H F (Same.refl F) R (.int _) q⟩
def rInt : RDC := fun xs C Q => (∃ i, xs = [.int i] ∧ Q (.int i) C) ∨ (∃ b, xs = [.bl b] ∧ Q (.int (if b then 1 else 0)) C)
theorem cd_int : CallD X cl (.type "int") rInt := by
  intro pins s σ H xs us Q I r ⟨ds, C, F, Qd, R, rl, h, k⟩
  rcases h with ⟨i, e, q⟩ | ⟨i, e, q⟩
  all_goals
    subst e
    cases rl with
    | cons r1 rr =>
      cases rr; cases r1
      first
        | exact call_int1 pins s σ H _ us Q I r (.inl ⟨i, rfl, k _ _ C H F (Same.refl F) R (.int _) q⟩)
        | exact call_int1 pins s σ H _ us Q I r (.inr ⟨i, rfl, k _ _ C H F (Same.refl F) R (.int _) q⟩)
def rMin2 : RDC := fun xs C Q => ∃ i j, xs = [.int i, .int j] ∧ Q (.int (if j < i then j else i)) C
theorem cd_min (hc : X.calm = true := by rfl) : CallD X cl (.builtin "min") rMin2 := by
  intro pins s σ H xs us Q I r ⟨ds, C, F, Qd, R, rl, ⟨i, j, e, q⟩, k⟩
  subst e
  cases rl with
  | cons r1 rr =>
    cases rr with
    | cons r2 rr =>
      cases rr; cases r1; cases r2
      exact call_min2 hc pins s σ H _ us Q I r ⟨i, j, rfl, k _ _ C H F (Same.refl F) R (.int _) q⟩
def rMax2 : RDC := fun xs C Q => ∃ i j, xs = [.int i, .int j] ∧ Q (.int (if j > i then j else i)) C
theorem cd_max (hc : X.calm = true := by rfl) : CallD X cl (.builtin "max") rMax2 := by
  intro pins s σ H xs us Q I r ⟨ds, C, F, Qd, R, rl, ⟨i, j, e, q⟩, k⟩
  subst e
  cases rl with
  | cons r1 rr =>
    cases rr with
    | cons r2 rr =>
      cases rr; cases r1; cases r2
      exact call_max2 hc pins s σ H _ us Q I r ⟨i, j, rfl, k _ _ C H F (Same.refl F) R (.int _) q⟩
/-- a list of truth values -/
def bls (bs : List Bool) : List D := bs.map D.bl
theorem rep_bls {K : PySem.W.Frag} {F : Hp} : ∀ {bs : List Bool} {xs : List V}, RepL K cl F xs (bls bs) → xs = bs.map V.bl
  | [], _, .nil => rfl
  | b :: bs, _, .cons r rr => by
    cases r
    rw [rep_bls rr]
    rfl
def rAllL : RDC := fun xs C Q => ∃ x bs, xs = [x] ∧ lstOf x = some (bls bs) ∧ Q (.bl (bs.all id)) C
def rAnyL : RDC := fun xs C Q => ∃ x bs, xs = [x] ∧ lstOf x = some (bls bs) ∧ Q (.bl (bs.any id)) C
theorem cd_all (hc : X.calm = true := by rfl) : CallD X cl (.builtin "all") rAllL := by
  intro pins s σ H xs us Q I r ⟨ds, C, F, Qd, R, rl, ⟨x, bs, e, hb, q⟩, k⟩
  subst e
  cases rl with
  | cons r1 rr =>
    cases rr
    obtain ⟨a, ys, rfl, hs, hl⟩ := r1.asL hb
    have e := rep_bls hl
    subst e
    exact cr_all hc pins s σ H _ us Q I r ⟨a, bs, rfl, R.sub.seq hs, k _ _ C H F (Same.refl F) R (.bl _) q⟩
theorem cd_any (hc : X.calm = true := by rfl) : CallD X cl (.builtin "any") rAnyL := by
  intro pins s σ H xs us Q I r ⟨ds, C, F, Qd, R, rl, ⟨x, bs, e, hb, q⟩, k⟩
  subst e
  cases rl with
  | cons r1 rr =>
    cases rr
    obtain ⟨a, ys, rfl, hs, hl⟩ := r1.asL hb
    have e := rep_bls hl
    subst e
    exact cr_any hc pins s σ H _ us Q I r ⟨a, bs, rfl, R.sub.seq hs, k _ _ C H F (Same.refl F) R (.bl _) q⟩
/-- list(x) -/
def rList : RDC := fun xs C Q => ∃ x ds, xs = [x] ∧ seqOf C x = some ds ∧ Q (.lst ds) C
theorem cd_list : CallD X cl (.type "list") rList := by
  intro pins s σ H xs us Q I r ⟨ds, C, F, Qd, R, rl, ⟨x, es, e, hb, q⟩, k⟩
  subst e
  cases rl with
  | cons r1 rr =>
    cases rr
    obtain ⟨a, ys, rfl, hs, hl⟩ := seq_ok R r1 hb
    refine call_list_of pins s σ H _ us Q I r ⟨a, ys, rfl, hs, fun p np => ?_⟩
    have s2 := same_upd (o := .lst ys) (R.freeF np)
    exact k _ _ C _ _ s2 (R.new np) (.lst upd_same (hl.mono s2)) q
/-- tuple(x) -/
def rTuple : RDC := fun xs C Q => ∃ x ds, xs = [x] ∧ seqOf C x = some ds ∧ Q (.tup ds) C
theorem cd_tuple : CallD X cl (.type "tuple") rTuple := by
  intro pins s σ H xs us Q I r ⟨ds, C, F, Qd, R, rl, ⟨x, es, e, hb, q⟩, k⟩
  subst e
  cases rl with
  | cons r1 rr =>
    cases rr
    have r1' := r1
    obtain ⟨a, ys, rfl, hs, hl⟩ := seq_ok R r1 hb
    have onT : ∀ zs, SqT X.K F a zs → RepL X.K cl F zs es → wpAny (model X.prog X.w) X.A (call (.type "tuple") us) (EP X pins σ Q) X.xe s := fun zs h1 h2 =>
      call_tuple_of pins s σ H _ us Q I r ⟨a, zs, rfl, .inr ⟨sqT_mono R.sub h1, k _ _ C H F (Same.refl F) R (.tup h1 h2) q⟩⟩
    have onL : ∀ zs, SqL X.K H a zs → RepL X.K cl F zs es → wpAny (model X.prog X.w) X.A (call (.type "tuple") us) (EP X pins σ Q) X.xe s := fun zs h1 h2 => by
      refine call_tuple_of pins s σ H _ us Q I r ⟨a, zs, rfl, .inl ⟨h1, fun p np => ?_⟩⟩
      have s2 := same_upd (o := .tup zs) (R.freeF np)
      exact k _ _ C _ _ s2 (R.new np) (.tup (.of upd_same) (h2.mono s2)) q
    cases r1' with
    | tup h1 h2 => cases hb; exact onT _ h1 h2
    | lst h1 h2 => cases hb; exact onL _ (.of (R.sub _ _ h1)) h2
    | rol h1 h2 => cases hb; exact onL _ (R.sub.seq h1) h2
    | ref a' =>
      obtain ⟨_, o, ho, c⟩ := R.cel _ _ (cellL_eq hb)
      cases c with
      | lst rl => exact onL _ (.of ho) rl
    | _ => cases hb
end
end G
namespace G
open PySem PySem.Spec PyProof.Rows L2

section
variable {X : Cx} {cl : NmB}
/-- a text's three parts at the first sep -/
def parts3 (a b : List Nat) : List Nat × List Nat × List Nat := match TL.par b [] a with
  | some (x, y) => (x, b, y)
  | none => (a, [], [])
def txts (ls : List (List Nat)) : List D := ls.map D.str
theorem of_txts {K : PySem.W.Frag} {F : Hp} : ∀ {ls : List (List Nat)} {xs : List V}, RepL K cl F xs (txts ls) → xs = (ls.map fun l => (⟨l.toArray⟩ : Str)).map V.str
  | [], _, .nil => rfl
  | l :: ls, _, .cons r rr => by
    cases r
    rw [of_txts rr]
    rfl
/-- joined texts -/
theorem join_ok (a : List Nat) (ls : List (List Nat)) : Txt.join ⟨a.toArray⟩ (ls.map fun l => (⟨l.toArray⟩ : Str)) = ⟨(TL.joinL a ls).toArray⟩ := by
  apply TL.ext_tl
  rw [TL.join_eq, TL.tl_join, List.map_map]
  show TL.joinL a (ls.map (TL.tl ∘ fun l : List Nat => (⟨l.toArray⟩ : Str))) = TL.joinL a ls
  rw [show (TL.tl ∘ fun l : List Nat => (⟨l.toArray⟩ : Str)) = id from rfl, List.map_id]
def rJoin : RDM := fun x xs C Q => ∃ a y ls, x = .str a ∧ xs = [y] ∧ seqOf C y = some (txts ls) ∧ (ls.map List.length).sum + ls.length * a.length ≤ 16777216 ∧ Q (.str (TL.joinL a ls)) C
theorem md_join : MtD X cl "str.join" rJoin := by
  intro pins s σ H x xs v us Q I rx rs ⟨dx, ds, C, F, Qd, R, r1, rl, ⟨a, y, ls, e1, e2, hy, hl, q⟩, k⟩
  subst e1 e2
  cases r1
  cases rl with
  | cons r2 rr =>
    cases rr
    obtain ⟨p, ys, rfl, hs, hr⟩ := seq_ok R r2 hy
    have e := of_txts hr
    subst e
    refine mt_join pins s σ H _ _ v us Q I rx rs ⟨_, p, _, rfl, rfl, hs, ?_, ?_⟩
    · rw [List.map_map, List.length_map, len_mk]
      rw [show ((fun x : Str => x.length) ∘ fun l : List Nat => (⟨l.toArray⟩ : Str)) = List.length from by funext l; exact len_mk l]
      exact hl
    · rw [join_ok]
      exact k _ _ C H F (Same.refl F) R (.str _) q
/-- lists that change -/
def rAppend : RDM := fun x xs C Q => ∃ a d ds, x = .ref a ∧ xs = [d] ∧ C a = some (.lst ds) ∧ ds.length < sizeLine ∧ Q .non (updC C a (.lst (ds ++ [d])))
theorem md_append : MtD X cl "list.append" rAppend := by
  intro pins s σ H x xs v us Q I rx rs ⟨dx, es, C, F, Qd, R, r1, rl, ⟨a, d, ds, e1, e2, hc, hl, q⟩, k⟩
  subst e1 e2
  cases r1
  obtain ⟨_, o, ho, c⟩ := R.cel _ _ hc
  cases c with
  | lst rr =>
    cases rl with
    | cons r2 rn =>
      cases rn
      exact mt_append pins s σ H _ _ v us Q I rx rs ⟨a, _, _, rfl, rfl, ho, by rw [rr.length]; exact hl, k _ _ _ _ F (Same.refl F) (R.put hc (.lst (rr.append (.cons r2 .nil)))) .non q⟩
/-! ### isinstance of a built-in class -/
def tyNm : D → Cl → Option String
  | .non, _ => some "NoneType"
  | .bl _, _ => some "bool"
  | .int _, _ => some "int"
  | .str _, _ => some "str"
  | .lst _, _ => some "list"
  | .rol _, _ => some "list"
  | .tup _, _ => some "tuple"
  | .dic _, _ => some "dict"
  | .dct _, _ => some "dict"
  | .ref a, C => match C a with
    | some (.lst _) => some "list"
    | some (.dic _) => some "dict"
    | some (.dct _) => some "dict"
    | _ => none
  | _, _ => none
theorem tyX_ok {K : PySem.W.Frag} {C : Cl} {F H : Hp} {v : V} {d : D} {n : String} (R : RC K cl C F H) (r : Rep K cl F v d) (h : tyNm d C = some n) : TyX K H v (.type n) := by
  have onT : ∀ a xs, SqT K H a xs → TyX K H (.ref a) (.type "tuple") := fun a xs h => by
    rcases h with (h | ⟨o, h⟩) | ⟨o, its, n, hk, hc, _⟩
    · exact .base (.tup h)
    · exact .fTuple h
    · exact .kTuple hk hc
  have onL : ∀ a xs, SqL K H a xs → TyX K H (.ref a) (.type "list") := fun a xs h => by
    rcases h with (h | ⟨o, h⟩) | ⟨o, its, n, hk, hc, _⟩
    · exact .base (.lst h)
    · exact .base (.frz h)
    · exact .kList hk hc
  cases r with
  | non => cases h; exact .base .non
  | bl b => cases h; exact .base (.bl b)
  | int i => cases h; exact .base (.int i)
  | str l => cases h; exact .base (.str _)
  | tup h1 h2 => cases h; exact onT _ _ (sqT_mono R.sub h1)
  | lst h1 h2 => cases h; exact onL _ _ (.of (R.sub _ _ h1))
  | rol h1 h2 => cases h; exact onL _ _ (R.sub.seq h1)
  | dic h1 h2 =>
    cases h
    rcases h1 with h1 | ⟨o, h1⟩
    · exact .base (.dK (R.sub _ _ h1))
    · exact .fDict (R.sub _ _ h1)
  | dct h1 h2 => cases h; exact .base (.dT (R.sub _ _ h1))
  | ref a =>
    cases hc : C a with
    | none => simp [tyNm, hc] at h
    | some c =>
      obtain ⟨_, o, ho, cr⟩ := R.cel _ _ hc
      cases cr with
      | lst rl =>
        simp only [tyNm, hc, Option.some.injEq] at h
        subst h
        exact onL _ _ (.of ho)
      | dic rl =>
        simp only [tyNm, hc, Option.some.injEq] at h
        subst h
        exact .base (.dK ho)
      | dct rl =>
        simp only [tyNm, hc, Option.some.injEq] at h
        subst h
        exact .base (.dT ho)
      | ins rl => simp [tyNm, hc] at h
      | tbl _ _ => simp [tyNm, hc] at h
  | ty n => simp [tyNm] at h
  | cls c => simp [tyNm] at h
  | ins h1 h2 => simp [tyNm] at h
/-- is a thing of the built-in class n of the class m -/
def isSub (n m : String) : Bool := n == m || (n == "bool" && m == "int")
def rIsi (m : String) : RDC := fun xs C Q => ∃ x n, xs = [x, .ty m] ∧ tyNm x C = some n ∧ Q (.bl (isSub n m)) C
/-- the library's answer for the classes that are asked -/
def IsiOk (K : PySem.W.Frag) (m : String) : Prop := ∀ n ∈ (["NoneType", "bool", "int", "str", "list", "tuple", "dict"] : List String), PySem.W.kitOne K (.type n) (.type m) = some (isSub n m)
theorem cd_isi {m : String} (hk : IsiOk X.K m) : CallD X cl (.builtin "isinstance") (rIsi m) := by
  intro pins s σ H xs us Q I r ⟨ds, C, F, Qd, R, rl, ⟨x, n, e, hn, q⟩, k⟩
  subst e
  cases rl with
  | cons r1 rr =>
    cases rr with
    | cons r2 rr =>
      cases rr; cases r2
      have hm : n ∈ (["NoneType", "bool", "int", "str", "list", "tuple", "dict"] : List String) := by
        cases x <;> first
          | (simp only [tyNm, Option.some.injEq] at hn; subst hn; decide)
          | (simp only [tyNm] at hn; split at hn <;> first | (cases hn; decide) | cases hn)
          | cases hn
      exact call_isi pins s σ H _ us Q I r ⟨_, _, _, _, _, rfl, .ty m, tyX_ok R r1 hn, hk n hm, k _ _ C H F (Same.refl F) R (.bl _) q⟩
end
end G
namespace G
open PySem PySem.Spec PyProof.Rows L2

/-! ### short words for readings -/
abbrev dAdd (a b : DE) : DE := dOp (rOf addF) a b
abbrev dSub (a b : DE) : DE := dOp (rOf (ioF fun i j => i - j)) a b
abbrev dMul (a b : DE) : DE := dOp rMul a b
abbrev dFdiv (a b : DE) : DE := dOp (rIC CDivW fun i j => i / j) a b
abbrev dMod (a b : DE) : DE := dOp (rIC (fun _ j => 0 < j) fun i j => i % j) a b
abbrev dPow (a b : DE) : DE := dOp (rIC CPow fun i j => i ^ j.toNat) a b
abbrev rLtD : RD2 := rOf ltF
abbrev rLeD : RD2 := rOf leF
abbrev rGtD : RD2 := rOf gtF
abbrev rGeD : RD2 := rOf geF
theorem boot_len_ : bootBuiltins "len" = some (.builtin "len") := by decide +kernel
theorem boot_abs_ : bootBuiltins "abs" = some (.builtin "abs") := by decide +kernel
theorem boot_min_ : bootBuiltins "min" = some (.builtin "min") := by decide +kernel
theorem boot_max_ : bootBuiltins "max" = some (.builtin "max") := by decide +kernel
theorem boot_all_ : bootBuiltins "all" = some (.builtin "all") := by decide +kernel
theorem boot_any_ : bootBuiltins "any" = some (.builtin "any") := by decide +kernel
theorem boot_isinstance_ : bootBuiltins "isinstance" = some (.builtin "isinstance") := by decide +kernel
theorem boot_int_ : bootBuiltins "int" = some (.type "int") := by decide +kernel
theorem boot_str_ : bootBuiltins "str" = some (.type "str") := by decide +kernel
theorem boot_bool_ : bootBuiltins "bool" = some (.type "bool") := by decide +kernel
theorem boot_list_ : bootBuiltins "list" = some (.type "list") := by decide +kernel
theorem boot_tuple_ : bootBuiltins "tuple" = some (.type "tuple") := by decide +kernel
theorem isi_all {K : PySem.W.Frag} {m : String} (h : PySem.W.kitOne K (.type "NoneType") (.type m) = some (isSub "NoneType" m) ∧ PySem.W.kitOne K (.type "bool") (.type m) = some (isSub "bool" m) ∧ PySem.W.kitOne K (.type "int") (.type m) = some (isSub "int" m) ∧ PySem.W.kitOne K (.type "str") (.type m) = some (isSub "str" m) ∧
    PySem.W.kitOne K (.type "list") (.type m) = some (isSub "list" m) ∧ PySem.W.kitOne K (.type "tuple") (.type m) = some (isSub "tuple" m) ∧ PySem.W.kitOne K (.type "dict") (.type m) = some (isSub "dict" m)) : IsiOk K m := by
  intro n hn
  have hn : n = "NoneType" ∨ n = "bool" ∨ n = "int" ∨ n = "str" ∨ n = "list" ∨ n = "tuple" ∨ n = "dict" := by simpa using hn
  obtain ⟨h1, h2, h3, h4, h5, h6, h7⟩ := h
  rcases hn with rfl | rfl | rfl | rfl | rfl | rfl | rfl <;> assumption
theorem isi_str {K : PySem.W.Frag} : IsiOk K "str" := isi_all ⟨rfl, rfl, rfl, rfl, rfl, rfl, rfl⟩
theorem isi_int {K : PySem.W.Frag} : IsiOk K "int" := isi_all ⟨rfl, rfl, rfl, rfl, rfl, rfl, rfl⟩
theorem isi_bool {K : PySem.W.Frag} : IsiOk K "bool" := isi_all ⟨rfl, rfl, rfl, rfl, rfl, rfl, rfl⟩
theorem isi_tuple {K : PySem.W.Frag} : IsiOk K "tuple" := isi_all ⟨rfl, rfl, rfl, rfl, rfl, rfl, rfl⟩
section
variable {X : Cx} {cl : NmB} {pos : Pos}
theorem de_gstr {x : Str} {l : List Nat} (h : ∃ t, X.mg x = some (.str ⟨l.toArray⟩ t)) (hg : Gl X x := by rfl) (hd : (x == ("__debug__" : Str)) = false := by decide) : PEd X cl (.Name x pos) (dC (.str l)) := by
  obtain ⟨t, h⟩ := h
  exact de_glob (v := .str ⟨l.toArray⟩) h ⟨t, rfl⟩ (fun _ => .str l) hg hd
theorem de_gint {x : Str} {i : Int} (h : ∃ t, X.mg x = some (.int i t)) (hg : Gl X x := by rfl) (hd : (x == ("__debug__" : Str)) = false := by decide) : PEd X cl (.Name x pos) (dC (.int i)) := by
  obtain ⟨t, h⟩ := h
  exact de_glob (v := .int i) h ⟨t, rfl⟩ (fun _ => .int i) hg hd
end
/-- tests whose answer is a proposition's -/
theorem ite_d {p : Prop} [Decidable p] {A B : Prop} (h1 : p → A) (h2 : ¬ p → B) : if decide p = true then A else B := by
  by_cases h : p
  · rw [decide_eq_true h]; exact iteT (h1 h)
  · rw [decide_eq_false h]; exact iteF (h2 h)
theorem ite_nd {p : Prop} [Decidable p] {A B : Prop} (h1 : ¬ p → A) (h2 : p → B) : if (!decide p) = true then A else B := by
  by_cases h : p
  · rw [decide_eq_true h]; exact iteF (h2 h)
  · rw [decide_eq_false h]; exact iteT (h1 h)
theorem ite_b {b : Bool} {A B : Prop} (h1 : b = true → A) (h2 : b = false → B) : if b = true then A else B := by
  cases b
  · exact iteF (h2 rfl)
  · exact iteT (h1 rfl)
/-! ### the bag of a law: three numbers in a list that changes -/
abbrev bagC (x y z : Int) : Cell := .lst [.int x, .int y, .int z]
structure Bag (x y z : Int) (n : Nat) : Prop where
  x0 : 0 ≤ x
  y0 : 0 ≤ y
  y1 : y ≤ 12000000000000000000
  z0 : 0 ≤ z
  z1 : z ≤ n
def BagAt (C : Cl) (b : Addr) (n : Nat) : Prop := ∃ x y z, C b = some (bagC x y z) ∧ Bag x y z n
/-- C' is C but for the bag at b -/
def Bagged (C : Cl) (b : Addr) (C' : Cl) (n : Nat) : Prop := ∃ x y z, C' = updC C b (bagC x y z) ∧ Bag x y z n
theorem Bag.mono {x y z : Int} {n m : Nat} (h : Bag x y z n) (l : n ≤ m) : Bag x y z m := ⟨h.x0, h.y0, h.y1, h.z0, by have := h.z1; omega⟩
theorem Bagged.at {C C' : Cl} {b : Addr} {n : Nat} (h : Bagged C b C' n) : BagAt C' b n := by
  obtain ⟨x, y, z, rfl, g⟩ := h
  exact ⟨x, y, z, updC_same, g⟩
theorem BagAt.mono {C : Cl} {b : Addr} {n m : Nat} (h : BagAt C b n) (l : n ≤ m) : BagAt C b m := by
  obtain ⟨x, y, z, e, g⟩ := h
  exact ⟨x, y, z, e, g.mono l⟩
theorem Bagged.mono {C C' : Cl} {b : Addr} {n m : Nat} (h : Bagged C b C' n) (l : n ≤ m) : Bagged C b C' m := by
  obtain ⟨x, y, z, e, g⟩ := h
  exact ⟨x, y, z, e, g.mono l⟩
theorem Bagged.trans {C C1 C2 : Cl} {b : Addr} {n m : Nat} (h : Bagged C b C1 n) (k : Bagged C1 b C2 m) : Bagged C b C2 m := by
  obtain ⟨x, y, z, rfl, g⟩ := h
  obtain ⟨x', y', z', rfl, g'⟩ := k
  exact ⟨x', y', z', updC_updC, g'⟩
theorem Bagged.ne {C C' : Cl} {b : Addr} {n : Nat} (h : Bagged C b C' n) {a : Addr} (e : a ≠ b) : C' a = C a := by
  obtain ⟨x, y, z, rfl, g⟩ := h
  exact updC_ne e
theorem updC_self {C : Cl} {a : Addr} {c : Cell} (h : C a = some c) : updC C a c = C := by
  funext b
  unfold updC
  by_cases e : b = a
  · rw [if_pos e, e, h]
  · rw [if_neg e]
theorem BagAt.self {C : Cl} {b : Addr} {n : Nat} (h : BagAt C b n) : Bagged C b C n := by
  obtain ⟨x, y, z, e, g⟩ := h
  exact ⟨x, y, z, (updC_self e).symm, g⟩
end G
namespace G
open PySem PySem.Spec PyProof.Rows L2
/-! ### callees with keywords; instances -/
abbrev DSp2 := List D → List D → Cl → DQ → DX → Prop
abbrev noX : DX := fun _ _ _ => False
section
variable (K : PySem.W.Frag) (cl : Nm)
def lowC2 (sp : DSp2) (vs zs : List V) (H : Hp) (Q : VK) (E : XK) : Prop := ∃ ds es C F Qd Ed, RC K cl C F H ∧ RepL K cl F vs ds ∧ RepL K cl F zs es ∧ sp ds es C Qd Ed ∧ Fin K cl F Qd Q ∧ FinX K cl F Ed E
end
/-- a def that is called with the keywords ks -/
def Cee (P : Program) (w : World) (K : PySem.W.Frag) (cl : Nm) (mg : Str → Option Value) (base : Heap) (CX : CXT) (k : Nat) (f : Addr) (ks : List Str) (sp : DSp2) : Prop :=
  ∀ (A : Around) (outer : List Env) (s : Shared) (H : Hp) (us ws : List Value) (vs zs : List V) (Q : VK) (E : XK), Room k A → Env0 P w K mg base A outer s H → Vals vs us → Vals zs ws → lowC2 K cl sp vs zs H Q E →
    codeAny (model P w) A (.call (.ref f) ⟨us, ks.zip ws⟩) (CR CX outer P w H s Q E) s
section
variable {P : Program} {w : World} {K : PySem.W.Frag} {cl : Nm} {mg : Str → Option Value} {base : Heap} {CX : CXT} {k n : Nat} {f : Addr} {fd : FuncData} {ps ks : List Str} {sp : DSp}
theorem Cee.mono {sp : DSp2} {j : Nat} (c : Cee P w K cl mg base CX j f ks sp) (h : j ≤ k) : Cee P w K cl mg base CX k f ks sp := fun A outer s H us ws vs zs Q E hr => c A outer s H us ws vs zs Q E (hr.mono h)
theorem Cee.imp {sp sp' : DSp2} (c : Cee P w K cl mg base CX k f ks sp) (h : ∀ ds es C Q E, sp' ds es C Q E → sp ds es C Q E) : Cee P w K cl mg base CX k f ks sp' :=
  fun A outer s H us ws vs zs Q E hr e0 r rz ⟨ds, es, C, F, Qd, Ed, R, r1, r2, hq, k1, k2⟩ => c A outer s H us ws vs zs Q E hr e0 r rz ⟨ds, es, C, F, Qd, Ed, R, r1, r2, h _ _ _ _ _ hq, k1, k2⟩
/-- all parameters written, but for defaults dd at the end -/
theorem Cee.pos {dv : List Value} {dw : List V} {dd : List D} (FG : FnOk P w K mg base CX k f fd ps (lowSp K cl sp)) (hb : Binds K fd ps dv) (hd : Vals dw dv) (hv : ∀ F, RepL K cl F dw dd) :
    Cee P w K cl mg base CX k f [] (fun ds es C Q E => es = [] ∧ sp (ds ++ dd) C Q E) := by
  rintro A outer s H us ws vs zs Q E hr e0 r rz ⟨ds, es, C, F, Qd, Ed, R, r1, r2, ⟨rfl, hq⟩, k1, k2⟩
  have hsp : lowSp K cl sp (vs ++ dw) H Q E := ⟨ds ++ dd, C, F, Qd, Ed, R, r1.append (hv F), hq, k1, k2⟩
  have r3 : Vals (vs ++ dw) (us ++ dv) := r.append hd
  have hl : (us ++ dv).length = ps.length := by rw [← r3.length]; exact FG.len _ _ _ _ hsp
  exact FG.run A outer s H ⟨us, []⟩ (us ++ dv) (vs ++ dw) Q E hr e0 (hb s us (e0.mod.kin.keeps fun b o e => (e0.bs b o e).1) hl) r3 hsp
/-- keywords -/
theorem Cee.kw {g : List Value → List Value → List Value} {gV : List V → List V → List V} {gD : List D → List D → List D} (FG : FnOk P w K mg base CX k f fd ps (lowSp K cl sp)) (hb : KBn K fd ps n ks g gV)
    (hg : ∀ F vs zs ds es, RepL K cl F vs ds → RepL K cl F zs es → ds.length = n → es.length = ks.length → RepL K cl F (gV vs zs) (gD ds es)) :
    Cee P w K cl mg base CX k f ks (fun ds es C Q E => ds.length = n ∧ es.length = ks.length ∧ sp (gD ds es) C Q E) := by
  rintro A outer s H us ws vs zs Q E hr e0 r rz ⟨ds, es, C, F, Qd, Ed, R, r1, r2, ⟨l1, l2, hq⟩, k1, k2⟩
  have hsp : lowSp K cl sp (gV vs zs) H Q E := ⟨gD ds es, C, F, Qd, Ed, R, hg F vs zs ds es r1 r2 l1 l2, hq, k1, k2⟩
  have n1 : us.length = n := by rw [← r.length, r1.length, l1]
  have n2 : ws.length = ks.length := by rw [← rz.length, r2.length, l2]
  exact FG.run A outer s H ⟨us, ks.zip ws⟩ (g us ws) (gV vs zs) Q E hr e0 (hb.to s us ws (e0.mod.kin.keeps fun b o e => (e0.bs b o e).1) n1 n2) (hb.rel r rz) hsp
end
section
variable {X : Cx} {cl : NmB} {CX : CXT} {k n : Nat} {f : Addr} {ks : List Str} {sp : DSp2} {E : XK} {pins : List (Addr × Obj)} {σ : L2.St} {H : Hp} {s : Shared}
theorem Cee.go {A : Around} {us ws : List Value} {vs zs : List V} {Q : VK} (c : Cee X.prog X.w X.K cl X.mg X.base CX k f ks sp) (hr : Room k A) (hf : A.frames = X.A.frames) (hx : Passes CX X E) (I : Inv X pins σ H s) (r : Vals vs us) (rz : Vals zs ws)
    (h : lowC2 X.K cl sp vs zs H Q E) : wpAny (model X.prog X.w) A (call (.ref f) us (ks.zip ws)) (EP X pins σ Q) X.xe s := by
  have e0 : Env0 X.prog X.w X.K X.mg X.base A X.stack s H := by
    have e := I.env0
    exact ⟨by rw [hf]; exact e.frames, e.mod, e.bs, e.bsz, e.funs, e.frf, e.hok, e.bare⟩
  refine wpAny_call (codeAny_mono (c A X.stack s H us ws vs zs Q E hr e0 r rz h) fun r s' hq => ?_)
  cases r with
  | error e => exact hx pins σ H s e s' I hq
  | ok fl =>
    cases fl with
    | ret u => exact I.after hq
    | next => exact False.elim hq
    | brk => exact False.elim hq
    | cont => exact False.elim hq
/-- the same as code, wanted at the reading's level, nothing let out -/
theorem Cee.code {A : Around} {us : List Value} {vs : List V} {ds : List D} {C : Cl} {F : Hp} {Qd : DQ} {Q : VK} (c : Cee X.prog X.w X.K cl X.mg X.base CX k f [] sp) (hr : Room k A) (hf : A.frames = X.A.frames) (hx : Passes CX X E0) (I : Inv X pins σ H s) (r : Vals vs us)
    (R : RC X.K cl C F H) (rl : RepL X.K cl F vs ds) (h : sp ds [] C Qd noX) (hq : Fin X.K cl F Qd Q) :
    codeAny (model X.prog X.w) A (.call (.ref f) ⟨us, []⟩) (fun res s' => match res with
      | .ok (.ret u) => EP X pins σ Q u s'
      | .ok _ => False
      | .error e => X.xe e s') s := by
  have e0 : Env0 X.prog X.w X.K X.mg X.base A X.stack s H := by
    have e := I.env0
    exact ⟨by rw [hf]; exact e.frames, e.mod, e.bs, e.bsz, e.funs, e.frf, e.hok, e.bare⟩
  refine codeAny_mono (c A X.stack s H us [] vs [] Q E0 hr e0 r .nil ⟨ds, [], C, F, Qd, noX, R, rl, .nil, h, hq, fun _ _ _ _ _ _ _ _ _ _ z => z.elim⟩) fun res s' z => ?_
  cases res with
  | error e => exact hx pins σ H s e s' I z
  | ok fl =>
    cases fl with
    | ret u => exact I.after z
    | next => exact False.elim z
    | brk => exact False.elim z
    | cont => exact False.elim z
end

/-! ### instances: fields -/
def insOf (C : Cl) : D → Option (String × List (Str × D))
  | .ins c fs => some (c, fs)
  | .ref a => match C a with
    | some (.ins c fs) => some (c, fs)
    | _ => none
  | _ => none
section
variable {K : PySem.W.Frag} {cl : Nm} {C : Cl} {F H : Hp} {v : V} {d : D} {c : String} {fs : List (Str × D)}
theorem RepF.len : ∀ {vs : List (Str × V)} {ds : List (Str × D)}, RepF K cl F vs ds → vs.length = ds.length
  | _, _, .nil => rfl
  | _, _, .cons _ r => congrArg (· + 1) (RepF.len r)
def putD (f : Str) (v : D) : List (Str × D) → List (Str × D)
  | [] => [(f, v)]
  | (g, x) :: r => if g = f then (g, v) :: r else (g, x) :: putD f v r
theorem RepF.put {f : Str} {v : V} {d : D} (h : Rep K cl F v d) : ∀ {vs : List (Str × V)} {ds : List (Str × D)}, RepF K cl F vs ds → RepF K cl F (putF f v vs) (putD f d ds)
  | _, _, .nil => .cons h .nil
  | _, _, .cons (k := k) q r => by
    unfold putF putD
    by_cases e : k = f
    · rw [if_pos e, if_pos e]; exact .cons h r
    · rw [if_neg e, if_neg e]; exact .cons q (RepF.put h r)
end
/-- o.f = e -/
def dFldSet (cs : List String) (to te : DE) (f : Str) : DS := fun D ρ C => te ρ C fun y C1 => to ρ C1 fun x C2 => ∃ a c fs, c ∈ cs ∧ x = .ref a ∧ C2 a = some (.ins c fs) ∧ fs.length < 1000 ∧ D.nx ρ (updC C2 a (.ins c (putD f y fs)))
/-- what a class has for its field f -/
def FldOk (K : PySem.W.Frag) (cl : Nm) (f : Str) (cs : List String) : Prop := ∀ c ∈ cs, Cls K (cl c) ∧ NoAttr K (cl c) f
section
variable {K : PySem.W.Frag} {cl : Nm} {f : Str}
theorem fld_nil : FldOk K cl f [] := nofun
theorem fld_cons {c : String} {cs : List String} (h : Cls K (cl c)) (n : NoAttr K (cl c) f) (r : FldOk K cl f cs) : FldOk K cl f (c :: cs) := fun x hx => by
  rcases List.mem_cons.mp hx with e | e
  · rw [e]; exact ⟨h, n⟩
  · exact r x e
end
section
variable {X : Cx} {cl : NmB} {e o : Expr} {te to : DE} {pos pos' : Pos} {f : Str} {cs : List String}
theorem ds_fld (ho : PEd X cl o to) (he : PEd X cl e te) (hc : FldOk X.K cl f cs) (hs : swapsWith e (some (.Attribute o f pos')) pos.line X.env = pure false := by rfl) : PSd X cl (.Assign [.Attribute o f pos'] e pos) (dFldSet cs to te f) := by
  refine weakS (ps_fld ho he hs) fun De σ H ⟨ρ, C, F, Dd, R, h, k⟩ => ?_
  refine ⟨ρ, C, F, _, R, h, fun v d C1 H1 F1 s1 R1 r1 q1 => ?_⟩
  refine ⟨ρ, C1, F1, _, R.next s1 R1, q1, fun v2 d2 C2 H2 F2 s2 R2 r2 ⟨a, c, fs, hm, e2, hc2, hl, q2⟩ => ?_⟩
  subst e2
  cases r2
  obtain ⟨_, ob, hob, cr⟩ := R2.cel _ _ hc2
  cases cr with
  | ins rf =>
    refine ⟨_, cl c, _, _, rfl, hob, (hc c hm).1, (hc c hm).2, by rw [rf.len]; exact hl, ?_⟩
    exact k.nx _ _ F2 _ _ (s1.trans s2) (R.next (s1.trans s2) (R2.put hc2 (.ins (rf.put (r1.mono s2))))) q2
end

/-! ### calls of methods, of classes, of static methods -/
abbrev PKd (X : Cx) (cl : NmB) (kws : List Keyword) (t : DA) : Prop := PK X kws (lowA X.K cl t)
def dMake (c : String) (sp : DSp2) (t tk : DA) : DE := fun ρ C Q => t ρ C fun xs C2 => tk ρ C2 fun zs C3 => ∀ x, C3 x = none → sp (.ref x :: xs) zs (updC C3 x (.ins c [])) (fun v C4 => v = .non ∧ Q (.ref x) C4) noX
/-- C.m is a static method: its record at p, its def at g -/
structure SMet (K : PySem.W.Frag) (C : Addr) (mc : Value) (m : Str) (p g : Addr) : Prop where
  at_ : PySem.W.findCls K (.ref C) mc m = some (.get (.builtin "staticmethod.__get__") (.ref p) .none (.ref C))
  rc : ∃ rest, PySem.W.recIn K p "staticmethod" = some (.ref g :: rest)
  kp : PySem.W.keepIn K (.ref g) = true
section
variable {X : Cx} {cl : NmB} {CX : CXT} {k : Nat} {g : Addr} {ks : List Str} {sp : DSp2} {e o : Expr} {es : List Expr} {kws : List Keyword} {to : DE} {t tk : DA} {pos apos p : Pos} {x m : Str} {c : String} {te : DE}
theorem dk_nil : PKd X cl [] dNil := ⟨fun pos pins s σ H Q I ⟨ρ, C, F, Qd, R, h, k⟩ => pk_nil.run pos pins s σ H Q I (k [] [] C H F (Same.refl F) R.rc .nil h)⟩
theorem dk_cons {nm : Option Str} {kpos : Pos} (ha : PEd X cl e te) (hr : PKd X cl kws t) : PKd X cl (⟨nm, e, kpos⟩ :: kws) (dCons te t) := by
  have z := pk_cons (nm := nm) (kpos := kpos) ha hr
  refine ⟨fun pos pins s σ H Q I ⟨ρ, C, F, Qd, R, h, k⟩ => z.run pos pins s σ H Q I ?_⟩
  refine ⟨ρ, C, F, _, R, h, fun v d C1 H1 F1 s1 R1 r1 q1 => ?_⟩
  exact ⟨ρ, C1, F1, _, R.next s1 R1, q1, fun vs ds C2 H2 F2 s2 R2 r2 q2 => k _ _ C2 H2 F2 (s1.trans s2) R2 (.cons (r1.mono s2) r2) q2⟩
/-- the arguments, the keywords, then the callee -/
theorem cal_args {fv : Value} {first : List Value} {pins : List (Addr × Obj)} {s : Shared} {σ : L2.St} {H : Hp} (hk : PySem.W.keepIn X.K fv = true) (I : Inv X pins σ H s) (ha : PAd X cl (e :: es) t) (hkw : PKd X cl kws tk)
    {ρ : DEnv} {C : Cl} {F : Hp} (RR : RS X.K cl ρ C F σ H) {Qd : List D → List D → Cl → Prop} (h : t ρ C fun xs C2 => tk ρ C2 fun zs C3 => Qd xs zs C3) {Q : Value → Shared → Prop}
    (hq : ∀ us ws vs zs s2 H2 F2 C2 ds es, Inv X pins σ H2 s2 → Same F F2 → RC X.K cl C2 F2 H2 → Vals vs us → Vals zs ws → RepL X.K cl F2 vs ds → RepL X.K cl F2 zs es → Qd ds es C2 → wpAny (model X.prog X.w) X.A (call fv (first ++ us) (ks.zip ws)) Q X.xe s2)
    (hall : (backToKw pos (keywordEach kws X.env)).all (·.1.isSome) = true) (hks : (backToKw pos (keywordEach kws X.env)).filterMap (·.1) = ks) (he : starEach (e :: es) X.env = (false, eval e X.env) :: starEach es X.env)
    (hpl : ((backTo pos (starEach (e :: es) X.env)).any (·.1) || (backToKw pos (keywordEach kws X.env)).any (·.1.isNone)) = false) :
    wpAny (model X.prog X.w) X.A (callWith pos fv first (backTo pos (starEach (e :: es) X.env)) (backToKw pos (keywordEach kws X.env))) Q X.xe s := by
  refine PySem.W.callWith_KW (h₀ := X.base) I.ok.mod.kin hk hall (thn (ha.run pos pins s σ H (fun vs H1 => ∃ ds C1 F1, Same F F1 ∧ RC X.K cl C1 F1 H1 ∧ RepL X.K cl F1 vs ds ∧ tk ρ C1 fun zs C3 => Qd ds zs C3) I ⟨ρ, C, F, _, RR, h, fun vs ds C1 H1 F1 s1 R1 r1 q1 => ⟨ds, C1, F1, s1, R1, r1, q1⟩⟩) fun us s1 ⟨vs, H1, I1, r, ds, C1, F1, s1', R1, r1, q1⟩ => ?_) hpl he
  refine thn (hkw.run pos pins s1 σ H1 (fun zs H2 => ∃ es C2 F2, Same F1 F2 ∧ RC X.K cl C2 F2 H2 ∧ RepL X.K cl F2 zs es ∧ Qd ds es C2) I1 ⟨ρ, C1, F1, _, RR.next s1' R1, q1, fun zs es C2 H2 F2 s2 R2 r2 q2 => ⟨es, C2, F2, s2, R2, r2, q2⟩⟩) fun ws s2 ⟨zs, H2, I2, rz, es, C2, F2, s2', R2, r2, q2⟩ => ⟨I2.kIn, ?_⟩
  rw [hks]
  exact hq us ws vs zs s2 H2 F2 C2 ds es I2 (s1'.trans s2') R2 r rz (r1.mono s2') r2 q2
end
end G
namespace G
open PySem PySem.Spec PyProof.Rows L2
/-! ### a new instance; own special methods -/
section
variable {X : Cx} {cl : NmB} {CX : CXT} {k : Nat} {g : Addr} {ks : List Str} {sp : DSp2} {e o : Expr} {es : List Expr} {kws : List Keyword} {to : DE} {t tk : DA} {pos apos p : Pos} {x m : Str} {c : String} {te : DE}
theorem Cee.make {us ws : List Value} {vs zs : List V} {ds es : List D} {C : Cl} {F H : Hp} {pins : List (Addr × Obj)} {s : Shared} {σ : L2.St} {Qd : DQ} {Q : VK} (fc : Cee X.prog X.w X.K cl X.mg X.base CX k g ks sp) (M : Mk X.K (cl c) g) (hr : Room (k + 1) X.A) (hx : Passes CX X E0)
    (I : Inv X pins σ H s) (r : Vals vs us) (rz : Vals zs ws) (R : RC X.K cl C F H) (rl : RepL X.K cl F vs ds) (rs : RepL X.K cl F zs es)
    (h : ∀ x, C x = none → sp (.ref x :: ds) es (updC C x (.ins c [])) (fun v C4 => v = .non ∧ Qd (.ref x) C4) noX) (kq : Fin X.K cl F Qd Q) :
    wpAny (model X.prog X.w) X.A (call (.ref (cl c)) us (ks.zip ws)) (EP X pins σ Q) X.xe s := by
  have n1 : H (s.heap.objs.size + 1) = none := I.hok.fresh (Nat.le_succ _)
  have n2 : H s.heap.objs.size = none := I.hok.fresh (Nat.le_refl _)
  have ne : s.heap.objs.size ≠ s.heap.objs.size + 1 := Nat.ne_of_lt (Nat.lt_succ_self _)
  have I2 := Inv.made (C := cl c) I
  have R1 : RC X.K cl C F (upd H s.heap.objs.size (.own (s.heap.objs.size + 1))) := R.over (same_upd n2)
  have n3 : (upd H s.heap.objs.size (.own (s.heap.objs.size + 1))) (s.heap.objs.size + 1) = none := by rw [upd_ne (Ne.symm ne)]; exact n1
  have R2 : RC X.K cl (updC C (s.heap.objs.size + 1) (.ins c [])) F (upd (upd H s.heap.objs.size (.own (s.heap.objs.size + 1))) (s.heap.objs.size + 1) (.ins (cl c) s.heap.objs.size [])) := R1.cell n3 (.ins .nil)
  have hq := h (s.heap.objs.size + 1) (R.freeC n1)
  have low : lowC2 X.K cl sp (V.ref (s.heap.objs.size + 1) :: vs) zs (upd (upd H s.heap.objs.size (.own (s.heap.objs.size + 1))) (s.heap.objs.size + 1) (.ins (cl c) s.heap.objs.size [])) (fun v H3 => v = .non ∧ Q (.ref (s.heap.objs.size + 1)) H3) E0 :=
    ⟨.ref (s.heap.objs.size + 1) :: ds, es, _, F, _, noX, R2, .cons (.ref _) rl, rs, hq, fun v d C3 H3 F3 s3 R3 r3 ⟨e3, q3⟩ => by subst e3; cases r3; exact ⟨rfl, kq _ _ C3 H3 F3 s3 R3 (.ref _) q3⟩, fun _ _ _ _ _ _ _ _ _ _ z => z.elim⟩
  refine wpAny_call (make_map (f := g) I.kIn M.makes M.init (beq_iff_eq.mp M.fn) (codeAny_mono (fc _ X.stack _ _ (Value.ref (s.heap.objs.size + 1) :: us) ws (V.ref (s.heap.objs.size + 1) :: vs) zs _ _ (hr.make (cl c) us (ks.zip ws)) (I2.env0.make (cl c) us (ks.zip ws)) (.cons rfl r) rz low) fun rr s' hq' => ?_))
  cases rr with
  | error er => exact hx pins σ _ _ er s' I2 hq'
  | ok fl =>
    cases fl with
    | ret u =>
      obtain ⟨v, H', I3, rv, ev, q3⟩ := I2.after hq'
      subst ev
      exact ⟨rv, ⟨V.ref (s.heap.objs.size + 1), H', I3, rfl, q3⟩⟩
    | next => exact False.elim hq'
    | brk => exact False.elim hq'
    | cont => exact False.elim hq'
/-- C(e, .., k = v, ..) -/
theorem de_make (fc : Cee X.prog X.w X.K cl X.mg X.base CX k g ks sp) (M : Mk X.K (cl c) g) (hr : Room (k + 1) X.A) (hx : Passes CX X E0) (hm : X.mg x = some (.ref (cl c))) (ha : PAd X cl (e :: es) t) (hkw : PKd X cl kws tk)
    (hg : Gl X x := by rfl) (hall : (backToKw pos (keywordEach kws X.env)).all (·.1.isSome) = true := by rfl) (hks : (backToKw pos (keywordEach kws X.env)).filterMap (·.1) = ks := by rfl) (hdb : (x == ("__debug__" : Str)) = false := by decide)
    (he : starEach (e :: es) X.env = (false, eval e X.env) :: starEach es X.env := by rfl) (hpl : ((backTo pos (starEach (e :: es) X.env)).any (·.1) || (backToKw pos (keywordEach kws X.env)).any (·.1.isNone)) = false := by rfl) :
    PEd X cl (.Call (.Name x p) (e :: es) kws pos) (dMake c sp t tk) := by
  refine ⟨fun pins s σ H Q I ⟨ρ, C, F, Qd, R, h, kq⟩ => ?_⟩
  refine wpAny_Call_Name_kw (ld_glob I hg hm ?_ hdb)
  refine cal_args (first := []) M.kp I ha hkw R h (fun us ws vs zs s2 H2 F2 C2 ds es I2 s2' R2 r rz r1 r2 q2 => ?_) hall hks he hpl
  exact fc.make M hr hx I2 r rz R2 r1 r2 q2 (kq.at s2')
/-- an own special method m of the class c: its def at g -/
structure Spc (K : PySem.W.Frag) (cl : Nm) (c : String) (m : Str) (g : Addr) : Prop where
  at_ : PySem.W.findIn K (.ref (cl c)) m = some (some (.ref g))
  fn : PySem.W.isFn K (.ref g) = true
end
end G
namespace G
open PySem PySem.Spec PyProof.Rows L2
/-! ### how the values written stand to the parameters -/
def pos2 (sp : DSp) (dd : List D) : DSp2 := fun ds es C Q E => es = [] ∧ sp (ds ++ dd) C Q E
/-- the keyword-only parameters in their order: written ones (true, i), lacking ones (false, i) -/
def gOf {α : Type} (ps : List (Bool × Nat)) (us mv ws : List α) : List α := us ++ ps.flatMap fun p => ((if p.1 then ws else mv).drop p.2).take 1
def kw2 (n m : Nat) (sp : DSp) (ps : List (Bool × Nat)) (mv : List D) : DSp2 := fun ds es C Q E => ds.length = n ∧ es.length = m ∧ sp (gOf ps ds mv es) C Q E
theorem Vals.take1 : ∀ {xs : List V} {us : List Value}, Vals xs us → Vals (xs.take 1) (us.take 1)
  | _, _, .nil => .nil
  | _, _, .cons h _ => .cons h .nil
theorem gOf_vals {us ws mv : List Value} {vs zs mz : List V} (r : Vals vs us) (m : Vals mz mv) (z : Vals zs ws) : ∀ ps : List (Bool × Nat), Vals (gOf ps vs mz zs) (gOf ps us mv ws) := fun ps => by
  refine r.append ?_
  induction ps with
  | nil => exact .nil
  | cons p ps ih =>
    rw [List.flatMap_cons, List.flatMap_cons]
    refine Vals.append ?_ ih
    obtain ⟨b, i⟩ := p
    cases b
    · exact Vals.take1 (m.drop i)
    · exact Vals.take1 (z.drop i)
theorem gOf_rep {K : PySem.W.Frag} {cl : Nm} {F : Hp} {us ws mv : List D} {vs zs mz : List V} (r : RepL K cl F vs us) (m : RepL K cl F mz mv) (z : RepL K cl F zs ws) : ∀ ps : List (Bool × Nat), RepL K cl F (gOf ps vs mz zs) (gOf ps us mv ws) := fun ps => by
  refine r.append ?_
  induction ps with
  | nil => exact .nil
  | cons p ps ih =>
    rw [List.flatMap_cons, List.flatMap_cons]
    refine RepL.append ?_ ih
    obtain ⟨b, i⟩ := p
    cases b
    · exact (m.drop i).take 1
    · exact (z.drop i).take 1
section
variable {P : Program} {w : World} {K : PySem.W.Frag} {cl : Nm} {mg : Str → Option Value} {base : Heap} {CX : CXT} {k n : Nat} {f : Addr} {fd : FuncData} {ps ks : List Str} {sp : DSp}
theorem Cee.posD {dv : List Value} {dw : List V} {dd : List D} (FG : FnOk P w K mg base CX k f fd ps (lowSp K cl sp)) (hb : Binds K fd ps dv) (hd : Vals dw dv) (hv : ∀ F, RepL K cl F dw dd) : Cee P w K cl mg base CX k f [] (pos2 sp dd) := Cee.pos FG hb hd hv
theorem Cee.kwD {mv : List Value} {mz : List V} {md : List D} {qs : List (Bool × Nat)} (FG : FnOk P w K mg base CX k f fd ps (lowSp K cl sp)) (hb : KBn K fd ps n ks (fun us ws => gOf qs us mv ws) (fun vs zs => gOf qs vs mz zs)) (hv : ∀ F, RepL K cl F mz md) :
    Cee P w K cl mg base CX k f ks (kw2 n ks.length sp qs md) := Cee.kw (gD := fun ds es => gOf qs ds md es) FG hb fun F vs zs ds es r1 r2 _ _ => gOf_rep r1 (hv F) r2 qs
/-- a def with defaults -/
theorem fn_dD {x qual : Str} {params : Arguments} {body : List Stmt} {scope : Scope} {dvs : List V} {kws : List (Str × V)} {N : List Str} {td : DS} (Fu : FunD K x qual params body scope dvs kws f fd) (S : FnScope N ps scope) (len : ∀ ds C Q E, sp ds C Q E → ds.length = ps.length)
    (pure : ∀ ds C Q E, sp ds C Q E → td (endsD Q) (startD N ds) C)
    (bd : ∀ (cdv : Value) (A : Around) (outer : List Env) (s : Shared) (H : Hp) (E : XK), Room k (A.deeper (envOfC qual scope s.heap.objs.size f cdv)) → PSsd (cxOf CX0 P w K mg base N qual scope f cdv A outer s H E).nox (nb cl) body td) :
    FnD P w K cl mg base (k + 1) f fd ps sp := by
  refine funDOk Fu S (fun vs H Q E ⟨ds, C, F, Qd, Ed, R, r, h, _, _⟩ => r.length.trans (len ds C Qd Ed h)) fun cdv A outer s H vs Q E hr ⟨ds, C, F, Qd, Ed, R, r, h, kq, kx⟩ => ?_
  refine ⟨_, (bd cdv A outer s H E hr).nox, startD N ds, C, F, _, RS.start N R r, pure ds C Qd Ed h, ?_⟩
  refine ⟨fun ρ C1 F1 σ H1 s1 R1 ⟨C2, sc, q⟩ => kq .non .non C2 H1 F1 s1 (R1.rc.drop sc) .non q, fun _ _ _ _ _ _ _ z => z.elim, fun _ _ _ _ _ _ _ z => z.elim, fun v d C1 F1 H1 s1 R1 r1 ⟨d', C2, g, q⟩ => ?_⟩
  obtain ⟨F2, s2, R2, r2⟩ := g.ok R1 r1
  exact kq v d' C2 H1 F2 (s1.trans s2) R2 r2 q
/-- def f(a, .., *v) -/
def star2 (n : Nat) (sp : DSp) : DSp2 := fun ds es C Q E => es = [] ∧ n ≤ ds.length ∧ ds.length ≤ sizeLine ∧ sp (ds.take n ++ [.tup (ds.drop n)]) C Q E
/-- what is left over is a new tuple; nothing is being shown -/
theorem star_run {N qs : List Str} {x qual pv : Str} {params : Arguments} {body : List Stmt} {scope : Scope} {dV kV doc pm cdv ct oc : Value} {an od : Option Addr} {osl : Array (Option Value)} {so : Sp} {ff : Addr} {CX : CXT} (hCX : StX.CXUp CX)
    (lk : K.lookup ff = some ⟨oc, od, .func (PySem.W.fnOf x qual params body scope dV kV doc pm an cdv ct), osl⟩) (hcd : PySem.W.codeIn K cdv qual = true) (S : FnScope N (qs ++ [pv]) scope)
    (hb : ∀ us rest : List Value, us.length = qs.length → bindArgs (PySem.W.fnOf x qual params body scope dV kV doc pm an cdv ct) ⟨us ++ rest, []⟩ = (newTuple rest >>= fun t => pure (qs.zip us ++ [(pv, t)])))
    (bd : ∀ (A : Around) (outer : List Env) (s : Shared) (H : Hp) (vs : List V) (Q : VK) (E : XK), Room k (A.deeper (envOfC qual scope s.heap.objs.size ff cdv)) → so vs H Q E →
      ∃ t, PSs (cxOf CX P w K mg base N qual scope ff cdv A outer s H E) body t ∧ t { nx := fun _ H' => Q .non H', rt := Q } (L2.start N vs) H)
    (A : Around) (outer : List Env) (s : Shared) (H : Hp) (us : List Value) (vs : List V) (Q : VK) (E : XK) (hr : Room (k + 1) A) (e0 : Env0 P w K mg base A outer s H) (r : Vals vs us)
    (hq : ∃ ws rest, vs = ws ++ rest ∧ ws.length = qs.length ∧ rest.length ≤ sizeLine ∧ ∀ p, H p = none → so (ws ++ [V.ref p]) (upd H p (.tup rest)) Q E) :
    codeAny (model P w) A (.call (.ref ff) ⟨us, []⟩) (CR CX outer P w H s Q E) s := by
  obtain ⟨ws, rest, rfl, lw, lr, hso⟩ := hq
  obtain ⟨u1, u2, rfl, ra, rb⟩ := StX.vals_split r
  have free : H s.heap.objs.size = none := e0.hok.fresh (Nat.le_refl _)
  have l1 : u1.length = qs.length := ra.length.symm.trans lw
  have l2 : u2.length ≤ sizeLine := by have := rb.length; omega
  refine StX.run_bnd lk hcd S hr.r e0 (G := fun xs H2 => ∃ p, H p = none ∧ xs = ws ++ [V.ref p] ∧ H2 = upd H p (.tup rest)) (fun A' Ex Q' h => ?_) fun s2 H2 xs ⟨p, hp, ex, eH⟩ hr' => ?_
  · rw [hb u1 u2 l1]
    refine wpAny_bind (wpAny_newTuple (wpAny_pure ?_) l2)
    have made : ObjOk P w (upd H s.heap.objs.size (.tup rest)) (s.heap.push ({ cls := .type "tuple", data := .seq u2.toArray } : Obj)) s.heap.objs.size (.tup rest) := ⟨lr, u2, rb, ⟨_, Heap.get?_push_size _ rfl, rfl, _, rfl⟩⟩
    have un := StX.un_laid (fs := frs outer) (s := s) (o := ({ cls := .type "tuple", data := .seq u2.toArray } : Obj)) (u := .tup rest) free
    have lz : (ws ++ [V.ref s.heap.objs.size]).length = (qs ++ [pv]).length := by rw [List.length_append, List.length_append, lw]; rfl
    have z := h _ _ (ws ++ [V.ref s.heap.objs.size]) (u1 ++ [Value.ref s.heap.objs.size]) (StX.env0_laid e0 made) un rfl (fun e s' => hCX outer s H _ _ E e s' un (fun b o q => Heap.get?_push_of_some _ q) rfl) (ra.append (.cons rfl .nil)) lz ⟨_, free, rfl, rfl⟩
    rw [List.zip_append l1.symm] at z
    exact z
  · subst ex eH
    exact bd A outer s2 _ _ Q E ⟨hr', hr.gd⟩ (hso p hp)
end

/-! ### three names at once -/
theorem boot_ord_ : bootBuiltins "ord" = some (.builtin "ord") := by decide +kernel
/-! ### names of classes, their constants -/
section
variable {X : Cx} {cl : NmB} {x f : Str} {c : String} {pos p : Pos}
/-! ### isinstance of own classes -/
/-- what isinstance wants of an own class whose instances are asked for -/
structure OwnTy (K : PySem.W.Frag) (cl : Nm) (c : String) : Prop where
  cls : Cls K (cl c)
  ha : PySem.W.findIn K (.ref (cl c)) "__class__" = some (some (.builtin "object.__class__"))
  hn : PySem.W.specialIn K (.builtin "object.__class__") "__get__" = some (some (.builtin "getset_descriptor.__get__"))
  tk : PySem.W.takesIn K (.builtin "object.__class__") = some true
  hm : PySem.W.mroIn K (cl c) (.type "object") = some true
/-- the built-in things are no instances of c; those of cs are told -/
structure IsiOwn (K : PySem.W.Frag) (cl : Nm) (c : String) (cs : List String) : Prop where
  blt : ∀ n ∈ (["NoneType", "bool", "int", "str", "list", "tuple", "dict"] : List String), PySem.W.kitOne K (.type n) (.ref (cl c)) = some false
  own : ∀ b ∈ cs, OwnTy K cl b ∧ PySem.W.kitOne K (.ref (cl b)) (.ref (cl c)) = some (b == c)
/-- ord of one sign -/
def rOrd : RDC := fun xs C Q => ∃ c : Nat, xs = [.str [c]] ∧ Q (.int c) C
theorem cd_ord : CallD X cl (.builtin "ord") rOrd := by
  intro pins s σ H xs us Q I r ⟨ds, C, F, Qd, R, rl, ⟨c, e, q⟩, k⟩
  subst e
  cases rl with
  | cons r1 rr =>
    cases rr; cases r1
    exact call_ord pins s σ H _ us Q I r ⟨_, rfl, rfl, k _ _ C H F (Same.refl F) R (.int _) q⟩
end

/-! ### f-strings -/
section
variable {X : Cx} {cl : NmB} {e : Expr} {te : DE} {pos : Pos} {K : PySem.W.Frag}
end
/-- a tuple of the written part -/
def KTup (K : PySem.W.Frag) (a : Addr) (vs : List V) : Prop := ∃ (o : Obj) (its : Array Value) (n : Nat), K.lookup a = some o ∧ o.cls = .type "tuple" ∧ o.data = .seq its n ∧ its.size ≤ sizeLine ∧ Vals vs its.toList
theorem KTup.rep {K : PySem.W.Frag} {cl : Nm} {F : Hp} {a : Addr} {vs : List V} {ds : List D} (h : KTup K a vs) (r : RepL K cl F vs ds) : Rep K cl F (.ref a) (.tup ds) := .tup (.inr h) r
end G
namespace G
open PySem PySem.Spec PyProof.Rows L2
/-! ### new lists that are to change -/
section
variable {X : Cx} {cl : NmB}
end
end G
namespace G
open PySem PySem.Spec PyProof.Rows L2
/-! ### things that can be compared whole -/
def Sh (n : Nat) (d : D) : Prop := plain d = true ∧ (toPy d).canLay0 = true ∧ (toPy d).depth ≤ n
def ShL (n : Nat) (ds : List D) : Prop := plainL ds = true ∧ PyData.canLayAll0 (toPyL ds) = true ∧ PyData.depthAll (toPyL ds) ≤ n
def small (l : List Nat) : Bool := l.all fun c => decide (c < 1114112)
theorem Sh.mono {n m : Nat} {d : D} (h : Sh n d) (e : n ≤ m) : Sh m d := ⟨h.1, h.2.1, Nat.le_trans h.2.2 e⟩
theorem Sh.shp {n : Nat} {d : D} (h : Sh n d) (e : n ≤ 64 := by decide) : shp d = true := by
  unfold G.shp SeqAt.shaped
  rw [h.1, h.2.1, decide_eq_true (Nat.le_trans h.2.2 e)]
  rfl
end G
namespace PySem.W
open Lean Elab Tactic Meta PySem PySem.Spec PySem.Calls PyProof.Rows
section
variable {prog : Program} {w : World} {M : Model} {A : Around} {E : Value → Shared → Prop} {s : Shared} {K : Frag} {x C f L : Addr} {h₀ : Heap} {m : Str → Option Value} {ox : Obj} {od : Option Obj} {b tb : Value}
end
end PySem.W
namespace G
open PySem PySem.Spec PyProof.Rows L2
/-! ### own == and != -/
/-- what != wants of a class with its own ==: object's != , == at g -/
structure NeO (K : PySem.W.Frag) (cl : Nm) (c : String) : Prop where
  ne : PySem.W.findIn K (.ref (cl c)) "__ne__" = some (some (.builtin "object.__ne__"))
  hm : PySem.W.mroIn K (cl c) (.type "object") = some true
section
variable {X : Cx} {cl : NmB} {CX : CXT} {k : Nat} {g : Addr} {sp : DSp2} {c : String}
end
end G
namespace G
open PySem PySem.Spec PyProof.Rows L2
/-! ### dicts -/
section
variable {κ : Type} [DecidableEq κ]
end
section
variable {K : PySem.W.Frag} {cl : Nm} {F : Hp}
theorem RepK.length : ∀ {vs : List (Key × V)} {ds : List (Key × D)}, RepK K cl F vs ds → vs.length = ds.length
  | _, _, .nil => rfl
  | _, _, .cons _ t => congrArg (· + 1) (RepK.length t)
theorem RepT.length : ∀ {vs : List (List Key × V)} {ds : List (List Key × D)}, RepT K cl F vs ds → vs.length = ds.length
  | _, _, .nil => rfl
  | _, _, .cons _ t => congrArg (· + 1) (RepT.length t)
end
section
variable {K : PySem.W.Frag} {cl : Nm} {C : Cl} {F H : Hp} {v : V} {d : D}
end
/-! readings -/
section
variable {X : Cx} {cl : NmB} {o i e f : Expr} {es : List Expr} {to tk tv tx : DE} {t : DA} {pos pos' kpos apos cpos : Pos} {kk : Nat} {n : Nat}
end
end G
namespace PySem.W
open Lean Elab Tactic Meta PySem PySem.Calls PyProof.Rows PyProof.V PySem.Spec
section
variable {prog : Program} {w : World} {K : Type} [DecidableEq K] {knd : HeapKind prog w K} {A : Around} {E : Value → Shared → Prop} {s : Shared}
/-- the entries of one dict, looked up in another one -/
inductive GHits {K : Type} [DecidableEq K] (A : Around) (s : Shared) (kb : List (K × Addr × Value)) : List (K × Addr × Value) → Bool → Prop
  | nil : GHits A s kb [] true
  | miss {k : K} {p : Addr × Value} {r : List (K × Addr × Value)} : atKey kb k = none → GHits A s kb ((k, p) :: r) false
  | hit {k : K} {p q : Addr × Value} {r : List (K × Addr × Value)} {e b : Bool} : atKey kb k = some q → SeqAt.EqAt A s p.2 q.2 e → GHits A s kb r b → GHits A s kb ((k, p) :: r) (e && b)
end
end PySem.W
namespace G
open PySem PySem.Spec PyProof.Rows L2
/-! ### == of a tree and itself, whatever stands in it; == of dicts -/
section
variable {X : Cx} {cl : NmB} {CX : CXT} {k n : Nat} {g : Addr} {sp : DSp2} {c : String}
/-! dicts with keys of texts and texts as values -/
end
end G
namespace G
open PySem PySem.Spec PyProof.Rows L2
/-! ### reversed, [::-1] -/
section
variable {X : Cx} {cl : NmB} {tg e : Expr} {te : DE} {K : PySem.W.Frag} {pos : Pos}
end
/-! ### own operators -/
section
variable {X : Cx} {cl : NmB} {CX : CXT} {k : Nat} {g : Addr} {sp : DSp2} {c : String}
end
/-! ### properties, classmethods, a class in a local name -/
section
variable {X : Cx} {cl : NmB} {CX : CXT} {k : Nat} {g p : Addr} {fd : FuncData} {sp : DSp} {sp2 : DSp2} {c : String} {e o : Expr} {es : List Expr} {te to : DE} {t tk : DA} {pos apos : Pos} {f m : Str}
end
end G
namespace PySem
open Sem (wp)
open PyProof.Rows Builtin
section
variable {prog : Program} {w : World} {A : Around} {E : Value → Shared → Prop} {s : Shared}
end
end PySem
namespace G
open PySem PySem.Spec PyProof.Rows L2
/-! ### what an iterator walks: a list, a tuple, a text -/
inductive ItS where
  | lst (a : Addr)
  | tup (a : Addr)
  | txt (x : Str) (t : Tok)
def ItS.at (j : ItS) (h : Heap) (it : Addr) (i : Nat) : Prop := match j with
  | .lst a => h.IsListIter it a i
  | .tup a => h.IsTupleIter it a i
  | .txt x t => h.IsStrIter it (strIterType x) x t i
def ItS.src (K : PySem.W.Frag) (H : Hp) (j : ItS) (xs : List V) : Prop := match j with
  | .lst a => SqL K H a xs
  | .tup a => SqT K H a xs
  | .txt x _ => xs = x.cps.toList.map fun c => V.str ⟨#[c]⟩
def ItS.fp (j : ItS) (it : Addr) : List Addr := match j with
  | .lst a => [it, a]
  | .tup a => [it, a]
  | .txt _ _ => [it]
def ItS.val : ItS → Value
  | .lst a => .ref a
  | .tup a => .ref a
  | .txt x t => .str x t
/-- the cell of the thing walked is not that address -/
def ItS.off (j : ItS) (b : Addr) : Prop := match j with
  | .lst a => a ≠ b
  | .tup a => a ≠ b
  | .txt _ _ => True
section
variable {X : Cx} {pins : List (Addr × Obj)} {σ : L2.St} {H : Hp} {s : Shared}
theorem ItS.inj {j : ItS} (I : Inv X pins σ H s) {xs ys : List V} (h : j.src X.K H xs) (k : j.src X.K H ys) : xs = ys := by
  cases j with
  | lst a => exact I.list_inj h k
  | tup a => exact I.tuple_inj h k
  | txt x t => exact h.trans k.symm
theorem ItS.keep {j : ItS} {h h' : Heap} {it : Addr} {i : Nat} (st : j.at h it i) (k : ∀ o, h.get? it = some o → h'.get? it = some o) : j.at h' it i := by
  cases j with
  | lst a => exact Heap.IsListIter.at st k
  | tup a => exact Heap.IsTupleIter.at st k
  | txt x t => obtain ⟨o, e, c⟩ := st; exact ⟨o, k o e, c⟩
theorem ItS.lt {j : ItS} {xs : List V} (I : Inv X pins σ H s) (h : j.src X.K H xs) : ∀ b, s.heap.objs.size ≤ b → j.off b ∧ b ∉ (match j with | .lst a => [a] | .tup a => [a] | .txt _ _ => []) := by
  intro b hb
  cases j with
  | lst a =>
    obtain ⟨its, rv, p, hz⟩ := I.list h
    have : a < s.heap.objs.size := p.lt
    have ne : a ≠ b := Nat.ne_of_lt (Nat.lt_of_lt_of_le this hb)
    exact ⟨ne, fun m => ne (List.mem_singleton.mp m).symm⟩
  | tup a =>
    obtain ⟨its, rv, ⟨o, e, _⟩, hz⟩ := I.tuple h
    have : a < s.heap.objs.size := Heap.lt_size e
    have ne : a ≠ b := Nat.ne_of_lt (Nat.lt_of_lt_of_le this hb)
    exact ⟨ne, fun m => ne (List.mem_singleton.mp m).symm⟩
  | txt x t => exact ⟨trivial, by simp⟩
end
/-- a value that is walked, and what is wanted of the walk -/
def SrcR (K : PySem.W.Frag) (H : Hp) (v : V) (xs : List V) (R : ItS → Prop) : Prop := (∃ a, v = .ref a ∧ SqL K H a xs ∧ R (.lst a)) ∨ (∃ a, v = .ref a ∧ SqT K H a xs ∧ R (.tup a)) ∨ ∃ x : Str, v = .str x ∧ xs = (x.cps.toList.map fun c => V.str ⟨#[c]⟩) ∧ ∀ t, R (.txt x t)
theorem SrcR.it {X : Cx} {pins : List (Addr × Obj)} {σ : L2.St} {H : Hp} {s : Shared} {v : V} {u : Value} {xs : List V} {R : ItS → Prop} (I : Inv X pins σ H s) (h : SrcR X.K H v xs R) (r : RelV v u) :
    ∃ (j : ItS) (o : Obj) (Hd : Heap → Prop), u = j.val ∧ j.src X.K H xs ∧ Begins u o Hd ∧ Hd s.heap ∧ (∀ h it, h.get? it = some o → j.at h it 0) ∧ R j := by
  rcases h with ⟨a, rfl, h, q⟩ | ⟨a, rfl, h, q⟩ | ⟨x, rfl, rfl, q⟩
  · cases r
    obtain ⟨its, rv, p, hz⟩ := I.list h
    exact ⟨.lst a, _, _, rfl, h, begins_list a its.toArray, p.isList, fun h it e => ⟨_, e, rfl, rfl⟩, q⟩
  · cases r
    obtain ⟨its, rv, p, hz⟩ := I.tuple h
    exact ⟨.tup a, _, _, rfl, h, begins_tuple a its.toArray, show s.heap.IsTuple a its.toArray from p, fun h it e => ⟨_, e, rfl, rfl⟩, q⟩
  · obtain ⟨t, rfl⟩ := (show ∃ t, u = Value.str x t from r)
    exact ⟨.txt x t, _, _, rfl, rfl, begins_text x t, trivial, fun h it e => ⟨_, e, rfl, rfl⟩, q t⟩
/-! zip -/
/-! as trees -/
section
variable {K : PySem.W.Frag} {cl : Nm} {F H : Hp} {v : V} {d : D} {ds : List D}
end
section
variable {X : Cx} {cl : NmB} {tg e e2 : Expr} {t : DA} {p pos tpos : Pos} {elts : List Expr} {kk : Nat}
end
end G
namespace G
open PySem PySem.Spec PyProof.Rows L2
/-! ### a comprehension over a list that is to change later -/
section
variable {X : Cx} {cl : NmB} {pos : Pos} {vs : List Nat} {K : PySem.W.Frag}
end
end G
set_option maxHeartbeats 1000000
namespace G
open PySem PySem.Spec PyProof.Rows L2
/-! ### walks over lists that stand, or over cells that stay as they are while they are walked -/
def WalkC (K : PySem.W.Frag) (cl : Nm) (J : It) (xs : List D) (F : Hp) (G : Cl → Prop) : Prop := ∀ i C F1 H, Same F F1 → RC K cl C F1 H → G C →
  (∀ x, xs[i]? = some x → J.go i H ∧ ∀ v H', J.yld i H v H' → ∃ F2, Same F1 F2 ∧ RC K cl C F2 H' ∧ Rep K cl F2 v x) ∧ (xs.length = i → J.stop i H)
theorem Walk.c {K : PySem.W.Frag} {cl : Nm} {J : It} {xs : List D} {F : Hp} (w : Walk K cl J xs F) (G : Cl → Prop) : WalkC K cl J xs F G := fun i C F1 H s R _ => w i C F1 H s R
/-- what x tells when it is walked, as long as G holds -/
def Walks (C : Cl) (x : D) (xs : List D) (G : Cl → Prop) : Prop := (lstOf x = some xs ∧ G = fun _ => True) ∨ ∃ a, x = .ref a ∧ C a = some (.lst xs) ∧ G = fun C => C a = some (.lst xs)
theorem Walks.new {C : Cl} {x : D} {xs : List D} {G : Cl → Prop} {p : Addr} {c : Cell} (w : Walks C x xs G) (hp : C p = none) : G (updC C p c) := by
  rcases w with ⟨_, rfl⟩ | ⟨a, _, h, rfl⟩
  · trivial
  · show updC C p c a = _
    rw [updC_ne (fun z => by rw [z, hp] at h; cases h)]; exact h
theorem Walks.seq {C : Cl} {x : D} {xs : List D} {G : Cl → Prop} (w : Walks C x xs G) : seqOf C x = some xs := by
  rcases w with ⟨h, _⟩ | ⟨a, rfl, h, _⟩
  · cases x <;> first | exact h | cases h
  · show (match C a with | some (.lst ds) => some ds | _ => none) = _
    rw [h]
section
variable {K : PySem.W.Frag} {cl : NmB} {F : Hp}
end
section
variable {X : Cx} {cl : NmB} {tg e : Expr} {te : DE} {t : DA} {pos p tpos : Pos} {elts : List Expr} {kk : Nat}
variable {vs : List Nat}
end
/-! ### steps -/
/-! ### == of lists that may be cells -/
section
variable {X : Cx} {cl : NmB}
end
end G
namespace G
open PySem PySem.Spec PyProof.Rows L2
/-! ### d.setdefault(k, v) -/
section
variable {X : Cx} {cl : NmB} {o e f : Expr} {to tk tx : DE} {apos cpos : Pos}
end
end G
set_option maxHeartbeats 1000000
namespace G
open PySem PySem.Spec PyProof.Rows L2
/-! ### exceptions of one's own: what may leave, calls that may raise, raise -/
/-- the readings' exception end keeps the wish W -/
def FinW (K : PySem.W.Frag) (cl : NmB) (Ex : DEnv → DX) (W : WX) : Prop :=
  ∀ (ρ : DEnv) (σ : L2.St) (c : String) (ds : List (Str × D)) (cv : Value) (d : Option Addr) (C : Cl) (F H : Hp), RS K cl ρ C F σ H → ExcRep K cl F c ds cv d H → Ex ρ c ds C → W cv d σ H
theorem finw_none {K : PySem.W.Frag} {cl : NmB} {W : WX} : FinW K cl (fun _ => noX) W := fun _ _ _ _ _ _ _ _ _ _ _ z => z.elim
theorem FinW.at {K : PySem.W.Frag} {cl : NmB} {Ex : DEnv → DX} {W : WX} (k : FinW K cl Ex W) {ρ : DEnv} {C : Cl} {F F1 : Hp} {σ : L2.St} {H : Hp} (R : RS K cl ρ C F σ H) (s : Same F F1) : FinX K cl F1 (Ex ρ) (WE W σ) :=
  fun c ds cv d C2 H2 F2 s2 R2 x h => k ρ σ c ds cv d C2 F2 H2 (R.next (s.trans s2) R2) x h

section
variable {X : Cx} {cl : NmB} {CX : CXT} {k n : Nat} {f : Addr} {ks : List Str} {sp : DSp2} {E : XK} {pins : List (Addr × Obj)} {σ : L2.St} {H : Hp} {s : Shared}
theorem Cee.goS {A : Around} {us ws : List Value} {vs zs : List V} {Q : VK} (c : Cee X.prog X.w X.K cl X.mg X.base CX k f ks sp) (hr : Room k A) (hf : A.frames = X.A.frames) (hx : PassesAt CX X σ E) (I : Inv X pins σ H s) (r : Vals vs us) (rz : Vals zs ws)
    (h : lowC2 X.K cl sp vs zs H Q E) : wpAny (model X.prog X.w) A (call (.ref f) us (ks.zip ws)) (EP X pins σ Q) X.xe s := by
  have e0 : Env0 X.prog X.w X.K X.mg X.base A X.stack s H := by
    have e := I.env0
    exact ⟨by rw [hf]; exact e.frames, e.mod, e.bs, e.bsz, e.funs, e.frf, e.hok, e.bare⟩
  refine wpAny_call (codeAny_mono (c A X.stack s H us ws vs zs Q E hr e0 r rz h) fun r s' hq => ?_)
  cases r with
  | error e => exact hx pins H s e s' I hq
  | ok fl =>
    cases fl with
    | ret u => exact I.after hq
    | next => exact False.elim hq
    | brk => exact False.elim hq
    | cont => exact False.elim hq
end
def dCalX (Ex : DEnv → DX) (sp : DSp2) (t tk : DA) : DE := fun ρ C Q => t ρ C fun xs C2 => tk ρ C2 fun zs C3 => sp xs zs C3 Q (Ex ρ)
section
variable {X : Cx} {cl : NmB} {k : Nat} {g : Addr} {ks : List Str} {sp : DSp2} {e o : Expr} {es : List Expr} {kws : List Keyword} {to : DE} {t tk : DA} {pos apos p : Pos} {x m : Str} {c : String} {te : DE} {Ex : DEnv → DX} {W : WX}
end

/-! ### a def that may raise -/
section
variable {P : Program} {w : World} {K : PySem.W.Frag} {cl : Nm} {mg : Str → Option Value} {base : Heap}
theorem fn_dX {x qual : Str} {st : Stmt} {f : Addr} {fd : FuncData} {N ps : List Str} {k : Nat} {sp : DSp} {td : (DEnv → DX) → DS} (Fu : Fun K x qual st f fd) (S : FnScope N ps (defScope st)) (len : ∀ ds C Q E, sp ds C Q E → ds.length = ps.length)
    (pure : ∀ ds C Q E, sp ds C Q E → td (fun _ => E) (endsD Q) (startD N ds) C)
    (body : ∀ (cdv : Value) (A : Around) (outer : List Env) (s : Shared) (H : Hp) (E : XK) (F0 : Hp) (Ex : DEnv → DX) (W : WX), Room k (A.deeper (envOfC qual (defScope st) s.heap.objs.size f cdv)) →
      Takes (cxOf (L2.CX P w) P w K mg base N qual (defScope st) f cdv A outer s H E) W → FinW K ⟨cl, F0⟩ Ex W → PSsd (cxOf (L2.CX P w) P w K mg base N qual (defScope st) f cdv A outer s H E) ⟨cl, F0⟩ (defBody st) (td Ex)) :
    FnOk P w K mg base (L2.CX P w) (k + 1) f fd ps (lowSp K cl sp) := by
  refine funOkX Fu S (fun vs H Q E ⟨ds, C, F, Qd, Ed, R, r, h, _, _⟩ => r.length.trans (len ds C Qd Ed h)) fun cdv A outer s H vs Q E hr ⟨ds, C, F, Qd, Ed, R, r, h, kq, kx⟩ => ?_
  refine ⟨_, body cdv A outer s H E F (fun _ => Ed) (fun cv d _ H => E cv d H) hr (takes_of rfl rfl rfl rfl) ?_, startD N ds, C, F, _, RS.startB (cl := ⟨cl, F⟩) N R r (Same.refl F), pure ds C Qd Ed h, ?_⟩
  · intro ρ σ c fs cv d C1 F1 H1 R1 x1 h1
    exact kx c fs cv d C1 H1 F1 R1.bs R1.rc x1 h1
  · refine ⟨fun ρ C1 F1 σ H1 s1 R1 ⟨C2, sc, q⟩ => kq .non .non C2 H1 F1 s1 (R1.rc.drop sc) .non q, fun _ _ _ _ _ _ _ z => z.elim, fun _ _ _ _ _ _ _ z => z.elim, fun v d C1 F1 H1 s1 R1 r1 ⟨d', C2, g, q⟩ => ?_⟩
    obtain ⟨F2, s2, R2, r2⟩ := g.ok R1 r1
    exact kq v d' C2 H1 F2 (s1.trans s2) R2 r2 q
end

/-! ### raise c(e, ..) -/
/-- a value whose text is short -/
def ShowD (d : PyData) : Prop := d.showable = true ∧ d.hasDict = false ∧ d.depth ≤ 60 ∧ d.shown.length ≤ 1000000
/-- what a text can hold of an argument -/
def PrV (K : PySem.W.Frag) (H : Hp) (y : V) : Prop := (∃ z : Str, y = .str z ∧ z.length ≤ 1000000) ∨ (∃ i : Int, y = .int i ∧ i.natAbs.log2 < 1920) ∨ y = .non ∨ (∃ b, y = .bl b) ∨ ∃ a d, y = .ref a ∧ Dp K H y d ∧ ShowD d
def PrD (x : D) : Prop := (∃ l : List Nat, x = .str l ∧ l.length ≤ 1000000) ∨ (∃ i : Int, x = .int i ∧ i.natAbs.log2 < 1920) ∨ x = .non ∨ (∃ b, x = .bl b) ∨ (plain x = true ∧ ShowD (toPy x) ∧ ((∃ ds, x = .tup ds) ∨ (∃ ds, x = .lst ds) ∨ ∃ ds, x = .rol ds))
/-- an own exception's __init__: its fields are its arguments -/
def spXi (K : PySem.W.Frag) (C : Addr) (fs : List Str) : Sp := fun vs H Q E => ∃ a ys, vs = .ref a :: ys ∧ ys.length = fs.length ∧ OexC K C ∧ (∀ f ∈ fs, PySem.W.findIn K (.ref C) f = some none) ∧ H a = some (exo a C none) ∧ (∀ y ∈ ys, PrV K H y) ∧
  ∀ dx, H dx = none → dx ≠ a → Q .non (upd (upd H dx (exd dx (fs.zip ys).reverse)) a (exo a C (some dx)))
def dRaise (Ex : DEnv → DX) (c : String) (fs : List Str) (t : DA) : DS := fun D ρ C => t ρ C fun xs C1 => xs.length = fs.length ∧ xs.length ≤ 900 ∧ (∀ x ∈ xs, PrD x) ∧ Ex ρ c (fs.zip xs).reverse C1
theorem RepF.append {K : PySem.W.Frag} {cl : Nm} {F : Hp} : ∀ {as bs : List (Str × V)} {ds es : List (Str × D)}, RepF K cl F as ds → RepF K cl F bs es → RepF K cl F (as ++ bs) (ds ++ es)
  | _, _, _, _, .nil, s => s
  | _, _, _, _, .cons h r, s => .cons h (RepF.append r s)
theorem RepF.reverse {K : PySem.W.Frag} {cl : Nm} {F : Hp} : ∀ {as : List (Str × V)} {ds : List (Str × D)}, RepF K cl F as ds → RepF K cl F as.reverse ds.reverse
  | _, _, .nil => .nil
  | _, _, .cons h r => by rw [List.reverse_cons, List.reverse_cons]; exact (RepF.reverse r).append (.cons h .nil)
theorem RepF.zip {K : PySem.W.Frag} {cl : Nm} {F : Hp} : ∀ (fs : List Str) {vs : List V} {ds : List D}, RepL K cl F vs ds → RepF K cl F (fs.zip vs) (fs.zip ds)
  | [], _, _, _ => by rw [List.zip_nil_left, List.zip_nil_left]; exact .nil
  | _ :: _, _, _, .nil => .nil
  | _ :: fs, _, _, .cons h r => .cons h (RepF.zip fs r)
theorem prv_one {K : PySem.W.Frag} {cl : Nm} {F H : Hp} (sub : Same F H) {v : V} {d : D} (r : Rep K cl F v d) (p : PrD d) : PrV K H v := by
  rcases p with ⟨l, e1, e2⟩ | ⟨i, e1, e2⟩ | e1 | ⟨b, e1⟩ | ⟨pl, sh, k⟩
  · subst e1
    cases r
    exact .inl ⟨_, rfl, by simpa [Str.length] using e2⟩
  · subst e1
    cases r
    exact .inr (.inl ⟨_, rfl, e2⟩)
  · subst e1
    cases r
    exact .inr (.inr (.inl rfl))
  · subst e1
    cases r
    exact .inr (.inr (.inr (.inl ⟨_, rfl⟩)))
  · have q := Rep.dp (cl := nb cl) sub r pl
    rcases k with ⟨ds, e1⟩ | ⟨ds, e1⟩ | ⟨ds, e1⟩
    · subst e1
      cases r
      exact .inr (.inr (.inr (.inr ⟨_, _, rfl, q, sh⟩)))
    · subst e1
      cases r
      exact .inr (.inr (.inr (.inr ⟨_, _, rfl, q, sh⟩)))
    · subst e1
      cases r
      exact .inr (.inr (.inr (.inr ⟨_, _, rfl, q, sh⟩)))
theorem prv_of {K : PySem.W.Frag} {cl : Nm} {F H : Hp} (sub : Same F H) : ∀ {vs : List V} {ds : List D}, RepL K cl F vs ds → (∀ x ∈ ds, PrD x) → ∀ y ∈ vs, PrV K H y
  | _, _, .nil, _ => nofun
  | _, _, .cons h r, k => fun y hy => by
    rcases List.mem_cons.mp hy with e | e
    · subst e
      exact prv_one sub h (k _ List.mem_cons_self)
    · exact prv_of sub r (fun x hx => k x (List.mem_cons_of_mem _ hx)) y e
theorem exheap {H : Hp} {a dx : Addr} {o o2 u v : HO} (ha : H a = none) (hd : dx ≠ a) : upd (del (upd (upd (upd H a o) dx u) a o2) a) dx v = upd H dx v := by
  funext b
  by_cases h : b = dx
  · subst h; rw [upd_same, upd_same]
  · rw [upd_ne h, upd_ne h]
    by_cases z : b = a
    · subst z; rw [del_same, ha]
    · rw [del_ne z, upd_ne z, upd_ne h, upd_ne z]
section
variable {X : Cx} {cl : NmB} {k : Nat} {fI : Addr} {fd : FuncData} {ps fs : List Str} {c : String} {e : Expr} {es : List Expr} {t : DA} {x : Str} {p pos pos2 : Pos} {Ex : DEnv → DX} {W : WX}
/-- c(e, ..), c an own exception over ValueError; its __init__ is asked where nothing is being shown -/
theorem pmk_own {CX : CXT} {C : Addr} {sp : Sp} {ta : TA} (T : OexC X.K C) (iC : PySem.W.findIn X.K (.ref C) "__init__" = some (some (.ref fI))) (tI : PySem.W.typeIn X.K (.ref fI) = some (.type "function"))
    (F1 : FnOk X.prog X.w X.K X.mg X.base CX k fI fd ps sp) (hr : Room (k + 1) X.A) (hb : Binds X.K fd ps []) (hx : Passes CX X (fun _ _ _ => False)) (hg : Gl X x) (hm : X.mg x = some (.ref C)) (ha : PA X (e :: es) ta)
    (hdb : (x == ("__debug__" : Str)) = false) (he : starEach (e :: es) X.env = (false, eval e X.env) :: starEach es X.env) (hpl : (backTo pos (starEach es X.env)).any (·.1) = false) : PMk X (.Call (.Name x p) (e :: es) [] pos) (tMkO C sp [] ta) := by
  intro pins s σ H Q I h
  obtain ⟨nm, q, N, bs, bm, sn, sub, ab, col, dd, k0, k1, k2, k3, k5, hC, hbm⟩ := T.cls
  refine wpAny_Call_Name_kw (ld_glob I hg hm ?_ hdb)
  refine PySem.W.callWith_K (h₀ := X.base) I.ok.mod.kin T.kC (thn (ha.run pos pins s σ H _ I h) fun us s1 ⟨vs, H1, I1, r1, hz, q1⟩ => ⟨I1.kIn, ?_⟩) he hpl
  show wpAny _ _ (call (.ref C) us) _ _ _
  obtain ⟨hp, g, dr, tk, os⟩ := s1
  generalize hA : hp.objs.size + 1 = A0
  have big : hp.objs.size ≤ A0 := by omega
  have free : H1 A0 = none := I1.hok.fresh big
  have hq := q1 A0 free
  rw [List.append_nil] at hq
  generalize hh : (hp.push (PySem.W.kdv_tup us)).push (PySem.HandSPX.excO C hp.objs.size) = h2
  have keep : ∀ b o, hp.get? b = some o → h2.get? b = some o := fun b o e => by rw [← hh]; exact Heap.get?_push_of_some _ (Heap.get?_push_of_some _ e)
  have hget : h2.get? A0 = some (PySem.HandSPX.excO C hp.objs.size) := by subst hh hA; heap_get
  have I2 : Inv X pins σ (upd H1 A0 (exo A0 C none)) ⟨h2, g, dr, tk, os⟩ := I1.laid (t' := tk) (a := A0) (o := exo A0 C none) (h' := h2) keep big (exo_ok hget)
  have r2 : Vals (V.ref A0 :: vs) (Value.ref A0 :: us) := .cons rfl r1
  have hl : (Value.ref A0 :: us).length = ps.length := r2.length.symm.trans (F1.len _ _ _ _ hq)
  have hus : us.length ≤ sizeLine := by
    have := r1.length
    rw [sizeLine_eq]
    omega
  have b := hb ⟨h2, g, dr, tk, os⟩ (Value.ref A0 :: us) I2.kIn (by rw [List.append_nil]; exact hl)
  rw [List.append_nil] at b
  have run := F1.run _ X.stack _ _ ⟨Value.ref A0 :: us, []⟩ (Value.ref A0 :: us) _ _ (fun _ _ _ => False) (hr.make C us []) (I2.env0.make C us []) b r2 hq
  subst hA hh
  refine wpAny_call (PySem.HandSPX.call_own F.excBase_ValueError (fun Y => PySem.HandSPX.refsVE_contains Y bm hbm) (I1.kIn _ _ hC) (PySem.W.looks_findIn I1.kIn iC) (fun self => PySem.W.bind_fn I1.kIn self tI) hus (codeAny_mono run fun r s' hq' => ?_))
  cases r with
  | error er => exact hx pins σ _ _ er s' I2 hq'
  | ok fl =>
    cases fl with
    | ret u =>
      obtain ⟨v, H2, os2, bare2, un2, hok2, rv, ev, d, fs, ea, ed, hd1, q2⟩ := hq'
      subst ev
      obtain ⟨h3, g2, d2, t2, os'⟩ := s'
      exact ⟨rv, mk_end (raises_own T.exC T.tyC) I1 big keep un2 hok2 os2 bare2 ea ed hd1 q2⟩
    | next => exact hq'.elim
    | brk => exact hq'.elim
    | cont => exact hq'.elim
theorem ds_raise (tkX : Takes X W) (fw : FinW X.K cl Ex W) (T : OexC X.K (cl c)) (iC : PySem.W.findIn X.K (.ref (cl c)) "__init__" = some (some (.ref fI))) (tI : PySem.W.typeIn X.K (.ref fI) = some (.type "function")) (nf : ∀ f ∈ fs, PySem.W.findIn X.K (.ref (cl c)) f = some none)
    (F1 : FnOk X.prog X.w X.K X.mg X.base CX0 k fI fd ps (spXi X.K (cl c) fs)) (hr : Room (k + 1) X.A) (hb : Binds X.K fd ps []) (hm : X.mg x = some (.ref (cl c))) (ha : PAd X cl (e :: es) t) (hc : X.calm = true := by rfl) (hg : Gl X x := by rfl)
    (hdb : (x == ("__debug__" : Str)) = false := by decide) (he : starEach (e :: es) X.env = (false, eval e X.env) :: starEach es X.env := by rfl) (hpl : (backTo pos (starEach es X.env)).any (·.1) = false := by rfl) :
    PSd X cl (.Raise (some (.Call (.Name x p) (e :: es) [] pos)) none pos2) (dRaise Ex c fs t) := by
  refine weakS (ps_raise hc tkX (pmk_own T iC tI F1 hr hb pass0 hg hm ha hdb he hpl)) fun De σ H ⟨ρ, C, F, Dd, R, h, k⟩ => ?_
  refine ⟨ρ, C, F, _, R, h, fun vs ds C1 H1 F1 s1 R1 r1 ⟨l1, l2, pr, hx⟩ => ⟨by rw [r1.length]; omega, fun a na => ⟨a, vs, by rw [List.append_nil], by rw [r1.length, l1], T, nf, upd_same, prv_of (R1.sub.trans (same_upd na)) r1 pr, fun dx hd hda => ?_⟩⟩⟩
  have hd1 : H1 dx = none := by rw [upd_ne hda] at hd; exact hd
  refine ⟨rfl, dx, (fs.zip vs).reverse, upd_same, by rw [upd_ne hda, upd_same], hd1, ?_⟩
  rw [exheap na hda]
  exact fw ρ σ c _ _ _ C1 F1 _ (R.next s1 (R1.over (same_upd hd1))) ⟨rfl, dx, _, rfl, upd_same, (RepF.zip fs r1).reverse⟩ hx
end
end G
set_option maxHeartbeats 1000000
namespace G
open PySem PySem.Spec PyProof.Rows L2
/-! ### an own exception's __init__ -/
section
variable {X : Cx} {C G0 : Addr} {mc : Value} {e : Expr} {es : List Expr} {ta : TA} {x : Str} {p1 p2 pos : Pos}
/-- G.__init__(self, ..), G an own class over ValueError without an own __init__ -/
theorem pe_ginit {pl : Sem Bool} (hm : X.mg x = some (.ref G0)) (r : ClX.CRead X.K G0 mc) (vV : PySem.W.findCls X.K (.ref G0) mc "__init__" = some (.val (.builtin "ValueError.__init__"))) (ha : PA X (e :: es) ta)
    (hc : eval (.Call (.Attribute (.Name x p1) "__init__" p2) (e :: es) [] pos) X.env = (do
      let ov ← eval (.Name x p1) X.env
      standAt p2.atName
      let (f, first) ← holding [ov] (getMethod ov "__init__" pl)
      callWith pos f first (backTo pos (starEach (e :: es) X.env)) (backToKw pos (keywordEach [] X.env))) := by rfl)
    (hg : Gl X x := by rfl) (hdb : (x == ("__debug__" : Str)) = false := by decide)
    (he : starEach (e :: es) X.env = (false, eval e X.env) :: starEach es X.env := by rfl) (hpl : (backTo pos (starEach es X.env)).any (·.1) = false := by rfl) :
    PE X (.Call (.Attribute (.Name x p1) "__init__" p2) (e :: es) [] pos) (tVeI X.K ta) := by
  refine ⟨fun pins s σ H Q I h => ?_⟩
  refine PySem.W.methodCall_KW (pl := pl) (ld_glob I hg hm ?_ hdb) hc
  refine PySem.W.method_cls I.kIn r.ga (PySem.W.cls_value I.kIn r.rd vV (by decide +kernel) ?_)
  show wpAny _ _ (callWith pos (Value.builtin "ValueError.__init__") [] (backTo pos (starEach (e :: es) X.env)) []) _ _ _
  refine PyProof.Rows.callWith_method1 (thn (ha.run pos pins _ σ H _ (I.tok _) h) fun us s1 ⟨vs, H1, I1, r1, a, C, ws, ev, hl, T, ea, q⟩ => ?_) he hpl
  subst ev
  cases r1 with
  | @cons _ u0 _ ur ra rw' =>
    obtain rfl : u0 = Value.ref a := ra
    have hlen : ur.length ≤ sizeLine := by
      rw [← Paired.length rw', sizeLine_eq]
      omega
    exact oinit_ok T I1 ea hlen fun s' J => ⟨.non, H1, J, rfl, q⟩
end
/-- {x}: any such value, some short text -/
def tFmtD (K : PySem.W.Frag) (te : TE) : TE := fun σ H Q => te σ H fun x H1 => PrV K H1 x ∧ ∀ y : Str, y.length ≤ 1000000 → Q (.str y) H1
theorem pe_fmtD {X : Cx} {e : Expr} {te : TE} {pos : Pos} {k : Nat} (hr : Room k X.A) (he : PE X e te) : PE X (.FormattedValue e (-1) none pos) (tFmtD X.K te) := by
  refine ⟨fun pins s σ H Q I h => ?_⟩
  refine wpAny_FormattedValue_plain (thn (he.run pins s σ H _ I h) fun v s1 ⟨x, H1, I1, r1, pr, q⟩ => ?_)
  rcases pr with ⟨z, rfl, hz⟩ | ⟨i, rfl, hz⟩ | rfl | ⟨b, rfl⟩ | ⟨a, d, rfl, hd, s1', s2, s3, s4⟩
  · obtain ⟨t, rfl⟩ := r1
    exact wpAny_formatField_str ⟨.str z, H1, I1, ⟨t, rfl⟩, q z hz⟩ ⟨.str z, H1, I1.tok _, ⟨_, rfl⟩, q z hz⟩ (szl (by omega))
  · obtain ⟨t, rfl⟩ := r1
    exact wpAny_formatField_int hz ⟨.str (toString i), H1, I1.tok _, ⟨_, rfl⟩, q _ (Nat.le_trans (int_text_len_1921 hz) (by decide))⟩
  · obtain rfl : v = Value.none := r1
    exact wpAny_formatField_none ⟨.str "None", H1, I1.tok _, ⟨_, rfl⟩, q _ (by decide)⟩
  · obtain rfl : v = Value.bool b := r1
    refine wpAny_formatField_bool ⟨.str (if b then "True" else "False"), H1, I1.tok _, ⟨_, rfl⟩, q _ ?_⟩
    cases b <;> decide
  · obtain rfl : v = Value.ref a := r1
    obtain ⟨as, rd⟩ := Dp.reads I1 d (.ref a) (.ref a) hd rfl
    refine formatField_of_reads rd s1' (fun z => by rw [s2] at z; cases z) hr.gd (by have := hr.un; omega) (fun b o e => e) (fun h' u tk kp => ⟨.str d.shown, H1, I1.kept kp, ⟨u, rfl⟩, q _ s4⟩) (szl (by omega))
/-- a part of a short text, nothing changed -/
def Pl (σ : L2.St) (H : Hp) (t : TE) : Prop := ∀ Q : VK, (∀ y : Str, y.length ≤ 1000000 → Q (.str y) H) → t σ H Q
theorem pl_c {σ : L2.St} {H : Hp} {y : Str} (h : y.length ≤ 1000000) : Pl σ H (tC (.str y)) := fun Q k => k y h
theorem pl_fmt {K : PySem.W.Frag} {σ : L2.St} {H : Hp} {i : Nat} {y : V} (e : σ[i]? = some (some y)) (h : PrV K H y) : Pl σ H (tFmtD K (tVar i)) := fun Q k => ⟨_, e, h, k⟩
theorem js_pl {σ : L2.St} {H : Hp} {Q : Str → Hp → Prop} (hq : ∀ out, Q out H) : ∀ (ts : List TE) (acc : Str), (∀ t ∈ ts, Pl σ H t) → acc.length + ts.length * 1000000 ≤ 16000000 → tJs ts acc σ H Q
  | [], acc, _, _ => hq acc
  | t :: ts, acc, h, l => h t List.mem_cons_self _ fun y hy => by
    have e : (acc ++ y).length = acc.length + y.length := by
      show (acc ++ y).cps.size = acc.cps.size + y.cps.size
      exact Array.size_append
    rw [List.length_cons] at l
    exact ⟨y, rfl, szl (by omega), js_pl hq ts (acc ++ y) (fun x hx => h x (List.mem_cons_of_mem _ hx)) (by omega)⟩
/-- the readings of such an __init__ : the text's parts ts, then the fields -/
def tXi (K : PySem.W.Frag) (ts : List TE) (u : TS) : TS := tSeq (tDrop (tVeI K (tCons (tVar 0) (tCons (fun σ H Q => tJs ts Str.empty σ H fun out H1 => Q (.str out) H1) tNil)))) u
section
variable {P : Program} {w : World} {K : PySem.W.Frag} {mg : Str → Option Value} {base : Heap} {q : Str} {st : Stmt} {f : Addr} {fd : FuncData} {k : Nat} {C : Addr}
theorem xi_1 {N : List Str} {n f1 : Str} {ts : List TE} (Fu : Fun K "__init__" q st f fd) (S : FnScope N ["self", n] (defScope st)) (hN : N = (["self", n] : List Str)) (hts : ∀ (σ : L2.St) (H : Hp) (y : V), σ[1]? = some (some y) → PrV K H y → ∀ t ∈ ts, Pl σ H t) (hl : ts.length ≤ 16)
    (body : ∀ (cdv : Value) (A : Around) (outer : List Env) (s : Shared) (H : Hp) (E : XK), Room k (A.deeper (envOfC q (defScope st) s.heap.objs.size f cdv)) → PSs (cxOf CX0 P w K mg base N q (defScope st) f cdv A outer s H E).nox (defBody st) (tXi K ts (tSeq (tOst K f1 (tVar 0) (tVar 1)) tNext))) :
    FnOk P w K mg base CX0 (k + 1) f fd ["self", n] (spXi K C [f1]) := by
  subst hN
  refine funOk Fu S (fun vs H Q E ⟨a, ys, e, l, _⟩ => by rw [e, List.length_cons, l]; rfl) fun cdv A outer s H vs Q E hr ⟨a, ys, e, l, T, nf, ha, pr, hq⟩ => ⟨_, body cdv A outer s H E hr, ?_⟩
  subst e
  match ys, l with
  | [y], _ =>
    have h0 : (start (["self", n] : List Str) [V.ref a, y])[0]? = some (some (V.ref a)) := rfl
    have h1 : (start (["self", n] : List Str) [V.ref a, y])[1]? = some (some y) := rfl
    refine ⟨_, h0, js_pl (fun out => ?_) ts Str.empty (hts _ _ y h1 (pr y List.mem_cons_self)) (by show 0 + _ ≤ _; omega)⟩
    refine ⟨a, C, [.str out], rfl, by show (1 : Nat) ≤ 1000; decide, T, ha, ?_⟩
    exact ⟨y, h1, _, h0, a, C, rfl, T, nf f1 List.mem_cons_self, .inl ⟨ha, fun dx n1 n2 => hq dx n1 n2⟩⟩
end

/-! ### try: body, except c as n: suite -/
theorem FinS.base {K : PySem.W.Frag} {cl : NmB} {F : Hp} {Dd : DEnds} {De : Ends} (k : FinS K cl F Dd De) (hb : Same cl.bs F) {F2 : Hp} (s2 : Same F F2) (G0 : Hp) : FinS K ⟨cl.f, G0⟩ F2 Dd De :=
  ⟨fun ρ C F' σ H s R q => k.nx ρ C F' σ H (s2.trans s) ⟨R.rc, R.len, R.env, hb.trans (s2.trans s)⟩ q, fun ρ C F' σ H s R q => k.bk ρ C F' σ H (s2.trans s) ⟨R.rc, R.len, R.env, hb.trans (s2.trans s)⟩ q,
    fun ρ C F' σ H s R q => k.ct ρ C F' σ H (s2.trans s) ⟨R.rc, R.len, R.env, hb.trans (s2.trans s)⟩ q, fun v d C F' H s R r q => k.rt v d C F' H (s2.trans s) R r q⟩
/-- what a clause does with an exception; cs: the classes that may come, whether the clause takes them -/
def dCatch (cs : List (String × Bool)) (i : Nat) (ts : Addr → String → List (Str × D) → DS) (Ex : DEnv → DX) (D : DEnds) : DEnv → DX := fun ρ' c ds C' => ∃ b, cs.lookup c = some b ∧
    if b = true then ∀ a, C' a = none → ts a c ds { nx := fun ρ2 C2 => D.nx (ρ2.set i none) C2, rt := D.rt, bk := fun ρ2 C2 => D.bk (ρ2.set i none) C2, ct := fun ρ2 C2 => D.ct (ρ2.set i none) C2 } (ρ'.set i (some (.ref a))) C' else Ex ρ' c ds C'
def dTry (cs : List (String × Bool)) (i : Nat) (tb : (DEnv → DX) → DS) (ts : Addr → String → List (Str × D) → DS) (Ex : DEnv → DX) : DS := fun D ρ C => tb (dCatch cs i ts Ex D) D ρ C
def ExsOk (K : PySem.W.Frag) (cl : Nm) (cx : String) (cs : List (String × Bool)) : Prop := ∀ c b, cs.lookup c = some b → PySem.W.exmOne K (.ref (cl c)) (.ref (cl cx)) = some b
section
variable {X : Cx} {cl : NmB} {x n : Str} {cx : String} {cs : List (String × Bool)} {i : Nat} {body suite : List Stmt} {b₀ : Stmt} {np pos pos' : Pos} {tb : (DEnv → DX) → DS} {ts : Addr → String → List (Str × D) → DS} {Ex : DEnv → DX} {W : WX}
theorem ds_try (tkX : Takes X W) (fw : FinW X.K cl Ex W) (hc : Names X x (.ref (cl cx))) (hcs : ExsOk X.K cl cx cs)
    (hb : ∀ (W : WX) (pn : List (Addr × Obj)) (xe : Value → Shared → Prop) (F0 : Hp) (Ex : DEnv → DX), Same cl.bs F0 → Takes (X.tr pn xe) W → PassesOwn (model X.prog X.w) X.A X.env xe → FinW X.K ⟨cl.f, F0⟩ Ex W → PSsd (X.tr pn xe) ⟨cl.f, F0⟩ body (tb Ex))
    (hsu : ∀ (a dd : Addr) (oe : Obj) (c : String) (fs : List (Str × V)) (ds : List (Str × D)) (pn : List (Addr × Obj)) (F0 : Hp), Zc (.ref (cl c)) (some dd) oe → (∃ vs, oe.data = .fields vs) → F0 dd = some (.xd fs) → RepF X.K cl F0 fs ds → cs.lookup c = some true →
      PSsd (X.suite a ((a, oe) :: pn)) ⟨cl.f, F0⟩ (b₀ :: suite) (ts a c ds))
    (hi : X.N[i]? = some n := by rfl) (hN : X.N.Nodup := by decide) (hln : X.env.kindOf n = some .local := by rfl) (hs : X.stack = X.env :: X.outer := by rfl) (hf : X.env.frame = some X.env.locals := by rfl) :
    PSd X cl (.Try body [.ExceptHandler (some (.Name x np)) (some n) (b₀ :: suite) pos'] [] [] pos) (dTry cs i tb ts Ex) := by
  refine weakS (ps_try_as (tb := fun W De σ H => ∃ ρ C F Dd Ex, Same cl.bs F ∧ RS X.K ⟨cl.f, F⟩ ρ C F σ H ∧ tb Ex Dd ρ C ∧ FinS X.K ⟨cl.f, F⟩ F Dd De ∧ FinW X.K ⟨cl.f, F⟩ Ex W)
    (ts := fun a cv d De σ H => ∃ c dd ρ C F Dd fs ds, cv = .ref (cl c) ∧ d = some dd ∧ F dd = some (.xd fs) ∧ RepF X.K cl F fs ds ∧ cs.lookup c = some true ∧ RS X.K ⟨cl.f, F⟩ ρ C F σ H ∧ ts a c ds Dd ρ C ∧ FinS X.K ⟨cl.f, F⟩ F Dd De)
    (Wout := W) (c := .ref (cl cx)) (i := i) hs hf hN hi hln hc tkX
    (fun W pn xe tk po => ⟨fun pins s σ H De I ⟨ρ, C, F, Dd, Ex, sb, R, h, k, fw⟩ => (hb W pn xe F Ex sb tk po fw).run pins s σ H De I ⟨ρ, C, F, Dd, R, h, k⟩⟩)
    (fun a oe cv d pn hz hv => ⟨fun pins s σ H De I ⟨c, dd, ρ, C, F, Dd, fs, ds, e1, e2, fd, rf, lk, R, h, k⟩ => by
      subst e1 e2
      exact (hsu a dd oe c fs ds pn F hz hv fd rf lk).run pins s σ H De I ⟨ρ, C, F, Dd, R, h, k⟩⟩)) ?_
  intro De σ H ⟨ρ, C, F, Dd, R, h, k⟩
  refine ⟨ρ, C, F, Dd, _, R.bs, ⟨R.rc, R.len, R.env, Same.refl F⟩, h, k.base R.bs (Same.refl F) F, ?_⟩
  intro ρ1 σ1 c ds cv d C1 F1 H1 R1 ⟨e1, dd, fs, e2, hd, rf⟩ ⟨b, lk, hx⟩
  subst e1 e2
  refine ⟨b, hcs c b lk, fun hb1 a na => ?_, fun hb1 => ?_⟩
  · subst hb1
    rw [if_pos rfl] at hx
    have c0 : C1 dd = none := by
      cases q : C1 dd with
      | none => rfl
      | some cc =>
        obtain ⟨_, o, ho, cr⟩ := R1.rc.cel dd cc q
        rw [hd] at ho; cases ho
        cases cr
    have ca : C1 a = none := R1.rc.freeC na
    have s2 : Same F1 (upd F1 dd (.xd fs)) := fun b o e => by
      by_cases z : b = dd
      · subst z
        have := R1.rc.sub b o e
        rw [hd] at this; cases this
        exact upd_same
      · rw [upd_ne z]; exact e
    have rc2 : RC X.K cl C1 (upd F1 dd (.xd fs)) H1 := ⟨fun b o e => by
      by_cases z : b = dd
      · subst z; rw [upd_same] at e; cases e; exact hd
      · rw [upd_ne z] at e; exact R1.rc.sub b o e, fun b cc e => by
      obtain ⟨f0, o, ho, cr⟩ := R1.rc.cel b cc e
      have z : b ≠ dd := fun z => by rw [z, c0] at e; cases e
      exact ⟨by rw [upd_ne z]; exact f0, o, ho, cr.mono s2⟩, R1.rc.tab⟩
    have R2 : RS X.K ⟨cl.f, upd F1 dd (.xd fs)⟩ ρ1 C1 (upd F1 dd (.xd fs)) σ1 H1 := ⟨rc2, R1.len, fun j e q => let ⟨v, h1, h2⟩ := R1.env j e q; ⟨v, h1, h2.mono s2⟩, Same.refl _⟩
    refine ⟨c, dd, _, C1, _, _, fs, ds, rfl, rfl, upd_same, rf.mono s2, lk, R2.set i (.ref a), hx a ca, ?_⟩
    have sF : Same F (upd F1 dd (.xd fs)) := R1.bs.trans s2
    exact ⟨fun ρ3 C3 F3 σ3 H3 s3 R3 q => k.nx _ C3 F3 _ H3 (sF.trans s3) (RS.unset (cl := cl) ⟨R3.rc, R3.len, R3.env, R.bs.trans (sF.trans s3)⟩ i) q, fun ρ3 C3 F3 σ3 H3 s3 R3 q => k.bk _ C3 F3 _ H3 (sF.trans s3) (RS.unset (cl := cl) ⟨R3.rc, R3.len, R3.env, R.bs.trans (sF.trans s3)⟩ i) q,
      fun ρ3 C3 F3 σ3 H3 s3 R3 q => k.ct _ C3 F3 _ H3 (sF.trans s3) (RS.unset (cl := cl) ⟨R3.rc, R3.len, R3.env, R.bs.trans (sF.trans s3)⟩ i) q, fun v d C3 F3 H3 s3 R3 r3 q => k.rt v d C3 F3 H3 (sF.trans s3) R3 r3 q⟩
  · subst hb1
    rw [if_neg Bool.false_ne_true] at hx
    exact fw ρ1 σ1 c ds _ _ C1 F1 H1 ⟨R1.rc, R1.len, R1.env, R.bs.trans R1.bs⟩ ⟨rfl, dd, fs, rfl, hd, rf⟩ hx
end
/-! ### in an except suite: e.f, isinstance(e, c) -/
/-- a: the caught exception; ds: its fields -/
def dXf (a : Addr) (ds : List (Str × D)) (f : Str) (te : DE) : DE := fun ρ C Q => te ρ C fun x C1 => x = .ref a ∧ ∃ v, ds.lookup f = some v ∧ Q v C1
def dXis (a : Addr) (b : Bool) (te : DE) : DE := fun ρ C Q => te ρ C fun x C1 => x = .ref a ∧ Q (.bl b) C1
section
variable {X : Cx} {cl : NmB} {a dd : Addr} {oe : Obj} {pn : List (Addr × Obj)} {c : String} {fs : List (Str × V)} {ds : List (Str × D)} {e : Expr} {te : DE} {pos : Pos} {f : Str} {F0 : Hp}
theorem de_xf (hz : Zc (.ref (cl c)) (some dd) oe) (hv : ∃ vs, oe.data = .fields vs) (hd : F0 dd = some (.xd fs)) (rf : RepF X.K cl F0 fs ds) (T : XfC X.K (cl c)) (hno : PySem.W.findIn X.K (.ref (cl c)) f = some none)
    (he : PEd (X.suite a ((a, oe) :: pn)) ⟨cl.f, F0⟩ e te) (hb : attributeBase e f X.env (eval e X.env) = eval e X.env := by rfl) :
    PEd (X.suite a ((a, oe) :: pn)) ⟨cl.f, F0⟩ (.Attribute e f pos) (dXf a ds f te) := by
  refine weakE (pe_xf T hno hz hv he hb) fun σ H Q ⟨ρ, C, F, Qd, R, h, k⟩ => ?_
  refine ⟨ρ, C, F, _, R, h, fun v d C1 H1 F1 s1 R1 r1 ⟨e1, u, lk, q⟩ => ?_⟩
  subst e1
  cases r1
  have s0 : Same F0 F1 := R.bs.trans s1
  obtain ⟨y, ly, ry⟩ := rf.get lk
  exact ⟨rfl, rfl, dd, fs, y, rfl, R1.sub _ _ (s0 _ _ hd), ly, k y u C1 H1 F1 s1 R1 (ry.mono s0) q⟩
/-- isinstance(e, c), e the caught exception -/
theorem call_xis {X : Cx} {a dd D : Addr} {oe : Obj} {pn : List (Addr × Obj)} {b : Bool} {cv : Value} {v : V} {fs : List (Str × V)} (C : ExcC X.K D) (hcl : (PySem.W.clsIn X.K D).isSome = true) (hz : Zc (.ref D) (some dd) oe) (hf : ∃ vs, oe.data = .fields vs)
    (hcv : ∀ u, RelV v u → u = cv) (kit : PySem.W.kitOne X.K (.ref D) cv = some b) :
    CallR (X.suite a ((a, oe) :: pn)) (.builtin "isinstance") (fun xs H Q => xs = [.ref a, v] ∧ H dd = some (.xd fs) ∧ Q (.bl b) H) := by
  intro pins s σ H xs us Q I r ⟨e, hd, q⟩
  subst e
  cases r with
  | cons rx rr =>
    cases rr with
    | cons rt rr =>
      cases rr
      cases rx
      have ec := hcv _ rt
      subst ec
      obtain ⟨hget, _⟩ := I.pin (a, oe) (List.mem_append.mpr (.inl List.mem_cons_self))
      obtain ⟨vs, hv⟩ := hf
      have hx : ObjOk X.prog X.w H s.heap dd (.xd fs) := I.hok dd _ hd
      obtain ⟨mA, hns, hr⟩ := hx
      obtain ⟨od, ho, hl⟩ := lookIn_ns hns
      have J : PySem.W.InstAt s.heap a oe D (some od) := ⟨hget, hz.1, by unfold PySem.W.notCls; rw [hv] <;> rfl, by rw [hz.2]; exact ho⟩
      exact PySem.W.kia_one (PySem.W.kitx_exc hcl C.hg C.hk C.hs C.ha C.hn C.ht C.hm) I.kIn J kit (fun z => nomatch z) fun tk => ⟨.bl b, H, I.kept (t' := tk) fun _ _ z => z, rfl, q⟩
theorem de_xis {b : Bool} {cv : Value} {v : V} {e2 : Expr} {p : Pos} (hz : Zc (.ref (cl c)) (some dd) oe) (hv : ∃ vs, oe.data = .fields vs) (hd : F0 dd = some (.xd fs)) (T : ExcC X.K (cl c)) (hcl : (PySem.W.clsIn X.K (cl c)).isSome = true) (hm : X.mg "isinstance" = none)
    (he : PEd (X.suite a ((a, oe) :: pn)) ⟨cl.f, F0⟩ e te) (hc : PE (X.suite a ((a, oe) :: pn)) e2 (tC v)) (hcv : ∀ u, RelV v u → u = cv) (kit : PySem.W.kitOne X.K (.ref (cl c)) cv = some b) (hg : Gl X "isinstance" := by rfl)
    (hs : starEach [e, e2] X.env = (false, eval e X.env) :: starEach [e2] X.env := by rfl) (hs2 : starEach [e2] X.env = (false, eval e2 X.env) :: starEach [] X.env := by rfl) (hpl : (backTo pos (starEach [e2] X.env)).any (·.1) = false := by rfl) :
    PEd (X.suite a ((a, oe) :: pn)) ⟨cl.f, F0⟩ (.Call (.Name "isinstance" p) [e, e2] [] pos) (dXis a b te) := by
  refine weakE (pe_callB (X := X.suite a ((a, oe) :: pn)) (call_xis (fs := fs) T hcl hz hv hcv kit) hg hm boot_isinstance (pa_cons he (pa_cons hc pa_nil hs2) hs) (by decide) (by decide) hs hpl) fun σ H Q ⟨ρ, C, F, Qd, R, h, k⟩ => ?_
  refine ⟨ρ, C, F, _, R, h, fun v d C1 H1 F1 s1 R1 r1 ⟨e1, q⟩ => ?_⟩
  subst e1
  cases r1
  exact ⟨rfl, R1.sub _ _ ((R.bs.trans s1) _ _ hd), k _ _ C1 H1 F1 s1 R1 (.bl b) q⟩
theorem xis_own {X : Cx} {x : Str} {D : Addr} {p : Pos} (hm : X.mg x = some (.ref D)) (hg : Gl X x := by rfl) (hdb : (x == ("__debug__" : Str)) = false := by decide) : PE X (.Name x p) (tC (.ref D)) := pe_glob hg hm rfl hdb
theorem rel_ref {D : Addr} : ∀ u, RelV (.ref D) u → u = .ref D := fun _ h => h
end
end G
set_option maxHeartbeats 1000000
namespace G
open PySem PySem.Spec PyProof.Rows L2
/-! ### what the text must tell of an own exception's class -/
abbrev veTl : List Value := [.type "ValueError", .type "Exception", .type "BaseException", .type "object"]
theorem refsVE_of : ∀ l : List Value, PySem.W.excTail veTl l = true → PySem.HandSPX.refsVE l = true
  | l, e => by
    induction l with
    | nil => cases e
    | cons a r ih =>
      rcases PySem.W.excTail_cases (a :: r) e with ⟨c, r', q, h⟩ | q
      · obtain ⟨rfl, rfl⟩ := List.cons.inj q
        exact ih h
      · rw [q]; decide +kernel
theorem oexC_of {K : PySem.W.Frag} {C : Addr} (h : PySem.W.excInitIn K C veTl "ValueError.__new__" = true) (hd : PySem.W.hasDictIn K C = true) (sa : PySem.W.findIn K (.ref C) "__setattr__" = some (some (.builtin "object.__setattr__"))) (exC : PySem.W.subIn K (.ref C) (.type "BaseException") = some true)
    (tyC : PySem.W.typeIn K (.ref C) = some (.type "type")) (kC : PySem.W.keepIn K (.ref C) = true) : OexC K C := by
  refine ⟨?_, sa, exC, tyC, kC⟩
  obtain ⟨cd0, hc0, hd0⟩ := PySem.W.any_some hd
  unfold PySem.W.excInitIn at h
  split at h
  · rename_i dd cd sl ho
    split at h
    · rename_i C' bm k0 k1 k2 k3 n k5 hm hs
      simp only [Bool.and_eq_true, beq_iff_eq, Bool.not_eq_true'] at h
      obtain ⟨⟨⟨rfl, rfl⟩, hdel⟩, ht⟩ := h
      unfold PySem.W.clsIn at hc0
      rw [ho] at hc0
      have e0 := Option.some.inj hc0
      subst e0
      obtain ⟨nm, bs, mro, ns, qn, hd', sn, sub, ab, col, del⟩ := cd
      dsimp only at hm hdel hd0
      subst hm hdel hd0
      have hsl : sl = #[k0, k1, k2, k3, some (.builtin "ValueError.__new__"), k5] := by
        obtain ⟨l⟩ := sl
        simp only at hs
        rw [hs]
      subst hsl
      exact ⟨nm, qn, ns, bs, bm, sn, sub, ab, col, dd, k0, k1, k2, k3, k5, ho, refsVE_of _ ht⟩
    · cases h
  · cases h
theorem ck_of {K : PySem.W.Frag} {C : Addr} (h : PySem.W.hasDictIn K C = true) : (PySem.W.clsIn K C).isSome = true := by
  obtain ⟨cd, hc, _⟩ := PySem.W.any_some h
  rw [hc]; rfl
theorem exs_nil {K : PySem.W.Frag} {cl : Nm} {cx : String} : ExsOk K cl cx [] := fun _ _ h => nomatch h
theorem exs_cons {K : PySem.W.Frag} {cl : Nm} {cx c : String} {b : Bool} {l : List (String × Bool)} (h : PySem.W.exmOne K (.ref (cl c)) (.ref (cl cx)) = some b) (r : ExsOk K cl cx l) : ExsOk K cl cx ((c, b) :: l) := fun x d e => by
  by_cases z : x = c
  · subst z
    rw [List.lookup_cons_self] at e
    cases e
    exact h
  · have z' : (x == c) = false := by simpa using z
    rw [List.lookup_cons, z'] at e
    exact r x d e
theorem caught1 {c n : String} {l : List (String × Bool)} (h : ((n, true) :: l).lookup c = some true) (hr : l.all (fun x => !x.2) = true) : c = n := by
  by_cases z : c = n
  · exact z
  · have z' : (c == n) = false := by simpa using z
    rw [List.lookup_cons, z'] at h
    have : ∀ l : List (String × Bool), l.all (fun x => !x.2) = true → l.lookup c = some true → False := by
      intro l
      induction l with
      | nil => intro _ h; cases h
      | cons p l ih =>
        intro ha h
        obtain ⟨k, b⟩ := p
        simp only [List.all_cons, Bool.and_eq_true, Bool.not_eq_true'] at ha
        rw [List.lookup_cons] at h
        split at h
        · rw [ha.1] at h; cases h
        · exact ih ha.2 h
    exact (this l hr h).elim
theorem xis_blt {X : Cx} {x : Str} {n : String} {p : Pos} (hm : X.mg x = none) (hv : bootBuiltins x = some (.type n)) (hg : Gl X x := by rfl) (hn : x ≠ "__name__" := by decide) (hdb : (x == ("__debug__" : Str)) = false := by decide) : PE X (.Name x p) (tC (.ty n)) := pe_bltn hg hm hv rfl hn hdb
theorem rel_ty {n : String} : ∀ u, RelV (.ty n) u → u = .type n := fun _ h => h
theorem nf_nil {P : Str → Prop} : ∀ f ∈ ([] : List Str), P f := nofun
theorem nf_cons {P : Str → Prop} {g : Str} {l : List Str} (h : P g) (r : ∀ f ∈ l, P f) : ∀ f ∈ g :: l, P f := fun f hf => by
  rcases List.mem_cons.mp hf with e | e
  · rw [e]; exact h
  · exact r f e
/-! ### steps -/
section
variable {ρ : DEnv} {C : Cl} {Q : DQ} {te : DE} {Ex : DEnv → DX}
theorem v_try {cs : List (String × Bool)} {i : Nat} {tb : (DEnv → DX) → DS} {ts : Addr → String → List (Str × D) → DS} {Dd : DEnds} (h : tb (dCatch cs i ts Ex Dd) Dd ρ C) : dTry cs i tb ts Ex Dd ρ C := h
theorem v_calX {sp : DSp2} {tA tk : DA} (h : tA ρ C fun xs C2 => tk ρ C2 fun zs C3 => sp xs zs C3 Q (Ex ρ)) : dCalX Ex sp tA tk ρ C Q := h
theorem v_raise {c : String} {fs : List Str} {t : DA} {Dd : DEnds} (h : t ρ C fun xs C1 => xs.length = fs.length ∧ xs.length ≤ 900 ∧ (∀ x ∈ xs, PrD x) ∧ Ex ρ c (fs.zip xs).reverse C1) : dRaise Ex c fs t Dd ρ C := h
theorem v_xfV {a : Addr} {ds : List (Str × D)} {f : Str} {i : Nat} {v : D} (e : ρ[i]? = some (some (.ref a))) (l : ds.lookup f = some v) (h : Q v C) : dXf a ds f (dVar i) ρ C Q := ⟨_, e, rfl, v, l, h⟩
theorem v_xisV {a : Addr} {b : Bool} {i : Nat} (e : ρ[i]? = some (some (.ref a))) (h : Q (.bl b) C) : dXis a b (dVar i) ρ C Q := ⟨_, e, rfl, h⟩
/-- the clause takes it -/
theorem v_catch {cs : List (String × Bool)} {i : Nat} {ts : Addr → String → List (Str × D) → DS} {Dd : DEnds} {c : String} {ds : List (Str × D)} (e : cs.lookup c = some true)
    (h : ∀ a, C a = none → ts a c ds { nx := fun ρ2 C2 => Dd.nx (ρ2.set i none) C2, rt := Dd.rt, bk := fun ρ2 C2 => Dd.bk (ρ2.set i none) C2, ct := fun ρ2 C2 => Dd.ct (ρ2.set i none) C2 } (ρ.set i (some (.ref a))) C) : dCatch cs i ts Ex Dd ρ c ds C :=
  ⟨true, e, by rw [if_pos rfl]; exact h⟩
theorem prd1 {l : List Nat} (h : l.length ≤ 1000000) : ∀ x ∈ [D.str l], PrD x := fun x hx => .inl ⟨l, List.mem_singleton.mp hx, h⟩
end
end G
/-! own exceptions over any built-in class (LookupError): the same as over ValueError, at the library's general lemmas -/
namespace PySem
namespace OXL
open PySem.W PySem.Calls PyProof.Rows
section
open Builtin Builtin.ObjectAttr
variable {prog : Program} {w : World} {A : Around} {E : Value → Shared → Prop} {R : Result → Shared → Prop} {hp : Heap} {g : Array GenState} {d : Drawn} {t : Nat} {os : OsState} {B : String} {bmB : List Value}
end
end OXL
end PySem
namespace G
open PySem PySem.Spec PyProof.Rows L2
/-! ### own exceptions over LookupError -/
abbrev leTail : List Value := [.type "LookupError", .type "Exception", .type "BaseException", .type "object"]
/-- what the text must tell of such a class -/
structure OexL (K : PySem.W.Frag) (C : Addr) : Prop where
  q : PySem.W.excInitIn K C leTail "LookupError.__new__" = true
  ov : PySem.W.excOver K C leTail = true
  hd : PySem.W.hasDictIn K C = true
  sa : PySem.W.findIn K (.ref C) "__setattr__" = some (some (.builtin "object.__setattr__"))
  exC : PySem.W.subIn K (.ref C) (.type "BaseException") = some true
  tyC : PySem.W.typeIn K (.ref C) = some (.type "type")
  kC : PySem.W.keepIn K (.ref C) = true
section
variable {X : Cx} {pins : List (Addr × Obj)} {σ : L2.St} {H : Hp} {s : Shared} {a C dx : Addr} {f : Str} {y : V} {u : Value} {fs : List (Str × V)} {Q : Unit → Shared → Prop} {E : Value → Shared → Prop} {A : Around}
end
section
variable {X : Cx} {o e : Expr} {es : List Expr} {to te : TE} {ta : TA} {f : Str} {p p' p1 p2 pos : Pos}
end
end G
set_option maxHeartbeats 1000000
namespace G
open PySem PySem.Spec PyProof.Rows L2
section
variable {X : Cx} {cl : NmB} {k : Nat} {fI : Addr} {fd : FuncData} {ps : List Str} {f : Str} {c : String} {e : Expr} {es : List Expr} {t : DA} {x : Str} {p pos pos2 : Pos} {Ex : DEnv → DX} {W : WX}
end
section
variable {P : Program} {w : World} {K : PySem.W.Frag} {mg : Str → Option Value} {base : Heap} {q : Str} {st : Stmt} {f : Addr} {fd : FuncData} {k : Nat} {C : Addr}
end
end G
set_option maxHeartbeats 1000000
namespace G
open PySem PySem.Spec PyProof.Rows L2
/-! ### o[i] of an own class, its def may raise -/
section
variable {X : Cx} {cl : NmB} {k : Nat} {g : Addr} {sp : DSp2} {c : String} {ta tb : DE} {a b : Expr} {pos : Pos} {Ex : DEnv → DX} {W : WX}
end
end G
set_option maxHeartbeats 1000000
namespace GQ2
open PySem PySem.SeqAt
open AutoSeq1 (wpAny_loadPart')
open MeetsSeq MeetsSeq2 MeetsSeq3 SeqRoads2
section
variable {prog : Program} {w : World} {A : Around} {R : Result → Shared → Prop}
end
section
variable {prog : Program} {w : World} {A : Around} {E : Value → Shared → Prop} {s : Shared}
end
end GQ2
namespace G
open PySem PySem.Spec PyProof.Rows L2
/-! ### == of tuples of instances, alike or not -/
/-- below the running body, with room -/
structure SubG (X : Cx) (n : Nat) (A : Around) : Prop where
  room : Room n A
  fr : A.frames = X.A.frames
theorem SubG.in1 {X : Cx} {n : Nat} {A : Around} (s : SubG X (n + 1) A) : SubG X n A.in1 := ⟨s.room.in1, s.fr⟩
section
variable {X : Cx} {cl : NmB} {CX : CXT} {k : Nat} {g : Addr} {sp : DSp2} {c : String}
end
/-! ### x op y of two instances, the def may raise -/
section
variable {X : Cx} {cl : NmB} {k : Nat} {g : Addr} {sp : DSp2} {c : String} {ta tb : DE} {a b : Expr} {pos : Pos} {Ex : DEnv → DX} {W : WX} {op : Operator}
end
end G
namespace L2
open PySem PySem.Spec PyProof.Rows
/-! ### try with several clauses that name the exception alike -/
inductive HdsAs (X : Cx) (n : Str) : List ExceptHandler → List (Value × (Addr → Value → Option Addr → TS)) → Prop
  | nil : HdsAs X n [] []
  | cons {x : Str} {c : Value} {ts : Addr → Value → Option Addr → TS} {b₀ : Stmt} {suite : List Stmt} {np pos' : Pos} {hds : List ExceptHandler} {l : List (Value × (Addr → Value → Option Addr → TS))} (hc : Names X x c)
      (hsu : ∀ (a : Addr) (oe : Obj) (cls : Value) (d : Option Addr) (pn : List (Addr × Obj)), Zc cls d oe → (∃ vs, oe.data = .fields vs) → PSs (X.suite a ((a, oe) :: pn)) (b₀ :: suite) (ts a cls d)) (r : HdsAs X n hds l) :
      HdsAs X n (.ExceptHandler (some (.Name x np)) (some n) (b₀ :: suite) pos' :: hds) ((c, ts) :: l)
section
variable {X : Cx} {n : Str} {i : Nat} {body : List Stmt} {h₀ : ExceptHandler} {hds : List ExceptHandler} {l : List (Value × (Addr → Value → Option Addr → TS))} {pos : Pos} {tb : WX → TS} {Wout : WX}
end
end L2
namespace G
open PySem PySem.Spec PyProof.Rows L2
section
variable {X : Cx} {cl : NmB} {x x1 x2 n : Str} {cx cx1 cx2 : String} {cs cs1 cs2 : List (String × Bool)} {i : Nat} {body suite suite1 suite2 : List Stmt} {b₀ b1 b2 : Stmt} {np np1 np2 pos pos' pos1 pos2' : Pos} {tb : (DEnv → DX) → DS} {ts ts1 ts2 : Addr → String → List (Str × D) → DS} {Ex : DEnv → DX} {W : WX}
end
end G
set_option maxHeartbeats 1000000
namespace G
open PySem PySem.Spec PyProof.Rows L2
/-! ### a new instance whose __init__ may raise -/
section
variable {X : Cx} {cl : NmB} {k : Nat} {g : Addr} {ks : List Str} {sp : DSp2} {e : Expr} {es : List Expr} {kws : List Keyword} {t tk : DA} {pos p : Pos} {x : Str} {c : String} {Ex : DEnv → DX} {W : WX}
end
/-- a def with defaults that may raise -/
theorem fn_dDX {P : Program} {w : World} {K : PySem.W.Frag} {mg : Str → Option Value} {base : Heap} {cl : Nm} {x qual : Str} {params : Arguments} {body : List Stmt} {scope : Scope} {dvs : List V} {kws : List (Str × V)} {f : Addr} {fd : FuncData} {N ps : List Str} {k : Nat} {sp : DSp} {td : (DEnv → DX) → DS}
    (Fu : FunD K x qual params body scope dvs kws f fd) (S : FnScope N ps scope) (len : ∀ ds C Q E, sp ds C Q E → ds.length = ps.length)
    (pure : ∀ ds C Q E, sp ds C Q E → td (fun _ => E) (endsD Q) (startD N ds) C)
    (bd : ∀ (cdv : Value) (A : Around) (outer : List Env) (s : Shared) (H : Hp) (E : XK) (F0 : Hp) (Ex : DEnv → DX) (W : WX), Room k (A.deeper (envOfC qual scope s.heap.objs.size f cdv)) →
      Takes (cxOf (L2.CX P w) P w K mg base N qual scope f cdv A outer s H E) W → FinW K ⟨cl, F0⟩ Ex W → PSsd (cxOf (L2.CX P w) P w K mg base N qual scope f cdv A outer s H E) ⟨cl, F0⟩ body (td Ex)) :
    FnOk P w K mg base (L2.CX P w) (k + 1) f fd ps (lowSp K cl sp) := by
  refine funDOk Fu S (fun vs H Q E ⟨ds, C, F, Qd, Ed, R, r, h, _, _⟩ => r.length.trans (len ds C Qd Ed h)) fun cdv A outer s H vs Q E hr ⟨ds, C, F, Qd, Ed, R, r, h, kq, kx⟩ => ?_
  refine ⟨_, bd cdv A outer s H E F (fun _ => Ed) (fun cv d _ H => E cv d H) hr (takes_of rfl rfl rfl rfl) ?_, startD N ds, C, F, _, RS.startB (cl := ⟨cl, F⟩) N R r (Same.refl F), pure ds C Qd Ed h, ?_⟩
  · intro ρ σ c fs cv d C1 F1 H1 R1 x1 h1
    exact kx c fs cv d C1 H1 F1 R1.bs R1.rc x1 h1
  · refine ⟨fun ρ C1 F1 σ H1 s1 R1 ⟨C2, sc, q⟩ => kq .non .non C2 H1 F1 s1 (R1.rc.drop sc) .non q, fun _ _ _ _ _ _ _ z => z.elim, fun _ _ _ _ _ _ _ z => z.elim, fun v d C1 F1 H1 s1 R1 r1 ⟨d', C2, g, q⟩ => ?_⟩
    obtain ⟨F2, s2, R2, r2⟩ := g.ok R1 r1
    exact kq v d' C2 H1 F2 (s1.trans s2) R2 r2 q
end G
set_option maxHeartbeats 1000000
namespace G
open PySem PySem.Spec PyProof.Rows L2
/-! ### repr of plain trees -/
/-- a tree of depth n whose text has at most m signs -/
def Shw (n m : Nat) (d : D) : Prop := Sh n d ∧ (toPy d).showable = true ∧ (toPy d).shown.length ≤ m
def ShwL (n m : Nat) (ds : List D) : Prop := ShL n ds ∧ PyData.showableAll (toPyL ds) = true ∧ ((PyData.shownAll (toPyL ds)).map (·.length)).sum + 2 * ds.length ≤ m
theorem Shw.mono {n n' m m' : Nat} {d : D} (h : Shw n m d) (e : n ≤ n') (e' : m ≤ m') : Shw n' m' d := ⟨h.1.mono e, h.2.1, Nat.le_trans h.2.2 e'⟩
theorem ShwL.mono {n m m' : Nat} {ds : List D} (h : ShwL n m ds) (e' : m ≤ m') : ShwL n m' ds := ⟨h.1, h.2.1, Nat.le_trans h.2.2 e'⟩
theorem Shw.show {n m : Nat} {d : D} (h : Shw n m d) (hn : n ≤ 60 := by decide) (hm : m ≤ 1000000 := by omega) : ShowD (toPy d) :=
  ⟨h.2.1, PyData.hasDict_of_canLay _ h.1.2.1, Nat.le_trans h.1.2.2 hn, Nat.le_trans h.2.2 hm⟩
section
variable {X : Cx} {cl : NmB} {k : Nat}
end
/-! ### == of any data, only the units told (in an except suite) -/
section
variable {X : Cx} {cl : NmB}
end
section
variable {C : Cl} {Q : DQ}
end
end G
set_option maxHeartbeats 1000000
namespace G
open PySem PySem.Spec PyProof.Rows L2
/-! ### str(o), o of an own class with __str__ -/
section
variable {X : Cx} {cl : NmB} {CX : CXT} {k : Nat} {g : Addr} {sp : DSp2} {c : String}
end
/-! ### in a suite: isinstance(e, (c1, c2)) -/
section
variable {X : Cx} {cl : NmB} {a dd : Addr} {oe : Obj} {pn : List (Addr × Obj)} {c : String} {fs : List (Str × V)} {ds : List (Str × D)} {e : Expr} {te : DE} {pos : Pos} {f : Str} {F0 : Hp}
end
/-! ### str of a text -/
end G
set_option maxHeartbeats 2000000
namespace G
open PySem PySem.Spec PyProof.Rows L2
/-! ### a lambda without parameters handed to a def that calls it -/
/-- the qual of a lambda of the body X -/
abbrev lamQ (X : Cx) : Str := X.env.qual ++ "<lambda>"
abbrev lamObj (X : Cx) (params : Arguments) (body : Expr) (scope : Scope) (pm : Value) (c' : Addr) (ctv : Value) : Obj :=
  PySem.W.kla_obj "<lambda>" (lamQ X) params body scope (cloFrom X.env.cells scope.names []) pm c' ctv
section
variable {X : Cx} {cl : NmB} {pins : List (Addr × Obj)} {σ : L2.St} {s : Shared}
/-- the lambda is made -/
theorem lam_new {c P : Addr} {qs : String} {params : Arguments} {body : Expr} {scope : Scope} {pos : Pos} {E Q : Value → Shared → Prop} {ρ : DEnv} {C : Cl} {F H : Hp} (I : Inv X pins σ H s) (R : RS X.K cl ρ C F σ H) (TB : LamX.TabB X.base X.mg c P) (hcode : X.env.code = .ref c)
    (hq : lamQ X = (qs : Str)) (hC : C P = some (.tbl qs)) (hdef : defaultsOf params X.env = ([], [])) (hfree : ∀ y ∈ scope.names, y.2 = .free → ∃ c, X.env.cells.lookup y.1 = some c)
    (h : ∀ (f c' : Addr) (pm ctv : Value) (H1 F1 : Hp) (s' : Shared), Inv X pins σ H1 s' → RS X.K cl ρ C F1 σ H1 → Same F F1 → s'.heap.get? f = some (lamObj X params body scope pm c' ctv) → H1 f = none → f ∉ frs X.stack → F1 c' = some (LamX.CodeO c' (lamQ X)) → Q (.ref f) s') :
    wpAny (model X.prog X.w) X.A (eval (.Lambda params body scope pos) X.env) Q E s := by
  obtain ⟨fP, o, hP, cr⟩ := R.rc.cel P _ hC
  have ePc := R.rc.tab P qs hC
  cases cr with
  | @tbl ps _ ht ha =>
    refine PySem.W.kla_eval hdef ?_
    have bP : s.heap.BuiltinsAt X.mg P := TB.bm.keeps I.bk
    have hP' : s.heap.get? P = some { cls := .none, data := .fields ps } := I.hok P _ hP
    have nofr : ∀ f, s.heap.objs.size ≤ f → f ∉ frs X.stack := fun f hf z => by
      rcases List.mem_cons.mp (I.stkSub _ z) with e | e
      · have h1 := I.lt
        rw [← e] at h1
        exact Nat.lt_irrefl _ (Nat.lt_of_lt_of_le h1 hf)
      · exact I.nofs hf e
    cases hc : codeAmong pos ps.toList with
    | some cv =>
      obtain ⟨c', e, hco⟩ := ha pos cv hc
      subst e
      have hco' : H c' = some (LamX.CodeO c' qs) := R.rc.sub _ _ hco
      refine PySem.W.kla_makeFunctionHit (mg := X.mg) (c := c) (P := P) (ps := ps) (closure_ok hfree) I.ok.glob (I.mod.glob.keeps I.bk) hcode (TB.code.keeps I.bk) hP' ht hc bP fun ctv h' tk hx hsz => ?_
      exact h h'.objs.size c' ((X.mg "__name__").getD .none) ctv H F _ (I.kept fun b o e => Heap.get?_push_of_some _ (hx b o e)) R (Same.refl F) (Heap.get?_push_size _ rfl) (I.hok.fresh hsz) (nofr _ hsz) (by rw [hq]; exact hco)
    | none =>
      refine PySem.W.kla_makeFunction (mg := X.mg) (c := c) (P := P) (ps := ps) (closure_ok hfree) I.ok.glob (I.mod.glob.keeps I.bk) hcode (TB.code.keeps I.bk) hP' ht hc TB.gP bP fun c' ctv h' tk hx hge hlt hrec htb => ?_
      obtain ⟨c2, oc, vs, t, e2, hoc, hd, hv⟩ := hrec
      cases e2
      have hsz : s.heap.objs.size ≤ h'.objs.size := Nat.le_trans hge (Nat.le_of_lt hlt)
      have nC : H c' = none := I.hok.fresh hge
      have nPc : P ≠ c' := ne_of_none hP nC
      generalize hmore : (#[rawInt pos.line, rawInt pos.col, .ref c'] : Array Value) = more at htb
      have I1 := LamX.inv_table (t' := tk) (more := more) (h' := h'.push (lamObj X params body scope ((X.mg "__name__").getD .none) c' ctv)) (q := lamQ X) I hP
        (fun b o hb e => Heap.get?_push_of_some _ (hx b o hb e)) (Heap.get?_push_of_some _ htb) hge ⟨oc, vs, t, Heap.get?_push_of_some _ hoc, hd, hv⟩
      have swap : upd (upd H P (.tbl (ps ++ more))) c' (LamX.CodeO c' (lamQ X)) = upd (upd H c' (LamX.CodeO c' (lamQ X))) P (.tbl (ps ++ more)) := by
        funext b
        by_cases z1 : b = c'
        · subst z1
          rw [upd_same, upd_ne (Ne.symm nPc), upd_same]
        · by_cases z2 : b = P
          · subst z2
            rw [upd_ne z1, upd_same, upd_same]
          · rw [upd_ne z1, upd_ne z2, upd_ne z2, upd_ne z1]
      have R1 : RC X.K cl C (upd F c' (LamX.CodeO c' (lamQ X))) (upd H c' (LamX.CodeO c' (lamQ X))) := R.rc.new nC
      have sF : Same F (upd F c' (LamX.CodeO c' (lamQ X))) := same_upd (R.rc.freeF nC)
      have eL : (ps ++ more).toList = ps.toList ++ [rawInt pos.line, rawInt pos.col, .ref c'] := by rw [← hmore]; simp
      have R2 := R1.put (o := .tbl (ps ++ more)) (c := .tbl qs) hC (.tbl (by rw [eL]; exact PySem.TriplesOk_snoc _ _ _ _ ht) fun p' cv hcv => by
        rw [eL] at hcv
        rcases LamX.among_app _ ht hcv with z | z
        · obtain ⟨c0, e1, e2⟩ := ha p' cv z
          exact ⟨c0, e1, sF _ _ e2⟩
        · exact ⟨c', z, by rw [← hq]; exact upd_same⟩) (fun q e => by cases e; exact ePc)
      have eC : updC C P (.tbl qs) = C := by
        funext b
        by_cases z : b = P
        · subst z; rw [updC_same, hC]
        · rw [updC_ne z]
      rw [eC, ← swap] at R2
      refine h h'.objs.size c' ((X.mg "__name__").getD .none) ctv _ _ _ I1 (R.next sF R2) sF (Heap.get?_push_size _ rfl) ?_ (nofr _ hsz) upd_same
      have n1 : h'.objs.size ≠ c' := Nat.ne_of_gt hlt
      have n2 : h'.objs.size ≠ P := Nat.ne_of_gt (Nat.lt_of_lt_of_le (Heap.lt_size hP') hsz)
      rw [upd_ne n1, upd_ne n2]
      exact I.hok.fresh hsz
end
/-- x(), x got the lambda f; tl: the lambda's reading -/
def dActD (f : Addr) (tl : DX → Cl → DQ → Prop) (Ex : DEnv → DX) : DE := fun ρ C Q => ρ[0]? = some (some (.ref f)) ∧ tl (Ex ρ) C Q
/-- the def g(a) gets the lambda; td: its reading, given the call's -/
def dLam (Ng : List Str) (qs : String) (td : ((DEnv → DX) → DE) → DS) (te : (DEnv → DX) → DE) : DE := fun ρ C Q => (∃ P, C P = some (.tbl qs)) ∧ ∀ f, td (dActD f fun E => te (fun _ => E) ρ) (endsD Q) (startD Ng [.ref f]) C
section
variable {X : Cx} {cl : NmB}
abbrev gCx (X : Cx) (Ng : List Str) (x : Str) (sg : Scope) (g : Addr) (cdg : Value) (s : Shared) (H : Hp) : Cx := cxOf CX0 X.prog X.w X.K X.mg X.base Ng x sg g cdg X.A X.stack s H E0
theorem de_act {Ng : List Str} {x a : Str} {sg : Scope} {g f c' : Addr} {cdg pm ctv : Value} {params : Arguments} {body : Expr} {scope : Scope} {k : Nat} {pn : List (Addr × Obj)} {xe : Value → Shared → Prop} {W : WX} {Ex : DEnv → DX} {te : (DEnv → DX) → DE} {p1 p2 : Pos}
    {pins : List (Addr × Obj)} {σ : L2.St} {H F0 F : Hp} {s : Shared} {ρ : DEnv} {C : Cl} (I : Inv X pins σ H s) (R : RS X.K cl ρ C F σ H) (sF : Same F F0) (L : LamX.LamS X.env.scope scope) (hf : s.heap.get? f = some (lamObj X params body scope pm c' ctv)) (hfn : H f = none) (hfr : f ∉ frs X.stack)
    (hc : F0 c' = some (LamX.CodeO c' (lamQ X)))
    (hbind : bindArgs (PySem.W.kla_fn "<lambda>" (lamQ X) params body scope (cloFrom X.env.cells scope.names []) pm (.ref c') ctv) ⟨[], []⟩ = pure [])
    (tk : Takes ((gCx X Ng x sg g cdg s H).tr pn xe) W) (fw : FinW X.K ⟨cl.f, F0⟩ Ex W) (hr : Room (k + 1) (X.A.deeper (envOfC x sg s.heap.objs.size g cdg)))
    (hbody : ∀ (A : Around) (outer : List Env) (s : Shared) (H : Hp) (E : XK) (F1 : Hp) (Ex : DEnv → DX) (W : WX), Room k (A.deeper (LamX.lamEnv X scope s.heap.objs.size f c')) → Takes (LamX.lamCx X A outer s H E scope f c') W → FinW X.K ⟨cl.f, F1⟩ Ex W → PEd (LamX.lamCx X A outer s H E scope f c') ⟨cl.f, F1⟩ body (te Ex))
    (hN : Ng[0]? = some a) (hv : Vis sg a) (hd : (a == ("__debug__" : Str)) = false := by decide) (hcd : (a == ("__classdict__" : Str)) = false := by decide) :
    PEd ((gCx X Ng x sg g cdg s H).tr pn xe) ⟨cl.f, F0⟩ (.Call (.Name a p1) [] [] p2) (dActD f (fun E => te (fun _ => E) ρ) Ex) := by
  refine ⟨fun pz sZ σZ HZ Q IZ ⟨ρZ, CZ, FZ, Qd, RZ, ⟨hs, ht⟩, kq⟩ => ?_⟩
  obtain ⟨v0, ev0, rv0⟩ := RZ.env 0 _ hs
  cases rv0
  refine wpAny_Call_Name_kw (thn ((pe_var (pos := p1) (i := 0) hN hv hd hcd).run pz sZ σZ HZ (fun v H1 => v = .ref f ∧ H1 = HZ) IZ ⟨.ref f, ev0, rfl, rfl⟩) fun u s1 ⟨v, H1, I1, r1, ev, eH⟩ => ?_)
  subst ev
  rw [eH] at I1
  obtain rfl : u = Value.ref f := r1
  have atF : s1.heap.get? f = some (lamObj X params body scope pm c' ctv) := I1.base.keep f _ hf hfn hfr (fun z => nomatch (show f ∈ ([] : List Addr) from z))
  refine PySem.W.callWith_F0 ⟨_, _, _, _, atF⟩ ?_
  have un : Un (frs X.stack) [] H HZ s.heap s1.heap := I1.base
  have hcZ : HZ c' = some (LamX.CodeO c' (lamQ X)) := RZ.rc.sub _ _ (RZ.bs _ _ hc)
  obtain ⟨⟨oc, vs, t, hoc, hdc, hvc⟩, _, _⟩ := I1.hok c' _ hcZ
  have R0 : RS X.K ⟨cl.f, FZ⟩ ρ CZ FZ σ HZ := ⟨RZ.rc, R.len, fun i d e => let ⟨v, h1, h2⟩ := R.env i d e; ⟨v, h1, h2.mono (sF.trans RZ.bs)⟩, Same.refl FZ⟩
  have run : codeAny (model X.prog X.w) (X.A.deeper (envOfC x sg s.heap.objs.size g cdg)) (.call (.ref f) ⟨[], []⟩) (CR (L2.CX X.prog X.w) (envOfC x sg s.heap.objs.size g cdg :: X.stack) X.prog X.w HZ s1 Q (WE W σZ)) s1 := by
    refine PySem.W.kla_callFunE hr.depth atF rfl L.co L.gen rfl ⟨c', oc, vs, t, rfl, hoc, hdc, hvc⟩ ?_
    rw [hbind]
    refine wpAny_pure (wpAny_newFunctionEnv (fun y hy => (L.own y hy).2) (fun y hy => absurd hy (by simp)) (fun h₁ hns hsb => ⟨I1.nolimit.fresh _ hsb, ?_⟩) L.kind)
    have kp : ∀ b o, s1.heap.get? b = some o → h₁.get? b = some o := fun b o e => hsb.extBut b o (Nat.ne_of_lt (Heap.lt_size e)) (Heap.get?_push_of_some _ e)
    have J : Inv (LamX.lamCx X (X.A.deeper (envOfC x sg s.heap.objs.size g cdg)) (envOfC x sg s.heap.objs.size g cdg :: X.stack) s1 HZ (WE W σZ) scope f c') [] σ HZ { s1 with heap := h₁, toks := s1.toks + ([] : List (Str × Value)).length } :=
      LamX.lam_start2 I L I1.env0 hr.hd un hns kp
    have B := hbody (X.A.deeper (envOfC x sg s.heap.objs.size g cdg)) (envOfC x sg s.heap.objs.size g cdg :: X.stack) s1 HZ (WE W σZ) FZ (fun _ => Ex ρZ) (fun cls d _ H => W cls d σZ H) (hr.deeper _) (takes_of rfl rfl rfl rfl)
      (fun ρ2 σ2 c ds cv d C2 F2 H2 R2 x2 h2 => fw ρZ σZ c ds cv d C2 F2 H2 ⟨R2.rc, RZ.len, fun i d e => let ⟨v, h1, h3⟩ := RZ.env i d e; ⟨v, h1, h3.mono R2.bs⟩, RZ.bs.trans R2.bs⟩ x2 h2)
    refine PySem.W.kla_codeExpr (wpAny_mono (B.run [] _ σ HZ Q J ⟨ρ, CZ, FZ, Qd, R0, ht, kq⟩) (fun v s' hq => ?_) fun e s' hq => hq)
    obtain ⟨w', H', J', rv, q⟩ := hq
    exact ⟨w', H', J'.os, J'.bare, J'.base, J'.hok, rv, q⟩
  refine wpAny_call (codeAny_mono run fun r s' hq => ?_)
  cases r with
  | error e => exact passAt tk σZ pz HZ s1 e s' I1 hq
  | ok fl =>
    cases fl with
    | ret u => exact I1.after hq
    | next => exact False.elim hq
    | brk => exact False.elim hq
    | cont => exact False.elim hq
/-- x(lambda: body) -/
theorem de_lam {Ng : List Str} {x a : Str} {stg : Stmt} {g c P : Addr} {fdg : FuncData} {k : Nat} {params : Arguments} {body : Expr} {scope : Scope} {td : ((DEnv → DX) → DE) → DS} {te : (DEnv → DX) → DE} {p lpos pos : Pos} {qs : String}
    (Fu : Fun X.K x x stg g fdg) (Sg : FnScope Ng [a] (defScope stg)) (hva : Vis (defScope stg) a) (hNg : Ng[0]? = some a) (hm : X.mg x = some (.ref g)) (hk : PySem.W.keepIn X.K (.ref g) = true) (hb : Binds X.K fdg [a] [])
    (TB : LamX.TabB X.base X.mg c P) (hcode : X.env.code = .ref c) (hP : cl qs = P) (hq : lamQ X = (qs : Str)) (hr : Room (k + 2) X.A) (L : LamX.LamS X.env.scope scope) (hdef : defaultsOf params X.env = ([], []))
    (hbind : ∀ (q : Str) (cl : List (Str × Addr)) (pm cv ctv : Value), bindArgs (PySem.W.kla_fn "<lambda>" q params body scope cl pm cv ctv) ⟨[], []⟩ = pure [])
    (hG : ∀ (cdg : Value) (s : Shared) (H : Hp) (F0 : Hp) (f : Addr) (tl : DX → Cl → DQ → Prop),
      (∀ (W : WX) (pn : List (Addr × Obj)) (xe : Value → Shared → Prop) (F1 : Hp) (Ex : DEnv → DX) (p1 p2 : Pos), Same F0 F1 → Takes ((gCx X Ng x (defScope stg) g cdg s H).tr pn xe) W → FinW X.K ⟨cl.f, F1⟩ Ex W →
        PEd ((gCx X Ng x (defScope stg) g cdg s H).tr pn xe) ⟨cl.f, F1⟩ (.Call (.Name a p1) [] [] p2) (dActD f tl Ex)) →
      PSsd (gCx X Ng x (defScope stg) g cdg s H).nox ⟨cl.f, F0⟩ (defBody stg) (td (dActD f tl)))
    (hbody : ∀ (A : Around) (outer : List Env) (s : Shared) (H : Hp) (E : XK) (f c' : Addr) (F1 : Hp) (Ex : DEnv → DX) (W : WX), Room k (A.deeper (LamX.lamEnv X scope s.heap.objs.size f c')) → Takes (LamX.lamCx X A outer s H E scope f c') W → FinW X.K ⟨cl.f, F1⟩ Ex W → PEd (LamX.lamCx X A outer s H E scope f c') ⟨cl.f, F1⟩ body (te Ex))
    (hg : Gl X x := by rfl) (hdb : (x == ("__debug__" : Str)) = false := by decide) (hd : (a == ("__debug__" : Str)) = false := by decide) (hcd : (a == ("__classdict__" : Str)) = false := by decide) :
    PEd X cl (.Call (.Name x p) [.Lambda params body scope lpos] [] pos) (dLam Ng qs td te) := by
  refine ⟨fun pins s σ H Q I ⟨ρ, C, F, Qd, R, ⟨⟨P', hC⟩, h⟩, kq⟩ => ?_⟩
  obtain rfl : P' = P := (R.rc.tab P' qs hC).trans hP
  refine wpAny_Call_Name_kw (ld_glob I hg hm ?_ hdb)
  refine PySem.W.callWith_K (h₀ := X.base) I.ok.mod.kin hk ?_ (by rfl) (by rfl)
  show wpAny _ _ (spliced ((false, eval (.Lambda params body scope lpos) X.env) :: backTo pos (starEach [] X.env))) _ _ s
  refine Calls.spliced_cons (lam_new I R TB hcode hq hC hdef (L.has I.ok) fun f c' pm ctv H1 F1 s' I1 R1 sF hf hfn hfr hc => ?_)
  refine Calls.spliced_nil ⟨I1.kIn, ?_⟩
  obtain ⟨oc, od, kV, doc, pm0, an, cdv, ct, osl, e, lk, hcd0⟩ := Fu.ex
  subst e
  have run : codeAny (model X.prog X.w) X.A (.call (.ref g) ⟨[.ref f], []⟩) (CR CX0 X.stack X.prog X.w H1 s' Q E0) s' := by
    refine LamX.run_ofS (N := Ng) (ps := [a]) (us := [.ref f]) (vs := [.ref f]) lk hcd0 Sg hr.r I1.env0 (hb s' [.ref f] I1.kIn rfl) (.cons rfl .nil) rfl fun hr' => ?_
    have B := hG cdv s' H1 F1 f (fun E => te (fun _ => E) ρ) fun W pn xe F2 Ex p1 p2 s2 tk fw =>
      de_act I1 R1 s2 L hf hfn hfr (s2 _ _ hc) (hbind _ _ _ _ _) tk fw ⟨hr', hr.gd⟩ (fun A outer s H E F3 Ex W hr3 => hbody A outer s H E f c' F3 Ex W hr3) hNg hva hd hcd
    refine ⟨_, B.nox, startD Ng [.ref f], C, F1, _, RS.startB (cl := ⟨cl.f, F1⟩) Ng R1.rc (.cons (.ref f) .nil) (Same.refl F1), h f, ?_⟩
    refine ⟨fun ρ C1 F2 σ H2 s1 R2 ⟨C2, sc, q⟩ => kq .non .non C2 H2 F2 (sF.trans s1) (R2.rc.drop sc) .non q, fun _ _ _ _ _ _ _ z => z.elim, fun _ _ _ _ _ _ _ z => z.elim, fun v d C1 F2 H2 s1 R2 r1 ⟨d', C2, gh, q⟩ => ?_⟩
    obtain ⟨F3, s3, R3, r3⟩ := gh.ok R2 r1
    exact kq v d' C2 H2 F3 (sF.trans (s1.trans s3)) R3 r3 q
  refine wpAny_call (codeAny_mono run fun r s2 hq => ?_)
  cases r with
  | error e => exact (show False from hq).elim
  | ok fl =>
    cases fl with
    | ret u => exact I1.after hq
    | next => exact False.elim hq
    | brk => exact False.elim hq
    | cont => exact False.elim hq
end
/-- a def whose body makes lambdas: its code object is known -/
theorem fn_dL {P : Program} {w : World} {K : PySem.W.Frag} {mg : Str → Option Value} {base : Heap} {cl : Nm} {x qual : Str} {st : Stmt} {f c : Addr} {fd : FuncData} {N ps : List Str} {k : Nat} {sp : DSp} {td : DS} (Fu : Fun K x qual st f fd) (hcode : fd.code = .ref c) (S : FnScope N ps (defScope st)) (len : ∀ ds C Q E, sp ds C Q E → ds.length = ps.length)
    (pure : ∀ ds C Q E, sp ds C Q E → td (endsD Q) (startD N ds) C)
    (body : ∀ (cdv : Value) (A : Around) (outer : List Env) (s : Shared) (H : Hp) (E : XK), cdv = .ref c → Room k (A.deeper (envOfC qual (defScope st) s.heap.objs.size f cdv)) → PSsd (cxOf CX0 P w K mg base N qual (defScope st) f cdv A outer s H E).nox (nb cl) (defBody st) td) :
    FnD P w K cl mg base (k + 1) f fd ps sp := by
  obtain ⟨oc, od, kV, doc, pm, an, cdv, ct, osl, e, lk, hcd⟩ := Fu.ex
  subst e
  refine fn_any lk hcd S (fun vs H Q E ⟨ds, C, F, Qd, Ed, R, r, h, _, _⟩ => r.length.trans (len ds C Qd Ed h)) fun A outer s H vs Q E hr ⟨ds, C, F, Qd, Ed, R, r, h, kq, kx⟩ => ?_
  refine ⟨_, (body cdv A outer s H E hcode hr).nox, startD N ds, C, F, _, RS.start N R r, pure ds C Qd Ed h, ?_⟩
  refine ⟨fun ρ C1 F1 σ H1 s1 R1 ⟨C2, sc, q⟩ => kq .non .non C2 H1 F1 s1 (R1.rc.drop sc) .non q, fun _ _ _ _ _ _ _ z => z.elim, fun _ _ _ _ _ _ _ z => z.elim, fun v d C1 F1 H1 s1 R1 r1 ⟨d', C2, g, q⟩ => ?_⟩
  obtain ⟨F2, s2, R2, r2⟩ := g.ok R1 r1
  exact kq v d' C2 H1 F2 (s1.trans s2) R2 r2 q
/-! ### x op y, an own order that may raise -/
section
variable {X : Cx} {cl : NmB} {k : Nat} {g : Addr} {sp : DSp2} {c : String} {ta tb : DE} {a b : Expr} {pos : Pos} {Ex : DEnv → DX} {W : WX} {op : CmpOp}
end
theorem v_actD {f : Addr} {tl : DX → Cl → DQ → Prop} {Ex : DEnv → DX} {ρ : DEnv} {C : Cl} {Q : DQ} (h : tl (Ex (some (.ref f) :: ρ)) C Q) : dActD f tl Ex (some (.ref f) :: ρ) C Q := ⟨rfl, h⟩
theorem codeX_ok {K : PySem.W.Frag} {x q : Str} {st : Stmt} {f c : Addr} {z : FuncData} (F : Fun K x q st f z) (h : codeX K f c = true) : z.code = .ref c := by
  obtain ⟨oc, od, kV, doc, pm, an, cdv, ct, osl, e, lk, _⟩ := F.ex
  unfold codeX at h
  rw [lk] at h
  exact of_decide_eq_true h
end G
set_option maxHeartbeats 2000000
namespace G
open PySem PySem.Spec PyProof.Rows L2
/-! ### a lambda without parameters in a local, handed to a def that calls it; static methods that may raise -/
/-- the function object at f -/
def lamO (f : Addr) (o : Obj) : HO := .ext fun h => h.get? f = some o
theorem lamO_ok {P : Program} {w : World} {H : Hp} {h : Heap} {f : Addr} {o : Obj} (e : h.get? f = some o) : ObjOk P w H h f (lamO f o) := by
  unfold lamO ObjOk
  exact ⟨e, ⟨o, e⟩, fun h1 h2 p1 k => k _ p1⟩
section
variable {X : Cx} {cl : NmB} {pins : List (Addr × Obj)} {σ : L2.St} {s : Shared}
/-- the lambda is made -/
theorem lam_newF {c P : Addr} {qs : String} {params : Arguments} {body : Expr} {scope : Scope} {pos : Pos} {E Q : Value → Shared → Prop} {ρ : DEnv} {C : Cl} {F H : Hp} (I : Inv X pins σ H s) (R : RS X.K cl ρ C F σ H) (TB : LamX.TabB X.base X.mg c P) (hcode : X.env.code = .ref c)
    (hq : lamQ X = (qs : Str)) (hC : C P = some (.tbl qs)) (hdef : defaultsOf params X.env = ([], [])) (hfree : ∀ y ∈ scope.names, y.2 = .free → ∃ c, X.env.cells.lookup y.1 = some c)
    (h : ∀ (f c' : Addr) (pm ctv : Value) (H1 F1 : Hp) (s' : Shared), Inv X pins σ H1 s' → RS X.K cl ρ C F1 σ H1 → Same F F1 → F1 f = some (lamO f (lamObj X params body scope pm c' ctv)) → F1 c' = some (LamX.CodeO c' (lamQ X)) → Q (.ref f) s') :
    wpAny (model X.prog X.w) X.A (eval (.Lambda params body scope pos) X.env) Q E s := by
  obtain ⟨fP, o, hP, cr⟩ := R.rc.cel P _ hC
  have ePc := R.rc.tab P qs hC
  cases cr with
  | @tbl ps _ ht ha =>
    refine PySem.W.kla_eval hdef ?_
    have bP : s.heap.BuiltinsAt X.mg P := TB.bm.keeps I.bk
    have hP' : s.heap.get? P = some { cls := .none, data := .fields ps } := I.hok P _ hP
    have nofr : ∀ f, s.heap.objs.size ≤ f → f ∉ frs X.stack := fun f hf z => by
      rcases List.mem_cons.mp (I.stkSub _ z) with e | e
      · have h1 := I.lt
        rw [← e] at h1
        exact Nat.lt_irrefl _ (Nat.lt_of_lt_of_le h1 hf)
      · exact I.nofs hf e
    cases hc : codeAmong pos ps.toList with
    | some cv =>
      obtain ⟨c', e, hco⟩ := ha pos cv hc
      subst e
      have hco' : H c' = some (LamX.CodeO c' qs) := R.rc.sub _ _ hco
      refine PySem.W.kla_makeFunctionHit (mg := X.mg) (c := c) (P := P) (ps := ps) (closure_ok hfree) I.ok.glob (I.mod.glob.keeps I.bk) hcode (TB.code.keeps I.bk) hP' ht hc bP fun ctv h' tk hx hsz => ?_
      have nf : H h'.objs.size = none := I.hok.fresh hsz
      have s1 : Same F (upd F h'.objs.size (lamO h'.objs.size (lamObj X params body scope ((X.mg "__name__").getD .none) c' ctv))) := same_upd (R.rc.freeF nf)
      exact h h'.objs.size c' ((X.mg "__name__").getD .none) ctv _ _ _ (I.laid (fun b o e => Heap.get?_push_of_some _ (hx b o e)) hsz (lamO_ok (Heap.get?_push_size _ rfl))) (R.next s1 (R.rc.new nf)) s1 upd_same (by rw [hq]; exact s1 _ _ hco)
    | none =>
      refine PySem.W.kla_makeFunction (mg := X.mg) (c := c) (P := P) (ps := ps) (closure_ok hfree) I.ok.glob (I.mod.glob.keeps I.bk) hcode (TB.code.keeps I.bk) hP' ht hc TB.gP bP fun c' ctv h' tk hx hge hlt hrec htb => ?_
      obtain ⟨c2, oc, vs, t, e2, hoc, hd, hv⟩ := hrec
      cases e2
      have hsz : s.heap.objs.size ≤ h'.objs.size := Nat.le_trans hge (Nat.le_of_lt hlt)
      have nC : H c' = none := I.hok.fresh hge
      have nPc : P ≠ c' := ne_of_none hP nC
      generalize hmore : (#[rawInt pos.line, rawInt pos.col, .ref c'] : Array Value) = more at htb
      have I0 := LamX.inv_table (t' := tk) (more := more) (h' := h') (q := lamQ X) I hP hx htb hge ⟨oc, vs, t, hoc, hd, hv⟩
      have swap : upd (upd H P (.tbl (ps ++ more))) c' (LamX.CodeO c' (lamQ X)) = upd (upd H c' (LamX.CodeO c' (lamQ X))) P (.tbl (ps ++ more)) := by
        funext b
        by_cases z1 : b = c'
        · subst z1
          rw [upd_same, upd_ne (Ne.symm nPc), upd_same]
        · by_cases z2 : b = P
          · subst z2
            rw [upd_ne z1, upd_same, upd_same]
          · rw [upd_ne z1, upd_ne z2, upd_ne z2, upd_ne z1]
      have R1 : RC X.K cl C (upd F c' (LamX.CodeO c' (lamQ X))) (upd H c' (LamX.CodeO c' (lamQ X))) := R.rc.new nC
      have sF : Same F (upd F c' (LamX.CodeO c' (lamQ X))) := same_upd (R.rc.freeF nC)
      have eL : (ps ++ more).toList = ps.toList ++ [rawInt pos.line, rawInt pos.col, .ref c'] := by rw [← hmore]; simp
      have R2 := R1.put (o := .tbl (ps ++ more)) (c := .tbl qs) hC (.tbl (by rw [eL]; exact PySem.TriplesOk_snoc _ _ _ _ ht) fun p' cv hcv => by
        rw [eL] at hcv
        rcases LamX.among_app _ ht hcv with z | z
        · obtain ⟨c0, e1, e2⟩ := ha p' cv z
          exact ⟨c0, e1, sF _ _ e2⟩
        · exact ⟨c', z, by rw [← hq]; exact upd_same⟩) (fun q e => by cases e; exact ePc)
      have eC : updC C P (.tbl qs) = C := by
        funext b
        by_cases z : b = P
        · subst z; rw [updC_same, hC]
        · rw [updC_ne z]
      rw [eC, ← swap] at R2
      have nf := I0.hok.fresh (a := h'.objs.size) (Nat.le_refl _)
      have s1 := same_upd (o := lamO h'.objs.size (lamObj X params body scope ((X.mg "__name__").getD .none) c' ctv)) (R2.freeF nf)
      exact h h'.objs.size c' ((X.mg "__name__").getD .none) ctv _ _ _ (I0.laid (t' := tk) (fun b o e => Heap.get?_push_of_some _ e) (Nat.le_refl _) (lamO_ok (Heap.get?_push_size _ rfl))) (R.next (sF.trans s1) (R2.new nf)) (sF.trans s1) upd_same (s1 _ _ upd_same)
end
section
variable {X : Cx} {cl : NmB}
theorem de_actF {Ng : List Str} {x a : Str} {sg : Scope} {g f c' : Addr} {cdg pm ctv : Value} {params : Arguments} {body : Expr} {scope : Scope} {k : Nat} {pn : List (Addr × Obj)} {xe : Value → Shared → Prop} {W : WX} {Ex : DEnv → DX} {te : (DEnv → DX) → DE} {p1 p2 : Pos}
    {pins : List (Addr × Obj)} {σ : L2.St} {H F0 F : Hp} {s : Shared} {ρ : DEnv} {C : Cl} (I : Inv X pins σ H s) (R : RS X.K cl ρ C F σ H) (sF : Same F F0) (L : LamX.LamS X.env.scope scope) (hf : F0 f = some (lamO f (lamObj X params body scope pm c' ctv)))
    (hc : F0 c' = some (LamX.CodeO c' (lamQ X)))
    (hbind : bindArgs (PySem.W.kla_fn "<lambda>" (lamQ X) params body scope (cloFrom X.env.cells scope.names []) pm (.ref c') ctv) ⟨[], []⟩ = pure [])
    (tk : Takes ((gCx X Ng x sg g cdg s H).tr pn xe) W) (fw : FinW X.K ⟨cl.f, F0⟩ Ex W) (hr : Room (k + 1) (X.A.deeper (envOfC x sg s.heap.objs.size g cdg)))
    (hbody : ∀ (A : Around) (outer : List Env) (s : Shared) (H : Hp) (E : XK) (F1 : Hp) (Ex : DEnv → DX) (W : WX), Room k (A.deeper (LamX.lamEnv X scope s.heap.objs.size f c')) → Takes (LamX.lamCx X A outer s H E scope f c') W → FinW X.K ⟨cl.f, F1⟩ Ex W → PEd (LamX.lamCx X A outer s H E scope f c') ⟨cl.f, F1⟩ body (te Ex))
    (hN : Ng[0]? = some a) (hv : Vis sg a) (hd : (a == ("__debug__" : Str)) = false := by decide) (hcd : (a == ("__classdict__" : Str)) = false := by decide) :
    PEd ((gCx X Ng x sg g cdg s H).tr pn xe) ⟨cl.f, F0⟩ (.Call (.Name a p1) [] [] p2) (dActD f (fun E => te (fun _ => E) ρ) Ex) := by
  refine ⟨fun pz sZ σZ HZ Q IZ ⟨ρZ, CZ, FZ, Qd, RZ, ⟨hs, ht⟩, kq⟩ => ?_⟩
  obtain ⟨v0, ev0, rv0⟩ := RZ.env 0 _ hs
  cases rv0
  refine wpAny_Call_Name_kw (thn ((pe_var (pos := p1) (i := 0) hN hv hd hcd).run pz sZ σZ HZ (fun v H1 => v = .ref f ∧ H1 = HZ) IZ ⟨.ref f, ev0, rfl, rfl⟩) fun u s1 ⟨v, H1, I1, r1, ev, eH⟩ => ?_)
  subst ev
  rw [eH] at I1
  obtain rfl : u = Value.ref f := r1
  have atF : s1.heap.get? f = some (lamObj X params body scope pm c' ctv) := (I1.hok f _ (RZ.rc.sub _ _ (RZ.bs _ _ hf))).1
  refine PySem.W.callWith_F0 ⟨_, _, _, _, atF⟩ ?_
  have un : Un (frs X.stack) [] H HZ s.heap s1.heap := I1.base
  have hcZ : HZ c' = some (LamX.CodeO c' (lamQ X)) := RZ.rc.sub _ _ (RZ.bs _ _ hc)
  obtain ⟨⟨oc, vs, t, hoc, hdc, hvc⟩, _, _⟩ := I1.hok c' _ hcZ
  have R0 : RS X.K ⟨cl.f, FZ⟩ ρ CZ FZ σ HZ := ⟨RZ.rc, R.len, fun i d e => let ⟨v, h1, h2⟩ := R.env i d e; ⟨v, h1, h2.mono (sF.trans RZ.bs)⟩, Same.refl FZ⟩
  have run : codeAny (model X.prog X.w) (X.A.deeper (envOfC x sg s.heap.objs.size g cdg)) (.call (.ref f) ⟨[], []⟩) (CR (L2.CX X.prog X.w) (envOfC x sg s.heap.objs.size g cdg :: X.stack) X.prog X.w HZ s1 Q (WE W σZ)) s1 := by
    refine PySem.W.kla_callFunE hr.depth atF rfl L.co L.gen rfl ⟨c', oc, vs, t, rfl, hoc, hdc, hvc⟩ ?_
    rw [hbind]
    refine wpAny_pure (wpAny_newFunctionEnv (fun y hy => (L.own y hy).2) (fun y hy => absurd hy (by simp)) (fun h₁ hns hsb => ⟨I1.nolimit.fresh _ hsb, ?_⟩) L.kind)
    have kp : ∀ b o, s1.heap.get? b = some o → h₁.get? b = some o := fun b o e => hsb.extBut b o (Nat.ne_of_lt (Heap.lt_size e)) (Heap.get?_push_of_some _ e)
    have J : Inv (LamX.lamCx X (X.A.deeper (envOfC x sg s.heap.objs.size g cdg)) (envOfC x sg s.heap.objs.size g cdg :: X.stack) s1 HZ (WE W σZ) scope f c') [] σ HZ { s1 with heap := h₁, toks := s1.toks + ([] : List (Str × Value)).length } :=
      LamX.lam_start2 I L I1.env0 hr.hd un hns kp
    have B := hbody (X.A.deeper (envOfC x sg s.heap.objs.size g cdg)) (envOfC x sg s.heap.objs.size g cdg :: X.stack) s1 HZ (WE W σZ) FZ (fun _ => Ex ρZ) (fun cls d _ H => W cls d σZ H) (hr.deeper _) (takes_of rfl rfl rfl rfl)
      (fun ρ2 σ2 c ds cv d C2 F2 H2 R2 x2 h2 => fw ρZ σZ c ds cv d C2 F2 H2 ⟨R2.rc, RZ.len, fun i d e => let ⟨v, h1, h3⟩ := RZ.env i d e; ⟨v, h1, h3.mono R2.bs⟩, RZ.bs.trans R2.bs⟩ x2 h2)
    refine PySem.W.kla_codeExpr (wpAny_mono (B.run [] _ σ HZ Q J ⟨ρ, CZ, FZ, Qd, R0, ht, kq⟩) (fun v s' hq => ?_) fun e s' hq => hq)
    obtain ⟨w', H', J', rv, q⟩ := hq
    exact ⟨w', H', J'.os, J'.bare, J'.base, J'.hok, rv, q⟩
  refine wpAny_call (codeAny_mono run fun r s' hq => ?_)
  cases r with
  | error e => exact passAt tk σZ pz HZ s1 e s' I1 hq
  | ok fl =>
    cases fl with
    | ret u => exact I1.after hq
    | next => exact False.elim hq
    | brk => exact False.elim hq
    | cont => exact False.elim hq
/-- x(y), y the lambda f -/
def dLamV (i : Nat) (f : Addr) (Ng : List Str) (td : ((DEnv → DX) → DE) → DS) (te : (DEnv → DX) → DE) : DE := fun ρ C Q => ρ[i]? = some (some (.ref f)) ∧ td (dActD f fun E => te (fun _ => E) ρ) (endsD Q) (startD Ng [.ref f]) C
/-- x(y), the lambda f stands in y -/
theorem de_lamV (i : Nat) {Ng : List Str} {x y a : Str} {f c' : Addr} {pm ctv : Value} {p2 : Pos} {stg : Stmt} {g : Addr} {fdg : FuncData} {k : Nat} {params : Arguments} {body : Expr} {scope : Scope} {td : ((DEnv → DX) → DE) → DS} {te : (DEnv → DX) → DE} {p pos : Pos}
    (Fu : Fun X.K x x stg g fdg) (Sg : FnScope Ng [a] (defScope stg)) (hva : Vis (defScope stg) a) (hNg : Ng[0]? = some a) (hm : X.mg x = some (.ref g)) (hk : PySem.W.keepIn X.K (.ref g) = true) (hb : Binds X.K fdg [a] [])
    (hfO : cl.bs f = some (lamO f (lamObj X params body scope pm c' ctv))) (hcO : cl.bs c' = some (LamX.CodeO c' (lamQ X))) (hr : Room (k + 2) X.A) (L : LamX.LamS X.env.scope scope)
    (hbind : ∀ (q : Str) (cl : List (Str × Addr)) (pm cv ctv : Value), bindArgs (PySem.W.kla_fn "<lambda>" q params body scope cl pm cv ctv) ⟨[], []⟩ = pure [])
    (hG : ∀ (cdg : Value) (s : Shared) (H : Hp) (F0 : Hp) (f : Addr) (tl : DX → Cl → DQ → Prop),
      (∀ (W : WX) (pn : List (Addr × Obj)) (xe : Value → Shared → Prop) (F1 : Hp) (Ex : DEnv → DX) (p1 p2 : Pos), Same F0 F1 → Takes ((gCx X Ng x (defScope stg) g cdg s H).tr pn xe) W → FinW X.K ⟨cl.f, F1⟩ Ex W →
        PEd ((gCx X Ng x (defScope stg) g cdg s H).tr pn xe) ⟨cl.f, F1⟩ (.Call (.Name a p1) [] [] p2) (dActD f tl Ex)) →
      PSsd (gCx X Ng x (defScope stg) g cdg s H).nox ⟨cl.f, F0⟩ (defBody stg) (td (dActD f tl)))
    (hbody : ∀ (A : Around) (outer : List Env) (s : Shared) (H : Hp) (E : XK) (f c' : Addr) (F1 : Hp) (Ex : DEnv → DX) (W : WX), Room k (A.deeper (LamX.lamEnv X scope s.heap.objs.size f c')) → Takes (LamX.lamCx X A outer s H E scope f c') W → FinW X.K ⟨cl.f, F1⟩ Ex W → PEd (LamX.lamCx X A outer s H E scope f c') ⟨cl.f, F1⟩ body (te Ex))
    (hg : Gl X x := by rfl) (hdb : (x == ("__debug__" : Str)) = false := by decide) (hd : (a == ("__debug__" : Str)) = false := by decide) (hcd : (a == ("__classdict__" : Str)) = false := by decide)
    (hNi : X.N[i]? = some y := by rfl) (hvy : Vis X.env.scope y := by first | exact .inl rfl | exact .inr (.inl rfl) | exact .inr (.inr rfl)) (hdy : (y == ("__debug__" : Str)) = false := by decide) (hcy : (y == ("__classdict__" : Str)) = false := by decide) :
    PEd X cl (.Call (.Name x p) [.Name y p2] [] pos) (dLamV i f Ng td te) := by
  refine ⟨fun pins s σ H Q I ⟨ρ, C, F, Qd, R, ⟨hρ, h⟩, kq⟩ => ?_⟩
  refine wpAny_Call_Name_kw (ld_glob I hg hm ?_ hdb)
  refine PySem.W.callWith_K (h₀ := X.base) I.ok.mod.kin hk ?_ (by rfl) (by rfl)
  show wpAny _ _ (spliced ((false, eval (.Name y p2) X.env) :: backTo pos (starEach [] X.env))) _ _ s
  obtain ⟨v0, ev0, rv0⟩ := R.env i _ hρ
  cases rv0
  refine Calls.spliced_cons (thn ((pe_var (pos := p2) (i := i) hNi hvy hdy hcy).run pins s σ H (fun v H1 => v = .ref f ∧ H1 = H) I ⟨.ref f, ev0, rfl, rfl⟩) fun u s' ⟨v, H1, I1, r1, ev, eH⟩ => ?_)
  subst ev
  rw [eH] at I1
  obtain rfl : u = Value.ref f := r1
  refine Calls.spliced_nil ⟨I1.kIn, ?_⟩
  obtain ⟨oc, od, kV, doc, pm0, an, cdv, ct, osl, e, lk, hcd0⟩ := Fu.ex
  subst e
  have run : codeAny (model X.prog X.w) X.A (.call (.ref g) ⟨[.ref f], []⟩) (CR CX0 X.stack X.prog X.w H s' Q E0) s' := by
    refine LamX.run_ofS (N := Ng) (ps := [a]) (us := [.ref f]) (vs := [.ref f]) lk hcd0 Sg hr.r I1.env0 (hb s' [.ref f] I1.kIn rfl) (.cons rfl .nil) rfl fun hr' => ?_
    have B := hG cdv s' H F f (fun E => te (fun _ => E) ρ) fun W pn xe F2 Ex p1 p2 s2 tk fw =>
      de_actF I1 R s2 L (s2 _ _ (R.bs _ _ hfO)) (s2 _ _ (R.bs _ _ hcO)) (hbind _ _ _ _ _) tk fw ⟨hr', hr.gd⟩ (fun A outer s H E F3 Ex W hr3 => hbody A outer s H E f c' F3 Ex W hr3) hNg hva hd hcd
    refine ⟨_, B.nox, startD Ng [.ref f], C, F, _, RS.startB (cl := ⟨cl.f, F⟩) Ng R.rc (.cons (.ref f) .nil) (Same.refl F), h, ?_⟩
    refine ⟨fun ρ C1 F2 σ H2 s1 R2 ⟨C2, sc, q⟩ => kq .non .non C2 H2 F2 s1 (R2.rc.drop sc) .non q, fun _ _ _ _ _ _ _ z => z.elim, fun _ _ _ _ _ _ _ z => z.elim, fun v d C1 F2 H2 s1 R2 r1 ⟨d', C2, gh, q⟩ => ?_⟩
    obtain ⟨F3, s3, R3, r3⟩ := gh.ok R2 r1
    exact kq v d' C2 H2 F3 (s1.trans s3) R3 r3 q
  refine wpAny_call (codeAny_mono run fun r s2 hq => ?_)
  cases r with
  | error e => exact (show False from hq).elim
  | ok fl =>
    cases fl with
    | ret u => exact I1.after hq
    | next => exact False.elim hq
    | brk => exact False.elim hq
    | cont => exact False.elim hq
/-- y = lambda: body -/
def dLamSet (i : Nat) (qs : String) (u : Addr → DS) : DS := fun D ρ C => (∃ P, C P = some (.tbl qs)) ∧ ∀ f, u f D (ρ.set i (some (.ref f))) C
theorem ds_lamSet (i : Nat) {y : Str} {c P : Addr} {params : Arguments} {body : Expr} {scope : Scope} {lpos pos pos' : Pos} {qs : String} {rest : List Stmt} {u : Addr → DS} (hN : X.N.Nodup)
    (TB : LamX.TabB X.base X.mg c P) (hcode : X.env.code = .ref c) (hP : cl qs = P) (hq : lamQ X = (qs : Str)) (L : LamX.LamS X.env.scope scope) (hdef : defaultsOf params X.env = ([], []))
    (hrest : ∀ (f c' : Addr) (pm ctv : Value) (F0 : Hp), Same cl.bs F0 → F0 f = some (lamO f (lamObj X params body scope pm c' ctv)) → F0 c' = some (LamX.CodeO c' (lamQ X)) → PSsd X ⟨cl.f, F0⟩ rest (u f))
    (hi : X.N[i]? = some y := by rfl) (hx : Loc X.env.scope y := by first | exact Or.inl rfl | exact Or.inr rfl) (hs : swapsWith (.Lambda params body scope lpos) (some (.Name y pos')) pos.line X.env = pure false := by rfl) (hf : X.fn y = true ∨ X.env.scope.names.lookup y = some .local := by first | exact .inl rfl | exact .inr rfl | assumption) :
    PSsd X cl (.Assign [.Name y pos'] (.Lambda params body scope lpos) pos :: rest) (dLamSet i qs u) := by
  have he : PE X (.Lambda params body scope lpos) (fun σ H Q => ∃ ρ C F, RS X.K cl ρ C F σ H ∧ (∃ P, C P = some (.tbl qs)) ∧ ∀ (f c' : Addr) (pm ctv : Value) (F1 H1 : Hp), Same F F1 → RS X.K cl ρ C F1 σ H1 → F1 f = some (lamO f (lamObj X params body scope pm c' ctv)) → F1 c' = some (LamX.CodeO c' (lamQ X)) → Q (.ref f) H1) := by
    refine ⟨fun pins s σ H Q I ⟨ρ, C, F, R, ⟨P', hC⟩, h⟩ => ?_⟩
    obtain rfl : P' = P := (R.rc.tab P' qs hC).trans hP
    exact lam_newF I R TB hcode hq hC hdef (L.has I.ok) fun f c' pm ctv H1 F1 s' I1 R1 sF hf hc => ⟨.ref f, H1, I1, rfl, h f c' pm ctv F1 H1 sF R1 hf hc⟩
  have hr : PSs X rest (fun D σ H => ∃ (f c' : Addr) (pm ctv : Value) (F0 : Hp), Same cl.bs F0 ∧ F0 f = some (lamO f (lamObj X params body scope pm c' ctv)) ∧ F0 c' = some (LamX.CodeO c' (lamQ X)) ∧ lowS X.K ⟨cl.f, F0⟩ (u f) D σ H) :=
    ⟨fun pins s σ H D I ⟨f, c', pm, ctv, F0, h1, h2, h3, q⟩ => (hrest f c' pm ctv F0 h1 h2 h3).run pins s σ H D I q⟩
  refine weakSs (pss_cons (ps_set hN hi hx he hs hf) hr) fun De σ H ⟨ρ, C, F, Dd, R, ⟨hC, h⟩, k⟩ => ?_
  refine ⟨ρ, C, F, R, hC, fun f c' pm ctv F1 H1 sF R1 hf hc => ?_⟩
  have R2 := R1.set i (v := .ref f) (d := .ref f) (.ref f)
  have b1 := R.bs.trans sF
  have k1 := k.at sF
  exact ⟨f, c', pm, ctv, F1, R.bs.trans sF, hf, hc, _, C, F1, Dd, ⟨R2.rc, R2.len, R2.env, Same.refl F1⟩, h f, ⟨fun ρ' C' F' σ' H' s' R' => k1.nx ρ' C' F' σ' H' s' ⟨R'.rc, R'.len, R'.env, b1.trans R'.bs⟩, fun ρ' C' F' σ' H' s' R' => k1.bk ρ' C' F' σ' H' s' ⟨R'.rc, R'.len, R'.env, b1.trans R'.bs⟩, fun ρ' C' F' σ' H' s' R' => k1.ct ρ' C' F' σ' H' s' ⟨R'.rc, R'.len, R'.env, b1.trans R'.bs⟩, k1.rt⟩⟩
/-- C.m(e, .., k = v, ..), m a static method that may raise -/
theorem de_smethX {k : Nat} {g : Addr} {ks : List Str} {sp : DSp2} {e : Expr} {es : List Expr} {kws : List Keyword} {t tk : DA} {pos apos p : Pos} {x m : Str} {Ex : DEnv → DX} {W : WX} {pl : Sem Bool} {Ca q : Addr} {mc : Value} (tkX : Takes X W) (fw : FinW X.K cl Ex W) (fc : Cee X.prog X.w X.K cl X.mg X.base (L2.CX X.prog X.w) k g ks sp) (hr : Room k X.A) (hmg : X.mg x = some (.ref Ca)) (r : ClX.CRead X.K Ca mc) (hm : SMet X.K Ca mc m q g) (ha : PAd X cl (e :: es) t) (hkw : PKd X cl kws tk)
    (hg : Gl X x := by rfl) (hall : (backToKw pos (keywordEach kws X.env)).all (·.1.isSome) = true := by rfl) (hks : (backToKw pos (keywordEach kws X.env)).filterMap (·.1) = ks := by rfl) (hdb : (x == ("__debug__" : Str)) = false := by decide)
    (he : starEach (e :: es) X.env = (false, eval e X.env) :: starEach es X.env := by rfl) (hpl : ((backTo pos (starEach (e :: es) X.env)).any (·.1) || (backToKw pos (keywordEach kws X.env)).any (·.1.isNone)) = false := by rfl)
    (ht : eval (.Call (.Attribute (.Name x p) m apos) (e :: es) kws pos) X.env = (do
      let ov ← eval (.Name x p) X.env
      standAt apos.atName
      let (f, first) ← holding [ov] (getMethod ov m pl)
      callWith pos f first (backTo pos (starEach (e :: es) X.env)) (backToKw pos (keywordEach kws X.env))) := by rfl) :
    PEd X cl (.Call (.Attribute (.Name x p) m apos) (e :: es) kws pos) (dCalX Ex sp t tk) := by
  refine ⟨fun pins s σ H Q I ⟨ρ, C, F, Qd, R, h, kq⟩ => ?_⟩
  refine PySem.W.methodCall_KW (pl := pl) (ld_glob I hg hmg ?_ hdb) ht
  obtain ⟨rest, hp⟩ := hm.rc
  refine PySem.W.method_cls I.kIn r.ga (PySem.W.cls_bind I.kIn r.rd hm.at_ (wpAny_call (PySem.W.sm_get (s := { s with toks := s.toks + 1 }) I.kIn hp (PySem.W.handed_on rfl ?_))))
  refine cal_args (first := []) hm.kp (I.tok _) ha hkw R h (fun us ws vs zs s2 H2 F2 C2 ds es I2 s2' R2 r rz r1 r2 q2 => ?_) hall hks he hpl
  exact fc.goS hr rfl (passAt tkX σ) I2 r rz ⟨ds, es, C2, F2, Qd, Ex ρ, R2, r1, r2, q2, kq.at s2', fw.at R s2'⟩
end
/-! ### a, b, .. = a list of that length -/
def dgUnl (n : Nat) (t : DGs) : DG := fun d ρ C Q => ∃ ds, lstOf d = some ds ∧ ds.length = n ∧ t ds ρ C Q
section
variable {X : Cx} {cl : NmB} {pos : Pos}
theorem dg_unl {es : List Expr} {j : Nat} {t : DGs} {n : Nat} (h : PGsd X cl es t) (hc : X.calm = true := by rfl)
    (hn : (assignEach es X.env).length = n := by rfl) (hst : (assignEach es X.env).findIdx? (·.1) = none := by rfl) : PGd X cl (.Tuple es j pos) (dgUnl n t) := by
  refine weakG (pg_unl hc h hn hst) fun v σ H Q ⟨d, ρ, C, F, Qd, R, r, ⟨ds, e, hl, q⟩, k⟩ => ?_
  obtain ⟨a, vs, rfl, hs, rl⟩ := r.asL e
  exact ⟨_, _, rfl, R.rc.sub.seq hs, rl.length.trans hl, ds, ρ, C, F, Qd, R, rl, q, k⟩
theorem v_unl {k : Nat} {tG : DGs} {ds : List D} {ρ : DEnv} {C : Cl} {K : DEnv → Cl → Prop} (hl : ds.length = k) (h : tG ds ρ C K) : dgUnl k tG (.lst ds) ρ C K := ⟨ds, rfl, hl, h⟩
end
/-! ### def f(a, .., *v) that may raise -/
theorem Cee.starDX {P : Program} {w : World} {K : PySem.W.Frag} {cl : Nm} {mg : Str → Option Value} {base : Heap} {k : Nat} {f : Addr} {fd : FuncData} {ps : List Str} {sp : DSp} {x qual : Str} {st : Stmt} {pv : Str} {N : List Str} {td : (DEnv → DX) → DS} (Fu : Fun K x qual st f fd) (S : FnScope N (ps ++ [pv]) (defScope st))
    (hb : ∀ (kV doc pm : Value) (an : Option Addr) (cdv ct : Value) (us rest : List Value), us.length = ps.length → bindArgs (PySem.W.fnOf x qual (defArgs st) (defBody st) (defScope st) .none kV doc pm an cdv ct) ⟨us ++ rest, []⟩ = (newTuple rest >>= fun t => pure (ps.zip us ++ [(pv, t)])))
    (len : ∀ ds C Q E, sp ds C Q E → ds.length = (ps ++ [pv]).length) (pure' : ∀ ds C Q E, sp ds C Q E → td (fun _ => E) (endsD Q) (startD N ds) C)
    (bd : ∀ (cdv : Value) (A : Around) (outer : List Env) (s : Shared) (H : Hp) (E : XK) (F0 : Hp) (Ex : DEnv → DX) (W : WX), Room k (A.deeper (envOfC qual (defScope st) s.heap.objs.size f cdv)) →
      Takes (cxOf (L2.CX P w) P w K mg base N qual (defScope st) f cdv A outer s H E) W → FinW K ⟨cl, F0⟩ Ex W → PSsd (cxOf (L2.CX P w) P w K mg base N qual (defScope st) f cdv A outer s H E) ⟨cl, F0⟩ (defBody st) (td Ex)) :
    Cee P w K cl mg base (L2.CX P w) (k + 1) f [] (star2 ps.length sp) := by
  obtain ⟨oc, od, kV, doc, pm, an, cdv, ct, osl, rfl, lk, hcd⟩ := Fu.ex
  have R := star_run (CX := L2.CX P w) (P := P) (w := w) (mg := mg) (base := base) (k := k) (so := fun vs H Q E => lowSp K cl sp vs H Q E) StX.cxUp lk hcd S (hb kV doc pm an cdv ct) fun A outer s H vs Q E hr ⟨ds, C, F, Qd, Ed, R, r, h, kq, kx⟩ => by
    refine ⟨_, bd cdv A outer s H E F (fun _ => Ed) (fun cv d _ H => E cv d H) hr (takes_of rfl rfl rfl rfl) (fun ρ σ c fs cv d C1 F1 H1 R1 x1 h1 => kx c fs cv d C1 H1 F1 R1.bs R1.rc x1 h1), startD N ds, C, F, _, RS.startB (cl := ⟨cl, F⟩) N R r (Same.refl F), pure' ds C Qd Ed h, ?_⟩
    refine ⟨fun ρ C1 F1 σ H1 s1 R1 ⟨C2, sc, q⟩ => kq .non .non C2 H1 F1 s1 (R1.rc.drop sc) .non q, fun _ _ _ _ _ _ _ z => z.elim, fun _ _ _ _ _ _ _ z => z.elim, fun v d C1 F1 H1 s1 R1 r1 ⟨d', C2, g, q⟩ => ?_⟩
    obtain ⟨F2, s2, R2, r2⟩ := g.ok R1 r1
    exact kq v d' C2 H1 F2 (s1.trans s2) R2 r2 q
  rintro A outer s H us ws vs zs Q E hr e0 r rz ⟨ds, es, C, F, Qd, Ed, RR, r1, r2, ⟨rfl, hn, hz, hq⟩, k1, k2⟩
  cases r2
  cases rz
  refine R A outer s H us vs Q E hr e0 r ⟨vs.take ps.length, vs.drop ps.length, (List.take_append_drop _ _).symm, ?_, ?_, fun p hp => ?_⟩
  · rw [List.length_take, r1.length]; omega
  · rw [List.length_drop, r1.length]; omega
  · have s1 := same_upd (o := .tup (vs.drop ps.length)) (RR.freeF hp)
    refine ⟨_, C, upd F p (.tup (vs.drop ps.length)), Qd, Ed, RR.new hp, ((r1.mono s1).take _).append (.cons (.tup (.of upd_same) ((r1.mono s1).drop _)) .nil), hq, k1.at s1, fun c fs cv d C1 H1 F1 s2 => k2 c fs cv d C1 H1 F1 (s1.trans s2)⟩
end G
namespace HT
open PySem PySem.Spec PyProof.Rows
section
variable {prog : Program} {w : World} {A : Around} {E : Value → Shared → Prop} {s : Shared}
end
end HT
namespace L2
open PySem PySem.Spec PyProof.Rows
variable {X : Cx}
end L2
namespace G
open PySem PySem.Spec PyProof.Rows L2
section
variable {X : Cx} {cl : NmB} {e : Expr} {te : DE} {pos : Pos}
end
end G
namespace G
open PySem PySem.Spec PyProof.Rows L2
theorem txts_lenG (ls : List (List Nat)) : (txts ls).length = ls.length := by unfold txts; simp
/-! ### steps of a reading, one lemma a head (printed by g16.py) -/
section
variable {D' : DEnds} {n b c : DEnv → Cl → Prop} {r : DQ} {ρ : DEnv} {C : Cl} {Q : DQ} {t u : DS} {te ta tb tc : DE} {g : DG} {A B : Prop}
theorem v_ends {t : DS} (h : t ⟨fun _ C => ∃ C', SubC C' C ∧ Q .non C', fun d C => ∃ d' C', Gh d C d' C' ∧ Q d' C', fun _ _ => False, fun _ _ => False⟩ ρ C) : t (endsD Q) ρ C := h
theorem v_seq (h : t ⟨u ⟨n, r, b, c⟩, r, b, c⟩ ρ C) : dSeq t u ⟨n, r, b, c⟩ ρ C := h
theorem v_next (h : n ρ C) : dNext ⟨n, r, b, c⟩ ρ C := h
theorem v_asg (h : te ρ C fun x C1 => g x ρ C1 n) : dAsg te g ⟨n, r, b, c⟩ ρ C := h
theorem v_drop (h : te ρ C fun _ C1 => n ρ C1) : dDrop te ⟨n, r, b, c⟩ ρ C := h
theorem v_ret (h : te ρ C r) : dRet te ⟨n, r, b, c⟩ ρ C := h
theorem v_ifS {ct : DT} (h : ct ρ C fun k C1 => if k = true then t ⟨n, r, b, c⟩ ρ C1 else u ⟨n, r, b, c⟩ ρ C1) : dIfS ct t u ⟨n, r, b, c⟩ ρ C := h
theorem v_isvar {i : Nat} (h : dVar i ρ C Q) : dVar i ρ C Q := h
theorem v_isname {i : Nat} {d : D} {K : DEnv → Cl → Prop} (h : dName i d ρ C K) : dName i d ρ C K := h
theorem v_const {d : D} (h : Q d C) : dC d ρ C Q := h
theorem v_op {rd : RD2} (h : ta ρ C fun x C1 => tb ρ C1 fun y C2 => rd x y C2 Q) : dOp rd ta tb ρ C Q := h
theorem v_un {rd : RD1} (h : ta ρ C fun x C1 => rd x C1 Q) : dUn rd ta ρ C Q := h
theorem v_test {K : Bool → Cl → Prop} (h : te ρ C fun x C1 => ∃ k, x = .bl k ∧ K k C1) : dTest te ρ C K := h
theorem v_bl {x : Bool} {K : Bool → Prop} (h : K x) : ∃ k, D.bl x = .bl k ∧ K k := ⟨x, rfl, h⟩
theorem v_dnot {tA : DT} {K : Bool → Cl → Prop} (h : tA ρ C fun k C1 => K (!k) C1) : dNot tA ρ C K := h
theorem v_dand {tA tB : DT} {K : Bool → Cl → Prop} (h : tA ρ C fun k C1 => if k = true then tB ρ C1 K else K false C1) : dAnd tA tB ρ C K := h
theorem v_dor {tA tB : DT} {K : Bool → Cl → Prop} (h : tA ρ C fun k C1 => if k = true then K true C1 else tB ρ C1 K) : dOr tA tB ρ C K := h
theorem v_andV (h : ta ρ C fun x C1 => ∃ k, x = .bl k ∧ if k = true then tb ρ C1 Q else Q (.bl false) C1) : dAndV ta tb ρ C Q := h
theorem v_notV (h : ta ρ C fun x C1 => ∃ k, x = .bl k ∧ Q (.bl (!k)) C1) : dNotV ta ρ C Q := h
theorem v_tt (h : A) : if true = true then A else B := h
theorem v_ff (h : B) : if false = true then A else B := h
theorem v_ntt (h : B) : if (!true) = true then A else B := h
theorem v_nff (h : A) : if (!false) = true then A else B := h
theorem v_ndt {p : Prop} [Decidable p] (hp : p) (h : B) : if (!decide p) = true then A else B := by rw [decide_eq_true hp]; exact h
theorem v_chain {r1 r2 : RD2} (h : ta ρ C fun x C1 => tb ρ C1 fun y C2 => r1 x y C2 fun z C3 => ∃ k, z = .bl k ∧ if k = true then tc ρ C3 fun w C4 => r2 y w C4 Q else Q (.bl false) C3) : dChain r1 r2 ta tb tc ρ C Q := h
theorem v_nil {K : List D → Cl → Prop} (h : K [] C) : dNil ρ C K := h
theorem v_cons {tr : DA} {K : List D → Cl → Prop} (h : ta ρ C fun x C1 => tr ρ C1 fun xs C2 => K (x :: xs) C2) : dCons ta tr ρ C K := h
theorem v_tup {tA : DA} (h : tA ρ C fun xs C1 => xs.length ≤ sizeLine ∧ Q (.tup xs) C1) : dTup tA ρ C Q := h
theorem v_lst {tA : DA} (h : tA ρ C fun xs C1 => xs.length ≤ sizeLine ∧ Q (.lst xs) C1) : dLst tA ρ C Q := h
theorem v_cb {rd : RDC} {tA : DA} (h : tA ρ C fun ds C1 => rd ds C1 Q) : dCB rd tA ρ C Q := h
theorem v_call0 {sp : DSp} {tA : DA} (h : tA ρ C fun xs C1 => sp xs C1 Q fun _ _ _ => False) : dCall sp [] tA ρ C Q := by
  show tA ρ C fun xs C1 => sp (xs ++ []) C1 Q fun _ _ _ => False
  simp only [List.append_nil]; exact h
theorem v_pos2 {sp : DSp} {dd ds : List D} {E : DX} (h : sp (ds ++ dd) C Q E) : pos2 sp dd ds [] C Q E := ⟨rfl, h⟩
/-- tuples of names -/
theorem v_gtup {k : Nat} {tG : DGs} {ds : List D} {K : DEnv → Cl → Prop} (hl : ds.length = k) (h : tG ds ρ C K) : dgTup k tG (.tup ds) ρ C K := ⟨ds, rfl, hl, h⟩
theorem v_gcons {tG : DG} {uG : DGs} {d : D} {ds : List D} {K : DEnv → Cl → Prop} (h : tG d ρ C fun ρ' C' => uG ds ρ' C' K) : dgCons tG uG (d :: ds) ρ C K := ⟨d, ds, rfl, h⟩
theorem v_gnil {K : DEnv → Cl → Prop} (h : K ρ C) : dgNil [] ρ C K := ⟨rfl, h⟩
theorem v_sameS {l : List Nat} (h : Q (.str l) C) : ∃ d' C', Gh (.str l) C d' C' ∧ Q d' C' := ⟨_, C, .same, h⟩
theorem v_sameB {x : Bool} (h : Q (.bl x) C) : ∃ d' C', Gh (.bl x) C d' C' ∧ Q d' C' := ⟨_, C, .same, h⟩
/-! operators on known things -/
theorem v_eqS {x y : List Nat} (h : Q (.bl (decide (x = y))) C) : rEqD (.str x) (.str y) C Q := .inl ⟨_, rfl, h⟩
theorem v_neS {x y : List Nat} (h : Q (.bl (!decide (x = y))) C) : rNeD (.str x) (.str y) C Q := .inl ⟨_, rfl, h⟩
theorem v_le {x y : Int} (h : Q (.bl (decide (x ≤ y))) C) : rLeD (.int x) (.int y) C Q := ⟨_, rfl, trivial, h⟩
theorem v_gt {x y : Int} (h : Q (.bl (decide (y < x))) C) : rGtD (.int x) (.int y) C Q := ⟨_, rfl, trivial, h⟩
theorem v_addI {x y : Int} (h : Q (.int (x + y)) C) : rOf addF (.int x) (.int y) C Q := ⟨_, rfl, trivial, h⟩
theorem v_addS {x y : List Nat} (hl : (x ++ y).length ≤ sizeLine) (h : Q (.str (x ++ y)) C) : rOf addF (.str x) (.str y) C Q := ⟨_, rfl, hl, h⟩
theorem v_addT {x y : List D} (hl : (x ++ y).length ≤ sizeLine) (h : Q (.tup (x ++ y)) C) : rOf addF (.tup x) (.tup y) C Q := ⟨_, rfl, hl, h⟩
theorem v_addL {x y : List D} (hl : (x ++ y).length ≤ sizeLine) (h : Q (.lst (x ++ y)) C) : rOf addF (.lst x) (.lst y) C Q := ⟨_, rfl, hl, h⟩
theorem v_notN {x : D} (h : Q (.bl (!isNonD x)) C) : rNotN x .non C Q := ⟨rfl, h⟩
theorem v_lenT {l : List D} (h : Q (.int (l.length : Nat)) C) : rLen [.tup l] C Q := ⟨_, _, rfl, rfl, trivial, h⟩
theorem v_listT {l : List D} (h : Q (.lst l) C) : rList [.tup l] C Q := ⟨_, _, rfl, rfl, h⟩
theorem v_tupleL {l : List D} (h : Q (.tup l) C) : rTuple [.lst l] C Q := ⟨_, _, rfl, rfl, h⟩
theorem v_ixT {l : List D} {i : Int} {d : D} (hi : atI l i = some d) (h : Q d C) : rIx (.tup l) (.int i) C Q := ⟨_, rfl, .inr ⟨_, _, rfl, hi, h⟩⟩
theorem v_ixL {l : List D} {i : Int} {d : D} (hi : atI l i = some d) (h : Q d C) : rIx (.lst l) (.int i) C Q := ⟨_, rfl, .inr ⟨_, _, rfl, hi, h⟩⟩
theorem v_allM {α : Type} {as : List α} {f : α → Bool} (h : Q (.bl (as.all f)) C) : rAllL [.lst (as.map fun a => .bl (f a))] C Q := by
  refine ⟨_, as.map f, rfl, ?_, ?_⟩
  · show some _ = some _; unfold bls; rw [List.map_map]; rfl
  · rw [List.all_map]; exact h
theorem v_anyM {α : Type} {as : List α} {f : α → Bool} (h : Q (.bl (as.any f)) C) : rAnyL [.lst (as.map fun a => .bl (f a))] C Q := by
  refine ⟨_, as.map f, rfl, ?_, ?_⟩
  · show some _ = some _; unfold bls; rw [List.map_map]; rfl
  · rw [List.any_map]; exact h
theorem v_isiT {l : List D} (h : Q (.bl true) C) : rIsi "tuple" [.tup l, .ty "tuple"] C Q := ⟨_, _, rfl, rfl, h⟩
theorem v_forT {te : DE} {R : List D → Cl → Prop} (h : te ρ C fun x C1 => ∃ xs, x = .tup xs ∧ R xs C1) : diTup te ρ C R := h
theorem v_forS {te : DE} {R : List D → Cl → Prop} (h : te ρ C fun x C1 => ∃ z, x = .str z ∧ R (signs z) C1) : diStr te ρ C R := h
theorem v_tupO {l : List D} {R : List D → Prop} (h : R l) : ∃ xs, D.tup l = .tup xs ∧ R xs := ⟨l, rfl, h⟩
theorem v_nopart {K : Option Int → Cl → Prop} (h : K none C) : dNoPart ρ C K := h
theorem v_part {K : Option Int → Cl → Prop} (h : te ρ C fun x C1 => ∃ i, x = .int i ∧ K (some i) C1) : dPart te ρ C K := h
theorem v_slice {rd : RSl} {tl th : DO} (h : te ρ C fun x C1 => tl ρ C1 fun l C2 => th ρ C2 fun u C3 => rd x l u C3 Q) : dSl rd te tl th ρ C Q := h
theorem v_slT {l : List D} {lo hi : Option Int} (h : Q (.tup (cutL l lo hi)) C) : rSl (.tup l) lo hi C Q := ⟨_, rfl, trivial, h⟩
theorem v_make {k : String} {sp : DSp2} {tA tk : DA} (h : tA ρ C fun xs C2 => tk ρ C2 fun zs C3 => ∀ x, C3 x = none → sp (.ref x :: xs) zs (updC C3 x (.ins k [])) (fun v C4 => v = .non ∧ Q (.ref x) C4) noX) : dMake k sp tA tk ρ C Q := h
theorem v_var0 {d : D} {ρ : DEnv} (h : Q d C) : dVar 0 (some d :: ρ) C Q := ⟨d, rfl, h⟩
theorem v_var1 {x0 : Option D} {d : D} {ρ : DEnv} (h : Q d C) : dVar 1 (x0 :: some d :: ρ) C Q := ⟨d, rfl, h⟩
theorem v_name1 {x0 y : Option D} {d : D} {ρ : DEnv} {K : DEnv → Cl → Prop} (h : K (x0 :: some d :: ρ) C) : dName 1 d (x0 :: y :: ρ) C K := h
theorem v_var2 {x0 x1 : Option D} {d : D} {ρ : DEnv} (h : Q d C) : dVar 2 (x0 :: x1 :: some d :: ρ) C Q := ⟨d, rfl, h⟩
theorem v_wname2 {x0 x1 y : Option D} {d : D} {ρ : DEnv} {K : DEnv → Cl → Prop} (h : K (x0 :: x1 :: some d :: ρ) C) : dName 2 d (wipeD (x0 :: x1 :: y :: ρ) [2]) C K := h
theorem v_name2 {x0 x1 y : Option D} {d : D} {ρ : DEnv} {K : DEnv → Cl → Prop} (h : K (x0 :: x1 :: some d :: ρ) C) : dName 2 d (x0 :: x1 :: y :: ρ) C K := h
theorem v_var3 {x0 x1 x2 : Option D} {d : D} {ρ : DEnv} (h : Q d C) : dVar 3 (x0 :: x1 :: x2 :: some d :: ρ) C Q := ⟨d, rfl, h⟩
theorem v_wname3 {x0 x1 x2 y : Option D} {d : D} {ρ : DEnv} {K : DEnv → Cl → Prop} (h : K (x0 :: x1 :: x2 :: some d :: ρ) C) : dName 3 d (wipeD (x0 :: x1 :: x2 :: y :: ρ) [3]) C K := h
theorem v_name3 {x0 x1 x2 y : Option D} {d : D} {ρ : DEnv} {K : DEnv → Cl → Prop} (h : K (x0 :: x1 :: x2 :: some d :: ρ) C) : dName 3 d (x0 :: x1 :: x2 :: y :: ρ) C K := h
theorem v_var4 {x0 x1 x2 x3 : Option D} {d : D} {ρ : DEnv} (h : Q d C) : dVar 4 (x0 :: x1 :: x2 :: x3 :: some d :: ρ) C Q := ⟨d, rfl, h⟩
theorem v_name4 {x0 x1 x2 x3 y : Option D} {d : D} {ρ : DEnv} {K : DEnv → Cl → Prop} (h : K (x0 :: x1 :: x2 :: x3 :: some d :: ρ) C) : dName 4 d (x0 :: x1 :: x2 :: x3 :: y :: ρ) C K := h
theorem v_var5 {x0 x1 x2 x3 x4 : Option D} {d : D} {ρ : DEnv} (h : Q d C) : dVar 5 (x0 :: x1 :: x2 :: x3 :: x4 :: some d :: ρ) C Q := ⟨d, rfl, h⟩
theorem v_name5 {x0 x1 x2 x3 x4 y : Option D} {d : D} {ρ : DEnv} {K : DEnv → Cl → Prop} (h : K (x0 :: x1 :: x2 :: x3 :: x4 :: some d :: ρ) C) : dName 5 d (x0 :: x1 :: x2 :: x3 :: x4 :: y :: ρ) C K := h
theorem v_var6 {x0 x1 x2 x3 x4 x5 : Option D} {d : D} {ρ : DEnv} (h : Q d C) : dVar 6 (x0 :: x1 :: x2 :: x3 :: x4 :: x5 :: some d :: ρ) C Q := ⟨d, rfl, h⟩
theorem v_name6 {x0 x1 x2 x3 x4 x5 y : Option D} {d : D} {ρ : DEnv} {K : DEnv → Cl → Prop} (h : K (x0 :: x1 :: x2 :: x3 :: x4 :: x5 :: some d :: ρ) C) : dName 6 d (x0 :: x1 :: x2 :: x3 :: x4 :: x5 :: y :: ρ) C K := h
theorem v_var7 {x0 x1 x2 x3 x4 x5 x6 : Option D} {d : D} {ρ : DEnv} (h : Q d C) : dVar 7 (x0 :: x1 :: x2 :: x3 :: x4 :: x5 :: x6 :: some d :: ρ) C Q := ⟨d, rfl, h⟩
theorem v_name7 {x0 x1 x2 x3 x4 x5 x6 y : Option D} {d : D} {ρ : DEnv} {K : DEnv → Cl → Prop} (h : K (x0 :: x1 :: x2 :: x3 :: x4 :: x5 :: x6 :: some d :: ρ) C) : dName 7 d (x0 :: x1 :: x2 :: x3 :: x4 :: x5 :: x6 :: y :: ρ) C K := h
theorem v_var8 {x0 x1 x2 x3 x4 x5 x6 x7 : Option D} {d : D} {ρ : DEnv} (h : Q d C) : dVar 8 (x0 :: x1 :: x2 :: x3 :: x4 :: x5 :: x6 :: x7 :: some d :: ρ) C Q := ⟨d, rfl, h⟩
theorem v_name8 {x0 x1 x2 x3 x4 x5 x6 x7 y : Option D} {d : D} {ρ : DEnv} {K : DEnv → Cl → Prop} (h : K (x0 :: x1 :: x2 :: x3 :: x4 :: x5 :: x6 :: x7 :: some d :: ρ) C) : dName 8 d (x0 :: x1 :: x2 :: x3 :: x4 :: x5 :: x6 :: x7 :: y :: ρ) C K := h
theorem v_var9 {x0 x1 x2 x3 x4 x5 x6 x7 x8 : Option D} {d : D} {ρ : DEnv} (h : Q d C) : dVar 9 (x0 :: x1 :: x2 :: x3 :: x4 :: x5 :: x6 :: x7 :: x8 :: some d :: ρ) C Q := ⟨d, rfl, h⟩
theorem v_name9 {x0 x1 x2 x3 x4 x5 x6 x7 x8 y : Option D} {d : D} {ρ : DEnv} {K : DEnv → Cl → Prop} (h : K (x0 :: x1 :: x2 :: x3 :: x4 :: x5 :: x6 :: x7 :: x8 :: some d :: ρ) C) : dName 9 d (x0 :: x1 :: x2 :: x3 :: x4 :: x5 :: x6 :: x7 :: x8 :: y :: ρ) C K := h
theorem v_var10 {x0 x1 x2 x3 x4 x5 x6 x7 x8 x9 : Option D} {d : D} {ρ : DEnv} (h : Q d C) : dVar 10 (x0 :: x1 :: x2 :: x3 :: x4 :: x5 :: x6 :: x7 :: x8 :: x9 :: some d :: ρ) C Q := ⟨d, rfl, h⟩
theorem v_name10 {x0 x1 x2 x3 x4 x5 x6 x7 x8 x9 y : Option D} {d : D} {ρ : DEnv} {K : DEnv → Cl → Prop} (h : K (x0 :: x1 :: x2 :: x3 :: x4 :: x5 :: x6 :: x7 :: x8 :: x9 :: some d :: ρ) C) : dName 10 d (x0 :: x1 :: x2 :: x3 :: x4 :: x5 :: x6 :: x7 :: x8 :: x9 :: y :: ρ) C K := h
theorem v_var11 {x0 x1 x2 x3 x4 x5 x6 x7 x8 x9 x10 : Option D} {d : D} {ρ : DEnv} (h : Q d C) : dVar 11 (x0 :: x1 :: x2 :: x3 :: x4 :: x5 :: x6 :: x7 :: x8 :: x9 :: x10 :: some d :: ρ) C Q := ⟨d, rfl, h⟩
theorem v_name11 {x0 x1 x2 x3 x4 x5 x6 x7 x8 x9 x10 y : Option D} {d : D} {ρ : DEnv} {K : DEnv → Cl → Prop} (h : K (x0 :: x1 :: x2 :: x3 :: x4 :: x5 :: x6 :: x7 :: x8 :: x9 :: x10 :: some d :: ρ) C) : dName 11 d (x0 :: x1 :: x2 :: x3 :: x4 :: x5 :: x6 :: x7 :: x8 :: x9 :: x10 :: y :: ρ) C K := h
theorem v_var12 {x0 x1 x2 x3 x4 x5 x6 x7 x8 x9 x10 x11 : Option D} {d : D} {ρ : DEnv} (h : Q d C) : dVar 12 (x0 :: x1 :: x2 :: x3 :: x4 :: x5 :: x6 :: x7 :: x8 :: x9 :: x10 :: x11 :: some d :: ρ) C Q := ⟨d, rfl, h⟩
theorem v_wname12 {x0 x1 x2 x3 x4 x5 x6 x7 x8 x9 x10 x11 y : Option D} {d : D} {ρ : DEnv} {K : DEnv → Cl → Prop} (h : K (x0 :: x1 :: x2 :: x3 :: x4 :: x5 :: x6 :: x7 :: x8 :: x9 :: x10 :: x11 :: some d :: ρ) C) : dName 12 d (wipeD (x0 :: x1 :: x2 :: x3 :: x4 :: x5 :: x6 :: x7 :: x8 :: x9 :: x10 :: x11 :: y :: ρ) [12]) C K := h
/-! comprehensions whose things are known -/
/-- the same over things that a function names -/
theorem v_lcmapF {α : Type} {wi : DI} {vs : List Nat} {as : List α} {e : α → D} (f : α → D) (hw : ∀ R : List D → Cl → Prop, R (as.map e) C → wi ρ C R) (hl : as.length ≤ sizeLine)
    (hs : ∀ (i : Nat) (a : α) (C' : Cl) (N : DQ), as[i]? = some a → a ∈ as → SubC C C' → N (f a) C' → g (e a) (wipeD ρ vs) C' fun ρ2 C2 => te ρ2 C2 N) (hq : Q (.lst (as.map f)) C) : dFz (dLc wi g dYes te vs) ρ C Q := by
  refine hw _ fun p hp => ?_
  refine ⟨fun i C' => ∃ C1, C' = updC C1 p (.lst ((as.take i).map f)) ∧ C1 = C, ⟨C, rfl, rfl⟩, ?_, ?_⟩
  · rintro i x _ hx ⟨C1, rfl, rfl⟩
    rw [List.getElem?_map] at hx
    cases ha : as[i]? with
    | none => rw [ha] at hx; cases hx
    | some a =>
      rw [ha] at hx; cases hx
      have hi : i < as.length := (List.getElem?_eq_some_iff.mp ha).1
      refine hs i a _ _ ha (List.mem_of_getElem? ha) ((SubC.refl _).new hp) ⟨_, updC_same, ?_, _, ?_, rfl⟩
      · rw [List.length_map, List.length_take]; omega
      · rw [updC_updC, List.take_add_one, ha]; simp
  · rintro _ ⟨C1, rfl, rfl⟩
    rw [List.length_map, List.take_length]
    exact ⟨p, _, rfl, updC_same, by rw [delC_new hp]; exact hq⟩
/-! loops -/
end
end G
namespace G
open PySem PySem.Spec PyProof.Rows L2
/-! ### the helpers of every law: the bag, its draws -/
def sp_l_take : DSp := fun ds C Q _ => ∃ b m n, ds = [.ref b, .int m] ∧ 0 < m ∧ m < 2 ^ 200 ∧ BagAt C b n ∧ n < 100000000000 ∧ ∀ i C', 0 ≤ i → i < m → Bagged C b C' (n + 1) → Q (.int i) C'
def td_l_take : DS :=
  (dSeq (dIfS (dTest (dOp rGtD (dOp rIx (dVar 0) (dC (.int 0))) (dC (.int 0)))) (dSeq (dAsg (dMod (dCB rInt (dCons (dOp rIx (dVar 0) (dC (.int 0))) dNil)) (dVar 1)) (dName 2))
    (dSeq (dAsg (dFdiv (dOp rIx (dVar 0) (dC (.int 0))) (dVar 1)) (dgSub (dVar 0) (dC (.int 0)) rSetL))
    (dRet (dVar 2)))) dNext)
    (dSeq (dAsg (dAdd (dOp rIx (dVar 0) (dC (.int 2))) (dC (.int 1))) (dgSub (dVar 0) (dC (.int 2)) rSetL))
    (dSeq (dAsg (dMod (dCB rInt (dCons (dPow (dAdd (dOp rIx (dVar 0) (dC (.int 1))) (dMul (dC (.int 1000003)) (dOp rIx (dVar 0) (dC (.int 2))))) (dC (.int 3))) dNil)) (dC (.int 2305843009213693921))) (dName 3))
    (dSeq (dAsg (dMod (dCB rInt (dCons (dPow (dAdd (dVar 3) (dMul (dC (.int 15485863)) (dOp rIx (dVar 0) (dC (.int 2))))) (dC (.int 2))) dNil)) (dC (.int 2305843009213693951))) (dName 3))
    (dRet (dMod (dCB rInt (dCons (dFdiv (dVar 3) (dC (.int 4096))) dNil)) (dVar 1)))))))
theorem len_l_take (ds : List D) (C : Cl) (Q : DQ) (E : DX) (h : sp_l_take ds C Q E) : ds.length = 2 := by obtain ⟨_, _, _, rfl, _⟩ := h; rfl
theorem seq_ref {C : Cl} {a : Addr} {ds : List D} (h : C a = some (.lst ds)) : seqOf C (.ref a) = some ds := cellL_of h
theorem divw {m : Int} (h0 : 0 < m) (h : m < 2 ^ 200) : CDivW 0 m := wide_div (b := 200) h0 (by omega) (by decide) (by decide)
theorem pure_l_take (ds : List D) (C : Cl) (Q : DQ) (E : DX) (h : sp_l_take ds C Q E) : td_l_take (endsD Q) (startD ["_law_bag_here", "_law_many", "_law_digit", "_law_mixed"] ds) C := by
  obtain ⟨b, m, n, rfl, m0, m1, ⟨x, y, z, hc, g⟩, hn, hq⟩ := h
  obtain ⟨x0, y0, y1, z0, z1⟩ := g
  refine ⟨_, rfl, _, rfl, .inr ⟨_, .int x, seq_ref hc, rfl, _, rfl, trivial, _, rfl, ite_d (fun h => ?_) (fun h => ?_)⟩⟩
  · refine ⟨_, rfl, _, rfl, .inr ⟨_, .int x, seq_ref hc, rfl, .inl ⟨_, rfl, _, rfl, _, _, rfl, rfl, m0, ?_⟩⟩⟩
    refine ⟨_, rfl, _, rfl, .inr ⟨_, .int x, seq_ref hc, rfl, _, rfl, _, _, rfl, rfl, divw m0 m1, ?_⟩⟩
    refine ⟨_, rfl, _, 0, 0, _, rfl, rfl, hc, rfl, ?_⟩
    refine ⟨_, rfl, _, _, .same, hq _ _ (Int.emod_nonneg _ (by omega)) (Int.emod_lt_of_pos _ m0) ⟨x / m, y, z, rfl, Int.ediv_nonneg x0 (by omega), y0, y1, z0, by omega⟩⟩
  · refine ⟨_, rfl, _, rfl, .inr ⟨_, .int z, seq_ref hc, rfl, _, rfl, trivial, ?_⟩⟩
    refine ⟨_, rfl, _, 2, 2, _, rfl, rfl, hc, rfl, ?_⟩
    have hc' : (updC C b (bagC x y (z + 1))) b = some (bagC x y (z + 1)) := updC_same
    have zz : z ≤ 100000000000 := by omega
    refine ⟨_, rfl, _, rfl, .inr ⟨_, .int y, seq_ref hc', rfl, _, rfl, _, rfl, .inr ⟨_, .int (z + 1), seq_ref hc', rfl, ?_⟩⟩⟩
    refine .inl ⟨_, _, rfl, rfl, .inl ⟨by decide, by decide⟩, _, rfl, trivial, _, _, rfl, rfl, ⟨by decide, by decide, ?_⟩, .inl ⟨_, rfl, _, _, rfl, rfl, (show (0 : Int) < 2305843009213693921 by decide), ?_⟩⟩
    · (try dsimp only); omega
    have b0 := Int.emod_nonneg ((y + 1000003 * (z + 1)) ^ (3 : Int).toNat) (show (2305843009213693921 : Int) ≠ 0 by decide)
    have b1 := Int.emod_lt_of_pos ((y + 1000003 * (z + 1)) ^ (3 : Int).toNat) (show (0 : Int) < 2305843009213693921 by decide)
    dsimp only
    generalize (y + 1000003 * (z + 1)) ^ (3 : Int).toNat % 2305843009213693921 = v at *
    refine ⟨_, rfl, _, rfl, _, rfl, .inr ⟨_, .int (z + 1), seq_ref hc', rfl, ?_⟩⟩
    refine .inl ⟨_, _, rfl, rfl, .inl ⟨by decide, by decide⟩, _, rfl, trivial, _, _, rfl, rfl, ⟨by decide, by decide, ?_⟩, .inl ⟨_, rfl, _, _, rfl, rfl, (show (0 : Int) < 2305843009213693951 by decide), ?_⟩⟩
    · (try dsimp only); omega
    dsimp only
    generalize (v + 15485863 * (z + 1)) ^ (2 : Int).toNat % 2305843009213693951 = u at *
    refine ⟨_, rfl, _, _, rfl, rfl, wide_div (b := 13) (by decide) (by decide) (by decide) (by decide), .inl ⟨_, rfl, _, rfl, _, _, rfl, rfl, m0, ?_⟩⟩
    exact ⟨_, _, .same, hq _ _ (Int.emod_nonneg _ (by omega)) (Int.emod_lt_of_pos _ m0) ⟨x, y, z + 1, rfl, x0, y0, y1, by omega, by omega⟩⟩

/-- one of some things: the things stand as a sequence, or are a text's signs -/
def itemsOf (C : Cl) : D → Option (List D)
  | .str l => some (signs l)
  | d => seqOf C d
def sp_l_of : DSp := fun ds C Q _ => ∃ b s xs n, ds = [.ref b, s] ∧ itemsOf C s = some xs ∧ s ≠ .ref b ∧ xs ≠ [] ∧ xs.length ≤ 1000000 ∧ BagAt C b n ∧ n < 100000000000 ∧ ∀ d C', d ∈ xs → Bagged C b C' (n + 1) → Q d C'
def td_l_of : DS :=
  (dRet (dOp rIx (dVar 1) (dCall sp_l_take [] (dCons (dVar 0) (dCons (dCB rLen (dCons (dVar 1) dNil)) dNil)))))
theorem len_l_of (ds : List D) (C : Cl) (Q : DQ) (E : DX) (h : sp_l_of ds C Q E) : ds.length = 2 := by obtain ⟨_, _, _, _, rfl, _⟩ := h; rfl
theorem atI_mem {α : Type} {l : List α} {i : Int} (h0 : 0 ≤ i) (h1 : i < l.length) : ∃ d, atI l i = some d ∧ d ∈ l := by
  have hl : i.toNat < l.length := by omega
  refine ⟨l[i.toNat], ?_, List.getElem_mem hl⟩
  unfold atI ixN
  rw [if_pos h0, if_pos h1]
  exact List.getElem?_eq_getElem hl
theorem seqOf_ne {C C' : Cl} {s : D} {b : Addr} {xs : List D} (h : ∀ a, a ≠ b → C' a = C a) (e : s ≠ .ref b) (hs : seqOf C s = some xs) : seqOf C' s = some xs := by
  cases s with
  | ref a =>
    have : a ≠ b := fun z => e (by rw [z])
    show cellL C' a = some xs
    have hs : cellL C a = some xs := hs
    unfold cellL at hs ⊢
    rw [h a this]
    exact hs
  | _ => exact hs
theorem pure_l_of (ds : List D) (C : Cl) (Q : DQ) (E : DX) (h : sp_l_of ds C Q E) : td_l_of (endsD Q) (startD ["_law_bag_here", "_law_some"] ds) C := by
  obtain ⟨b, s, xs, n, rfl, hx, hs, hne, hl, hb, hn, hq⟩ := h
  have l0 : 0 < xs.length := List.length_pos_iff.mpr hne
  have hL : lenF C s = some xs.length ∧ srcOk s := by
    cases s with
    | str l =>
      cases hx
      rw [signs_length'] at *
      exact ⟨rfl, Nat.le_trans (by omega) (by rw [sizeLine_eq]; decide : 1000000 ≤ sizeLine)⟩
    | ref a =>
      have e : cellL C a = some xs := hx
      exact ⟨by show (cellL C a).map List.length = _; rw [e]; rfl, trivial⟩
    | tup ds => cases hx; exact ⟨rfl, trivial⟩
    | lst ds => cases hx; exact ⟨rfl, trivial⟩
    | rol ds => cases hx; exact ⟨rfl, trivial⟩
    | _ => cases hx
  refine ⟨_, rfl, _, rfl, _, rfl, _, _, rfl, hL.1, hL.2, b, (xs.length : Int), n, rfl, by omega, by omega, hb, hn, fun i C' i0 i1 hB => ?_⟩
  obtain ⟨d, hd, hm⟩ := atI_mem (l := xs) i0 i1
  refine ⟨i, rfl, ?_⟩
  have fin := hq d C' hm hB
  cases s with
  | str l =>
    cases hx
    refine .inl ⟨l, ?_⟩
    have i1' : i < l.length := by rw [signs_length'] at i1; exact i1
    obtain ⟨c, hc, hmc⟩ := atI_mem (l := l) i0 i1'
    have e : d = .str [c] := by
      unfold atI at hd hc
      rw [signs_length'] at hd
      unfold ixN at hd hc
      rw [if_pos i0, if_pos i1'] at hd hc
      have hd : (signs l)[i.toNat]? = some d := hd
      have hc : l[i.toNat]? = some c := hc
      unfold signs at hd
      rw [List.getElem?_map, hc] at hd
      exact (Option.some.inj hd).symm
    subst e
    exact ⟨c, rfl, Nat.le_trans (by rw [signs_length'] at hl; omega) (by rw [sizeLine_eq]; decide : 1000000 ≤ sizeLine), hc, _, _, .same, fin⟩
  | ref a => exact .inr ⟨xs, d, seqOf_ne (fun a e => hB.ne e) hs hx, hd, _, _, .same, fin⟩
  | tup ds => exact .inr ⟨xs, d, hx, hd, _, _, .same, fin⟩
  | lst ds => exact .inr ⟨xs, d, hx, hd, _, _, .same, fin⟩
  | rol ds => exact .inr ⟨xs, d, hx, hd, _, _, .same, fin⟩
  | _ => cases hx
where
  signs_length' {l : List Nat} : (signs l).length = l.length := by unfold signs; rw [List.length_map]
end G
namespace G
open PySem PySem.Spec PyProof.Rows L2
local macro_rules | `(tactic| walk_at "d") => `(tactic| dsimp only [dSeq, dAsg, dVar, dC, dOp, dCB, dBM, dBM0, dCons, dNil, dTest, dIf, dAnd, dOr, dNot, dAndV, dOrV, dNotV, dRet, dIfS, dNext, dName, dTup, dLst, dLstC, dCall, dSl, dPart, dNoPart, dUn, dgTup, dgCons, dgNil, dgSub, dDrop, dPar])

/-! ### texts of digits -/
def digits10 : List Nat := [48, 49, 50, 51, 52, 53, 54, 55, 56, 57]
def isDig (c : Nat) : Bool := decide (c ∈ digits10)
def digs (l : List Nat) : Bool := decide (l ≠ []) && l.all isDig
theorem signs_get {l : List Nat} {i : Nat} {x : D} (h : (signs l)[i]? = some x) : ∃ c, l[i]? = some c ∧ x = .str [c] := by
  unfold signs at h
  rw [List.getElem?_map] at h
  cases e : l[i]? with
  | none => rw [e] at h; cases h
  | some c => rw [e] at h; exact ⟨c, rfl, (Option.some.inj h).symm⟩
theorem signs_length (l : List Nat) : (signs l).length = l.length := by unfold signs; rw [List.length_map]
/-- [test of c for c in a text] -/
theorem lc_signs {wi : DI} {l : List Nat} {C1 : Cl} {ρ : DEnv} {g : DG} {te : DE} {vs : List Nat} {Q : DQ} (p : Nat → Bool) (hw : ∀ R : List D → Cl → Prop, R (signs l) C1 → wi ρ C1 R) (hl : l.length ≤ sizeLine)
    (h : ∀ (c : Nat) (C : Cl) (N : DQ), c ∈ l → SubC C1 C → N (.bl (p c)) C → g (.str [c]) (wipeD ρ vs) C fun ρ2 C2 => te ρ2 C2 N) (hq : Q (.lst (bls (l.map p))) C1) :
    dFz (dLc wi g dYes te vs) ρ C1 Q := by
  refine hw _ (lc_map (fun d => match d with | .str [c] => .bl (p c) | _ => .non) (by rw [signs_length]; exact hl) (fun i x C N hx s hN => ?_) ?_)
  · obtain ⟨c, hc, rfl⟩ := signs_get hx
    exact h c C N (List.mem_of_getElem? hc) s hN
  · have e : (signs l).map (fun d => match d with | .str [c] => D.bl (p c) | _ => .non) = bls (l.map p) := by
      unfold signs bls
      rw [List.map_map, List.map_map]
      rfl
    rw [e]
    exact hq
theorem all_map (p : Nat → Bool) (l : List Nat) : (l.map p).all id = l.all p := by rw [List.all_map]; rfl
theorem any_map (p : Nat → Bool) (l : List Nat) : (l.map p).any id = l.any p := by rw [List.any_map]; rfl

end G
namespace G
open PySem PySem.Spec PyProof.Rows L2

/-! ### slices with plain bounds -/
/-! ### a text at its first point -/
theorem parts_none {l : List Nat} (h : 46 ∉ l) : parts3 l [46] = (l, [], []) := by
  unfold parts3
  rw [TL.par_none1 h]
theorem parts_dot {x y : List Nat} (h : 46 ∉ x) : parts3 (x ++ 46 :: y) [46] = (x, [46], y) := by
  unfold parts3
  rw [show x ++ 46 :: y = x ++ ([46] ++ y) from rfl, TL.par_part1 (S := []) h]
  rfl
/-! ### a number text's parts -/
def sgnOf (l : List Nat) : List Nat := if l.take 1 = [43] ∨ l.take 1 = [45] then l.take 1 else []
abbrev NumParts := Option (List Nat × List Nat × Option (List Nat))
def splitN (l : List Nat) : NumParts :=
  let p := parts3 (l.drop (sgnOf l).length) [46]
  if digs p.1 = true then
    if p.2.1 = [] then some (sgnOf l, p.1, none) else if digs p.2.2 = true then some (sgnOf l, p.1, some p.2.2) else none
  else none
def optS : Option (List Nat) → D
  | none => .non
  | some l => .str l
/-- a number text put together -/
def tailN : Option (List Nat) → List Nat
  | none => []
  | some p => 46 :: p
theorem dig_dot {l : List Nat} (h : digs l = true) : 46 ∉ l := by
  intro hm
  unfold digs at h
  rw [Bool.and_eq_true] at h
  have := List.all_eq_true.mp h.2 46 hm
  revert this
  decide
theorem dig_ne {l : List Nat} (h : digs l = true) : l ≠ [] := by
  unfold digs at h
  rw [Bool.and_eq_true] at h
  exact of_decide_eq_true h.1
theorem dig_head {l : List Nat} (h : digs l = true) : ∃ c r, l = c :: r ∧ isDig c = true := by
  cases l with
  | nil => exact absurd rfl (dig_ne h)
  | cons c r =>
    unfold digs at h
    rw [Bool.and_eq_true, List.all_cons, Bool.and_eq_true] at h
    exact ⟨c, r, rfl, h.2.1⟩
theorem splitN_of {s w : List Nat} {o : Option (List Nat)} (hs : s = [] ∨ s = [43] ∨ s = [45]) (hw : digs w = true) (ho : ∀ p, o = some p → digs p = true) : splitN (s ++ w ++ tailN o) = some (s, w, o) := by
  obtain ⟨c, r, rfl, hc⟩ := dig_head hw
  have c43 : c ≠ 43 := by rintro rfl; revert hc; decide
  have c45 : c ≠ 45 := by rintro rfl; revert hc; decide
  have e1 : sgnOf (s ++ (c :: r) ++ tailN o) = s := by
    rcases hs with rfl | rfl | rfl
    · unfold sgnOf
      rw [if_neg]
      rintro (h | h)
      · exact c43 (by simpa using h)
      · exact c45 (by simpa using h)
    · rfl
    · rfl
  have e2 : (s ++ (c :: r) ++ tailN o).drop s.length = (c :: r) ++ tailN o := by
    rw [List.append_assoc, List.drop_left]
  unfold splitN
  rw [e1]
  dsimp only
  rw [e2]
  cases o with
  | none =>
    have e3 : parts3 ((c :: r) ++ tailN none) [46] = (c :: r, [], []) := by
      rw [show (c :: r) ++ tailN none = c :: r from List.append_nil _]
      exact parts_none (dig_dot hw)
    rw [e3]
    dsimp only
    rw [if_pos hw, if_pos rfl]
  | some p =>
    have e3 : parts3 ((c :: r) ++ tailN (some p)) [46] = (c :: r, [46], p) := parts_dot (dig_dot hw)
    rw [e3]
    dsimp only
    rw [if_pos hw, if_neg (by simp), if_pos (ho p rfl)]
/-! ### the law's own way to the parts -/
/-! ### the shortest text of a number -/
def isZ (c : Nat) : Bool := ([48] : List Nat).contains c
def wholeN (w : List Nat) : List Nat := if w.dropWhile isZ ≠ [] then w.dropWhile isZ else [48]
def shortN (s w p : List Nat) : List Nat :=
  let places := rdrop isZ p
  let number := if places ≠ [] then wholeN w ++ [46] ++ places else wholeN w
  if s = [45] ∧ number ≠ [48] then 45 :: number else number
def plainN (l : List Nat) : Option (List Nat) := (splitN l).map fun x => shortN x.1 x.2.1 (x.2.2.getD [])
end G
namespace G
open PySem PySem.Spec PyProof.Rows L2

/-! ### split_number -/
/-! ### shortest -/
/-! ### plain_form -/
end G
namespace G
open PySem PySem.Spec PyProof.Rows L2
/-! ### a new bag -/
def sp_l_bag : DSp := fun ds C Q _ => ∃ (ns : List Int) (k : Nat), ds = [.rol (ns.map D.int), .int k] ∧ k ≤ 1000 ∧ ∀ b C', C b = none → Bagged C b C' 0 → Q (.ref b) C'
def td_l_bag : DS :=
  (dSeq (dAsg (dIf (dTest (dOp rLtD (dVar 1) (dCB rLen (dCons (dVar 0) dNil)))) (dOp rIx (dVar 0) (dVar 1)) (dC (.int 0))) (dName 2))
    (dSeq (dAsg (dIf (dTest (dOp rGeD (dCB rAbs (dCons (dVar 2) dNil)) (dPow (dC (.int 10)) (dC (.int 18))))) (dCB rAbs (dCons (dVar 2) dNil)) (dC (.int 0))) (dName 3))
    (dRet (dLstC (dCons (dVar 3) (dCons (dAdd (dAdd (dMul (dMod (dCB rInt (dCons (dVar 2) dNil)) (dC (.int 2305843009213693951))) (dC (.int 5))) (dMul (dC (.int 6571)) (dVar 1))) (dC (.int 3083))) (dCons (dC (.int 0)) dNil)))))))
theorem len_l_bag (ds : List D) (C : Cl) (Q : DQ) (E : DX) (h : sp_l_bag ds C Q E) : ds.length = 2 := by obtain ⟨_, _, rfl, _⟩ := h; rfl
theorem pure_l_bag (ds : List D) (C : Cl) (Q : DQ) (E : DX) (h : sp_l_bag ds C Q E) : td_l_bag (endsD Q) (startD ["_law_script", "_law_at", "_law_cell", "_law_row"] ds) C := by
  obtain ⟨ns, k, rfl, hk, hq⟩ := h
  have go : ∀ c : Int, (dSeq (dAsg (dIf (dTest (dOp rGeD (dCB rAbs (dCons (dVar 2) dNil)) (dPow (dC (.int 10)) (dC (.int 18))))) (dCB rAbs (dCons (dVar 2) dNil)) (dC (.int 0))) (dName 3))
    (dRet (dLstC (dCons (dVar 3) (dCons (dAdd (dAdd (dMul (dMod (dCB rInt (dCons (dVar 2) dNil)) (dC (.int 2305843009213693951))) (dC (.int 5))) (dMul (dC (.int 6571)) (dVar 1))) (dC (.int 3083))) (dCons (dC (.int 0)) dNil)))))) (endsD Q) [some (.rol (ns.map D.int)), some (.int k), some (.int c), none] C := by
    intro c
    have fin : ∀ r : Int, 0 ≤ r → dRet (dLstC (dCons (dVar 3) (dCons (dAdd (dAdd (dMul (dMod (dCB rInt (dCons (dVar 2) dNil)) (dC (.int 2305843009213693951))) (dC (.int 5))) (dMul (dC (.int 6571)) (dVar 1))) (dC (.int 3083))) (dCons (dC (.int 0)) dNil)))) (endsD Q) [some (.rol (ns.map D.int)), some (.int k), some (.int c), some (.int r)] C := by
      intro r r0
      have b0 := Int.emod_nonneg c (show (2305843009213693951 : Int) ≠ 0 by decide)
      have b1 := Int.emod_lt_of_pos c (show (0 : Int) < 2305843009213693951 by decide)
      refine ⟨_, rfl, _, rfl, .inl ⟨_, rfl, _, _, rfl, rfl, (show (0 : Int) < 2305843009213693951 by decide), .inl ⟨_, _, rfl, rfl, ?_, _, rfl, .inl ⟨_, _, rfl, rfl, ?_, _, rfl, trivial, _, rfl, trivial, szl (by simp), fun p hp => ?_⟩⟩⟩⟩
      · exact .inr ⟨by decide, by decide⟩
      · exact .inl ⟨by decide, by omega⟩
      refine ⟨_, _, .same, hq _ _ hp ⟨r, _, 0, rfl, r0, ?_, ?_, by omega, by omega⟩⟩
      · show 0 ≤ c % 2305843009213693951 * 5 + 6571 * (k : Int) + 3083; omega
      · show c % 2305843009213693951 * 5 + 6571 * (k : Int) + 3083 ≤ _; omega
    refine ⟨_, rfl, c, rfl, _, _, rfl, rfl, ⟨by decide, by decide, by decide⟩, _, rfl, trivial, _, rfl, ite_d (fun h => ?_) (fun h => ?_)⟩
    · refine ⟨_, rfl, _, rfl, fin _ ?_⟩
      split <;> omega
    · exact fin 0 (by omega)
  refine ⟨_, rfl, _, rfl, _, _, rfl, rfl, trivial, _, rfl, trivial, _, rfl, ite_d (fun h => ?_) (fun h => ?_)⟩
  · have hl : k < ns.length := by
      have : (ns.map D.int).length = ns.length := List.length_map ..
      omega
    refine ⟨_, rfl, _, rfl, _, rfl, .inr ⟨_, .int ns[k], rfl, ?_, go _⟩⟩
    unfold atI ixN
    rw [if_pos (by omega), List.length_map, if_pos (by omega)]
    show (ns.map D.int)[(k : Int).toNat]? = _
    rw [List.getElem?_map, Int.toNat_natCast, List.getElem?_eq_getElem hl]
    rfl
  · exact go 0

/-! ### drawn digits -/
def sp_l_digits : DSp := fun ds C Q _ => ∃ b lo hi n, ds = [.ref b, .int (lo : Nat), .int (hi : Nat)] ∧ lo ≤ hi ∧ hi ≤ 1000 ∧ BagAt C b n ∧ n < 10000000000 ∧ ∀ l C', l.all isDig = true → lo ≤ l.length → l.length ≤ hi → Bagged C b C' (n + 2000) → Q (.str l) C'
def td_l_digits : DS :=
  (dSeq (dAsg (dC (.str [])) (dName 3))
    (dSeq (dFor (diRng1 (dCons (dAdd (dVar 1) (dCall sp_l_take [] (dCons (dVar 0) (dCons (dAdd (dSub (dVar 2) (dVar 1)) (dC (.int 1))) dNil)))) dNil)) (dName 4)
    (dAsg (dAdd (dVar 3) (dCall sp_l_of [] (dCons (dVar 0) (dCons (dC (.str [48, 48, 48, 49, 50, 51, 52, 53, 54, 55, 56, 57])) dNil)))) (dName 3)))
    (dRet (dVar 3))))
theorem len_l_digits (ds : List D) (C : Cl) (Q : DQ) (E : DX) (h : sp_l_digits ds C Q E) : ds.length = 3 := by obtain ⟨_, _, _, _, rfl, _⟩ := h; rfl
theorem pure_l_digits (ds : List D) (C : Cl) (Q : DQ) (E : DX) (h : sp_l_digits ds C Q E) : td_l_digits (endsD Q) (startD ["_law_bag_here", "_law_least", "_law_most", "_law_found", "_law_turn"] ds) C := by
  obtain ⟨b, lo, hi, n, rfl, h1, h2, hb, hn, hq⟩ := h
  refine ⟨_, rfl, _, rfl, _, rfl, _, rfl, _, rfl, trivial, _, rfl, trivial, b, (hi : Int) - lo + 1, n, rfl, by omega, by omega, hb, by omega, fun i C1 i0 i1 hB => ?_⟩
  refine ⟨_, rfl, trivial, _, rfl, ⟨by omega, by omega⟩, fun k ρ C2 => ∃ l x, ρ = [some (.ref b), some (.int lo), some (.int hi), some (.str l), x] ∧ l.all isDig = true ∧ l.length = k ∧ Bagged C b C2 (n + 1 + k), ⟨[], none, rfl, rfl, rfl, hB⟩, ?_, ?_⟩
  · rintro k d ρ C2 hx ⟨l, x, rfl, hd, hl, hB2⟩
    obtain ⟨hk, rfl⟩ := ranged_get hx
    refine ⟨_, rfl, _, rfl, b, _, signs [48, 48, 48, 49, 50, 51, 52, 53, 54, 55, 56, 57], n + 1 + k, rfl, rfl, nofun, by decide, by decide, hB2.at, by omega, fun d C3 hm hB3 => ?_⟩
    unfold signs at hm
    obtain ⟨c, hc, rfl⟩ := List.mem_map.mp hm
    refine ⟨_, rfl, szl ?_, l ++ [c], _, rfl, ?_, ?_, ?_⟩
    · show (l ++ [c]).length ≤ _
      rw [List.length_append, List.length_singleton]; omega
    · rw [List.all_append, hd, List.all_cons, List.all_nil, Bool.and_true, Bool.true_and]
      revert hc
      simp only [List.mem_cons, List.not_mem_nil, or_false]
      rintro (rfl | rfl | rfl | rfl | rfl | rfl | rfl | rfl | rfl | rfl | rfl | rfl) <;> decide
    · rw [List.length_append, hl, List.length_singleton]
    · have := hB2.trans hB3
      exact this.mono (by omega)
  · rintro ρ C2 ⟨l, x, rfl, hd, hl, hB2⟩
    rw [ranged_length] at hl hB2
    exact ⟨_, rfl, _, _, .same, hq _ _ hd (by omega) (by omega) (hB2.mono (by omega))⟩

/-! ### a drawn number text -/
def sp_l_number : DSp := fun ds C Q _ => ∃ b m n, ds = [.ref b, .int (m : Nat)] ∧ 1 ≤ m ∧ m ≤ 1000 ∧ BagAt C b n ∧ n < 1000000000 ∧
  ∀ s w o C', (s = [] ∨ s = [45] ∨ s = [43]) → digs w = true → w.length ≤ m → (∀ p, o = some p → digs p = true ∧ p.length ≤ m) → Bagged C b C' (n + 10000) → Q (.str (s ++ w ++ tailN o)) C'
def td_l_number : DS :=
  (dSeq (dAsg (dCall sp_l_of [] (dCons (dVar 0) (dCons (dLst (dCons (dC (.str [])) (dCons (dC (.str [])) (dCons (dC (.str [])) (dCons (dC (.str [45])) (dCons (dC (.str [43])) dNil)))))) dNil))) (dName 2))
    (dSeq (dAsg (dCall sp_l_digits [] (dCons (dVar 0) (dCons (dC (.int 1)) (dCons (dVar 1) dNil)))) (dName 3))
    (dSeq (dIfS (dTest (dOp rEqD (dCall sp_l_take [] (dCons (dVar 0) (dCons (dC (.int 2)) dNil))) (dC (.int 0)))) (dRet (dAdd (dVar 2) (dVar 3))) dNext)
    (dRet (dAdd (dAdd (dAdd (dVar 2) (dVar 3)) (dC (.str [46]))) (dCall sp_l_digits [] (dCons (dVar 0) (dCons (dC (.int 1)) (dCons (dVar 1) dNil)))))))))
theorem len_l_number (ds : List D) (C : Cl) (Q : DQ) (E : DX) (h : sp_l_number ds C Q E) : ds.length = 2 := by obtain ⟨_, _, _, rfl, _⟩ := h; rfl
theorem digs_of {l : List Nat} (h : l.all isDig = true) (h1 : 1 ≤ l.length) : digs l = true := by
  unfold digs
  rw [h, Bool.and_true]
  cases l with
  | nil => exact absurd h1 (by simp)
  | cons => rfl
theorem pure_l_number (ds : List D) (C : Cl) (Q : DQ) (E : DX) (h : sp_l_number ds C Q E) : td_l_number (endsD Q) (startD ["_law_bag_here", "_law_most", "_law_sign", "_law_before"] ds) C := by
  obtain ⟨b, m, n, rfl, h1, h2, hb, hn, hq⟩ := h
  refine ⟨_, rfl, szl (by simp), b, _, _, n, rfl, rfl, nofun, by simp, by simp, hb, by omega, fun d C1 hm B1 => ?_⟩
  have : ∃ s : List Nat, d = .str s ∧ (s = [] ∨ s = [45] ∨ s = [43]) := by
    simp only [List.mem_cons, List.not_mem_nil, or_false] at hm
    rcases hm with rfl | rfl | rfl | rfl | rfl <;> exact ⟨_, rfl, by simp⟩
  obtain ⟨s, rfl, hs⟩ := this
  have hsl : s.length ≤ 1 := by rcases hs with rfl | rfl | rfl <;> simp
  refine ⟨_, rfl, _, rfl, b, 1, m, n + 1, rfl, by omega, by omega, B1.at, by omega, fun w C2 w1 w2 w3 B2 => ?_⟩
  refine ⟨_, rfl, b, 2, n + 2001, rfl, by omega, by omega, B2.at, by omega, fun i C3 i0 i1 B3 => ?_⟩
  have B3' := (B1.trans B2).trans B3
  refine .inl ⟨_, rfl, _, rfl, ite_d (fun hi => ?_) (fun hi => ?_)⟩
  · refine ⟨_, rfl, _, rfl, _, rfl, szl (by rw [List.length_append]; omega), _, _, .same, ?_⟩
    have := hq s w none C3 hs (digs_of w1 w2) w3 nofun (B3'.mono (by omega))
    rw [tailN, List.append_nil] at this
    exact this
  · refine ⟨_, rfl, _, rfl, _, rfl, szl (by rw [List.length_append]; omega), _, rfl, szl (by simp only [List.length_append, List.length_cons, List.length_nil]; omega), _, rfl, _, rfl, b, 1, m, n + 2002, rfl, by omega, by omega, B3.at, by omega, fun p C4 p1 p2 p3 B4 => ?_⟩
    refine ⟨_, rfl, szl (by simp only [List.length_append, List.length_cons, List.length_nil]; omega), _, _, .same, ?_⟩
    have := hq s w (some p) C4 hs (digs_of w1 w2) w3 (fun q e => by cases e; exact ⟨digs_of p1 p2, p3⟩) ((B3'.trans B4).mono (by omega))
    rw [tailN] at this
    rw [List.append_assoc (s ++ w)]
    exact this
end G
namespace G
open PySem PySem.Spec PyProof.Rows L2
/-! ### the law's own number split -/
local macro_rules | `(tactic| walk_at "d") => `(tactic| dsimp only [dSeq, dAsg, dVar, dC, dOp, dCB, dBM, dBM0, dCons, dNil, dTest, dIf, dAnd, dOr, dNot, dAndV, dOrV, dNotV, dRet, dIfS, dNext, dName, dTup, dLst, dLstC, dCall, dSl, dPart, dNoPart, dUn, dgTup, dgCons, dgNil, dgSub, dDrop, dPar])
theorem flat_txts (ps : List (List Nat)) : (txts ps).all flatD = true := by
  unfold txts
  rw [List.all_map]
  exact List.all_eq_true.mpr fun _ _ => rfl
theorem txts_length (ps : List (List Nat)) : (txts ps).length = ps.length := List.length_map ..
theorem join_le : ∀ (ls : List (List Nat)), (TL.joinL [] ls).length ≤ (ls.map List.length).sum
  | [] => Nat.le_refl _
  | [x] => by simp [TL.joinL]
  | x :: y :: r => by
    have := join_le (y :: r)
    show (x ++ ([] ++ TL.joinL [] (y :: r))).length ≤ _
    rw [List.nil_append, List.length_append, List.map_cons, List.sum_cons]
    omega
end G
namespace G
open PySem PySem.Spec PyProof.Rows L2
/-! ### the law's own shortest -/
theorem shortN_eq (s w p : List Nat) : shortN s w p = if rdrop isZ p = [] ∧ wholeN w = [48] then [48] else (if s = [45] then [45] else []) ++ wholeN w ++ (if rdrop isZ p ≠ [] then [46] else []) ++ rdrop isZ p := by
  unfold shortN
  dsimp only
  generalize rdrop isZ p = q
  generalize wholeN w = v
  by_cases h1 : q = []
  · subst h1
    rw [if_neg (show ¬ ([] : List Nat) ≠ [] from fun h => h rfl), if_neg (show ¬ ([] : List Nat) ≠ [] from fun h => h rfl)]
    by_cases h2 : v = [48]
    · subst h2
      rw [if_neg (fun h => h.2 rfl), if_pos ⟨rfl, rfl⟩]
    · rw [if_neg (fun h : _ ∧ v = [48] => h2 h.2)]
      by_cases h3 : s = [45]
      · rw [if_pos ⟨h3, h2⟩, if_pos h3, List.append_nil, List.append_nil]; rfl
      · rw [if_neg (fun h => h3 h.1), if_neg h3, List.append_nil, List.append_nil]; rfl
  · rw [if_pos h1, if_pos h1, if_neg (fun h : q = [] ∧ _ => h1 h.1)]
    have hn : v ++ [46] ++ q ≠ [48] := by
      intro h
      have : (46 : Nat) ∈ ([48] : List Nat) := by rw [← h]; simp
      simp at this
    by_cases h3 : s = [45]
    · rw [if_pos ⟨h3, hn⟩, if_pos h3]; rfl
    · rw [if_neg (fun h => h3 h.1), if_neg h3]; rfl
/-! ### the law's own plain form -/
/-! ### plain forms -/
/-- a plain form: its sign, its digits ahead and behind -/
structure Canon (s w p : List Nat) : Prop where
  sg : s = [] ∨ s = [45]
  dw : digs w = true
  ww : wholeN w = w
  dp : p.all isDig = true
  pp : rdrop isZ p = p
  nz : ¬ (s = [45] ∧ w = [48] ∧ p = [])
def canT (s w p : List Nat) : List Nat := s ++ w ++ (if p ≠ [] then 46 :: p else [])
def ptail (p : List Nat) : Option (List Nat) := if p ≠ [] then some p else none
theorem canT_tail (s w p : List Nat) : canT s w p = s ++ w ++ tailN (ptail p) := by
  unfold canT ptail
  split <;> rfl
theorem Canon.short {s w p : List Nat} (h : Canon s w p) {z : List Nat} (hz : rdrop isZ z = p) : shortN s w z = canT s w p := by
  rw [shortN_eq, hz, h.ww]
  unfold canT
  by_cases c : p = [] ∧ w = [48]
  · rw [if_pos c]
    have : s = [] := by
      rcases h.sg with e | e
      · exact e
      · exact absurd ⟨e, c.2, c.1⟩ h.nz
    rw [this, c.1, c.2]; rfl
  · rw [if_neg c, List.append_assoc]
    congr 1
    · congr 1
      rcases h.sg with e | e <;> rw [e] <;> rfl
    · split
      · rfl
      · rename_i h1
        rw [Classical.not_not.mp h1]; rfl
theorem Canon.split {s w p : List Nat} (h : Canon s w p) : splitN (canT s w p) = some (s, w, ptail p) := by
  rw [canT_tail]
  refine splitN_of ?_ h.dw ?_
  · rcases h.sg with e | e
    · exact .inl e
    · exact .inr (.inr e)
  · intro q hq
    unfold ptail at hq
    split at hq
    · rename_i hp
      cases hq
      unfold digs
      rw [h.dp, decide_eq_true hp]; rfl
    · cases hq
theorem ptail_get (p : List Nat) : (ptail p).getD [] = p := by
  unfold ptail
  split
  · rfl
  · rename_i h; exact (Classical.not_not.mp h).symm
theorem Canon.plain {s w p : List Nat} (h : Canon s w p) : plainN (canT s w p) = some (canT s w p) := by
  unfold plainN
  rw [h.split]
  show some (shortN s w ((ptail p).getD [])) = _
  rw [ptail_get, h.short h.pp]
theorem Canon.len {s w p : List Nat} (h : Canon s w p) : (canT s w p).length ≤ w.length + p.length + 2 := by
  unfold canT
  rcases h.sg with e | e <;> rw [e] <;> split <;> simp <;> omega
end G
namespace G
open PySem PySem.Spec PyProof.Rows L2
/-! ### padding -/
structure NumT (s w q : List Nat) : Prop where
  sg : s = [] ∨ s = [45]
  dw : digs w = true
  dq : q.all isDig = true
theorem Canon.num {s w p : List Nat} (h : Canon s w p) : NumT s w p := ⟨h.sg, h.dw, h.dp⟩
section
variable {s w q : List Nat} (h : NumT s w q)
include h
theorem NumT.head : 46 ∉ s ++ w := by
  rw [List.mem_append]
  rintro (z | z)
  · rcases h.sg with e | e <;> rw [e] at z <;> simp at z
  · exact dig_dot h.dw z
theorem NumT.behind : 46 ∉ q := by
  intro z
  have := List.all_eq_true.mp h.dq 46 z
  revert this
  decide
theorem NumT.parts : parts3 (canT s w q) [46] = (s ++ w, if q ≠ [] then [46] else [], q) := by
  unfold canT
  by_cases e : q = []
  · subst e
    show parts3 (s ++ w ++ []) [46] = (s ++ w, [], [])
    rw [List.append_nil, parts_none h.head]
  · rw [if_pos e, if_pos e, parts_dot h.head]
theorem NumT.split : splitN (canT s w q) = some (s, w, ptail q) := by
  rw [canT_tail]
  refine splitN_of ?_ h.dw ?_
  · rcases h.sg with e | e
    · exact .inl e
    · exact .inr (.inr e)
  · intro z hq
    unfold ptail at hq
    split at hq
    · rename_i hp
      cases hq
      unfold digs
      rw [h.dq, decide_eq_true hp]; rfl
    · cases hq
theorem NumT.plain : plainN (canT s w q) = some (shortN s w q) := by
  unfold plainN
  rw [h.split]
  show some (shortN s w ((ptail q).getD [])) = _
  rw [ptail_get]
theorem NumT.len : (canT s w q).length ≤ w.length + q.length + 2 := by
  unfold canT
  rcases h.sg with e | e <;> rw [e] <;> split <;> simp <;> omega
end
end G
namespace G
open PySem PySem.Spec PyProof.Rows L2
/-! ### a law: its script, its answer -/
theorem rep_nums {K : PySem.W.Frag} {cl : Nm} {F : Hp} : ∀ ns : List Int, RepL K cl F (ns.map V.int) (ns.map D.int)
  | [] => .nil
  | n :: ns => .cons (.int n) (rep_nums ns)
/-- range(max(1, min(m, len(script)))) -/
theorem law_rng {ns : List Int} {m : Int} {ρ : DEnv} {C : Cl} {R : List D → Cl → Prop} (h0 : ρ[0]? = some (some (.rol (ns.map D.int)))) (hl : ns.length ≤ 63) (h : ∀ k, k ≤ 63 → R (ranged 0 k) C) :
    diRng1 (dCons (dCB rMax2 (dCons (dC (.int 1)) (dCons (dCB rMin2 (dCons (dC (.int m)) (dCons (dCB rLen (dCons (dVar 0) dNil)) dNil))) dNil))) dNil) ρ C R := by
  refine ⟨_, h0, _, _, rfl, rfl, trivial, _, _, rfl, _, _, rfl, _, rfl, ?_, ?_⟩
  · have : (ns.map D.int).length = ns.length := List.length_map ..
    repeat' split
    all_goals omega
  · refine h _ ?_
    have : (ns.map D.int).length = ns.length := List.length_map ..
    repeat' split
    all_goals omega
end G
namespace G
open PySem PySem.Spec PyProof.Rows L2
/-! ### the classes' addresses -/
def nm1 (c : String) (C : Addr) (r : Nm) : Nm := fun x => if x = c then C else r x
end G
namespace G
open PySem PySem.Spec PyProof.Rows L2
/-! ### a law some of whose defs make lambdas: the tables stand at the start -/
def sp_lawT (qs : List String) : DSp := fun ds C Q _ => ∃ ns : List Int, ds = [.rol (ns.map D.int)] ∧ ns.length ≤ 63 ∧ (∀ q ∈ qs, ∃ P, C P = some (.tbl q)) ∧ ∀ C', Q (.bl true) C'
theorem len_lawT {qs : List String} (ds : List D) (C : Cl) (Q : DQ) (E : DX) (h : sp_lawT qs ds C Q E) : ds.length = 1 := by obtain ⟨_, rfl, _⟩ := h; rfl
theorem law_inT {K : PySem.W.Frag} {cl : Nm} {H : Hp} {a : Addr} {E : XK} (qs : List String) (ns : List Int) (hl : ns.length ≤ 63) (hH : ∀ q ∈ qs, H (cl q) = some (.tbl #[])) (hinj : ∀ q ∈ qs, ∀ r ∈ qs, cl q = cl r → q = r) (hS : SqL K H a (ns.map V.int)) :
    lowSp K cl (sp_lawT qs) [.ref a] H (fun v _ => v = .bl true) E := by
  classical
  let C : Cl := fun b => if h : ∃ q ∈ qs, cl q = b then some (.tbl h.choose) else none
  have hC : ∀ {b c}, C b = some c → ∃ q ∈ qs, cl q = b ∧ c = .tbl q := fun {b c} e => by
    simp only [C] at e
    split at e
    · rename_i h
      cases e
      exact ⟨_, h.choose_spec.1, h.choose_spec.2, rfl⟩
    · cases e
  have CH : ∀ q ∈ qs, C (cl q) = some (.tbl q) := fun q hq => by
    simp only [C]
    have h : ∃ r ∈ qs, cl r = cl q := ⟨q, hq, rfl⟩
    rw [dif_pos h]
    exact congrArg (fun z => some (Cell.tbl z)) (hinj _ h.choose_spec.1 q hq h.choose_spec.2)
  let F : Hp := fun b => match H b with
    | some (.tbl _) => none
    | o => o
  have hF : ∀ {b o}, F b = some o → H b = some o := fun {b o} e => by
    simp only [F] at e
    split at e
    · cases e
    · exact e
  have sF : SqL K F a (ns.map V.int) := by
    rcases hS with (h | ⟨o, h⟩) | h
    · exact .inl (.inl (by simp only [F, h]))
    · exact .inl (.inr ⟨o, by simp only [F, h]⟩)
    · exact .inr h
  refine ⟨[.rol (ns.map D.int)], C, F, fun d _ => d = .bl true, fun _ _ _ => False, ⟨fun b o e => hF e, fun b c e => ?_, fun b q e => ?_⟩, .cons (.rol sF (rep_nums ns)) .nil, ⟨ns, rfl, hl, fun q hq => ⟨_, CH q hq⟩, fun _ => rfl⟩,
    fun v d C H F' s R r e => by subst e; cases r; rfl, fun _ _ _ _ _ _ _ _ _ _ z => z.elim⟩
  · obtain ⟨q, hq, rfl, rfl⟩ := hC e
    have e1 := hH q hq
    refine ⟨by simp only [F, e1], _, e1, .tbl trivial fun pos cv z => ?_⟩
    have z' : codeAmong pos [] = some cv := z
    simp [codeAmong] at z'
  · obtain ⟨r, hr, e1, e2⟩ := hC e
    cases e2
    exact e1.symm
end G
namespace G
open PySem PySem.Spec PyProof.Rows L2
/-! ### lists of drawn things -/
theorem updC_comm {C : Cl} {a b : Addr} {c d : Cell} (h : a ≠ b) : updC (updC C a c) b d = updC (updC C b d) a c := by
  funext x
  unfold updC
  by_cases e : x = a
  · subst e; rw [if_neg h, if_pos rfl, if_pos rfl]
  · rw [if_neg e]
    by_cases e2 : x = b
    · rw [if_pos e2, if_neg e]
    · rw [if_neg e2, if_neg e]
theorem delC_updC {C : Cl} {p : Addr} {c : Cell} (h : C p = none) : delC (updC C p c) p = C := by
  funext x
  unfold delC
  by_cases e : x = p
  · rw [if_pos e, e, h]
  · rw [if_neg e, updC_ne e]
theorem BagAt.ne {C : Cl} {b p : Addr} {n : Nat} (h : BagAt C b n) (e : C p = none) : b ≠ p := by
  rintro rfl
  obtain ⟨x, y, z, hc, _⟩ := h
  rw [e] at hc; cases hc
theorem BagAt.upd {C : Cl} {b p : Addr} {c : Cell} {n : Nat} (h : BagAt C b n) (e : b ≠ p) : BagAt (updC C p c) b n := by
  obtain ⟨x, y, z, hc, g⟩ := h
  exact ⟨x, y, z, by rw [updC_ne e]; exact hc, g⟩
theorem lc_bag {g : DG} {te : DE} {ρ : DEnv} {vs : List Nat} {C1 : Cl} {b : Addr} {n k : Nat} {xs : List D} {Q : DQ} (Y : D → Prop) (hb : BagAt C1 b n) (hl : xs.length ≤ sizeLine)
    (h : ∀ i x C (N : DQ), xs[i]? = some x → BagAt C b (n + i * k) → (∀ a, C1 a ≠ none → a ≠ b → C a = C1 a) → (∀ y C', Y y → Bagged C b C' (n + (i + 1) * k) → N y C') → g x (wipeD ρ vs) C fun ρ2 C2 => te ρ2 C2 N)
    (hq : ∀ ys C', ys.length = xs.length → (∀ y ∈ ys, Y y) → Bagged C1 b C' (n + xs.length * k) → Q (.lst ys) C') :
    ∀ p, C1 p = none → ∃ Pv : Nat → Cl → Prop, Pv 0 (updC C1 p (.lst [])) ∧
      (∀ i x C, xs[i]? = some x → Pv i C → g x (wipeD ρ vs) C fun ρ2 C2 => dYes ρ2 C2 fun b C3 =>
        if b = true then te ρ2 C3 fun y C4 => ∃ acc, C4 p = some (.lst acc) ∧ acc.length < sizeLine ∧ Pv (i + 1) (updC C4 p (.lst (acc ++ [y]))) else Pv (i + 1) C3) ∧
      ∀ C, Pv xs.length C → ∃ a ds, D.ref p = .ref a ∧ C a = some (.lst ds) ∧ Q (.lst ds) (delC C a) := by
  intro p hp
  refine ⟨fun i C => ∃ ys C', C = updC C' p (.lst ys) ∧ ys.length = i ∧ (∀ y ∈ ys, Y y) ∧ Bagged C1 b C' (n + i * k), ⟨[], C1, rfl, rfl, nofun, by rw [Nat.zero_mul]; exact hb.self⟩, ?_, ?_⟩
  · rintro i x C hx ⟨ys, C', rfl, hyl, hY, B⟩
    have bp := hb.ne hp
    have i1 : i < xs.length := (List.getElem?_eq_some_iff.mp hx).1
    refine h i x _ _ hx (B.at.upd bp) (fun a ha hab => ?_) fun y C2 hy B2 => ?_
    · have : a ≠ p := by rintro rfl; exact ha hp
      rw [updC_ne this]
      exact B.ne hab
    · obtain ⟨u1, u2, u3, rfl, G2⟩ := B2
      obtain ⟨v1, v2, v3, rfl, G1⟩ := B
      refine ⟨ys, by rw [updC_ne (Ne.symm bp), updC_same], by omega, ys ++ [y], updC C1 b (bagC u1 u2 u3), ?_, by rw [List.length_append, hyl, List.length_singleton], ?_, ⟨u1, u2, u3, rfl, G2⟩⟩
      · rw [updC_comm (C := updC C1 b (bagC v1 v2 v3)) (Ne.symm bp), updC_updC, updC_updC]
      · intro z hz
        rcases List.mem_append.mp hz with e | e
        · exact hY z e
        · rw [List.mem_singleton.mp e]; exact hy
  · rintro C ⟨ys, C', rfl, hyl, hY, B⟩
    refine ⟨p, ys, rfl, updC_same, ?_⟩
    have bp := hb.ne hp
    rw [delC_updC (by rw [B.ne (Ne.symm bp), hp])]
    exact hq ys C' hyl hY B
/-- drawn texts put together -/
theorem txts_of {P : List Nat → Prop} : ∀ {ys : List D}, (∀ y ∈ ys, ∃ l, y = .str l ∧ P l) → ∃ ls : List (List Nat), ys = txts ls ∧ ∀ l ∈ ls, P l
  | [], _ => ⟨[], rfl, nofun⟩
  | y :: ys, h => by
    obtain ⟨l, rfl, hl⟩ := h y (by simp)
    obtain ⟨ls, rfl, hs⟩ := txts_of (P := P) (ys := ys) fun z hz => h z (by simp [hz])
    exact ⟨l :: ls, rfl, fun z hz => by
      rcases List.mem_cons.mp hz with e | e
      · rw [e]; exact hl
      · exact hs z e⟩
theorem sum_le {m : Nat} : ∀ {ls : List (List Nat)}, (∀ l ∈ ls, l.length ≤ m) → (ls.map List.length).sum ≤ ls.length * m
  | [], _ => Nat.zero_le _
  | l :: ls, h => by
    have := sum_le (m := m) (ls := ls) fun z hz => h z (by simp [hz])
    have := h l (by simp)
    simp only [List.map_cons, List.sum_cons, List.length_cons, Nat.add_mul]
    omega

/-! ### any sign, any text -/
def sgns1 : List Nat := [32, 33, 34, 35, 36, 38, 39, 40, 41, 42, 43, 44, 45, 46, 47, 48, 49, 50, 51, 52, 53, 54, 55, 56, 57, 58, 59, 60, 61, 62, 63, 64, 65, 66, 67, 68, 69, 70, 71, 72, 73, 74, 75, 76, 77, 78, 79, 80, 81, 82, 83, 84, 85, 86, 87, 88, 89, 90, 91, 92, 93, 94, 95]
def sgns2 : List Nat := [96, 97, 98, 99, 100, 101, 102, 103, 104, 105, 106, 107, 108, 109, 110, 111, 112, 113, 114, 115, 116, 117, 118, 119, 120, 121, 122, 123, 124, 125, 126]
def sp_l_signs : DSp := fun ds C Q _ => ds = [] ∧ Q (.str (sgns1 ++ sgns2)) C
def td_l_signs : DS :=
  (dSeq (dAsg (dC (.str [32, 33, 34, 35, 36, 38, 39, 40, 41, 42, 43, 44, 45, 46, 47, 48, 49, 50, 51, 52, 53, 54, 55, 56, 57, 58, 59, 60, 61, 62, 63, 64, 65, 66, 67, 68, 69, 70, 71, 72, 73, 74, 75, 76, 77, 78, 79, 80, 81, 82, 83, 84, 85, 86, 87, 88, 89, 90, 91, 92, 93, 94, 95])) (dName 0))
    (dRet (dAdd (dVar 0) (dC (.str [96, 97, 98, 99, 100, 101, 102, 103, 104, 105, 106, 107, 108, 109, 110, 111, 112, 113, 114, 115, 116, 117, 118, 119, 120, 121, 122, 123, 124, 125, 126])))))
theorem len_l_signs (ds : List D) (C : Cl) (Q : DQ) (E : DX) (h : sp_l_signs ds C Q E) : ds.length = 0 := by obtain ⟨rfl, _⟩ := h; rfl
theorem pure_l_signs (ds : List D) (C : Cl) (Q : DQ) (E : DX) (h : sp_l_signs ds C Q E) : td_l_signs (endsD Q) (startD ["_law_some"] ds) C := by
  obtain ⟨rfl, hq⟩ := h
  exact ⟨_, rfl, _, rfl, szl (by simp), _, _, .same, hq⟩
theorem mem_signs {l : List Nat} {d : D} (h : d ∈ signs l) : ∃ c, d = .str [c] ∧ c ∈ l := by
  unfold signs at h
  obtain ⟨c, hc, rfl⟩ := List.mem_map.mp h
  exact ⟨c, rfl, hc⟩
/-- signs that may stand in a text -/
def okSign (c : Nat) : Bool := decide (32 ≤ c ∧ c ≤ 126) && decide (c ≠ 37)
theorem all_join {p : Nat → Bool} : ∀ {ls : List (List Nat)}, (∀ l ∈ ls, l.all p = true) → (TL.joinL [] ls).all p = true
  | [], _ => rfl
  | [x], h => h x (by simp)
  | x :: y :: r, h => by
    have := all_join (p := p) (ls := y :: r) fun z hz => h z (by simp [hz])
    show (x ++ ([] ++ TL.joinL [] (y :: r))).all p = true
    rw [List.nil_append, List.all_append, h x (by simp), this]
    rfl
theorem dig_ok {l : List Nat} (h : digs l = true) : l.all okSign = true := by
  unfold digs at h
  rw [Bool.and_eq_true] at h
  rw [List.all_eq_true] at h ⊢
  intro c hc
  have := h.2 c hc
  unfold isDig digits10 at this
  have this := of_decide_eq_true this
  simp only [List.mem_cons, List.not_mem_nil, or_false] at this
  rcases this with rfl | rfl | rfl | rfl | rfl | rfl | rfl | rfl | rfl | rfl <;> decide
/-- a text that does not end with eight q -/
def noQ (l : List Nat) : Bool := !(l.reverse.take 8 == List.replicate 8 113)
theorem noQ_of {l : List Nat} (h : l.reverse.take 8 ≠ List.replicate 8 113) : noQ l = true := by
  unfold noQ
  rw [beq_eq_false_iff_ne.mpr h]; rfl
theorem noQ_short {l : List Nat} (h : l.length < 8) : noQ l = true := noQ_of fun e => by
  have := congrArg List.length e
  rw [List.length_take, List.length_reverse, List.length_replicate] at this
  omega
theorem noQ_mem {l : List Nat} (h : 113 ∉ l) : noQ l = true := noQ_of fun e => by
  have : 113 ∈ l.reverse.take 8 := by rw [e]; decide
  exact h (List.mem_reverse.mp (List.mem_of_mem_take this))
theorem noQ_z {l : List Nat} : noQ (l ++ [122]) = true := noQ_of fun e => by
  rw [List.reverse_append] at e
  cases e
theorem dig_noQ {l : List Nat} (h : digs l = true) : 113 ∉ l := fun hm => by
  unfold digs at h
  rw [Bool.and_eq_true] at h
  have := List.all_eq_true.mp h.2 _ hm
  exact absurd this (by decide)
/-- any text of at most thirty signs -/
def sp_l_text : DSp := fun ds C Q _ => ∃ b n, ds = [.ref b] ∧ BagAt C b n ∧ n < 500000000 ∧ ∀ l C', l.length ≤ 30 → l.all okSign = true → noQ l = true → Bagged C b C' (n + 20000) → Q (.str l) C'
def td_l_text : DS :=
  (dSeq (dAsg (dCall sp_l_take [] (dCons (dVar 0) (dCons (dC (.int 5)) dNil))) (dName 1))
    (dSeq (dIfS (dTest (dOp rEqD (dVar 1) (dC (.int 0)))) (dRet (dBM "str" rJoin (dC (.str [])) (dCons (dFz (dLc (diRng1 (dCons (dCall sp_l_take [] (dCons (dVar 0) (dCons (dC (.int 7)) dNil))) dNil)) (dName 2) dYes (dCall sp_l_of [] (dCons (dVar 0) (dCons (dCall sp_l_signs [] dNil) dNil))) [2])) dNil))) dNext)
    (dSeq (dIfS (dTest (dOp rEqD (dVar 1) (dC (.int 1)))) (dRet (dBM "str" rJoin (dC (.str [])) (dCons (dFz (dLc (diRng1 (dCons (dCall sp_l_take [] (dCons (dVar 0) (dCons (dC (.int 7)) dNil))) dNil)) (dName 2) dYes (dCall sp_l_of [] (dCons (dVar 0) (dCons (dC (.str [48, 48, 49, 57, 43, 45, 46, 32])) dNil))) [2])) dNil))) dNext)
    (dSeq (dIfS (dTest (dOp rEqD (dVar 1) (dC (.int 2)))) (dRet (dCall sp_l_of [] (dCons (dVar 0) (dCons (dLst (dCons (dC (.str [])) (dCons (dC (.str [78, 65])) (dCons (dC (.str [121, 101, 115])) (dCons (dC (.str [110, 111])) (dCons (dC (.str [120])) (dCons (dC (.str [116, 114, 117, 101])) (dCons (dC (.str [45])) (dCons (dC (.str [49])) (dCons (dC (.str [48])) (dCons (dC (.str [48, 48])) (dCons (dC (.str [48, 49])) (dCons (dC (.str [49, 46, 48])) (dCons (dC (.str [45, 48])) (dCons (dC (.str [43, 49])) dNil))))))))))))))) dNil)))) dNext)
    (dRet (dCall sp_l_number [] (dCons (dVar 0) (dCons (dC (.int 4)) dNil))))))))
theorem len_l_text (ds : List D) (C : Cl) (Q : DQ) (E : DX) (h : sp_l_text ds C Q E) : ds.length = 1 := by obtain ⟨_, _, rfl, _⟩ := h; rfl
theorem getWipe {ρ : DEnv} {i v : Nat} {d x : D} (h : ρ[i]? = some (some d)) (e : i ≠ v) : ((wipeD ρ [v]).set v (some x))[i]? = some (some d) := by
  show ((ρ.set v none).set v (some x))[i]? = _
  rw [List.getElem?_set_ne (Ne.symm e), List.getElem?_set_ne (Ne.symm e)]
  exact h
/-- [_law_of(bag, things) for turn in range(_law_take(bag, m))] -/
theorem lc_of {src : DE} {ρ : DEnv} {C : Cl} {b : Addr} {n ib iv : Nat} {m : Int} {items : List D} {sv : D} {Q : DQ} (h0 : ρ[ib]? = some (some (.ref b))) (hi : ib ≠ iv) (hb : BagAt C b n) (hn : n < 10000000000) (m0 : 0 < m) (m1 : m ≤ 1000)
    (hs : ∀ ρ' C' (N : DQ), N sv C' → src ρ' C' N) (hv : ∀ C', itemsOf C' sv = some items) (hr : sv ≠ .ref b) (he : items ≠ []) (hl : items.length ≤ 1000000)
    (hq : ∀ ys C', ys.length < m.toNat → (∀ y ∈ ys, y ∈ items) → Bagged C b C' (n + 1001) → Q (.lst ys) C') :
    dFz (dLc (diRng1 (dCons (dCall sp_l_take [] (dCons (dVar ib) (dCons (dC (.int m)) dNil))) dNil)) (dName iv) dYes (dCall sp_l_of [] (dCons (dVar ib) (dCons src dNil))) [iv]) ρ C Q := by
  refine ⟨_, h0, b, m, n, rfl, m0, by omega, hb, by omega, fun i C1 i0 i1 B1 => ?_⟩
  refine ⟨i, rfl, ⟨by omega, by omega⟩, ?_⟩
  refine lc_bag (k := 1) (fun y => y ∈ items) B1.at (by rw [ranged_length]; exact szl (by omega)) (fun i' x C2 N hx hb2 _ hN => ?_) fun ys C2 hyl hY B2 => ?_
  · have hx := (ranged_get hx).1
    refine ⟨_, getWipe h0 hi, hs _ _ _ ⟨b, sv, items, _, rfl, hv _, hr, he, hl, hb2, by omega, fun d C3 hd B3 => hN d C3 hd (B3.mono (by omega))⟩⟩
  · rw [ranged_length] at hyl B2
    exact hq ys C2 (by omega) hY ((B1.trans B2).mono (by omega))
theorem pure_l_text (ds : List D) (C : Cl) (Q : DQ) (E : DX) (h : sp_l_text ds C Q E) : td_l_text (endsD Q) (startD ["_law_bag_here", "_law_road", "_law_turn"] ds) C := by
  obtain ⟨b, n, rfl, hb, hn, hq⟩ := h
  refine ⟨_, rfl, b, 5, n, rfl, by decide, by decide, hb, by omega, fun i C1 i0 i1 B1 => ?_⟩
  have fin : ∀ (zs : List Nat), zs.all okSign = true → ∀ ys C2, (ys : List D).length < 7 → (∀ y ∈ ys, y ∈ signs zs) → Bagged C1 b C2 (n + 1 + 1001) → (fun x C2 => dNil [some (.ref b), some (.int i), none] C2 fun xs C3 => rJoin (.str []) (x :: xs) C3 (endsD Q).rt) (.lst ys) C2 := by
    intro zs zok ys C2 hyl hY B2
    obtain ⟨ls, rfl, hs⟩ := txts_of (P := fun l => l.length ≤ 1 ∧ l.all okSign = true) fun y hy => by
      obtain ⟨c, rfl, hc⟩ := mem_signs (hY y hy)
      exact ⟨[c], rfl, by simp, by rw [List.all_cons, List.all_nil, Bool.and_true]; exact List.all_eq_true.mp zok c hc⟩
    rw [txts_length] at hyl
    have h1 := sum_le fun l hl => (hs l hl).1
    have h3 := all_join fun l hl => (hs l hl).2
    have h2 := join_le ls
    exact ⟨[], _, ls, rfl, rfl, rfl, by simp only [List.length_nil, Nat.mul_zero]; omega, _, _, .same, hq _ _ (by omega) h3 (noQ_short (by omega)) ((B1.trans B2).mono (by omega))⟩
  refine ⟨_, rfl, .inl ⟨_, rfl, _, rfl, ite_d (fun h => ?_) (fun h => ?_)⟩⟩
  · exact ⟨rfl, lc_of (items := signs (sgns1 ++ sgns2)) (sv := .str (sgns1 ++ sgns2)) rfl (by decide) B1.at (by omega) (by decide) (by decide) (fun ρ' C' N h => ⟨rfl, h⟩) (fun _ => rfl) nofun (by decide) (by decide) (fin _ (by decide))⟩
  refine ⟨_, rfl, .inl ⟨_, rfl, _, rfl, ite_d (fun h => ?_) (fun h => ?_)⟩⟩
  · exact ⟨rfl, lc_of (items := signs [48, 48, 49, 57, 43, 45, 46, 32]) (sv := .str [48, 48, 49, 57, 43, 45, 46, 32]) rfl (by decide) B1.at (by omega) (by decide) (by decide) (fun ρ' C' N h => h) (fun _ => rfl) nofun (by decide) (by decide) (fin _ (by decide))⟩
  refine ⟨_, rfl, .inl ⟨_, rfl, _, rfl, ite_d (fun h => ?_) (fun h => ?_)⟩⟩
  · refine ⟨_, rfl, szl (by simp), b, _, _, n + 1, rfl, rfl, nofun, by simp, by simp, B1.at, by omega, fun d C2 hm B2 => ?_⟩
    have : ∃ l, d = .str l ∧ (l.length ≤ 30 ∧ l.all okSign = true ∧ noQ l = true) := by
      have all : ([.str [], .str [78, 65], .str [121, 101, 115], .str [110, 111], .str [120], .str [116, 114, 117, 101], .str [45], .str [49], .str [48], .str [48, 48], .str [48, 49], .str [49, 46, 48], .str [45, 48], .str [43, 49]] : List D) = txts [[], [78, 65], [121, 101, 115], [110, 111], [120], [116, 114, 117, 101], [45], [49], [48], [48, 48], [48, 49], [49, 46, 48], [45, 48], [43, 49]] := rfl
      rw [all] at hm
      obtain ⟨l, hl, rfl⟩ := List.mem_map.mp hm
      refine ⟨l, rfl, ?_⟩
      clear hm all
      revert l
      decide
    obtain ⟨l, rfl, hl⟩ := this
    exact ⟨_, _, .same, hq _ _ hl.1 hl.2.1 hl.2.2 ((B1.trans B2).mono (by omega))⟩
  · refine ⟨_, rfl, b, 4, n + 1, rfl, by decide, by decide, B1.at, by omega, fun s w o C2 hs hw hwl ho B2 => ⟨_, _, .same, hq _ _ ?_ ?_ ?_ ((B1.trans B2).mono (by omega))⟩⟩
    rotate_left
    rotate_left
    · refine noQ_mem fun hm => ?_
      simp only [List.mem_append] at hm
      rcases hm with (hm | hm) | hm
      · rcases hs with rfl | rfl | rfl <;> simp at hm
      · exact dig_noQ hw hm
      · cases o with
        | none => simp [tailN] at hm
        | some p => simp only [tailN, List.mem_cons] at hm; rcases hm with e | e; (· cases e); exact dig_noQ (ho p rfl).1 e
    rotate_left
    · rw [List.all_append, List.all_append, dig_ok hw]
      have h4 : s.all okSign = true := by rcases hs with rfl | rfl | rfl <;> decide
      have h5 : (tailN o).all okSign = true := by
        cases o with
        | none => rfl
        | some p => show (46 :: p).all okSign = true; rw [List.all_cons, dig_ok (ho p rfl).1]; decide
      rw [h4, h5]; rfl
    have : (tailN o).length ≤ 5 := by
      cases o with
      | none => simp [tailN]
      | some p => have := (ho p rfl).2; simp only [tailN, List.length_cons]; omega
    have hsl : s.length ≤ 1 := by rcases hs with rfl | rfl | rfl <;> simp
    simp only [List.length_append]
    omega
end G
namespace GS
open PySem PySem.Spec PyProof.Rows
/-! ### set(texts): how many different ones -/
/-- the number of different texts of a list, told from its end -/
def dcR : List Str → Nat
  | [] => 0
  | x :: r => if r.any (· == x) then dcR r else dcR r + 1
theorem dcR_le : ∀ l : List Str, dcR l ≤ l.length
  | [] => Nat.le_refl _
  | x :: r => by
    have := dcR_le r
    unfold dcR
    split <;> rw [List.length_cons] <;> omega
abbrev Has (xs : List Str) (i : Nat) : Str → Bool := fun y => (xs.take i).any (· == y)
section
variable {prog : Program} {w : World} {A : Around} {R : Result → Shared → Prop} {I : Addr} {fp wr : List Addr} {G : Array GenState → Array GenState → Prop} {n : Nat} {P : Nat → Value → Prop} {St : Nat → Shared → Prop}
theorem fill (W : WalksS prog w A.in1 I fp wr G n P St) (Z : Addr) (nz : Z ∉ fp) (xs : List Str) (hn : xs.length = n) (few : n + 1 < scanBound) (read : ∀ i v, P i v → ∃ t, v = .str (xs.getD i Str.empty) t) :
    ∀ (left i : Nat) (q : Shared), n - i = left → i ≤ n → St i q → q.heap.SetOf (PySem.strKind prog w) Z (Has xs i) (dcR (xs.take i).reverse) →
      (∀ q', Moved (Z :: wr) G q q' → q'.heap.SetOf (PySem.strKind prog w) Z (Has xs n) (dcR (xs.take n).reverse) → R (.ok (.ret .none)) q') → codeAny (model prog w) A (.builtin "set.update.loop" ⟨[.ref Z, .ref I], []⟩) R q := by
  have nw : Z ∉ wr := fun z => nz (W.sub _ z)
  have up : ∀ b ∈ wr, b ∈ Z :: wr := fun b => List.mem_cons_of_mem _
  intro left
  induction left with
  | zero =>
    intro i q e1 e2 st so out
    obtain rfl : i = n := by omega
    refine codeAny_builtin (PyProof.Rows.F.entry_set_update_loop) ?_
    rw [Around.under_plainId (PyProof.Rows.F.plain_set_update_loop) _]
    show wpAny _ A.in1 (pyNext (Value.ref I) >>= _) _ _ q
    refine wpAny_bind (W.done q _ _ st fun q' mv => ?_)
    show wpAny _ A.in1 (ret (Value.none)) _ _ q'
    refine wpAny_pure (out q' (mv.mono up) ?_)
    obtain ⟨o, es, ep, t, ho, more⟩ := so
    exact ⟨o, es, ep, t, mv.heap Z _ nw ho, more⟩
  | succ left ih =>
    intro i q e1 e2 st so out
    have lt : i < n := by omega
    refine codeAny_builtin (PyProof.Rows.F.entry_set_update_loop) ?_
    rw [Around.under_plainId (PyProof.Rows.F.plain_set_update_loop) _]
    show wpAny _ A.in1 (pyNext (Value.ref I) >>= _) _ _ q
    refine wpAny_bind (W.item i q _ _ lt st fun v q' pv st' mv => ?_)
    obtain ⟨t, rfl⟩ := read i v pv
    have so' : q'.heap.SetOf (PySem.strKind prog w) Z (Has xs i) (dcR (xs.take i).reverse) := by
      obtain ⟨o, es, ep, tb, ho, more⟩ := so
      exact ⟨o, es, ep, tb, mv.heap Z _ nw ho, more⟩
    show wpAny _ A.in1 (holding [Value.str (xs.getD i Str.empty) t] (setAdd Z (Value.str (xs.getD i Str.empty) t)) >>= _) _ _ q'
    refine wpAny_bind (wpAny_holding ?_)
    unfold setAdd
    refine wpAny_holding (wpAny_bind ((PySem.strKind prog w).pyHash (k := xs.getD i Str.empty) (strKind_is _ _ _ _) ?_))
    have room : dcR (xs.take i).reverse + 1 < scanBound := by
      have := dcR_le (xs.take i).reverse
      rw [List.length_reverse, List.length_take] at this
      omega
    refine wpAny_setAddHashed_of (s := { q' with toks := q'.toks + 1 }) (knd := PySem.strKind prog w) (strKind_is _ _ _ _) rfl so' room fun h' same so2 => ?_
    have tk : xs.take (i + 1) = xs.take i ++ [xs.getD i Str.empty] := by
      have li : i < xs.length := by omega
      rw [List.take_add_one, List.getElem?_eq_getElem li, List.getD_eq_getElem?_getD, List.getElem?_eq_getElem li]
      rfl
    have so3 : h'.SetOf (PySem.strKind prog w) Z (Has xs (i + 1)) (dcR (xs.take (i + 1)).reverse) := by
      refine SetOf_congr so2 (fun y => ?_) ?_
      · show ((xs.take i).any (· == y) || decide (y = xs.getD i Str.empty)) = (xs.take (i + 1)).any (· == y)
        rw [tk, List.any_append, List.any_cons, List.any_nil, Bool.or_false]
        congr 1
        rw [Bool.eq_iff_iff, decide_eq_true_iff, beq_iff_eq]
        exact eq_comm
      · rw [tk, List.reverse_append]
        show (if (xs.take i).any (· == xs.getD i Str.empty) then _ else _) = (if (xs.take i).reverse.any (· == xs.getD i Str.empty) then dcR (xs.take i).reverse else dcR (xs.take i).reverse + 1)
        rw [List.any_reverse]
    refine wpAny_pure ⟨plainId_quiet (PyProof.Rows.F.plain_set_update_loop) _, ih (i + 1) _ (by omega) lt (W.frame _ q' _ _ st' (Nat.le_succ _) fun b hb o eo => ?_) so3 fun q2 mv2 so4 => out q2 (Moved.trans W.gtrans ((mv.mono up).then_heap (Nat.le_succ _) fun b o hb eo => ?_) mv2) so4⟩
    · rw [same.2 b fun z : b = Z => nz (z ▸ hb)]
      exact eo
    · rw [same.2 b fun z : b = Z => hb (z ▸ List.mem_cons_self)]
      exact eo
end
section
variable {prog : Program} {w : World} {A : Around} {E : Value → Shared → Prop} {s : Shared}
set_option maxHeartbeats 3200000 in
theorem call_set_list {l : Addr} {items : Array Value} {xs : List Str} {Q : Value → Shared → Prop} (no : A.handled = none) (al : s.heap.IsList l items) (are : PyProof.Rows.StrsAre items.toList xs) (few : items.size + 1 < scanBound)
    (got : ∀ (h' : Heap) (tk : Nat), h'.SetOf (PySem.strKind prog w) s.heap.objs.size (Has xs items.size) (dcR (xs.take items.size).reverse) → (∀ b o, b < s.heap.objs.size → s.heap.get? b = some o → h'.get? b = some o) → Q (.ref s.heap.objs.size) { s with heap := h', toks := tk }) :
    wpAny (model prog w) A (call (.type "set") [.ref l]) Q E s := by
  obtain ⟨_, _, mro⟩ := PySem.F.called_set.mro
  have f1 := PySem.F.called_set.made
  have f2 := PySem.F.called_set.sub
  have f3 := PySem.F.called_set.notType
  have f4 := PySem.F.called_set.canCreate
  have f5 := PySem.F.typeCall_set_1 (Value.ref l)
  refine wpAny_call (codeAny_of_tree ?_)
  show wpAny _ _ (callAny (.type "set") _) _ _ _
  refine wpAny_pure ⟨Code.quiet_builtin _ (by decide +kernel), codeAny_builtin (PySem.F.entry_type_call) ?_⟩
  rw [Around.under_plain (weight_type_call_type "set" [Value.ref l] []) rfl]
  repeat (any_goals (first | assumption | wp_step))
  refine codeAny_mono (code_set_new_1 (Value.ref l) (E := E) (Q₁ := fun z s1 => ∃ led : Bool, z = .ref s.heap.objs.size ∧ s1 = { s with heap := s.heap.push { cls := .type "set", dict := none, data := .set #[] 0 (.fresh 0 0 led) } }) fun led => ⟨led, rfl, rfl⟩) fun r1 s1 e1 => ?_
  cases r1 with
  | error _ => exact e1
  | ok fl =>
    cases fl with
    | next => exact e1.elim
    | brk => exact e1.elim
    | cont => exact e1.elim
    | ret z =>
      obtain ⟨led, rfl, rfl⟩ := e1
      have az : (s.heap.push ({ cls := .type "set", dict := none, data := .set #[] 0 (.fresh 0 0 led) } : Obj)).get? s.heap.objs.size = some ({ cls := .type "set", dict := none, data := .set #[] 0 (.fresh 0 0 led) } : Obj) := Heap.get?_push_size _ rfl
      have tz : Shared.TypeIs { s with heap := s.heap.push ({ cls := .type "set", dict := none, data := .set #[] 0 (.fresh 0 0 led) } : Obj) } (.ref s.heap.objs.size) "set" := ⟨_, az, rfl⟩
      have f6 := PySem.F.called_set.init.lookup
      have f7 := PySem.F.called_set.init.bind (Value.ref s.heap.objs.size)
      repeat (any_goals (first | assumption | wp_step))
      refine codeAny_mono (codeAny_call_builtin (R := wants (fun r2 s2 => r2 = .none ∧ ∃ h' tk, s2 = { s with heap := h', toks := tk } ∧ h'.SetOf (PySem.strKind prog w) s.heap.objs.size (Has xs items.size) (dcR (xs.take items.size).reverse) ∧ ∀ b o, b < s.heap.objs.size → s.heap.get? b = some o → h'.get? b = some o) E) (PySem.F.called_set.init.plain) (PySem.F.entry_set_init) (check_set_init_1 tz ?_)) fun r2 s2 e2 => ?_
      · obtain ⟨⟨oc, od, oa, ob⟩, at0, c0, n0, d0⟩ := al
        dsimp only at c0 d0
        subst c0 d0
        have at1 : (s.heap.push ({ cls := .type "set", dict := none, data := .set #[] 0 (.fresh 0 0 led) } : Obj)).get? l = some { cls := .type "list", dict := od, data := .seq items n0, slots := ob } := Heap.get?_push_of_some _ at0
        have g1 := PySem.F.sub_list_set
        have g2 := PySem.F.sub_list_frozenset
        have g3 : (Value.type "list" == Value.type "dict") = false := by decide
        have at2 : (s.heap.push ({ cls := .type "set", dict := none, data := .set #[] 0 (.fresh 0 0 led) } : Obj)).IsList l items := ⟨_, at1, rfl, n0, rfl⟩
        unfold Builtin.«set.__init__» noKeywords Builtin.Frozenset.updateFrom
        generalize hit : pyIter = walkIt
        wp_walk
        subst hit
        refine wpAny_pyIter_list at2 ?_
        refine (wpAny_bind (wpAny_runValue ?_))
        have ll := Heap.lt_size at0
        have z1 : (s.heap.push ({ cls := .type "set", dict := none, data := .set #[] 0 (.fresh 0 0 led) } : Obj)).objs.size = s.heap.objs.size + 1 := Heap.size_push ..
        have len := (StrsAre.len_eq are).symm
        rw [Array.length_toList] at len
        refine fill ((Walks.list (show A.in1.in1.in1.handled = none by simp [no]) _ l (by rw [z1]; exact Nat.ne_of_lt (Nat.lt_succ_of_lt ll)) items).toS) s.heap.objs.size (by rw [z1]; simp only [List.mem_cons, List.not_mem_nil, or_false, not_or]; exact ⟨Nat.ne_of_lt (Nat.lt_succ_self _), Nat.ne_of_gt ll⟩) xs len few
          (fun i v hv => SS.strs_at are i v (by rw [Array.getElem?_toList]; exact hv)) (items.size - 0) 0 _ (by omega) (Nat.zero_le _) ⟨⟨_, Heap.get?_push_size _ rfl, rfl, rfl⟩, at2.push _⟩ ?at0 ?end0
        case at0 =>
          refine PyProof.Rows.SetOf_congr ((PyProof.Rows.setObjOf_fresh (knd := PySem.strKind prog w) led).setOf (a := s.heap.objs.size) ?_ (by unfold scanBound; omega)) (fun _ => rfl) rfl
          exact Heap.get?_push_of_some _ az
        case end0 =>
          rintro ⟨h9, g9, d9, t9, o9⟩ mv so9
          obtain rfl : g9 = s.gens := mv.gens
          obtain rfl : d9 = s.drawn := mv.drawn
          obtain rfl : o9 = s.os := mv.os
          refine wpAny_pure ?_
          show wpAny _ _ (ret (Value.none)) _ _ _
          refine wpAny_pure ⟨rfl, h9, t9, rfl, so9, fun b o hb eo => mv.heap b o ?_ (Heap.get?_push_of_some _ (Heap.get?_push_of_some _ eo))⟩
          rw [z1]
          simp only [List.mem_cons, List.not_mem_nil, or_false, not_or]
          exact ⟨Nat.ne_of_lt hb, Nat.ne_of_lt (Nat.lt_succ_of_lt hb)⟩
      · cases r2 with
        | error _ => exact e2
        | ok fl2 =>
          cases fl2 with
          | next => exact e2.elim
          | brk => exact e2.elim
          | cont => exact e2.elim
          | ret r =>
            obtain ⟨rfl, h9, t9, rfl, so9, kp⟩ := e2
            repeat (any_goals (first | assumption | wp_step))
            exact got _ _ so9 kp
set_option maxHeartbeats 3200000 in
theorem call_set_tuple {l : Addr} {items : Array Value} {xs : List Str} {Q : Value → Shared → Prop} (no : A.handled = none) (al : s.heap.IsTuple l items) (are : PyProof.Rows.StrsAre items.toList xs) (few : items.size + 1 < scanBound)
    (got : ∀ (h' : Heap) (tk : Nat), h'.SetOf (PySem.strKind prog w) s.heap.objs.size (Has xs items.size) (dcR (xs.take items.size).reverse) → (∀ b o, b < s.heap.objs.size → s.heap.get? b = some o → h'.get? b = some o) → Q (.ref s.heap.objs.size) { s with heap := h', toks := tk }) :
    wpAny (model prog w) A (call (.type "set") [.ref l]) Q E s := by
  obtain ⟨_, _, mro⟩ := PySem.F.called_set.mro
  have f1 := PySem.F.called_set.made
  have f2 := PySem.F.called_set.sub
  have f3 := PySem.F.called_set.notType
  have f4 := PySem.F.called_set.canCreate
  have f5 := PySem.F.typeCall_set_1 (Value.ref l)
  refine wpAny_call (codeAny_of_tree ?_)
  show wpAny _ _ (callAny (.type "set") _) _ _ _
  refine wpAny_pure ⟨Code.quiet_builtin _ (by decide +kernel), codeAny_builtin (PySem.F.entry_type_call) ?_⟩
  rw [Around.under_plain (weight_type_call_type "set" [Value.ref l] []) rfl]
  repeat (any_goals (first | assumption | wp_step))
  refine codeAny_mono (code_set_new_1 (Value.ref l) (E := E) (Q₁ := fun z s1 => ∃ led : Bool, z = .ref s.heap.objs.size ∧ s1 = { s with heap := s.heap.push { cls := .type "set", dict := none, data := .set #[] 0 (.fresh 0 0 led) } }) fun led => ⟨led, rfl, rfl⟩) fun r1 s1 e1 => ?_
  cases r1 with
  | error _ => exact e1
  | ok fl =>
    cases fl with
    | next => exact e1.elim
    | brk => exact e1.elim
    | cont => exact e1.elim
    | ret z =>
      obtain ⟨led, rfl, rfl⟩ := e1
      have az : (s.heap.push ({ cls := .type "set", dict := none, data := .set #[] 0 (.fresh 0 0 led) } : Obj)).get? s.heap.objs.size = some ({ cls := .type "set", dict := none, data := .set #[] 0 (.fresh 0 0 led) } : Obj) := Heap.get?_push_size _ rfl
      have tz : Shared.TypeIs { s with heap := s.heap.push ({ cls := .type "set", dict := none, data := .set #[] 0 (.fresh 0 0 led) } : Obj) } (.ref s.heap.objs.size) "set" := ⟨_, az, rfl⟩
      have f6 := PySem.F.called_set.init.lookup
      have f7 := PySem.F.called_set.init.bind (Value.ref s.heap.objs.size)
      repeat (any_goals (first | assumption | wp_step))
      refine codeAny_mono (codeAny_call_builtin (R := wants (fun r2 s2 => r2 = .none ∧ ∃ h' tk, s2 = { s with heap := h', toks := tk } ∧ h'.SetOf (PySem.strKind prog w) s.heap.objs.size (Has xs items.size) (dcR (xs.take items.size).reverse) ∧ ∀ b o, b < s.heap.objs.size → s.heap.get? b = some o → h'.get? b = some o) E) (PySem.F.called_set.init.plain) (PySem.F.entry_set_init) (check_set_init_1 tz ?_)) fun r2 s2 e2 => ?_
      · obtain ⟨⟨oc, od, oa, ob⟩, at0, c0, n0, d0⟩ := al
        dsimp only at c0 d0
        subst c0 d0
        have at1 : (s.heap.push ({ cls := .type "set", dict := none, data := .set #[] 0 (.fresh 0 0 led) } : Obj)).get? l = some { cls := .type "tuple", dict := od, data := .seq items n0, slots := ob } := Heap.get?_push_of_some _ at0
        have g1 := PySem.F.sub_tuple_set
        have g2 := PySem.F.sub_tuple_frozenset
        have g3 : (Value.type "tuple" == Value.type "dict") = false := by decide
        have at2 : (s.heap.push ({ cls := .type "set", dict := none, data := .set #[] 0 (.fresh 0 0 led) } : Obj)).IsTuple l items := ⟨_, at1, rfl, n0, rfl⟩
        unfold Builtin.«set.__init__» noKeywords Builtin.Frozenset.updateFrom
        generalize hit : pyIter = walkIt
        wp_walk
        subst hit
        refine wpAny_pyIter_tuple at2 ?_
        refine (wpAny_bind (wpAny_runValue ?_))
        have ll := Heap.lt_size at0
        have z1 : (s.heap.push ({ cls := .type "set", dict := none, data := .set #[] 0 (.fresh 0 0 led) } : Obj)).objs.size = s.heap.objs.size + 1 := Heap.size_push ..
        have len := (StrsAre.len_eq are).symm
        rw [Array.length_toList] at len
        refine fill ((Walks.tuple (show A.in1.in1.in1.handled = none by simp [no]) _ l (by rw [z1]; exact Nat.ne_of_lt (Nat.lt_succ_of_lt ll)) items).toS) s.heap.objs.size (by rw [z1]; simp only [List.mem_cons, List.not_mem_nil, or_false, not_or]; exact ⟨Nat.ne_of_lt (Nat.lt_succ_self _), Nat.ne_of_gt ll⟩) xs len few
          (fun i v hv => SS.strs_at are i v (by rw [Array.getElem?_toList]; exact hv)) (items.size - 0) 0 _ (by omega) (Nat.zero_le _) ⟨⟨_, Heap.get?_push_size _ rfl, rfl, rfl⟩, at2.push _⟩ ?at0 ?end0
        case at0 =>
          refine PyProof.Rows.SetOf_congr ((PyProof.Rows.setObjOf_fresh (knd := PySem.strKind prog w) led).setOf (a := s.heap.objs.size) ?_ (by unfold scanBound; omega)) (fun _ => rfl) rfl
          exact Heap.get?_push_of_some _ az
        case end0 =>
          rintro ⟨h9, g9, d9, t9, o9⟩ mv so9
          obtain rfl : g9 = s.gens := mv.gens
          obtain rfl : d9 = s.drawn := mv.drawn
          obtain rfl : o9 = s.os := mv.os
          refine wpAny_pure ?_
          show wpAny _ _ (ret (Value.none)) _ _ _
          refine wpAny_pure ⟨rfl, h9, t9, rfl, so9, fun b o hb eo => mv.heap b o ?_ (Heap.get?_push_of_some _ (Heap.get?_push_of_some _ eo))⟩
          rw [z1]
          simp only [List.mem_cons, List.not_mem_nil, or_false, not_or]
          exact ⟨Nat.ne_of_lt hb, Nat.ne_of_lt (Nat.lt_succ_of_lt hb)⟩
      · cases r2 with
        | error _ => exact e2
        | ok fl2 =>
          cases fl2 with
          | next => exact e2.elim
          | brk => exact e2.elim
          | cont => exact e2.elim
          | ret r =>
            obtain ⟨rfl, h9, t9, rfl, so9, kp⟩ := e2
            repeat (any_goals (first | assumption | wp_step))
            exact got _ _ so9 kp
end
end GS
namespace G
open PySem PySem.Spec PyProof.Rows L2
/-! ### len(set(texts)) -/
/-- the number of different texts, told from the end -/
def dcN : List (List Nat) → Nat
  | [] => 0
  | x :: r => if r.any (· == x) then dcN r else dcN r + 1
theorem mk_beq (a b : List Nat) : ((⟨a.toArray⟩ : Str) == ⟨b.toArray⟩) = (a == b) := by
  rw [Bool.eq_iff_iff, beq_iff_eq, beq_iff_eq]
  exact ⟨fun h => by injection h with h; exact congrArg Array.toList h, fun h => by rw [h]⟩
theorem dcN_eq : ∀ l : List (List Nat), GS.dcR (l.map fun x => (⟨x.toArray⟩ : Str)) = dcN l
  | [] => rfl
  | x :: r => by
    rw [List.map_cons]
    unfold GS.dcR dcN
    rw [dcN_eq r, List.any_map]
    have : ((fun y : Str => y == ⟨x.toArray⟩) ∘ fun x : List Nat => (⟨x.toArray⟩ : Str)) = fun y => y == x := by
      funext y
      exact mk_beq y x
    rw [this]
theorem dcN_le : ∀ l : List (List Nat), dcN l ≤ l.length
  | [] => Nat.le_refl _
  | x :: r => by
    have := dcN_le r
    unfold dcN
    split <;> rw [List.length_cons] <;> omega
theorem dcN_nodup : ∀ l : List (List Nat), dcN l = l.length ↔ l.Nodup
  | [] => by simp [dcN]
  | x :: r => by
    have h1 := dcN_le r
    have h2 := dcN_nodup r
    rw [List.nodup_cons, List.length_cons]
    unfold dcN
    by_cases c : x ∈ r
    · have : (r.any (· == x)) = true := List.any_eq_true.mpr ⟨x, c, beq_self_eq_true x⟩
      rw [if_pos this]
      exact ⟨fun e => by omega, fun e => absurd c e.1⟩
    · have : ¬ (r.any (· == x)) = true := fun h => by
        obtain ⟨y, hy, e⟩ := List.any_eq_true.mp h
        exact c ((beq_iff_eq.mp e) ▸ hy)
      rw [if_neg this]
      exact ⟨fun e => ⟨c, h2.mp (by omega)⟩, fun e => by rw [h2.mpr e.2]⟩
def dLenSet (te : DE) : DE := fun ρ C Q => te ρ C fun x C1 => ∃ ls, seqOf C1 x = some (txts ls) ∧ ls.length ≤ 4000 ∧ Q (.int (dcN ls.reverse : Nat)) C1
theorem strs_of {K : PySem.W.Frag} {cl : Nm} {F : Hp} : ∀ {ls : List (List Nat)} {xs : List V} {us : List Value}, RepL K cl F xs (txts ls) → Vals xs us → PyProof.Rows.StrsAre us (ls.map fun x => (⟨x.toArray⟩ : Str))
  | [], _, _, .nil, .nil => .nil
  | l :: ls, _, _, .cons h r, .cons u t => by
    cases h
    obtain ⟨k, rfl⟩ := u
    exact .cons _ k (strs_of r t)
theorem de_lenSet {X : Cx} {cl : NmB} {a : Expr} {te : DE} {p p2 q pos : Pos} (hm : X.mg "len" = none) (hm2 : X.mg "set" = none) (he : PEd X cl a te) (hc : X.calm = true := by rfl) (hg : Gl X "len" := by rfl) (hg2 : Gl X "set" := by rfl)
    (na : starEach [a] X.env = (false, eval a X.env) :: starEach [] X.env := by rfl) : PEd X cl (.Call (.Name "len" p) [.Call (.Name "set" p2) [a] [] q] [] pos) (dLenSet te) := by
  refine ⟨fun pins s σ H Q I ⟨ρ, C, F, Qd, R, h, kq⟩ => ?_⟩
  refine Call_ (ld_blt I hg hm boot_len (PyProof.Rows.callWith_builtin1 (PyProof.Rows.args_cons ?_ rfl) rfl rfl))
  refine Call_ (ld_blt I hg2 hm2 boot_set (PyProof.Rows.callWith_type1 (PyProof.Rows.args_cons (thn (he.run pins s σ H (fun v H1 => ∃ d C1 F1, Same F F1 ∧ RC X.K cl C1 F1 H1 ∧ Rep X.K cl F1 v d ∧ ∃ ls, seqOf C1 d = some (txts ls) ∧ ls.length ≤ 4000 ∧ Qd (.int (dcN ls.reverse : Nat)) C1) I
    ⟨ρ, C, F, _, R, h, fun v d C1 H1 F1 s1 R1 r1 q1 => ⟨d, C1, F1, s1, R1, r1, q1⟩⟩) fun u s1 ⟨v, H1, I1, rv, d, C1, F1, s1', R1, r1, ls, hs, hl, q1⟩ => PyProof.Rows.args_nil ?_) na) na rfl))
  obtain ⟨b, xs, rfl, hq, rl⟩ := seq_ok R1 r1 hs
  cases rv
  have nx : xs.length = ls.length := by rw [rl.length]; exact List.length_map ..
  have fin : ∀ (its : List Value), Vals xs its → ∀ (h' : Heap) (tk : Nat), h'.SetOf (PySem.strKind X.prog X.w) s1.heap.objs.size (GS.Has (ls.map fun x => (⟨x.toArray⟩ : Str)) its.toArray.size) (GS.dcR ((ls.map fun x => (⟨x.toArray⟩ : Str)).take its.toArray.size).reverse) →
      (∀ b o, b < s1.heap.objs.size → s1.heap.get? b = some o → h'.get? b = some o) →
      wpAny (model X.prog X.w) X.A (spliced (backTo pos (starEach [] X.env))) (fun vs s₂ => wpAny (model X.prog X.w) X.A (call (.builtin "len") (Value.ref s1.heap.objs.size :: vs)) (EP X pins σ Q) X.xe s₂) X.xe { s1 with heap := h', toks := tk } := fun its r h' tk hS hk => by
    refine PyProof.Rows.args_nil ?_
    have e1 : its.toArray.size = (ls.map fun x => (⟨x.toArray⟩ : Str)).length := by rw [List.size_toArray, ← r.length, nx, List.length_map]
    rw [e1, List.take_length, ← List.map_reverse, dcN_eq] at hS
    obtain ⟨o, es, ep, t, ho, hex, hd, _, _, _, hf, hn⟩ := hS
    have I2 : Inv X pins σ H1 { s1 with heap := h', toks := tk } := I1.kept fun b o e => hk b o (Heap.lt_size e) e
    have := dcN_le ls.reverse
    rw [List.length_reverse] at this
    refine call_len_set ho hex hd hf (by rw [hn]; omega) ⟨.int (dcN ls.reverse : Nat), H1, I2.tok _, ⟨_, by rw [hn]⟩, kq _ _ C1 H1 F1 s1' R1 (.int _) q1⟩
  have sz : ∀ its : List Value, Vals xs its → its.toArray.size + 1 < scanBound := fun its r => by
    rw [List.size_toArray, ← r.length, nx]
    unfold scanBound
    omega
  rcases hq with hq | hq
  · obtain ⟨its, r, pl, hz⟩ := I1.list hq
    exact GS.call_set_list (I1.ok.hd hc) pl.isList (by simpa using strs_of rl r) (sz its r) fun h' tk hS hk => fin its r h' tk hS hk
  · obtain ⟨its, r, pl, hz⟩ := I1.tuple hq
    exact GS.call_set_tuple (I1.ok.hd hc) pl (by simpa using strs_of rl r) (sz its r) fun h' tk hS hk => fin its r h' tk hS hk
end G
namespace G
open PySem PySem.Spec PyProof.Rows L2
/-! ### kinds: words, texts -/
def letters : List Nat := [97, 98, 99, 100, 101, 102, 103, 104, 105, 106, 107, 108, 109, 110, 111, 112, 113, 114, 115, 116, 117, 118, 119, 120, 121, 122]
def isLow (c : Nat) : Bool := decide (c ∈ letters)
def isWord (l : List Nat) : Bool := decide (1 ≤ l.length ∧ l.length ≤ 8) && l.all isLow
def isText (l : List Nat) : Bool := l.all okSign
/-- a thing of a built-in type, texts not too long -/
def Known (d : D) (C : Cl) : Prop := (∃ n, tyNm d C = some n) ∧ ∀ l, d = .str l → l.length ≤ 1000000
def onStr (f : List Nat → Bool) : D → Bool
  | .str l => f l
  | _ => false
theorem strSub {d : D} {C : Cl} {n : String} (h : tyNm d C = some n) : isSub n "str" = true ↔ ∃ l, d = .str l := by
  constructor
  · intro e
    cases d with
    | str l => exact ⟨l, rfl⟩
    | ref a =>
      unfold tyNm at h
      dsimp only at h
      split at h <;> cases h <;> exact absurd e (by decide)
    | _ => cases h <;> exact absurd e (by decide)
  · rintro ⟨l, rfl⟩
    cases h
    decide
theorem onStr_no {f : List Nat → Bool} {d : D} (h : ¬ ∃ l, d = .str l) : onStr f d = false := by
  cases d with
  | str l => exact absurd ⟨l, rfl⟩ h
  | _ => rfl
def sp_is_word : DSp := fun ds C Q _ => ∃ d, ds = [d] ∧ Known d C ∧ Q (.bl (onStr isWord d)) C
def td_is_word : DS :=
  (dSeq (dIfS (dOr (dNot (dTest (dCB (rIsi "str") (dCons (dVar 0) (dCons (dC (.ty "str")) dNil))))) (dNot (dTest (dChain rLeD rLeD (dC (.int 1)) (dCB rLen (dCons (dVar 0) dNil)) (dC (.int 8)))))) (dRet (dC (.bl false))) dNext)
    (dRet (dCB rAllL (dCons (dFz (dLc (diStr (dVar 0)) (dName 1) dYes (dOp rIn (dVar 1) (dC (.str [97, 98, 99, 100, 101, 102, 103, 104, 105, 106, 107, 108, 109, 110, 111, 112, 113, 114, 115, 116, 117, 118, 119, 120, 121, 122]))) [1])) dNil))))
theorem len_is_word (ds : List D) (C : Cl) (Q : DQ) (E : DX) (h : sp_is_word ds C Q E) : ds.length = 1 := by obtain ⟨_, rfl, _⟩ := h; rfl
local macro_rules | `(tactic| walk_at "d") => `(tactic| dsimp only [dSeq, dAsg, dVar, dC, dOp, dCB, dBM, dBM0, dCons, dNil, dTest, dIf, dAnd, dOr, dNot, dAndV, dOrV, dNotV, dRet, dIfS, dNext, dName, dTup, dLst, dLstC, dCall, dSl, dPart, dNoPart, dUn, dgTup, dgCons, dgNil, dgSub, dDrop, dPar])
theorem pure_is_word (ds : List D) (C : Cl) (Q : DQ) (E : DX) (h : sp_is_word ds C Q E) : td_is_word (endsD Q) (startD ["thing", "sign"] ds) C := by
  obtain ⟨d, rfl, ⟨⟨n, hn⟩, hl⟩, hq⟩ := h
  refine ⟨_, rfl, _, _, rfl, hn, _, rfl, ?_⟩
  by_cases hs : ∃ l, d = .str l
  · have e := (strSub hn).mpr hs
    obtain ⟨l, rfl⟩ := hs
    rw [e]
    have hl := hl l rfl
    refine iteF ⟨_, rfl, _, _, rfl, rfl, szl (by omega), _, rfl, trivial, _, rfl, ite_d (fun h1 => ?_) (fun h1 => ?_)⟩
    · refine ⟨_, rfl, trivial, _, rfl, ite_nd (fun h2 => ?_) (fun h2 => ?_)⟩
      · refine ⟨_, _, .same, ?_⟩
        have e2 : onStr isWord (.str l) = false := by
          show isWord l = false
          unfold isWord
          rw [decide_eq_false (fun z => h2 (by omega))]; rfl
        rw [← e2]; exact hq
      · walk_at "d"
        refine lc_signs (l := l) isLow (fun R h => ⟨_, rfl, _, rfl, h⟩) (szl (by omega)) (fun c C' N hc s hN => ?_) ?_
        · exact ⟨_, rfl, .inl ⟨c, _, rfl, rfl, hN⟩⟩
        · refine ⟨_, _, rfl, rfl, _, _, .same, ?_⟩
          rw [all_map]
          have e2 : onStr isWord (.str l) = l.all isLow := by
            show isWord l = _
            unfold isWord
            rw [decide_eq_true (show 1 ≤ l.length ∧ l.length ≤ 8 by omega)]; rfl
          rw [← e2]; exact hq
    · refine ⟨_, rfl, iteT ⟨_, _, .same, ?_⟩⟩
      have e2 : onStr isWord (.str l) = false := by
        show isWord l = false
        unfold isWord
        rw [decide_eq_false (fun z => h1 (by omega))]; rfl
      rw [← e2]; exact hq
  · have e : isSub n "str" = false := by
      cases e : isSub n "str" with
      | false => rfl
      | true => exact absurd ((strSub hn).mp e) hs
    rw [e]
    refine iteT ⟨_, _, .same, ?_⟩
    rw [onStr_no hs] at hq
    exact hq
def sp_is_text : DSp := fun ds C Q _ => ∃ d, ds = [d] ∧ Known d C ∧ Q (.bl (onStr isText d)) C
def td_is_text : DS :=
  (dSeq (dIfS (dNot (dTest (dCB (rIsi "str") (dCons (dVar 0) (dCons (dC (.ty "str")) dNil))))) (dRet (dC (.bl false))) dNext)
    (dRet (dCB rAllL (dCons (dFz (dLc (diStr (dVar 0)) (dName 1) dYes (dAndV (dChain rLeD rLeD (dC (.int 32)) (dCB rOrd (dCons (dVar 1) dNil)) (dC (.int 126))) (dOp rNeD (dCB rOrd (dCons (dVar 1) dNil)) (dC (.int 37)))) [1])) dNil))))
theorem len_is_text (ds : List D) (C : Cl) (Q : DQ) (E : DX) (h : sp_is_text ds C Q E) : ds.length = 1 := by obtain ⟨_, rfl, _⟩ := h; rfl
theorem pure_is_text (ds : List D) (C : Cl) (Q : DQ) (E : DX) (h : sp_is_text ds C Q E) : td_is_text (endsD Q) (startD ["thing", "sign"] ds) C := by
  obtain ⟨d, rfl, ⟨⟨n, hn⟩, hl⟩, hq⟩ := h
  refine ⟨_, rfl, _, _, rfl, hn, _, rfl, ?_⟩
  by_cases hs : ∃ l, d = .str l
  · have e := (strSub hn).mpr hs
    obtain ⟨l, rfl⟩ := hs
    rw [e]
    have hl := hl l rfl
    refine iteF ?_
    walk_at "d"
    refine lc_signs (l := l) okSign (fun R h => ⟨_, rfl, _, rfl, h⟩) (szl (by omega)) (fun c C' N hc s hN => ?_) ?_
    · have no : decide (32 ≤ c ∧ c ≤ 126) = false → N (.bl false) C' := fun z => by
        have : okSign c = false := by unfold okSign; rw [z]; rfl
        rw [← this]; exact hN
      refine ⟨_, rfl, c, rfl, _, rfl, trivial, _, rfl, ite_d (fun h1 => ?_) (fun h1 => ?_)⟩
      · refine ⟨_, rfl, trivial, _, rfl, ite_d (fun h2 => ?_) (fun h2 => ?_)⟩
        · refine ⟨_, rfl, c, rfl, .inl ⟨_, rfl, ?_⟩⟩
          have : okSign c = !decide ((c : Int) = 37) := by
            unfold okSign
            rw [decide_eq_true (show 32 ≤ c ∧ c ≤ 126 by omega), Bool.true_and, ← decide_not]
            exact decide_eq_decide.mpr (by omega)
          rw [← this]; exact hN
        · exact no (decide_eq_false (by omega))
      · exact ⟨_, rfl, iteF (no (decide_eq_false (by omega)))⟩
    · refine ⟨_, _, rfl, rfl, _, _, .same, ?_⟩
      rw [all_map]
      exact hq
  · have e : isSub n "str" = false := by
      cases e : isSub n "str" with
      | false => rfl
      | true => exact absurd ((strSub hn).mp e) hs
    rw [e]
    refine iteT ⟨_, _, .same, ?_⟩
    rw [onStr_no hs] at hq
    exact hq
theorem nodup_rev {α : Type} (l : List α) : l.reverse.Nodup ↔ l.Nodup := by
  unfold List.Nodup
  rw [List.pairwise_reverse]
  exact ⟨fun h => h.imp fun z => Ne.symm z, fun h => h.imp fun z => Ne.symm z⟩
/-- texts in a tuple -/
def areTexts (ls : List (List Nat)) (m : Nat) : Bool := decide (1 ≤ ls.length ∧ ls.length ≤ m) && (ls.all isText && decide ls.Nodup)
def sp_are_texts : DSp := fun ds C Q _ => ∃ (ls : List (List Nat)) (m : Nat), ds = [.tup (txts ls), .int m] ∧ ls.length ≤ 4000 ∧ (∀ l ∈ ls, l.length ≤ 1000000) ∧ Q (.bl (areTexts ls m)) C
def td_are_texts : DS :=
  (dSeq (dIfS (dOr (dNot (dTest (dCB (rIsi "tuple") (dCons (dVar 0) (dCons (dC (.ty "tuple")) dNil))))) (dNot (dTest (dChain rLeD rLeD (dC (.int 1)) (dCB rLen (dCons (dVar 0) dNil)) (dVar 1))))) (dRet (dC (.bl false))) dNext)
    (dRet (dAndV (dCB rAllL (dCons (dFz (dLc (diTup (dVar 0)) (dName 2) dYes (dCall sp_is_text [] (dCons (dVar 2) dNil)) [2])) dNil)) (dOp rEqD (dLenSet (dVar 0)) (dCB rLen (dCons (dVar 0) dNil))))))
/-- [test of t for t in texts] -/
theorem lc_txts {wi : DI} {ls : List (List Nat)} {C1 : Cl} {ρ : DEnv} {g : DG} {te : DE} {vs : List Nat} {Q : DQ} (p : List Nat → Bool) (hw : ∀ R : List D → Cl → Prop, R (txts ls) C1 → wi ρ C1 R) (hl : ls.length ≤ sizeLine)
    (h : ∀ (l : List Nat) (C : Cl) (N : DQ), l ∈ ls → SubC C1 C → N (.bl (p l)) C → g (.str l) (wipeD ρ vs) C fun ρ2 C2 => te ρ2 C2 N) (hq : Q (.lst (bls (ls.map p))) C1) :
    dFz (dLc wi g dYes te vs) ρ C1 Q := by
  refine hw _ (lc_map (fun d => match d with | .str l => .bl (p l) | _ => .non) (by rw [txts_length]; exact hl) (fun i x C N hx s hN => ?_) ?_)
  · unfold txts at hx
    rw [List.getElem?_map] at hx
    cases e : ls[i]? with
    | none => rw [e] at hx; cases hx
    | some l =>
      rw [e] at hx
      cases hx
      exact h l C N (List.mem_of_getElem? e) s hN
  · have e : (txts ls).map (fun d => match d with | .str l => D.bl (p l) | _ => .non) = bls (ls.map p) := by
      unfold txts bls
      rw [List.map_map, List.map_map]
      rfl
    rw [e]
    exact hq
theorem all_mapL {α : Type} (p : α → Bool) (l : List α) : (l.map p).all id = l.all p := by rw [List.all_map]; rfl
theorem pure_are_texts (ds : List D) (C : Cl) (Q : DQ) (E : DX) (h : sp_are_texts ds C Q E) : td_are_texts (endsD Q) (startD ["things", "most", "thing"] ds) C := by
  obtain ⟨ls, m, rfl, h4, hl, hq⟩ := h
  have hln : (txts ls).length = ls.length := txts_length ls
  have no : ¬ (1 ≤ ls.length ∧ ls.length ≤ m) → Q (.bl false) C := fun z => by
    have : areTexts ls m = false := by unfold areTexts; rw [decide_eq_false z]; rfl
    rw [← this]; exact hq
  refine ⟨_, rfl, _, _, rfl, rfl, _, rfl, iteF ⟨_, rfl, _, _, rfl, rfl, trivial, _, rfl, trivial, _, rfl, ite_d (fun h1 => ?_) (fun h1 => ?_)⟩⟩
  · refine ⟨_, rfl, _, rfl, trivial, _, rfl, ite_nd (fun h2 => ⟨_, _, .same, no (by omega)⟩) (fun h2 => ?_)⟩
    walk_at "d"
    refine lc_txts (ls := ls) isText (fun R h => ⟨_, rfl, _, rfl, h⟩) (szl (by omega)) (fun l C' N hm s hN => ?_) ?_
    · exact ⟨_, rfl, _, rfl, ⟨⟨"str", rfl⟩, fun l' e => by cases e; exact hl l hm⟩, hN⟩
    · refine ⟨_, _, rfl, rfl, _, rfl, ?_⟩
      rw [all_mapL]
      refine ite_b (fun h3 => ?_) (fun h3 => ?_)
      · refine ⟨_, rfl, ls, rfl, h4, _, rfl, _, _, rfl, rfl, trivial, .inl ⟨_, rfl, _, _, .same, ?_⟩⟩
        have : areTexts ls m = decide ((dcN ls.reverse : Int) = ((txts ls).length : Int)) := by
          unfold areTexts
          rw [decide_eq_true (show 1 ≤ ls.length ∧ ls.length ≤ m by omega), h3, Bool.true_and, Bool.true_and]
          have nd := dcN_nodup ls.reverse
          rw [List.length_reverse, nodup_rev] at nd
          rw [hln]
          exact decide_eq_decide.mpr ⟨fun z => by rw [nd.mpr z], fun z => nd.mp (by omega)⟩
        rw [← this]; exact hq
      · refine ⟨_, _, .same, ?_⟩
        have : areTexts ls m = false := by unfold areTexts; rw [h3, Bool.false_and, Bool.and_false]
        rw [← this]; exact hq
  · exact ⟨_, rfl, iteT ⟨_, _, .same, no (by omega)⟩⟩
end G
namespace G
open PySem PySem.Spec PyProof.Rows L2
/-! ### kinds -/
structure KindR where
  name : List Nat
  fam : List Nat
  marks : List (List Nat) := []
  yes : List (List Nat) := []
  no : List (List Nat) := []
  digits : Option Nat := none
  point : Bool := false
  signs : List Nat := [45]
  zeros : Bool := true
  keep : Option Nat := none
  shown : Nat := 0
def optN : Option Nat → D
  | none => .non
  | some n => .int n
abbrev famMissing : List Nat := [109, 105, 115, 115, 105, 110, 103]
abbrev famTruth : List Nat := [116, 114, 117, 116, 104]
abbrev famNumber : List Nat := [110, 117, 109, 98, 101, 114]
abbrev famText : List Nat := [116, 101, 120, 116]
def kindFs (k : KindR) : List (Str × D) := [("name", .str k.name), ("family", .str k.fam), ("marks", .tup (txts k.marks)), ("yes", .tup (txts k.yes)), ("no", .tup (txts k.no)), ("digits", optN k.digits), ("point", .bl k.point), ("signs", .str k.signs), ("zeros", .bl k.zeros), ("keep", optN k.keep), ("shown", .int k.shown)]
def kindD (k : KindR) : D := .ins "Kind" (kindFs k)
section
variable (k : KindR)
end
def sp_Kind_init : DSp := fun ds C Q _ => ∃ a d1 d2 d3 d4 d5 d6 d7 d8 d9 d10 d11, ds = [.ref a, d1, d2, d3, d4, d5, d6, d7, d8, d9, d10, d11] ∧ C a = some (.ins "Kind" []) ∧
  Q .non (updC C a (.ins "Kind" [("name", d1), ("family", d2), ("marks", d3), ("yes", d4), ("no", d5), ("digits", d6), ("point", d7), ("signs", d8), ("zeros", d9), ("keep", d10), ("shown", d11)]))
def td_Kind_init : DS :=
  (dSeq (dFldSet ["Kind"] (dVar 0) (dVar 1) "name")
    (dSeq (dFldSet ["Kind"] (dVar 0) (dVar 2) "family")
    (dSeq (dFldSet ["Kind"] (dVar 0) (dVar 3) "marks")
    (dSeq (dFldSet ["Kind"] (dVar 0) (dVar 4) "yes")
    (dSeq (dFldSet ["Kind"] (dVar 0) (dVar 5) "no")
    (dSeq (dFldSet ["Kind"] (dVar 0) (dVar 6) "digits")
    (dSeq (dFldSet ["Kind"] (dVar 0) (dVar 7) "point")
    (dSeq (dFldSet ["Kind"] (dVar 0) (dVar 8) "signs")
    (dSeq (dFldSet ["Kind"] (dVar 0) (dVar 9) "zeros")
    (dSeq (dFldSet ["Kind"] (dVar 0) (dVar 10) "keep")
    (dFldSet ["Kind"] (dVar 0) (dVar 11) "shown")))))))))))
theorem len_Kind_init (ds : List D) (C : Cl) (Q : DQ) (E : DX) (h : sp_Kind_init ds C Q E) : ds.length = 12 := by obtain ⟨_, _, _, _, _, _, _, _, _, _, _, _, rfl, _⟩ := h; rfl
/-- one more field -/
theorem put_fld {cs : List String} {i j : Nat} {f : Str} {ρ : DEnv} {C : Cl} {a : Addr} {c : String} {fs : List (Str × D)} {d : D} {De : DEnds} (h0 : ρ[i]? = some (some (.ref a))) (h1 : ρ[j]? = some (some d)) (hm : c ∈ cs) (hl : fs.length < 1000) (hn : fs.all (fun p => decide (p.1 ≠ f)) = true)
    (h : De.nx ρ (updC C a (.ins c (fs ++ [(f, d)])))) : dFldSet cs (dVar i) (dVar j) f De ρ (updC C a (.ins c fs)) := by
  refine ⟨d, h1, .ref a, h0, a, c, fs, hm, rfl, updC_same, hl, ?_⟩
  have e : putD f d fs = fs ++ [(f, d)] := by
    clear h hl
    induction fs with
    | nil => rfl
    | cons p fs ih =>
      obtain ⟨g, x⟩ := p
      rw [List.all_cons, Bool.and_eq_true, decide_eq_true_eq] at hn
      unfold putD
      rw [if_neg hn.1, ih hn.2]
      rfl
  rw [e, updC_updC]
  exact h
theorem pure_Kind_init (ds : List D) (C : Cl) (Q : DQ) (E : DX) (h : sp_Kind_init ds C Q E) : td_Kind_init (endsD Q) (startD ["self", "name", "family", "marks", "yes", "no", "digits", "point", "signs", "zeros", "keep", "shown"] ds) C := by
  obtain ⟨a, d1, d2, d3, d4, d5, d6, d7, d8, d9, d10, d11, rfl, hc, hq⟩ := h
  rw [← updC_self hc]
  refine put_fld rfl rfl (.head _) (by simp) rfl ?_
  refine put_fld rfl rfl (.head _) (by simp) rfl ?_
  refine put_fld rfl rfl (.head _) (by simp) rfl ?_
  refine put_fld rfl rfl (.head _) (by simp) rfl ?_
  refine put_fld rfl rfl (.head _) (by simp) rfl ?_
  refine put_fld rfl rfl (.head _) (by simp) rfl ?_
  refine put_fld rfl rfl (.head _) (by simp) rfl ?_
  refine put_fld rfl rfl (.head _) (by simp) rfl ?_
  refine put_fld rfl rfl (.head _) (by simp) rfl ?_
  refine put_fld rfl rfl (.head _) (by simp) rfl ?_
  refine put_fld rfl rfl (.head _) (by simp) rfl ?_
  exact ⟨_, SubC.refl _, hq⟩
end G
namespace G
open PySem PySem.Spec PyProof.Rows L2
/-! ### kinds made -/
/-- the end of a def that gives out what it has just made -/
theorem made_end {C : Cl} {c : String} {fs gs : List (Str × D)} {Q : DQ} (x : Addr) (hx : C x = none) (hq : Q (.ins c gs) C) : (fun (v : D) (C4 : Cl) => v = D.non ∧ (endsD Q).rt (.ref x) C4) .non (updC (updC C x (.ins c fs)) x (.ins c gs)) := by
  refine ⟨rfl, .ins c gs, C, ?_, hq⟩
  rw [updC_updC]
  have := Gh.ins (a := x) (C := updC C x (.ins c gs)) (ds := gs) (c := c) updC_same
  rw [delC_updC hx] at this
  exact this
theorem known_str {l : List Nat} {C : Cl} (h : l.length ≤ 1000000) : Known (.str l) C := ⟨⟨"str", rfl⟩, fun l' e => by cases e; exact h⟩
theorem areTexts_len {ls : List (List Nat)} {m : Nat} (h : areTexts ls m = true) : 1 ≤ ls.length ∧ ls.length ≤ m ∧ ls.all isText = true ∧ ls.Nodup := by
  unfold areTexts at h
  rw [Bool.and_eq_true, Bool.and_eq_true, decide_eq_true_iff, decide_eq_true_iff] at h
  exact ⟨h.1.1, h.1.2, h.2.1, h.2.2⟩
/-- l in texts -/
theorem any_txts (ps : List (List Nat)) (l : List Nat) : ((txts ps).any fun e => eqFl e (.str l)) = decide (l ∈ ps) := by
  rw [Bool.eq_iff_iff, List.any_eq_true, decide_eq_true_iff]
  unfold txts
  constructor
  · rintro ⟨x, hx, hy⟩
    obtain ⟨t, ht, rfl⟩ := List.mem_map.mp hx
    have : (t == l) = true := hy
    rw [beq_iff_eq] at this
    rw [← this]; exact ht
  · intro h
    exact ⟨.str l, List.mem_map.mpr ⟨l, h, rfl⟩, beq_self_eq_true l⟩
theorem in_txts {ps : List (List Nat)} {l : List Nat} {y : D} {C : Cl} {Q : DQ} (hy : seqOf C y = some (txts ps)) (hq : Q (.bl (decide (l ∈ ps))) C) : rIn (.str l) y C Q := by
  refine .inr (.inr ⟨_, hy, rfl, flat_txts ps, ?_⟩)
  rw [any_txts]
  exact hq
local macro_rules | `(tactic| walk_at "d") => `(tactic| dsimp only [dSeq, dAsg, dVar, dC, dOp, dCB, dBM, dBM0, dCons, dNil, dTest, dIf, dAnd, dOr, dNot, dAndV, dOrV, dNotV, dRet, dIfS, dNext, dName, dTup, dLst, dLstC, dCall, dSl, dPart, dNoPart, dUn, dgTup, dgCons, dgNil, dgSub, dDrop, dPar])
/-! ### what a kind takes -/
instance (o : Option Nat) (n : Nat) : Decidable (∃ d, o = some d ∧ d < n) :=
  match o with
  | none => .isFalse fun ⟨_, h, _⟩ => nomatch h
  | some m => if h : m < n then .isTrue ⟨m, rfl, h⟩ else .isFalse fun ⟨_, e, z⟩ => by cases e; exact h z
def takesN (k : KindR) (l : List Nat) : Bool :=
  match splitN l with
  | none => false
  | some (s, w, o) =>
    if subIn s k.signs = false ∨ (o ≠ none ∧ k.point = false) then false
    else if (∃ d, k.digits = some d ∧ d < w.length) then false
    else k.zeros || (decide (w.length = 1) || decide (w.head? ≠ some 48))
end G
namespace G
open PySem PySem.Spec PyProof.Rows L2
/-- which texts a kind takes -/
def takes (k : KindR) (l : List Nat) : Bool :=
  if k.fam = famMissing then decide (l ∈ k.marks)
  else if k.fam = famTruth then decide (l ∈ k.yes) || decide (l ∈ k.no)
  else if k.fam = famText then isText l
  else takesN k l
end G
namespace G
open PySem PySem.Spec PyProof.Rows L2
/-! ### a text nearly another -/
theorem txts_app (a b : List (List Nat)) : txts (a ++ b) = txts a ++ txts b := List.map_append ..
end G
namespace G
open PySem PySem.Spec PyProof.Rows L2
/-! ### drawn words -/
def keys7 : List Nat := [99, 103, 104, 105, 106, 108, 110]
/-- the word's sign that tells its place -/
def keyOf (side : Int) (l : List Nat) : Option Nat := if side = 0 then l.head? else l.getLast?
def sp_l_word : DSp := fun ds C Q _ => ∃ b k n, ∃ side : Int, ds = [.ref b, .int (k : Nat), .int side] ∧ k < 7 ∧ BagAt C b n ∧ n < 1000000000 ∧ ∀ l C', isWord l = true → keyOf side l = some (keys7.getD k 0) → Bagged C b C' (n + 1001) → Q (.str l) C'
def td_l_word : DS :=
  (dSeq (dAsg (dC (.str [97, 98, 99, 100, 101, 102, 103, 104, 105, 106, 107, 108, 109, 110, 111, 112, 113, 114, 115, 116, 117, 118, 119, 120, 121, 122])) (dName 3))
    (dSeq (dAsg (dBM "str" rJoin (dC (.str [])) (dCons (dFz (dLc (diRng1 (dCons (dCall sp_l_take [] (dCons (dVar 0) (dCons (dC (.int 8)) dNil))) dNil)) (dName 5) dYes (dCall sp_l_of [] (dCons (dVar 0) (dCons (dVar 3) dNil))) [5])) dNil)) (dName 4))
    (dRet (dIf (dTest (dOp rEqD (dVar 2) (dC (.int 0)))) (dAdd (dOp rIx (dC (.str [99, 103, 104, 105, 106, 108, 110])) (dVar 1)) (dVar 4)) (dAdd (dVar 4) (dOp rIx (dC (.str [99, 103, 104, 105, 106, 108, 110])) (dVar 1)))))))
theorem len_l_word (ds : List D) (C : Cl) (Q : DQ) (E : DX) (h : sp_l_word ds C Q E) : ds.length = 3 := by obtain ⟨_, _, _, _, rfl, _⟩ := h; rfl
/-- the same list comprehension where the things are in a name -/
theorem lc_of' {ρ : DEnv} {C : Cl} {b : Addr} {n ib iv is : Nat} {m : Int} {items : List D} {sv : D} {Q : DQ} (h0 : ρ[ib]? = some (some (.ref b))) (hi : ib ≠ iv) (hs : ρ[is]? = some (some sv)) (hi2 : is ≠ iv) (hb : BagAt C b n) (hn : n < 10000000000) (m0 : 0 < m) (m1 : m ≤ 1000)
    (hv : ∀ C', itemsOf C' sv = some items) (hr : sv ≠ .ref b) (he : items ≠ []) (hl : items.length ≤ 1000000)
    (hq : ∀ ys C', ys.length < m.toNat → (∀ y ∈ ys, y ∈ items) → Bagged C b C' (n + 1001) → Q (.lst ys) C') :
    dFz (dLc (diRng1 (dCons (dCall sp_l_take [] (dCons (dVar ib) (dCons (dC (.int m)) dNil))) dNil)) (dName iv) dYes (dCall sp_l_of [] (dCons (dVar ib) (dCons (dVar is) dNil))) [iv]) ρ C Q := by
  refine ⟨_, h0, b, m, n, rfl, m0, by omega, hb, by omega, fun i C1 i0 i1 B1 => ?_⟩
  refine ⟨i, rfl, ⟨by omega, by omega⟩, ?_⟩
  refine lc_bag (k := 1) (fun y => y ∈ items) B1.at (by rw [ranged_length]; exact szl (by omega)) (fun i' x C2 N hx hb2 _ hN => ?_) fun ys C2 hyl hY B2 => ?_
  · have hx := (ranged_get hx).1
    refine ⟨_, getWipe h0 hi, _, getWipe hs hi2, b, sv, items, _, rfl, hv _, hr, he, hl, hb2, by omega, fun d C3 hd B3 => hN d C3 hd (B3.mono (by omega))⟩
  · rw [ranged_length] at hyl B2
    exact hq ys C2 (by omega) hY ((B1.trans B2).mono (by omega))
theorem pure_l_word (ds : List D) (C : Cl) (Q : DQ) (E : DX) (h : sp_l_word ds C Q E) : td_l_word (endsD Q) (startD ["_law_bag_here", "_law_at", "_law_most", "_law_letters", "_law_some", "_law_turn"] ds) C := by
  obtain ⟨b, k, n, side, rfl, hk, hb, hn, hq⟩ := h
  refine ⟨rfl, lc_of' (ρ := [some (.ref b), some (.int k), some (.int side), some (.str letters), none, none]) (items := signs letters) (sv := .str letters) rfl (by decide) rfl (by decide) hb (by omega) (by decide) (by decide) (fun _ => rfl) nofun (by decide) (by decide) fun ys C1 hyl hY B1 => ?_⟩
  obtain ⟨ls, rfl, hs⟩ := txts_of (P := fun l => l.length ≤ 1 ∧ l.all isLow = true) fun y hy => by
    obtain ⟨c, rfl, hc⟩ := mem_signs (hY y hy)
    exact ⟨[c], rfl, by simp, by rw [List.all_cons, List.all_nil, Bool.and_true]; exact decide_eq_true hc⟩
  rw [txts_length] at hyl
  have h1 := sum_le fun l hl => (hs l hl).1
  have h3 := all_join fun l hl => (hs l hl).2
  have h2 := join_le ls
  have hyl : ls.length < 8 := hyl
  refine ⟨[], _, ls, rfl, rfl, rfl, by simp only [List.length_nil, Nat.mul_zero]; omega, ?_⟩
  generalize TL.joinL [] ls = t at *
  have key : atI keys7 (k : Int) = some (keys7.getD k 0) ∧ isLow (keys7.getD k 0) = true := by
    have : k = 0 ∨ k = 1 ∨ k = 2 ∨ k = 3 ∨ k = 4 ∨ k = 5 ∨ k = 6 := by omega
    rcases this with rfl | rfl | rfl | rfl | rfl | rfl | rfl <;> exact ⟨rfl, rfl⟩
  generalize keys7.getD k 0 = c at *
  refine ⟨_, rfl, .inl ⟨_, rfl, _, rfl, ite_d (fun z => ?_) (fun z => ?_)⟩⟩
  · refine ⟨_, rfl, _, rfl, .inl ⟨keys7, c, rfl, szl (by decide), key.1, _, rfl, _, rfl, szl (by simp only [List.length_append, List.length_cons, List.length_nil]; omega), _, _, .same, hq _ _ ?_ ?_ (B1.mono (by omega))⟩⟩
    · unfold isWord
      rw [List.all_append, h3, List.all_cons, List.all_nil, key.2, decide_eq_true (show 1 ≤ ([c] ++ t).length ∧ ([c] ++ t).length ≤ 8 by simp only [List.length_append, List.length_cons, List.length_nil]; omega)]
      rfl
    · unfold keyOf
      rw [if_pos z]
      rfl
  · refine ⟨_, rfl, _, rfl, _, rfl, .inl ⟨keys7, c, rfl, szl (by decide), key.1, _, rfl, szl (by simp only [List.length_append, List.length_cons, List.length_nil]; omega), _, _, .same, hq _ _ ?_ ?_ (B1.mono (by omega))⟩⟩
    · unfold isWord
      rw [List.all_append, h3, List.all_cons, List.all_nil, key.2, decide_eq_true (show 1 ≤ (t ++ [c]).length ∧ (t ++ [c]).length ≤ 8 by simp only [List.length_append, List.length_cons, List.length_nil]; omega)]
      rfl
    · unfold keyOf
      rw [if_neg z]
      simp
/-- a word has one of the seven letters that tell words apart -/
def keyed (w : List Nat) : Prop := ∃ c ∈ keys7, c ∈ w
theorem keyed_of {side : Int} {w : List Nat} {i : Nat} (hi : i < 7) (h : keyOf side w = some (keys7.getD i 0)) : keyed w := by
  refine ⟨keys7.getD i 0, ?_, ?_⟩
  · rw [List.getD_eq_getElem?_getD, List.getElem?_eq_getElem (show i < keys7.length from hi)]
    exact List.getElem_mem _
  · unfold keyOf at h
    split at h
    · exact List.mem_of_mem_head? h
    · exact List.mem_of_getLast? h
theorem keys7_inj {i j : Nat} (hi : i < 7) (hj : j < 7) (h : keys7.getD i 0 = keys7.getD j 0) : i = j := by
  have a : i = 0 ∨ i = 1 ∨ i = 2 ∨ i = 3 ∨ i = 4 ∨ i = 5 ∨ i = 6 := by omega
  have b : j = 0 ∨ j = 1 ∨ j = 2 ∨ j = 3 ∨ j = 4 ∨ j = 5 ∨ j = 6 := by omega
  rcases a with rfl | rfl | rfl | rfl | rfl | rfl | rfl <;> rcases b with rfl | rfl | rfl | rfl | rfl | rfl | rfl <;> first | rfl | exact absurd h (by decide)
/-- no word is another one with a q behind -/
def NoQs (ws : List (List Nat)) : Prop := ∀ v ∈ ws, ∀ w ∈ ws, w ≠ v ++ [113]
theorem noQs_of {side : Int} {ls : List (List Nat)} (hl : ls.length ≤ 7) (h : ∀ i l, ls[i]? = some l → keyOf side l = some (keys7.getD i 0)) : NoQs ls := by
  intro v hv w hw e
  obtain ⟨i, hi⟩ := List.mem_iff_getElem?.mp hv
  obtain ⟨j, hj⟩ := List.mem_iff_getElem?.mp hw
  have il := (List.getElem?_eq_some_iff.mp hi).1
  have jl := (List.getElem?_eq_some_iff.mp hj).1
  have a := h i v hi
  have b := h j w hj
  rw [e] at b
  unfold keyOf at a b
  by_cases z : side = 0
  · rw [if_pos z] at a b
    cases v with
    | nil => cases a
    | cons c r =>
      rw [List.cons_append, List.head?_cons] at b
      rw [List.head?_cons] at a
      have := keys7_inj (by omega) (by omega) (Option.some.inj (a.symm.trans b))
      subst this
      rw [hi] at hj
      have := congrArg List.length ((Option.some.inj hj).trans e)
      rw [List.length_append, List.length_singleton] at this
      omega
  · rw [if_neg z, List.getLast?_append] at b
    have e2 : (113 : Nat) = keys7.getD j 0 := by simpa using b
    have c : j = 0 ∨ j = 1 ∨ j = 2 ∨ j = 3 ∨ j = 4 ∨ j = 5 ∨ j = 6 := by omega
    rcases c with rfl | rfl | rfl | rfl | rfl | rfl | rfl <;> exact absurd e2 (by decide)
def sp_l_words : DSp := fun ds C Q _ => ∃ b m n, ds = [.ref b, .int (m : Nat)] ∧ m ≤ 7 ∧ BagAt C b n ∧ n < 100000000 ∧ ∀ ws C', ws.length = m → (∀ w ∈ ws, isWord w = true) → (ws.Nodup ∧ (∀ w ∈ ws, keyed w) ∧ NoQs ws) → Bagged C b C' (n + 10000) → Q (.lst (txts ws)) C'
def td_l_words : DS :=
  (dSeq (dAsg (dCall sp_l_take [] (dCons (dVar 0) (dCons (dC (.int 2)) dNil))) (dName 2))
    (dRet (dFz (dLc (diRng1 (dCons (dVar 1) dNil)) (dName 3) dYes (dCall sp_l_word [] (dCons (dVar 0) (dCons (dVar 3) (dCons (dVar 2) dNil)))) [3]))))
theorem len_l_words (ds : List D) (C : Cl) (Q : DQ) (E : DX) (h : sp_l_words ds C Q E) : ds.length = 2 := by obtain ⟨_, _, _, rfl, _⟩ := h; rfl
/-- a list of drawn things, each told by its place -/
theorem lc_bagI {g : DG} {te : DE} {ρ : DEnv} {vs : List Nat} {C1 : Cl} {b : Addr} {n k : Nat} {xs : List D} {Q : DQ} (Y : Nat → D → Prop) (hb : BagAt C1 b n) (hl : xs.length ≤ sizeLine)
    (h : ∀ i x C (N : DQ), xs[i]? = some x → BagAt C b (n + i * k) → (∀ a, C1 a ≠ none → a ≠ b → C a = C1 a) → (∀ y C', Y i y → Bagged C b C' (n + (i + 1) * k) → N y C') → g x (wipeD ρ vs) C fun ρ2 C2 => te ρ2 C2 N)
    (hq : ∀ ys C', ys.length = xs.length → (∀ i y, ys[i]? = some y → Y i y) → Bagged C1 b C' (n + xs.length * k) → Q (.lst ys) C') :
    ∀ p, C1 p = none → ∃ Pv : Nat → Cl → Prop, Pv 0 (updC C1 p (.lst [])) ∧
      (∀ i x C, xs[i]? = some x → Pv i C → g x (wipeD ρ vs) C fun ρ2 C2 => dYes ρ2 C2 fun b C3 =>
        if b = true then te ρ2 C3 fun y C4 => ∃ acc, C4 p = some (.lst acc) ∧ acc.length < sizeLine ∧ Pv (i + 1) (updC C4 p (.lst (acc ++ [y]))) else Pv (i + 1) C3) ∧
      ∀ C, Pv xs.length C → ∃ a ds, D.ref p = .ref a ∧ C a = some (.lst ds) ∧ Q (.lst ds) (delC C a) := by
  intro p hp
  refine ⟨fun i C => ∃ ys C', C = updC C' p (.lst ys) ∧ ys.length = i ∧ (∀ j y, ys[j]? = some y → Y j y) ∧ Bagged C1 b C' (n + i * k), ⟨[], C1, rfl, rfl, nofun, by rw [Nat.zero_mul]; exact hb.self⟩, ?_, ?_⟩
  · rintro i x C hx ⟨ys, C', rfl, hyl, hY, B⟩
    have bp := hb.ne hp
    have i1 : i < xs.length := (List.getElem?_eq_some_iff.mp hx).1
    refine h i x _ _ hx (B.at.upd bp) (fun a ha hab => ?_) fun y C2 hy B2 => ?_
    · have : a ≠ p := by rintro rfl; exact ha hp
      rw [updC_ne this]
      exact B.ne hab
    · obtain ⟨u1, u2, u3, rfl, G2⟩ := B2
      obtain ⟨v1, v2, v3, rfl, G1⟩ := B
      refine ⟨ys, by rw [updC_ne (Ne.symm bp), updC_same], by omega, ys ++ [y], updC C1 b (bagC u1 u2 u3), ?_, by rw [List.length_append, hyl, List.length_singleton], ?_, ⟨u1, u2, u3, rfl, G2⟩⟩
      · rw [updC_comm (C := updC C1 b (bagC v1 v2 v3)) (Ne.symm bp), updC_updC, updC_updC]
      · intro j z hz
        by_cases e : j < ys.length
        · rw [List.getElem?_append_left e] at hz; exact hY j z hz
        · rw [List.getElem?_append_right (by omega)] at hz
          have : j - ys.length = 0 := by
            have := (List.getElem?_eq_some_iff.mp hz).1
            simp at this
            omega
          rw [this] at hz
          cases hz
          rw [show j = i by omega]
          exact hy
  · rintro C ⟨ys, C', rfl, hyl, hY, B⟩
    refine ⟨p, ys, rfl, updC_same, ?_⟩
    have bp := hb.ne hp
    rw [delC_updC (by rw [B.ne (Ne.symm bp), hp])]
    exact hq ys C' hyl hY B
theorem txts_ofI {P : Nat → List Nat → Prop} {ys : List D} (h : ∀ i y, ys[i]? = some y → ∃ l, y = .str l ∧ P i l) : ∃ ls : List (List Nat), ys = txts ls ∧ ∀ i l, ls[i]? = some l → P i l := by
  induction ys generalizing P with
  | nil => exact ⟨[], rfl, nofun⟩
  | cons y ys ih =>
    obtain ⟨l, rfl, hl⟩ := h 0 y rfl
    obtain ⟨ls, rfl, hs⟩ := ih (P := fun i l => P (i + 1) l) fun i z hz => h (i + 1) z (by simpa using hz)
    refine ⟨l :: ls, rfl, fun i z hz => ?_⟩
    cases i with
    | zero => cases hz; exact hl
    | succ i => exact hs i z (by simpa using hz)
theorem pure_l_words (ds : List D) (C : Cl) (Q : DQ) (E : DX) (h : sp_l_words ds C Q E) : td_l_words (endsD Q) (startD ["_law_bag_here", "_law_many", "_law_side", "_law_at"] ds) C := by
  obtain ⟨b, m, n, rfl, hm, hb, hn, hq⟩ := h
  refine ⟨_, rfl, b, 2, n, rfl, by decide, by decide, hb, by omega, fun side C1 i0 i1 B1 => ?_⟩
  refine ⟨_, rfl, (m : Int), rfl, ⟨by omega, by omega⟩, ?_⟩
  refine lc_bagI (k := 1001) (fun i y => ∃ l, y = .str l ∧ isWord l = true ∧ keyOf side l = some (keys7.getD i 0)) B1.at (by rw [ranged_length]; exact szl (by omega)) (fun i x C2 N hx hb2 _ hN => ?_) fun ys C2 hyl hY B2 => ?_
  · obtain ⟨hi, rfl⟩ := ranged_get hx
    rw [show (0 : Int) + (i : Int) = (i : Int) by omega]
    have hi : i < m := by omega
    exact ⟨_, rfl, _, rfl, _, rfl, b, i, _, side, rfl, by omega, hb2, by omega, fun l C3 h1 h2 B3 => hN _ C3 ⟨l, rfl, h1, h2⟩ (B3.mono (by omega))⟩
  · rw [ranged_length] at hyl B2
    obtain ⟨ls, rfl, hs⟩ := txts_ofI hY
    rw [txts_length] at hyl
    have hyl : ls.length = m := by omega
    refine ⟨_, _, .same, hq ls C2 hyl (fun w hw => ?_) ⟨?_, fun w hw => ?_, noQs_of (by omega) fun i l hi => (hs i l hi).2⟩ ((B1.trans B2).mono (by omega))⟩
    · obtain ⟨i, hi⟩ := List.mem_iff_getElem?.mp hw
      exact (hs i w hi).1
    rotate_left
    · obtain ⟨i, hi⟩ := List.mem_iff_getElem?.mp hw
      have := (List.getElem?_eq_some_iff.mp hi).1
      exact keyed_of (by omega) (hs i w hi).2
    · unfold List.Nodup
      rw [List.pairwise_iff_getElem]
      intro i j hi hj hij e
      have a := (hs i _ (List.getElem?_eq_getElem hi)).2
      have b := (hs j _ (List.getElem?_eq_getElem hj)).2
      rw [e] at a
      rw [a] at b
      have := keys7_inj (by omega) (by omega) (Option.some.inj b)
      omega
end G
namespace G
open PySem PySem.Spec PyProof.Rows L2
/-! ### texts that differ -/
def sp_l_other_texts : DSp := fun ds C Q _ => ∃ b m n L ts, ds = [.ref b, .int (m : Nat), .lst (txts ts)] ∧ m ≤ 100 ∧ 30 ≤ L ∧ L ≤ 500000 ∧ (∀ t ∈ ts, t.length ≤ L) ∧ BagAt C b n ∧ n < 100000000 ∧
  ∀ fs C', fs.length = m → (∀ t ∈ fs, isText t = true ∧ t.length ≤ L + 100 ∧ t ∉ ts ∧ noQ t = true) → fs.Nodup → Bagged C b C' (n + m * 20000) → Q (.lst (txts fs)) C'
def td_l_other_texts : DS :=
  (dSeq (dAsg (dLstC dNil) (dName 3))
    (dSeq (dFor (diRng1 (dCons (dVar 1) dNil)) (dName 4)
    (dSeq (dAsg (dCall sp_l_text [] (dCons (dVar 0) dNil)) (dName 5))
    (dSeq (dWhile (dOr (dTest (dOp rIn (dVar 5) (dVar 3))) (dTest (dOp rIn (dVar 5) (dVar 2)))) (dAsg (dAdd (dVar 5) (dC (.str [122]))) (dName 5)))
    (dDrop (dBM "list" rAppend (dVar 3) (dCons (dVar 5) dNil))))))
    (dRet (dVar 3))))
theorem len_l_other_texts (ds : List D) (C : Cl) (Q : DQ) (E : DX) (h : sp_l_other_texts ds C Q E) : ds.length = 3 := by obtain ⟨_, _, _, _, _, rfl, _⟩ := h; rfl
theorem pure_l_other_texts (ds : List D) (C : Cl) (Q : DQ) (E : DX) (h : sp_l_other_texts ds C Q E) : td_l_other_texts (endsD Q) (startD ["_law_bag_here", "_law_many", "_law_taken", "_law_found", "_law_turn", "_law_text_here"] ds) C := by
  obtain ⟨b, m, n, L, ts, rfl, hm, hL, hL2, hts, hb, hn, hq⟩ := h
  refine ⟨szl (by simp), fun p hp => ?_⟩
  have bp := hb.ne hp
  refine ⟨_, rfl, (m : Int), rfl, ⟨by omega, by omega⟩, ?_⟩
  refine ⟨fun i ρ C' => ∃ fs C0 x y, ρ = [some (.ref b), some (.int m), some (.lst (txts ts)), some (.ref p), x, y] ∧ C' = updC C0 p (.lst (txts fs)) ∧ fs.length = i ∧ (∀ t ∈ fs, isText t = true ∧ t.length ≤ L + i ∧ t ∉ ts ∧ noQ t = true) ∧ fs.Nodup ∧ Bagged C b C0 (n + i * 20000),
    ⟨[], C, none, none, rfl, rfl, rfl, nofun, List.nodup_nil, by rw [Nat.zero_mul]; exact hb.self⟩, ?_, ?_⟩
  · rintro i d ρ C' hx ⟨fs, C0, x, y, rfl, rfl, hfl, hf, hnd, B⟩
    obtain ⟨hi, rfl⟩ := ranged_get hx
    have hi : i < m := by omega
    refine ⟨_, rfl, b, _, rfl, B.at.upd bp, by omega, fun t C2 tl tk tq B2 => ?_⟩
    have hc : ∃ C3, C2 = updC C3 p (.lst (txts fs)) ∧ Bagged C b C3 (n + (i + 1) * 20000) := by
      obtain ⟨u1, u2, u3, rfl, G2⟩ := B2
      obtain ⟨v1, v2, v3, rfl, G1⟩ := B
      refine ⟨updC C b (bagC u1 u2 u3), ?_, u1, u2, u3, rfl, G2.mono (by omega)⟩
      rw [updC_comm (C := updC C b (bagC v1 v2 v3)) (Ne.symm bp), updC_updC]
    obtain ⟨C3, rfl, B3⟩ := hc
    refine ⟨fun k ρ C' => ∃ t, k + t.length = L + i + 1 ∧ t.length ≤ L + i + 1 ∧ (isText t = true ∧ noQ t = true) ∧ ρ = [some (.ref b), some (.int m), some (.lst (txts ts)), some (.ref p), some (.int (0 + i)), some (.str t)] ∧ C' = updC C3 p (.lst (txts fs)), ⟨L + i + 1 - t.length, t, by omega, by omega, ⟨tk, tq⟩, rfl, rfl⟩, ?_⟩
    rintro k ρ C' ⟨t, e1, e2, e3, rfl, rfl⟩
    have grow : t.length ≤ L + i → ∀ De : DEnds, (∀ t', t'.length = t.length + 1 → (isText t' = true ∧ noQ t' = true) → De.nx [some (.ref b), some (.int m), some (.lst (txts ts)), some (.ref p), some (.int (0 + i)), some (.str t')] (updC C3 p (.lst (txts fs)))) →
        dAsg (dAdd (dVar 5) (dC (.str [122]))) (dName 5) De [some (.ref b), some (.int m), some (.lst (txts ts)), some (.ref p), some (.int (0 + i)), some (.str t)] (updC C3 p (.lst (txts fs))) := fun hl De h => by
      refine ⟨_, rfl, _, rfl, szl (by rw [List.length_append, List.length_singleton]; omega), h (t ++ [122]) (by rw [List.length_append, List.length_singleton]) ⟨?_, noQ_z⟩⟩
      have e3 := e3.1
      unfold isText at e3 ⊢
      rw [List.all_append, e3]
      rfl
    refine ⟨_, rfl, _, rfl, in_txts (ps := fs) (cellL_of updC_same) ⟨_, rfl, ite_d (fun z => ?_) (fun z => ?_)⟩⟩
    · refine iteT (grow (hf t z).2.1 _ fun t' h1 h2 => ⟨k - 1, ?_, t', ?_, ?_, h2, rfl, rfl⟩)
      all_goals
        have := (hf t z).2.1
        omega
    · refine ⟨_, rfl, _, rfl, in_txts (ps := ts) rfl ⟨_, rfl, ite_d (fun z2 => ?_) (fun z2 => ?_)⟩⟩
      · refine grow (by have := hts t z2; omega) _ fun t' h1 h2 => ⟨k - 1, ?_, t', ?_, ?_, h2, rfl, rfl⟩
        all_goals
          have := hts t z2
          omega
      · refine ⟨_, rfl, .inl ⟨rfl, _, updC_same⟩, _, rfl, p, _, _, rfl, rfl, updC_same, Nat.lt_of_le_of_lt (by rw [txts_length]; omega : _ ≤ 1000) (small1000 (Nat.le_refl _) : 1000 < sizeLine), ?_⟩
        refine ⟨fs ++ [t], C3, _, _, rfl, ?_, by rw [List.length_append, hfl, List.length_singleton], ?_, ?_, B3⟩
        · rw [updC_updC, txts_app]; rfl
        · intro u hu
          rcases List.mem_append.mp hu with e | e
          · have := hf u e
            exact ⟨this.1, by omega, this.2.2⟩
          · rw [List.mem_singleton.mp e]
            exact ⟨e3.1, by omega, z2, e3.2⟩
        · rw [List.nodup_append]
          refine ⟨hnd, by simp, fun a ha b' hb' e => ?_⟩
          rw [List.mem_singleton.mp hb'] at e
          exact z (e ▸ ha)
  · rintro ρ C' ⟨fs, C0, x, y, rfl, rfl, hfl, hf, hnd, B⟩
    rw [ranged_length] at hfl hf B
    have e : ((m : Int).toNat) = m := Int.toNat_natCast m
    rw [e] at hfl hf B
    refine ⟨_, rfl, .lst (txts fs), C0, ?_, hq fs C0 hfl (fun t ht => ⟨(hf t ht).1, by have := (hf t ht).2.1; omega, (hf t ht).2.2⟩) hnd B⟩
    have := Gh.lst (a := p) (C := updC C0 p (.lst (txts fs))) updC_same
    rw [delC_updC (by rw [B.ne (Ne.symm bp), hp])] at this
    exact this
end G
namespace G
open PySem PySem.Spec PyProof.Rows L2
/-! ### number kinds -/
def sp_is_between : DSp := fun ds C Q _ => ∃ i lo hi : Int, ds = [.int i, .int lo, .int hi] ∧ Q (.bl (decide (lo ≤ i ∧ i ≤ hi))) C
def td_is_between : DS :=
  (dRet (dAndV (dCB (rIsi "int") (dCons (dVar 0) (dCons (dC (.ty "int")) dNil))) (dAndV (dNotV (dCB (rIsi "bool") (dCons (dVar 0) (dCons (dC (.ty "bool")) dNil)))) (dChain rLeD rLeD (dVar 1) (dVar 0) (dVar 2)))))
theorem pure_is_between (ds : List D) (C : Cl) (Q : DQ) (E : DX) (h : sp_is_between ds C Q E) : td_is_between (endsD Q) (startD ["thing", "least", "most"] ds) C := by
  obtain ⟨i, lo, hi, rfl, hq⟩ := h
  refine ⟨_, rfl, _, _, rfl, rfl, _, rfl, iteT ⟨_, rfl, _, _, rfl, rfl, _, rfl, _, rfl, iteT ?_⟩⟩
  refine ⟨_, rfl, _, rfl, _, rfl, trivial, _, rfl, ite_d (fun h1 => ?_) (fun h1 => ?_)⟩
  · refine ⟨_, rfl, _, rfl, trivial, _, _, .same, ?_⟩
    have : decide (lo ≤ i ∧ i ≤ hi) = decide (i ≤ hi) := decide_eq_decide.mpr ⟨fun z => z.2, fun z => ⟨h1, z⟩⟩
    rw [this] at hq; exact hq
  · refine ⟨_, _, .same, ?_⟩
    rw [decide_eq_false (fun z => h1 z.1)] at hq
    exact hq
structure GoodNum (k : KindR) : Prop where
  fam : k.fam = famNumber
  marks : k.marks = []
  yes : k.yes = []
  no : k.no = []
  digits : ∀ n, k.digits = some n → 1 ≤ n ∧ n ≤ 20
  keep : ∀ n, k.keep = some n → 1 ≤ n ∧ n ≤ 20
  signs : k.signs = [] ∨ k.signs = [45] ∨ k.signs = [43, 45]
  shown : k.shown ≤ 3
  point : k.shown > 0 → k.point = true
theorem isWord_len {l : List Nat} (h : isWord l = true) : l.length ≤ 8 := by
  unfold isWord at h
  rw [Bool.and_eq_true, decide_eq_true_iff] at h
  exact h.1.2
/-! ### drawn options -/
def optD (k : KindR) : D := .tup [optN k.digits, .bl k.point, .str k.signs, .bl k.zeros, optN k.keep, .int k.shown]
end G
namespace G
open PySem PySem.Spec PyProof.Rows L2
/-! ### kinds made by what was drawn -/
/-- a kind whose attributes go with its family; its options are told by o -/
inductive GoodK (o : D) : KindR → Prop
  | missing {l : List Nat} {ms : List (List Nat)} : isWord l = true → areTexts ms 4 = true → (∀ t ∈ ms, t.length ≤ 1000000) → GoodK o { name := l, fam := famMissing, marks := ms }
  | truth {l : List Nat} {ys ns : List (List Nat)} : isWord l = true → areTexts ys 4 = true → areTexts ns 4 = true → (∀ n ∈ ns, n ∉ ys) → (∀ t ∈ ys, t.length ≤ 1000000) → (∀ t ∈ ns, t.length ≤ 1000000) → GoodK o { name := l, fam := famTruth, yes := ys, no := ns }
  | text {l : List Nat} : isWord l = true → GoodK o { name := l, fam := famText }
  | number {k : KindR} : isWord k.name = true → GoodNum k → o = optD k → GoodK o k
/-! ### the law's own way to what a kind takes -/
end G
namespace G
open PySem PySem.Spec PyProof.Rows L2
/-! ### values of kinds, written -/
inductive Va where
  | miss
  | truth (b : Bool)
  | num (s w p : List Nat)
  | text (l : List Nat)
end G
namespace G
open PySem PySem.Spec PyProof.Rows L2
/-! ### a kind, drawn -/
end G
namespace G
open PySem PySem.Spec PyProof.Rows L2
local macro_rules | `(tactic| sizeOf_list_dec) => `(tactic| exact szl (by first | omega | (simp only [List.length_append, List.length_cons, List.length_nil, List.length_map, List.length_reverse, List.length_singleton, txts_lenG]; omega) | (simp only [List.length_append, List.length_cons, List.length_nil, List.length_map, List.length_reverse, txts_lenG]; omega)))
local macro_rules | `(tactic| array_get_dec) => `(tactic| first | with_reducible refine v_seq ?_ | with_reducible refine v_next ?_ | with_reducible refine v_asg ?_ | (with_reducible refine v_isvar ?_; first | with_reducible refine v_var0 ?_ | with_reducible refine v_var1 ?_ | with_reducible refine v_var2 ?_ | with_reducible refine v_var3 ?_ | with_reducible refine v_var4 ?_ | with_reducible refine v_var5 ?_ | with_reducible refine v_var6 ?_ | with_reducible refine v_var7 ?_ | with_reducible refine v_var8 ?_ | with_reducible refine v_var9 ?_ | with_reducible refine v_var10 ?_ | with_reducible refine v_var11 ?_ | with_reducible refine v_var12 ?_ | with_reducible refine v_var13 ?_ | with_reducible refine v_var14 ?_ | with_reducible refine v_var15 ?_ | with_reducible refine v_var16 ?_ | with_reducible refine v_var17 ?_ | with_reducible refine v_var18 ?_ | with_reducible refine v_var19 ?_ | with_reducible refine v_var20 ?_ | with_reducible refine v_var21 ?_ | with_reducible refine v_var22 ?_ | with_reducible refine v_var23 ?_ | with_reducible refine v_var24 ?_ | with_reducible refine v_var25 ?_) | (with_reducible refine v_isname ?_; first | with_reducible refine v_name0 ?_ | with_reducible refine v_wname0 ?_ | with_reducible refine v_name1 ?_ | with_reducible refine v_wname1 ?_ | with_reducible refine v_name2 ?_ | with_reducible refine v_wname2 ?_ | with_reducible refine v_name3 ?_ | with_reducible refine v_wname3 ?_ | with_reducible refine v_name4 ?_ | with_reducible refine v_wname4 ?_ | with_reducible refine v_name5 ?_ | with_reducible refine v_wname5 ?_ | with_reducible refine v_name6 ?_ | with_reducible refine v_wname6 ?_ | with_reducible refine v_name7 ?_ | with_reducible refine v_wname7 ?_ | with_reducible refine v_name8 ?_ | with_reducible refine v_wname8 ?_ | with_reducible refine v_name9 ?_ | with_reducible refine v_wname9 ?_ | with_reducible refine v_name10 ?_ | with_reducible refine v_wname10 ?_ | with_reducible refine v_name11 ?_ | with_reducible refine v_wname11 ?_ | with_reducible refine v_name12 ?_ | with_reducible refine v_wname12 ?_ | with_reducible refine v_name13 ?_ | with_reducible refine v_wname13 ?_ | with_reducible refine v_name14 ?_ | with_reducible refine v_wname14 ?_ | with_reducible refine v_name15 ?_ | with_reducible refine v_wname15 ?_ | with_reducible refine v_name16 ?_ | with_reducible refine v_wname16 ?_ | with_reducible refine v_name17 ?_ | with_reducible refine v_wname17 ?_ | with_reducible refine v_name18 ?_ | with_reducible refine v_wname18 ?_ | with_reducible refine v_name19 ?_ | with_reducible refine v_wname19 ?_ | with_reducible refine v_name20 ?_ | with_reducible refine v_wname20 ?_ | with_reducible refine v_name21 ?_ | with_reducible refine v_wname21 ?_ | with_reducible refine v_name22 ?_ | with_reducible refine v_wname22 ?_ | with_reducible refine v_name23 ?_ | with_reducible refine v_wname23 ?_ | with_reducible refine v_name24 ?_ | with_reducible refine v_wname24 ?_ | with_reducible refine v_name25 ?_ | with_reducible refine v_wname25 ?_) | with_reducible refine v_drop ?_ | with_reducible refine v_ret ?_ | with_reducible refine v_ifS ?_ | with_reducible refine v_test ?_ | with_reducible refine v_bl ?_ | with_reducible refine v_const ?_ | with_reducible refine v_op ?_ | with_reducible refine v_cb ?_ | with_reducible refine v_nil ?_ | with_reducible refine v_cons ?_ | with_reducible refine v_fld ?_ | with_reducible refine v_meth ?_ | with_reducible refine v_cal ?_ | with_reducible refine v_call0 ?_ | with_reducible refine v_pos2 ?_ | with_reducible refine v_tt ?_ | with_reducible refine v_ff ?_ | with_reducible refine v_ntt ?_ | with_reducible refine v_nff ?_ | with_reducible refine v_dnot ?_ | with_reducible refine v_dand ?_ | with_reducible refine v_dor ?_ | with_reducible refine v_andV ?_ | with_reducible refine v_orV ?_ | with_reducible refine v_notV ?_ | with_reducible refine v_ifE ?_ | with_reducible refine v_bm0 ?_ | with_reducible refine v_eqS ?_ | with_reducible refine v_eqI ?_ | with_reducible refine v_neS ?_ | with_reducible refine v_neI ?_ | with_reducible refine v_eqB ?_ | with_reducible refine v_neB ?_ | with_reducible refine v_isNn ?_ | with_reducible refine v_isNs ?_ | with_reducible refine v_isNi ?_ | with_reducible refine v_isNt ?_ | with_reducible refine v_notNn ?_ | with_reducible refine v_notNs ?_ | with_reducible refine v_notNi ?_ | with_reducible refine v_notNt ?_ | with_reducible refine v_isN ?_ | with_reducible refine v_notN ?_ | with_reducible refine v_lt ?_ | with_reducible refine v_le ?_ | with_reducible refine v_gt ?_ | with_reducible refine v_ge ?_ | with_reducible refine v_addI ?_ | with_reducible refine v_subI ?_ | with_reducible refine v_lenT ?_ | with_reducible refine v_lenL ?_ | with_reducible refine v_chain ?_ | with_reducible refine v_un ?_ | with_reducible refine v_tup ?_ | with_reducible refine v_lst ?_ | with_reducible refine v_lstC ?_ | with_reducible refine v_gsub ?_ | with_reducible refine v_rng1 ?_ | with_reducible refine v_rng2 ?_ | with_reducible refine v_slice ?_ | with_reducible refine v_nopart ?_ | with_reducible refine v_part ?_ | with_reducible refine v_partI ?_ | with_reducible refine v_slT ?_ | with_reducible refine v_slL ?_ | with_reducible refine v_rev ?_ | with_reducible refine v_revO ?_ | with_reducible refine v_enumS ?_ | with_reducible refine v_enumL ?_ | with_reducible refine v_enumT ?_ | with_reducible refine v_zipS ?_ | with_reducible refine v_revL ?_ | with_reducible refine v_revT ?_ | with_reducible refine v_putT ?_ | with_reducible refine v_putK ?_ | with_reducible refine v_inT ?_ | with_reducible refine v_getT ?_ | with_reducible refine v_get2T ?_ | with_reducible refine v_make ?_ | with_reducible refine v_fldSet ?_ | with_reducible refine v_forL ?_ | with_reducible refine v_forT ?_ | with_reducible refine v_forS ?_ | with_reducible refine v_lstO ?_ | with_reducible refine v_rolO ?_ | with_reducible refine v_tupO ?_ | with_reducible refine v_strO ?_ | with_reducible refine v_listT ?_ | with_reducible refine v_listL ?_ | with_reducible refine v_tupleL ?_ | with_reducible refine v_tupleT ?_ | with_reducible refine v_isiS ?_ | with_reducible refine v_isiT ?_ | with_reducible refine v_isiL ?_ | with_reducible refine v_allM ?_ | with_reducible refine v_anyM ?_ | with_reducible refine v_eqNS ?_ | with_reducible refine v_neNS ?_ | with_reducible refine v_gcons ?_ | with_reducible refine v_gnil ?_ | with_reducible refine v_par2 ?_ | with_reducible refine v_par33 ?_ | with_reducible refine v_retN ?_ | with_reducible refine v_sameS ?_ | with_reducible refine v_sameB ?_ | with_reducible refine v_sameI ?_ | with_reducible refine v_sameN ?_ | with_reducible refine v_sameT ?_ | with_reducible refine v_sameL ?_ | with_reducible refine v_endN ?_ | with_reducible refine v_bm ?_ | with_reducible refine v_tystr ?_ | with_reducible refine v_break ?_ | with_reducible refine v_cont ?_ | ((with_reducible refine v_slS ?_ ?_); sizeOf_list_dec) | ((with_reducible refine v_lenS ?_ ?_); sizeOf_list_dec) | ((with_reducible refine v_addS ?_ ?_); sizeOf_list_dec) | ((with_reducible refine v_addT ?_ ?_); sizeOf_list_dec) | ((with_reducible refine v_addL ?_ ?_); sizeOf_list_dec) | (with_reducible refine v_par _ _ ?_) | (with_reducible refine v_par3 _ _ _ ?_) | ((with_reducible refine v_gtup ?_ ?_); rfl) | with_reducible refine v_ixT (by with_unfolding_all rfl) ?_ | with_reducible refine v_ixL (by with_unfolding_all rfl) ?_ | with_reducible refine v_ixR (by with_unfolding_all rfl) ?_ | ((with_reducible refine v_ixS ?_ (by with_unfolding_all rfl) ?_); sizeOf_list_dec) | ((with_reducible refine And.intro ?_ ?_); sizeOf_list_dec) | with_reducible refine v_dt (by first | assumption | with_unfolding_all rfl | omega | (simp only [List.length_map, List.length_append, List.length_cons, List.length_nil, List.length_reverse, txts_lenG]; first | done | omega)) ?_ | with_reducible refine v_ndt (by first | assumption | with_unfolding_all rfl | omega | (simp only [List.length_map, List.length_append, List.length_cons, List.length_nil, List.length_reverse, txts_lenG]; first | done | omega)) ?_ | with_reducible refine v_df (by first | assumption | omega | (with_unfolding_all decide) | (simp only [List.length_map, List.length_append, List.length_cons, List.length_nil, List.length_reverse, txts_lenG]; first | done | omega)) ?_ | with_reducible refine v_ndf (by first | assumption | omega | (with_unfolding_all decide) | (simp only [List.length_map, List.length_append, List.length_cons, List.length_nil, List.length_reverse, txts_lenG]; first | done | omega)) ?_ | decreasing_trivial_pre_omega | ((with_reducible refine v_isname ?_); dsimp only [wipeD, List.set]) | ((with_reducible refine v_isvar ?_); dsimp only [wipeD, List.set]))
local macro_rules | `(tactic| array_mem_dec) => `(tactic| repeat array_get_dec)
local macro_rules | `(tactic| bv_omega) => `(tactic| repeat' (first | array_get_dec | with_reducible refine ite_d (fun _ => ?_) (fun _ => ?_) | with_reducible refine ite_nd (fun _ => ?_) (fun _ => ?_) | with_reducible refine ite_b (fun _ => ?_) (fun _ => ?_) | with_reducible refine ite_nb (fun _ => ?_) (fun _ => ?_)))
/-! ### books: names, kinds by names, what holds what -/
section
variable {k : KindR} {C : Cl} {Q : D → Prop}
end
local macro_rules | `(tactic| decreasing_trivial_pre_omega) => `(tactic| with_reducible refine kz_name ?_)
local macro_rules | `(tactic| decreasing_trivial_pre_omega) => `(tactic| with_reducible refine kz_family ?_)
local macro_rules | `(tactic| decreasing_trivial_pre_omega) => `(tactic| with_reducible refine kz_marks ?_)
local macro_rules | `(tactic| decreasing_trivial_pre_omega) => `(tactic| with_reducible refine kz_yes ?_)
local macro_rules | `(tactic| decreasing_trivial_pre_omega) => `(tactic| with_reducible refine kz_no ?_)
local macro_rules | `(tactic| decreasing_trivial_pre_omega) => `(tactic| with_reducible refine kz_digits ?_)
local macro_rules | `(tactic| decreasing_trivial_pre_omega) => `(tactic| with_reducible refine kz_point ?_)
local macro_rules | `(tactic| decreasing_trivial_pre_omega) => `(tactic| with_reducible refine kz_keep ?_)
def bookMeths : List Str := ["names", "kind_named", "holds", "is_triple", "given_joins", "all_joins", "own_name", "kind_of", "kind_of_column", "words", "first_unlisted", "samples", "shortest_columns", "reachable", "flaw", "flaw_of_two", "flaw_of_three"]
/-- the fields of a book, as far as they are made -/
structure BFs (fs : List (Str × D)) (ks : List KindR) : Prop where
  kinds : fs.lookup ("kinds" : Str) = some (.tup (ks.map kindD))
  no : ∀ m ∈ bookMeths, fs.lookup m = none
/-- a book at C -/
def BkAt (C : Cl) (x : D) (ks : List KindR) : Prop := ∃ fs, insOf C x = some ("Book", fs) ∧ BFs fs ks
theorem insOf_sub {C C' : Cl} {x : D} {c : String} {fs : List (Str × D)} (s : SubC C C') (h : insOf C x = some (c, fs)) : insOf C' x = some (c, fs) := by
  cases x with
  | ins c' fs' => exact h
  | ref a =>
    change (match C a with | some (.ins c fs) => some (c, fs) | _ => none) = some (c, fs) at h
    show (match C' a with | some (.ins c fs) => some (c, fs) | _ => none) = some (c, fs)
    cases e : C a with
    | none => rw [e] at h; cases h
    | some o => rw [s a o e]; rw [e] at h; exact h
  | _ => cases h
theorem BkAt.sub {C C' : Cl} {x : D} {ks : List KindR} (s : SubC C C') (h : BkAt C x ks) : BkAt C' x ks := let ⟨fs, h1, h2⟩ := h; ⟨fs, insOf_sub s h1, h2⟩
def namesK (ks : List KindR) : List (List Nat) := ks.map (·.name)
def findK (ks : List KindR) (l : List Nat) : Option KindR := ks.find? fun k => decide (k.name = l)
/-- whether a column of one kind can have cells of another one -/
def holdsK (h w : KindR) : Bool :=
  if h.name = w.name ∨ w.fam = famMissing ∨ h.fam = famText then true
  else if h.fam = famMissing ∨ w.fam = famText then false
  else if w.fam = famTruth then true
  else if h.fam = famTruth ∨ (w.point = true ∧ h.point = false) then false
  else match h.digits, w.digits with
    | none, _ => true
    | some _, none => false
    | some n, some m => decide (m ≤ n)
end G
namespace G
open PySem PySem.Spec PyProof.Rows L2
local macro_rules | `(tactic| sizeOf_list_dec) => `(tactic| exact szl (by first | omega | (simp only [List.length_append, List.length_cons, List.length_nil, List.length_map, List.length_reverse, List.length_singleton, txts_lenG]; omega) | (simp only [List.length_append, List.length_cons, List.length_nil, List.length_map, List.length_reverse, txts_lenG]; omega)))
local macro_rules | `(tactic| array_get_dec) => `(tactic| first | with_reducible refine v_seq ?_ | with_reducible refine v_next ?_ | with_reducible refine v_asg ?_ | (with_reducible refine v_isvar ?_; first | with_reducible refine v_var0 ?_ | with_reducible refine v_var1 ?_ | with_reducible refine v_var2 ?_ | with_reducible refine v_var3 ?_ | with_reducible refine v_var4 ?_ | with_reducible refine v_var5 ?_ | with_reducible refine v_var6 ?_ | with_reducible refine v_var7 ?_ | with_reducible refine v_var8 ?_ | with_reducible refine v_var9 ?_ | with_reducible refine v_var10 ?_ | with_reducible refine v_var11 ?_ | with_reducible refine v_var12 ?_ | with_reducible refine v_var13 ?_ | with_reducible refine v_var14 ?_ | with_reducible refine v_var15 ?_ | with_reducible refine v_var16 ?_ | with_reducible refine v_var17 ?_ | with_reducible refine v_var18 ?_ | with_reducible refine v_var19 ?_ | with_reducible refine v_var20 ?_ | with_reducible refine v_var21 ?_ | with_reducible refine v_var22 ?_ | with_reducible refine v_var23 ?_ | with_reducible refine v_var24 ?_ | with_reducible refine v_var25 ?_) | (with_reducible refine v_isname ?_; first | with_reducible refine v_name0 ?_ | with_reducible refine v_wname0 ?_ | with_reducible refine v_name1 ?_ | with_reducible refine v_wname1 ?_ | with_reducible refine v_name2 ?_ | with_reducible refine v_wname2 ?_ | with_reducible refine v_name3 ?_ | with_reducible refine v_wname3 ?_ | with_reducible refine v_name4 ?_ | with_reducible refine v_wname4 ?_ | with_reducible refine v_name5 ?_ | with_reducible refine v_wname5 ?_ | with_reducible refine v_name6 ?_ | with_reducible refine v_wname6 ?_ | with_reducible refine v_name7 ?_ | with_reducible refine v_wname7 ?_ | with_reducible refine v_name8 ?_ | with_reducible refine v_wname8 ?_ | with_reducible refine v_name9 ?_ | with_reducible refine v_wname9 ?_ | with_reducible refine v_name10 ?_ | with_reducible refine v_wname10 ?_ | with_reducible refine v_name11 ?_ | with_reducible refine v_wname11 ?_ | with_reducible refine v_name12 ?_ | with_reducible refine v_wname12 ?_ | with_reducible refine v_name13 ?_ | with_reducible refine v_wname13 ?_ | with_reducible refine v_name14 ?_ | with_reducible refine v_wname14 ?_ | with_reducible refine v_name15 ?_ | with_reducible refine v_wname15 ?_ | with_reducible refine v_name16 ?_ | with_reducible refine v_wname16 ?_ | with_reducible refine v_name17 ?_ | with_reducible refine v_wname17 ?_ | with_reducible refine v_name18 ?_ | with_reducible refine v_wname18 ?_ | with_reducible refine v_name19 ?_ | with_reducible refine v_wname19 ?_ | with_reducible refine v_name20 ?_ | with_reducible refine v_wname20 ?_ | with_reducible refine v_name21 ?_ | with_reducible refine v_wname21 ?_ | with_reducible refine v_name22 ?_ | with_reducible refine v_wname22 ?_ | with_reducible refine v_name23 ?_ | with_reducible refine v_wname23 ?_ | with_reducible refine v_name24 ?_ | with_reducible refine v_wname24 ?_ | with_reducible refine v_name25 ?_ | with_reducible refine v_wname25 ?_) | with_reducible refine v_drop ?_ | with_reducible refine v_ret ?_ | with_reducible refine v_ifS ?_ | with_reducible refine v_test ?_ | with_reducible refine v_bl ?_ | with_reducible refine v_const ?_ | with_reducible refine v_op ?_ | with_reducible refine v_cb ?_ | with_reducible refine v_nil ?_ | with_reducible refine v_cons ?_ | with_reducible refine v_fld ?_ | with_reducible refine v_meth ?_ | with_reducible refine v_cal ?_ | with_reducible refine v_call0 ?_ | with_reducible refine v_pos2 ?_ | with_reducible refine v_tt ?_ | with_reducible refine v_ff ?_ | with_reducible refine v_ntt ?_ | with_reducible refine v_nff ?_ | with_reducible refine v_dnot ?_ | with_reducible refine v_dand ?_ | with_reducible refine v_dor ?_ | with_reducible refine v_andV ?_ | with_reducible refine v_orV ?_ | with_reducible refine v_notV ?_ | with_reducible refine v_ifE ?_ | with_reducible refine v_bm0 ?_ | with_reducible refine v_eqS ?_ | with_reducible refine v_eqI ?_ | with_reducible refine v_neS ?_ | with_reducible refine v_neI ?_ | with_reducible refine v_eqB ?_ | with_reducible refine v_neB ?_ | with_reducible refine v_isNn ?_ | with_reducible refine v_isNs ?_ | with_reducible refine v_isNi ?_ | with_reducible refine v_isNt ?_ | with_reducible refine v_notNn ?_ | with_reducible refine v_notNs ?_ | with_reducible refine v_notNi ?_ | with_reducible refine v_notNt ?_ | with_reducible refine v_isN ?_ | with_reducible refine v_notN ?_ | with_reducible refine v_lt ?_ | with_reducible refine v_le ?_ | with_reducible refine v_gt ?_ | with_reducible refine v_ge ?_ | with_reducible refine v_addI ?_ | with_reducible refine v_subI ?_ | with_reducible refine v_lenT ?_ | with_reducible refine v_lenL ?_ | with_reducible refine v_chain ?_ | with_reducible refine v_un ?_ | with_reducible refine v_tup ?_ | with_reducible refine v_lst ?_ | with_reducible refine v_lstC ?_ | with_reducible refine v_gsub ?_ | with_reducible refine v_rng1 ?_ | with_reducible refine v_rng2 ?_ | with_reducible refine v_slice ?_ | with_reducible refine v_nopart ?_ | with_reducible refine v_part ?_ | with_reducible refine v_partI ?_ | with_reducible refine v_slT ?_ | with_reducible refine v_slL ?_ | with_reducible refine v_rev ?_ | with_reducible refine v_revO ?_ | with_reducible refine v_enumS ?_ | with_reducible refine v_enumL ?_ | with_reducible refine v_enumT ?_ | with_reducible refine v_zipS ?_ | with_reducible refine v_revL ?_ | with_reducible refine v_revT ?_ | with_reducible refine v_putT ?_ | with_reducible refine v_putK ?_ | with_reducible refine v_inT ?_ | with_reducible refine v_getT ?_ | with_reducible refine v_get2T ?_ | with_reducible refine v_make ?_ | with_reducible refine v_fldSet ?_ | with_reducible refine v_forL ?_ | with_reducible refine v_forT ?_ | with_reducible refine v_forS ?_ | with_reducible refine v_lstO ?_ | with_reducible refine v_rolO ?_ | with_reducible refine v_tupO ?_ | with_reducible refine v_strO ?_ | with_reducible refine v_listT ?_ | with_reducible refine v_listL ?_ | with_reducible refine v_tupleL ?_ | with_reducible refine v_tupleT ?_ | with_reducible refine v_isiS ?_ | with_reducible refine v_isiT ?_ | with_reducible refine v_isiL ?_ | with_reducible refine v_allM ?_ | with_reducible refine v_anyM ?_ | with_reducible refine v_eqNS ?_ | with_reducible refine v_neNS ?_ | with_reducible refine v_gcons ?_ | with_reducible refine v_gnil ?_ | with_reducible refine v_par2 ?_ | with_reducible refine v_par33 ?_ | with_reducible refine v_retN ?_ | with_reducible refine v_sameS ?_ | with_reducible refine v_sameB ?_ | with_reducible refine v_sameI ?_ | with_reducible refine v_sameN ?_ | with_reducible refine v_sameT ?_ | with_reducible refine v_sameL ?_ | with_reducible refine v_endN ?_ | with_reducible refine v_bm ?_ | with_reducible refine v_tystr ?_ | with_reducible refine v_break ?_ | with_reducible refine v_cont ?_ | ((with_reducible refine v_slS ?_ ?_); sizeOf_list_dec) | ((with_reducible refine v_lenS ?_ ?_); sizeOf_list_dec) | ((with_reducible refine v_addS ?_ ?_); sizeOf_list_dec) | ((with_reducible refine v_addT ?_ ?_); sizeOf_list_dec) | ((with_reducible refine v_addL ?_ ?_); sizeOf_list_dec) | (with_reducible refine v_par _ _ ?_) | (with_reducible refine v_par3 _ _ _ ?_) | ((with_reducible refine v_gtup ?_ ?_); rfl) | with_reducible refine v_ixT (by with_unfolding_all rfl) ?_ | with_reducible refine v_ixL (by with_unfolding_all rfl) ?_ | with_reducible refine v_ixR (by with_unfolding_all rfl) ?_ | ((with_reducible refine v_ixS ?_ (by with_unfolding_all rfl) ?_); sizeOf_list_dec) | ((with_reducible refine And.intro ?_ ?_); sizeOf_list_dec) | with_reducible refine v_dt (by first | assumption | with_unfolding_all rfl | omega | (simp only [List.length_map, List.length_append, List.length_cons, List.length_nil, List.length_reverse, txts_lenG]; first | done | omega)) ?_ | with_reducible refine v_ndt (by first | assumption | with_unfolding_all rfl | omega | (simp only [List.length_map, List.length_append, List.length_cons, List.length_nil, List.length_reverse, txts_lenG]; first | done | omega)) ?_ | with_reducible refine v_df (by first | assumption | omega | (with_unfolding_all decide) | (simp only [List.length_map, List.length_append, List.length_cons, List.length_nil, List.length_reverse, txts_lenG]; first | done | omega)) ?_ | with_reducible refine v_ndf (by first | assumption | omega | (with_unfolding_all decide) | (simp only [List.length_map, List.length_append, List.length_cons, List.length_nil, List.length_reverse, txts_lenG]; first | done | omega)) ?_ | decreasing_trivial_pre_omega | ((with_reducible refine v_isname ?_); dsimp only [wipeD, List.set]) | ((with_reducible refine v_isvar ?_); dsimp only [wipeD, List.set]))
local macro_rules | `(tactic| array_mem_dec) => `(tactic| repeat array_get_dec)
local macro_rules | `(tactic| bv_omega) => `(tactic| repeat' (first | array_get_dec | with_reducible refine ite_d (fun _ => ?_) (fun _ => ?_) | with_reducible refine ite_nd (fun _ => ?_) (fun _ => ?_) | with_reducible refine ite_b (fun _ => ?_) (fun _ => ?_) | with_reducible refine ite_nb (fun _ => ?_) (fun _ => ?_)))
local macro_rules | `(tactic| decreasing_trivial_pre_omega) => `(tactic| with_reducible refine kz_name ?_)
local macro_rules | `(tactic| decreasing_trivial_pre_omega) => `(tactic| with_reducible refine kz_family ?_)
local macro_rules | `(tactic| decreasing_trivial_pre_omega) => `(tactic| with_reducible refine kz_marks ?_)
local macro_rules | `(tactic| decreasing_trivial_pre_omega) => `(tactic| with_reducible refine kz_yes ?_)
local macro_rules | `(tactic| decreasing_trivial_pre_omega) => `(tactic| with_reducible refine kz_no ?_)
local macro_rules | `(tactic| decreasing_trivial_pre_omega) => `(tactic| with_reducible refine kz_digits ?_)
local macro_rules | `(tactic| decreasing_trivial_pre_omega) => `(tactic| with_reducible refine kz_point ?_)
local macro_rules | `(tactic| decreasing_trivial_pre_omega) => `(tactic| with_reducible refine kz_keep ?_)
/-! ### books: joins -/
abbrev T3 := List Nat × List Nat × List Nat
def tripD (t : T3) : D := .tup [.str t.1, .str t.2.1, .str t.2.2]
def tk (a b : List Nat) : List Key := [.inr ⟨a.toArray⟩, .inr ⟨b.toArray⟩]
/-- a triple that the book takes -/
structure OkT (ks : List KindR) (t : T3) : Prop where
  n1 : t.1 ∈ namesK ks
  n2 : t.2.1 ∈ namesK ks
  n3 : t.2.2 ∈ namesK ks
  ne : t.1 ≠ t.2.1
  h1 : ∀ c a, findK ks t.2.2 = some c → findK ks t.1 = some a → holdsK c a = true
  h2 : ∀ c a, findK ks t.2.2 = some c → findK ks t.2.1 = some a → holdsK c a = true
/-- is it a text that names a kind -/
def inB (ks : List KindR) (d : D) : Bool := onStr (fun l => decide (l ∈ namesK ks)) d
/-- what is no triple of a book's names -/
inductive NoTrip (ks : List KindR) : D → Cl → Prop
  | other {d : D} {C : Cl} (n : String) : tyNm d C = some n → isSub n "tuple" = false → NoTrip ks d C
  | len {es : List D} {C : Cl} : es.length ≠ 3 → es.length ≤ 100 → NoTrip ks (.tup es) C
  | name {a b c : D} {C : Cl} : (∀ d ∈ [a, b, c], ∀ C', Known d C') → [a, b, c].all (inB ks) = false → NoTrip ks (.tup [a, b, c]) C
  | same {t : T3} {C : Cl} : t.1 ∈ namesK ks → t.2.1 ∈ namesK ks → t.2.2 ∈ namesK ks → t.1 = t.2.1 → NoTrip ks (tripD t) C
/-- the triples that a book is made of -/
structure OkTs (ks : List KindR) (trs : List T3) : Prop where
  ok : ∀ t ∈ trs, OkT ks t
  nd : (trs.map fun t => (t.1, t.2.1)).Nodup
  len : trs.length ≤ 1000
end G
namespace G
open PySem PySem.Spec PyProof.Rows L2
local macro_rules | `(tactic| sizeOf_list_dec) => `(tactic| exact szl (by first | omega | (simp only [List.length_append, List.length_cons, List.length_nil, List.length_map, List.length_reverse, List.length_singleton, txts_lenG]; omega) | (simp only [List.length_append, List.length_cons, List.length_nil, List.length_map, List.length_reverse, txts_lenG]; omega)))
local macro_rules | `(tactic| array_get_dec) => `(tactic| first | with_reducible refine v_seq ?_ | with_reducible refine v_next ?_ | with_reducible refine v_asg ?_ | (with_reducible refine v_isvar ?_; first | with_reducible refine v_var0 ?_ | with_reducible refine v_var1 ?_ | with_reducible refine v_var2 ?_ | with_reducible refine v_var3 ?_ | with_reducible refine v_var4 ?_ | with_reducible refine v_var5 ?_ | with_reducible refine v_var6 ?_ | with_reducible refine v_var7 ?_ | with_reducible refine v_var8 ?_ | with_reducible refine v_var9 ?_ | with_reducible refine v_var10 ?_ | with_reducible refine v_var11 ?_ | with_reducible refine v_var12 ?_ | with_reducible refine v_var13 ?_ | with_reducible refine v_var14 ?_ | with_reducible refine v_var15 ?_ | with_reducible refine v_var16 ?_ | with_reducible refine v_var17 ?_ | with_reducible refine v_var18 ?_ | with_reducible refine v_var19 ?_ | with_reducible refine v_var20 ?_ | with_reducible refine v_var21 ?_ | with_reducible refine v_var22 ?_ | with_reducible refine v_var23 ?_ | with_reducible refine v_var24 ?_ | with_reducible refine v_var25 ?_) | (with_reducible refine v_isname ?_; first | with_reducible refine v_name0 ?_ | with_reducible refine v_wname0 ?_ | with_reducible refine v_name1 ?_ | with_reducible refine v_wname1 ?_ | with_reducible refine v_name2 ?_ | with_reducible refine v_wname2 ?_ | with_reducible refine v_name3 ?_ | with_reducible refine v_wname3 ?_ | with_reducible refine v_name4 ?_ | with_reducible refine v_wname4 ?_ | with_reducible refine v_name5 ?_ | with_reducible refine v_wname5 ?_ | with_reducible refine v_name6 ?_ | with_reducible refine v_wname6 ?_ | with_reducible refine v_name7 ?_ | with_reducible refine v_wname7 ?_ | with_reducible refine v_name8 ?_ | with_reducible refine v_wname8 ?_ | with_reducible refine v_name9 ?_ | with_reducible refine v_wname9 ?_ | with_reducible refine v_name10 ?_ | with_reducible refine v_wname10 ?_ | with_reducible refine v_name11 ?_ | with_reducible refine v_wname11 ?_ | with_reducible refine v_name12 ?_ | with_reducible refine v_wname12 ?_ | with_reducible refine v_name13 ?_ | with_reducible refine v_wname13 ?_ | with_reducible refine v_name14 ?_ | with_reducible refine v_wname14 ?_ | with_reducible refine v_name15 ?_ | with_reducible refine v_wname15 ?_ | with_reducible refine v_name16 ?_ | with_reducible refine v_wname16 ?_ | with_reducible refine v_name17 ?_ | with_reducible refine v_wname17 ?_ | with_reducible refine v_name18 ?_ | with_reducible refine v_wname18 ?_ | with_reducible refine v_name19 ?_ | with_reducible refine v_wname19 ?_ | with_reducible refine v_name20 ?_ | with_reducible refine v_wname20 ?_ | with_reducible refine v_name21 ?_ | with_reducible refine v_wname21 ?_ | with_reducible refine v_name22 ?_ | with_reducible refine v_wname22 ?_ | with_reducible refine v_name23 ?_ | with_reducible refine v_wname23 ?_ | with_reducible refine v_name24 ?_ | with_reducible refine v_wname24 ?_ | with_reducible refine v_name25 ?_ | with_reducible refine v_wname25 ?_) | with_reducible refine v_drop ?_ | with_reducible refine v_ret ?_ | with_reducible refine v_ifS ?_ | with_reducible refine v_test ?_ | with_reducible refine v_bl ?_ | with_reducible refine v_const ?_ | with_reducible refine v_op ?_ | with_reducible refine v_cb ?_ | with_reducible refine v_nil ?_ | with_reducible refine v_cons ?_ | with_reducible refine v_fld ?_ | with_reducible refine v_meth ?_ | with_reducible refine v_cal ?_ | with_reducible refine v_call0 ?_ | with_reducible refine v_pos2 ?_ | with_reducible refine v_tt ?_ | with_reducible refine v_ff ?_ | with_reducible refine v_ntt ?_ | with_reducible refine v_nff ?_ | with_reducible refine v_dnot ?_ | with_reducible refine v_dand ?_ | with_reducible refine v_dor ?_ | with_reducible refine v_andV ?_ | with_reducible refine v_orV ?_ | with_reducible refine v_notV ?_ | with_reducible refine v_ifE ?_ | with_reducible refine v_bm0 ?_ | with_reducible refine v_eqS ?_ | with_reducible refine v_eqI ?_ | with_reducible refine v_neS ?_ | with_reducible refine v_neI ?_ | with_reducible refine v_eqB ?_ | with_reducible refine v_neB ?_ | with_reducible refine v_isNn ?_ | with_reducible refine v_isNs ?_ | with_reducible refine v_isNi ?_ | with_reducible refine v_isNt ?_ | with_reducible refine v_notNn ?_ | with_reducible refine v_notNs ?_ | with_reducible refine v_notNi ?_ | with_reducible refine v_notNt ?_ | with_reducible refine v_isN ?_ | with_reducible refine v_notN ?_ | with_reducible refine v_lt ?_ | with_reducible refine v_le ?_ | with_reducible refine v_gt ?_ | with_reducible refine v_ge ?_ | with_reducible refine v_addI ?_ | with_reducible refine v_subI ?_ | with_reducible refine v_lenT ?_ | with_reducible refine v_lenL ?_ | with_reducible refine v_chain ?_ | with_reducible refine v_un ?_ | with_reducible refine v_tup ?_ | with_reducible refine v_lst ?_ | with_reducible refine v_lstC ?_ | with_reducible refine v_gsub ?_ | with_reducible refine v_rng1 ?_ | with_reducible refine v_rng2 ?_ | with_reducible refine v_slice ?_ | with_reducible refine v_nopart ?_ | with_reducible refine v_part ?_ | with_reducible refine v_partI ?_ | with_reducible refine v_slT ?_ | with_reducible refine v_slL ?_ | with_reducible refine v_rev ?_ | with_reducible refine v_revO ?_ | with_reducible refine v_enumS ?_ | with_reducible refine v_enumL ?_ | with_reducible refine v_enumT ?_ | with_reducible refine v_zipS ?_ | with_reducible refine v_revL ?_ | with_reducible refine v_revT ?_ | with_reducible refine v_putT ?_ | with_reducible refine v_putK ?_ | with_reducible refine v_inT ?_ | with_reducible refine v_getT ?_ | with_reducible refine v_get2T ?_ | with_reducible refine v_make ?_ | with_reducible refine v_fldSet ?_ | with_reducible refine v_forL ?_ | with_reducible refine v_forT ?_ | with_reducible refine v_forS ?_ | with_reducible refine v_lstO ?_ | with_reducible refine v_rolO ?_ | with_reducible refine v_tupO ?_ | with_reducible refine v_strO ?_ | with_reducible refine v_listT ?_ | with_reducible refine v_listL ?_ | with_reducible refine v_tupleL ?_ | with_reducible refine v_tupleT ?_ | with_reducible refine v_isiS ?_ | with_reducible refine v_isiT ?_ | with_reducible refine v_isiL ?_ | with_reducible refine v_allM ?_ | with_reducible refine v_anyM ?_ | with_reducible refine v_eqNS ?_ | with_reducible refine v_neNS ?_ | with_reducible refine v_gcons ?_ | with_reducible refine v_gnil ?_ | with_reducible refine v_par2 ?_ | with_reducible refine v_par33 ?_ | with_reducible refine v_retN ?_ | with_reducible refine v_sameS ?_ | with_reducible refine v_sameB ?_ | with_reducible refine v_sameI ?_ | with_reducible refine v_sameN ?_ | with_reducible refine v_sameT ?_ | with_reducible refine v_sameL ?_ | with_reducible refine v_endN ?_ | with_reducible refine v_bm ?_ | with_reducible refine v_tystr ?_ | with_reducible refine v_break ?_ | with_reducible refine v_cont ?_ | ((with_reducible refine v_slS ?_ ?_); sizeOf_list_dec) | ((with_reducible refine v_lenS ?_ ?_); sizeOf_list_dec) | ((with_reducible refine v_addS ?_ ?_); sizeOf_list_dec) | ((with_reducible refine v_addT ?_ ?_); sizeOf_list_dec) | ((with_reducible refine v_addL ?_ ?_); sizeOf_list_dec) | (with_reducible refine v_par _ _ ?_) | (with_reducible refine v_par3 _ _ _ ?_) | ((with_reducible refine v_gtup ?_ ?_); rfl) | with_reducible refine v_ixT (by with_unfolding_all rfl) ?_ | with_reducible refine v_ixL (by with_unfolding_all rfl) ?_ | with_reducible refine v_ixR (by with_unfolding_all rfl) ?_ | ((with_reducible refine v_ixS ?_ (by with_unfolding_all rfl) ?_); sizeOf_list_dec) | ((with_reducible refine And.intro ?_ ?_); sizeOf_list_dec) | with_reducible refine v_dt (by first | assumption | with_unfolding_all rfl | omega | (simp only [List.length_map, List.length_append, List.length_cons, List.length_nil, List.length_reverse, txts_lenG]; first | done | omega)) ?_ | with_reducible refine v_ndt (by first | assumption | with_unfolding_all rfl | omega | (simp only [List.length_map, List.length_append, List.length_cons, List.length_nil, List.length_reverse, txts_lenG]; first | done | omega)) ?_ | with_reducible refine v_df (by first | assumption | omega | (with_unfolding_all decide) | (simp only [List.length_map, List.length_append, List.length_cons, List.length_nil, List.length_reverse, txts_lenG]; first | done | omega)) ?_ | with_reducible refine v_ndf (by first | assumption | omega | (with_unfolding_all decide) | (simp only [List.length_map, List.length_append, List.length_cons, List.length_nil, List.length_reverse, txts_lenG]; first | done | omega)) ?_ | decreasing_trivial_pre_omega | ((with_reducible refine v_isname ?_); dsimp only [wipeD, List.set]) | ((with_reducible refine v_isvar ?_); dsimp only [wipeD, List.set]))
local macro_rules | `(tactic| array_mem_dec) => `(tactic| repeat array_get_dec)
local macro_rules | `(tactic| bv_omega) => `(tactic| repeat' (first | array_get_dec | with_reducible refine ite_d (fun _ => ?_) (fun _ => ?_) | with_reducible refine ite_nd (fun _ => ?_) (fun _ => ?_) | with_reducible refine ite_b (fun _ => ?_) (fun _ => ?_) | with_reducible refine ite_nb (fun _ => ?_) (fun _ => ?_)))
local macro_rules | `(tactic| decreasing_trivial_pre_omega) => `(tactic| with_reducible refine kz_name ?_)
local macro_rules | `(tactic| decreasing_trivial_pre_omega) => `(tactic| with_reducible refine kz_family ?_)
local macro_rules | `(tactic| decreasing_trivial_pre_omega) => `(tactic| with_reducible refine kz_marks ?_)
local macro_rules | `(tactic| decreasing_trivial_pre_omega) => `(tactic| with_reducible refine kz_yes ?_)
local macro_rules | `(tactic| decreasing_trivial_pre_omega) => `(tactic| with_reducible refine kz_no ?_)
local macro_rules | `(tactic| decreasing_trivial_pre_omega) => `(tactic| with_reducible refine kz_digits ?_)
local macro_rules | `(tactic| decreasing_trivial_pre_omega) => `(tactic| with_reducible refine kz_point ?_)
local macro_rules | `(tactic| decreasing_trivial_pre_omega) => `(tactic| with_reducible refine kz_keep ?_)
/-! ### books: the table of all joins, the making -/
/-- a book at C whose spare kind is known too -/
def BkSp (C : Cl) (x : D) (ks : List KindR) (s : List Nat) : Prop := ∃ fs, insOf C x = some ("Book", fs) ∧ BFs fs ks ∧ fs.lookup ("spare" : Str) = some (.str s)
theorem BkSp.bk {C : Cl} {x : D} {ks : List KindR} {s : List Nat} (h : BkSp C x ks s) : BkAt C x ks := let ⟨fs, h1, h2, _⟩ := h; ⟨fs, h1, h2⟩
theorem BkSp.sub {C C' : Cl} {x : D} {ks : List KindR} {sp : List Nat} (s : SubC C C') (h : BkSp C x ks sp) : BkSp C' x ks sp := let ⟨fs, h1, h2, h3⟩ := h; ⟨fs, insOf_sub s h1, h2, h3⟩
end G
namespace G
open PySem PySem.Spec PyProof.Rows L2
local macro_rules | `(tactic| sizeOf_list_dec) => `(tactic| exact szl (by first | omega | (simp only [List.length_append, List.length_cons, List.length_nil, List.length_map, List.length_reverse, List.length_singleton, txts_lenG]; omega) | (simp only [List.length_append, List.length_cons, List.length_nil, List.length_map, List.length_reverse, txts_lenG]; omega)))
local macro_rules | `(tactic| array_get_dec) => `(tactic| first | with_reducible refine v_seq ?_ | with_reducible refine v_next ?_ | with_reducible refine v_asg ?_ | (with_reducible refine v_isvar ?_; first | with_reducible refine v_var0 ?_ | with_reducible refine v_var1 ?_ | with_reducible refine v_var2 ?_ | with_reducible refine v_var3 ?_ | with_reducible refine v_var4 ?_ | with_reducible refine v_var5 ?_ | with_reducible refine v_var6 ?_ | with_reducible refine v_var7 ?_ | with_reducible refine v_var8 ?_ | with_reducible refine v_var9 ?_ | with_reducible refine v_var10 ?_ | with_reducible refine v_var11 ?_ | with_reducible refine v_var12 ?_ | with_reducible refine v_var13 ?_ | with_reducible refine v_var14 ?_ | with_reducible refine v_var15 ?_ | with_reducible refine v_var16 ?_ | with_reducible refine v_var17 ?_ | with_reducible refine v_var18 ?_ | with_reducible refine v_var19 ?_ | with_reducible refine v_var20 ?_ | with_reducible refine v_var21 ?_ | with_reducible refine v_var22 ?_ | with_reducible refine v_var23 ?_ | with_reducible refine v_var24 ?_ | with_reducible refine v_var25 ?_) | (with_reducible refine v_isname ?_; first | with_reducible refine v_name0 ?_ | with_reducible refine v_wname0 ?_ | with_reducible refine v_name1 ?_ | with_reducible refine v_wname1 ?_ | with_reducible refine v_name2 ?_ | with_reducible refine v_wname2 ?_ | with_reducible refine v_name3 ?_ | with_reducible refine v_wname3 ?_ | with_reducible refine v_name4 ?_ | with_reducible refine v_wname4 ?_ | with_reducible refine v_name5 ?_ | with_reducible refine v_wname5 ?_ | with_reducible refine v_name6 ?_ | with_reducible refine v_wname6 ?_ | with_reducible refine v_name7 ?_ | with_reducible refine v_wname7 ?_ | with_reducible refine v_name8 ?_ | with_reducible refine v_wname8 ?_ | with_reducible refine v_name9 ?_ | with_reducible refine v_wname9 ?_ | with_reducible refine v_name10 ?_ | with_reducible refine v_wname10 ?_ | with_reducible refine v_name11 ?_ | with_reducible refine v_wname11 ?_ | with_reducible refine v_name12 ?_ | with_reducible refine v_wname12 ?_ | with_reducible refine v_name13 ?_ | with_reducible refine v_wname13 ?_ | with_reducible refine v_name14 ?_ | with_reducible refine v_wname14 ?_ | with_reducible refine v_name15 ?_ | with_reducible refine v_wname15 ?_ | with_reducible refine v_name16 ?_ | with_reducible refine v_wname16 ?_ | with_reducible refine v_name17 ?_ | with_reducible refine v_wname17 ?_ | with_reducible refine v_name18 ?_ | with_reducible refine v_wname18 ?_ | with_reducible refine v_name19 ?_ | with_reducible refine v_wname19 ?_ | with_reducible refine v_name20 ?_ | with_reducible refine v_wname20 ?_ | with_reducible refine v_name21 ?_ | with_reducible refine v_wname21 ?_ | with_reducible refine v_name22 ?_ | with_reducible refine v_wname22 ?_ | with_reducible refine v_name23 ?_ | with_reducible refine v_wname23 ?_ | with_reducible refine v_name24 ?_ | with_reducible refine v_wname24 ?_ | with_reducible refine v_name25 ?_ | with_reducible refine v_wname25 ?_) | with_reducible refine v_drop ?_ | with_reducible refine v_ret ?_ | with_reducible refine v_ifS ?_ | with_reducible refine v_test ?_ | with_reducible refine v_bl ?_ | with_reducible refine v_const ?_ | with_reducible refine v_op ?_ | with_reducible refine v_cb ?_ | with_reducible refine v_nil ?_ | with_reducible refine v_cons ?_ | with_reducible refine v_fld ?_ | with_reducible refine v_meth ?_ | with_reducible refine v_cal ?_ | with_reducible refine v_call0 ?_ | with_reducible refine v_pos2 ?_ | with_reducible refine v_tt ?_ | with_reducible refine v_ff ?_ | with_reducible refine v_ntt ?_ | with_reducible refine v_nff ?_ | with_reducible refine v_dnot ?_ | with_reducible refine v_dand ?_ | with_reducible refine v_dor ?_ | with_reducible refine v_andV ?_ | with_reducible refine v_orV ?_ | with_reducible refine v_notV ?_ | with_reducible refine v_ifE ?_ | with_reducible refine v_bm0 ?_ | with_reducible refine v_eqS ?_ | with_reducible refine v_eqI ?_ | with_reducible refine v_neS ?_ | with_reducible refine v_neI ?_ | with_reducible refine v_eqB ?_ | with_reducible refine v_neB ?_ | with_reducible refine v_isNn ?_ | with_reducible refine v_isNs ?_ | with_reducible refine v_isNi ?_ | with_reducible refine v_isNt ?_ | with_reducible refine v_notNn ?_ | with_reducible refine v_notNs ?_ | with_reducible refine v_notNi ?_ | with_reducible refine v_notNt ?_ | with_reducible refine v_isN ?_ | with_reducible refine v_notN ?_ | with_reducible refine v_lt ?_ | with_reducible refine v_le ?_ | with_reducible refine v_gt ?_ | with_reducible refine v_ge ?_ | with_reducible refine v_addI ?_ | with_reducible refine v_subI ?_ | with_reducible refine v_lenT ?_ | with_reducible refine v_lenL ?_ | with_reducible refine v_chain ?_ | with_reducible refine v_un ?_ | with_reducible refine v_tup ?_ | with_reducible refine v_lst ?_ | with_reducible refine v_lstC ?_ | with_reducible refine v_gsub ?_ | with_reducible refine v_rng1 ?_ | with_reducible refine v_rng2 ?_ | with_reducible refine v_slice ?_ | with_reducible refine v_nopart ?_ | with_reducible refine v_part ?_ | with_reducible refine v_partI ?_ | with_reducible refine v_slT ?_ | with_reducible refine v_slL ?_ | with_reducible refine v_rev ?_ | with_reducible refine v_revO ?_ | with_reducible refine v_enumS ?_ | with_reducible refine v_enumL ?_ | with_reducible refine v_enumT ?_ | with_reducible refine v_zipS ?_ | with_reducible refine v_revL ?_ | with_reducible refine v_revT ?_ | with_reducible refine v_putT ?_ | with_reducible refine v_putK ?_ | with_reducible refine v_inT ?_ | with_reducible refine v_getT ?_ | with_reducible refine v_get2T ?_ | with_reducible refine v_make ?_ | with_reducible refine v_fldSet ?_ | with_reducible refine v_forL ?_ | with_reducible refine v_forT ?_ | with_reducible refine v_forS ?_ | with_reducible refine v_lstO ?_ | with_reducible refine v_rolO ?_ | with_reducible refine v_tupO ?_ | with_reducible refine v_strO ?_ | with_reducible refine v_listT ?_ | with_reducible refine v_listL ?_ | with_reducible refine v_tupleL ?_ | with_reducible refine v_tupleT ?_ | with_reducible refine v_isiS ?_ | with_reducible refine v_isiT ?_ | with_reducible refine v_isiL ?_ | with_reducible refine v_allM ?_ | with_reducible refine v_anyM ?_ | with_reducible refine v_eqNS ?_ | with_reducible refine v_neNS ?_ | with_reducible refine v_gcons ?_ | with_reducible refine v_gnil ?_ | with_reducible refine v_par2 ?_ | with_reducible refine v_par33 ?_ | with_reducible refine v_retN ?_ | with_reducible refine v_sameS ?_ | with_reducible refine v_sameB ?_ | with_reducible refine v_sameI ?_ | with_reducible refine v_sameN ?_ | with_reducible refine v_sameT ?_ | with_reducible refine v_sameL ?_ | with_reducible refine v_endN ?_ | with_reducible refine v_bm ?_ | with_reducible refine v_tystr ?_ | with_reducible refine v_break ?_ | with_reducible refine v_cont ?_ | ((with_reducible refine v_slS ?_ ?_); sizeOf_list_dec) | ((with_reducible refine v_lenS ?_ ?_); sizeOf_list_dec) | ((with_reducible refine v_addS ?_ ?_); sizeOf_list_dec) | ((with_reducible refine v_addT ?_ ?_); sizeOf_list_dec) | ((with_reducible refine v_addL ?_ ?_); sizeOf_list_dec) | (with_reducible refine v_par _ _ ?_) | (with_reducible refine v_par3 _ _ _ ?_) | ((with_reducible refine v_gtup ?_ ?_); rfl) | with_reducible refine v_ixT (by with_unfolding_all rfl) ?_ | with_reducible refine v_ixL (by with_unfolding_all rfl) ?_ | with_reducible refine v_ixR (by with_unfolding_all rfl) ?_ | ((with_reducible refine v_ixS ?_ (by with_unfolding_all rfl) ?_); sizeOf_list_dec) | ((with_reducible refine And.intro ?_ ?_); sizeOf_list_dec) | with_reducible refine v_dt (by first | assumption | with_unfolding_all rfl | omega | (simp only [List.length_map, List.length_append, List.length_cons, List.length_nil, List.length_reverse, txts_lenG]; first | done | omega)) ?_ | with_reducible refine v_ndt (by first | assumption | with_unfolding_all rfl | omega | (simp only [List.length_map, List.length_append, List.length_cons, List.length_nil, List.length_reverse, txts_lenG]; first | done | omega)) ?_ | with_reducible refine v_df (by first | assumption | omega | (with_unfolding_all decide) | (simp only [List.length_map, List.length_append, List.length_cons, List.length_nil, List.length_reverse, txts_lenG]; first | done | omega)) ?_ | with_reducible refine v_ndf (by first | assumption | omega | (with_unfolding_all decide) | (simp only [List.length_map, List.length_append, List.length_cons, List.length_nil, List.length_reverse, txts_lenG]; first | done | omega)) ?_ | decreasing_trivial_pre_omega | ((with_reducible refine v_isname ?_); dsimp only [wipeD, List.set]) | ((with_reducible refine v_isvar ?_); dsimp only [wipeD, List.set]))
local macro_rules | `(tactic| array_mem_dec) => `(tactic| repeat array_get_dec)
local macro_rules | `(tactic| bv_omega) => `(tactic| repeat' (first | array_get_dec | with_reducible refine ite_d (fun _ => ?_) (fun _ => ?_) | with_reducible refine ite_nd (fun _ => ?_) (fun _ => ?_) | with_reducible refine ite_b (fun _ => ?_) (fun _ => ?_) | with_reducible refine ite_nb (fun _ => ?_) (fun _ => ?_)))
local macro_rules | `(tactic| decreasing_trivial_pre_omega) => `(tactic| with_reducible refine kz_name ?_)
local macro_rules | `(tactic| decreasing_trivial_pre_omega) => `(tactic| with_reducible refine kz_family ?_)
local macro_rules | `(tactic| decreasing_trivial_pre_omega) => `(tactic| with_reducible refine kz_marks ?_)
local macro_rules | `(tactic| decreasing_trivial_pre_omega) => `(tactic| with_reducible refine kz_yes ?_)
local macro_rules | `(tactic| decreasing_trivial_pre_omega) => `(tactic| with_reducible refine kz_no ?_)
local macro_rules | `(tactic| decreasing_trivial_pre_omega) => `(tactic| with_reducible refine kz_digits ?_)
local macro_rules | `(tactic| decreasing_trivial_pre_omega) => `(tactic| with_reducible refine kz_point ?_)
local macro_rules | `(tactic| decreasing_trivial_pre_omega) => `(tactic| with_reducible refine kz_keep ?_)
/-! ### books made -/
/-- what a book is made of -/
structure OkB (ks : List KindR) (trs : List T3) : Prop where
  len1 : 1 ≤ ks.length
  len7 : ks.length ≤ 7
  nd : (namesK ks).Nodup
  nm : ∀ k ∈ ks, k.name.length ≤ 100
  txt : ∃ k ∈ ks, k.fam = famText
  mks : ∀ k ∈ ks, k.fam = famMissing → k.marks ≠ []
  js : OkTs ks trs
end G
namespace G
open PySem PySem.Spec PyProof.Rows L2
local macro_rules | `(tactic| sizeOf_list_dec) => `(tactic| exact szl (by first | omega | (simp only [List.length_append, List.length_cons, List.length_nil, List.length_map, List.length_reverse, List.length_singleton, txts_lenG]; omega) | (simp only [List.length_append, List.length_cons, List.length_nil, List.length_map, List.length_reverse, txts_lenG]; omega)))
local macro_rules | `(tactic| array_get_dec) => `(tactic| first | with_reducible refine v_seq ?_ | with_reducible refine v_next ?_ | with_reducible refine v_asg ?_ | (with_reducible refine v_isvar ?_; first | with_reducible refine v_var0 ?_ | with_reducible refine v_var1 ?_ | with_reducible refine v_var2 ?_ | with_reducible refine v_var3 ?_ | with_reducible refine v_var4 ?_ | with_reducible refine v_var5 ?_ | with_reducible refine v_var6 ?_ | with_reducible refine v_var7 ?_ | with_reducible refine v_var8 ?_ | with_reducible refine v_var9 ?_ | with_reducible refine v_var10 ?_ | with_reducible refine v_var11 ?_ | with_reducible refine v_var12 ?_ | with_reducible refine v_var13 ?_ | with_reducible refine v_var14 ?_ | with_reducible refine v_var15 ?_ | with_reducible refine v_var16 ?_ | with_reducible refine v_var17 ?_ | with_reducible refine v_var18 ?_ | with_reducible refine v_var19 ?_ | with_reducible refine v_var20 ?_ | with_reducible refine v_var21 ?_ | with_reducible refine v_var22 ?_ | with_reducible refine v_var23 ?_ | with_reducible refine v_var24 ?_ | with_reducible refine v_var25 ?_) | (with_reducible refine v_isname ?_; first | with_reducible refine v_name0 ?_ | with_reducible refine v_wname0 ?_ | with_reducible refine v_name1 ?_ | with_reducible refine v_wname1 ?_ | with_reducible refine v_name2 ?_ | with_reducible refine v_wname2 ?_ | with_reducible refine v_name3 ?_ | with_reducible refine v_wname3 ?_ | with_reducible refine v_name4 ?_ | with_reducible refine v_wname4 ?_ | with_reducible refine v_name5 ?_ | with_reducible refine v_wname5 ?_ | with_reducible refine v_name6 ?_ | with_reducible refine v_wname6 ?_ | with_reducible refine v_name7 ?_ | with_reducible refine v_wname7 ?_ | with_reducible refine v_name8 ?_ | with_reducible refine v_wname8 ?_ | with_reducible refine v_name9 ?_ | with_reducible refine v_wname9 ?_ | with_reducible refine v_name10 ?_ | with_reducible refine v_wname10 ?_ | with_reducible refine v_name11 ?_ | with_reducible refine v_wname11 ?_ | with_reducible refine v_name12 ?_ | with_reducible refine v_wname12 ?_ | with_reducible refine v_name13 ?_ | with_reducible refine v_wname13 ?_ | with_reducible refine v_name14 ?_ | with_reducible refine v_wname14 ?_ | with_reducible refine v_name15 ?_ | with_reducible refine v_wname15 ?_ | with_reducible refine v_name16 ?_ | with_reducible refine v_wname16 ?_ | with_reducible refine v_name17 ?_ | with_reducible refine v_wname17 ?_ | with_reducible refine v_name18 ?_ | with_reducible refine v_wname18 ?_ | with_reducible refine v_name19 ?_ | with_reducible refine v_wname19 ?_ | with_reducible refine v_name20 ?_ | with_reducible refine v_wname20 ?_ | with_reducible refine v_name21 ?_ | with_reducible refine v_wname21 ?_ | with_reducible refine v_name22 ?_ | with_reducible refine v_wname22 ?_ | with_reducible refine v_name23 ?_ | with_reducible refine v_wname23 ?_ | with_reducible refine v_name24 ?_ | with_reducible refine v_wname24 ?_ | with_reducible refine v_name25 ?_ | with_reducible refine v_wname25 ?_) | with_reducible refine v_drop ?_ | with_reducible refine v_ret ?_ | with_reducible refine v_ifS ?_ | with_reducible refine v_test ?_ | with_reducible refine v_bl ?_ | with_reducible refine v_const ?_ | with_reducible refine v_op ?_ | with_reducible refine v_cb ?_ | with_reducible refine v_nil ?_ | with_reducible refine v_cons ?_ | with_reducible refine v_fld ?_ | with_reducible refine v_meth ?_ | with_reducible refine v_cal ?_ | with_reducible refine v_call0 ?_ | with_reducible refine v_pos2 ?_ | with_reducible refine v_tt ?_ | with_reducible refine v_ff ?_ | with_reducible refine v_ntt ?_ | with_reducible refine v_nff ?_ | with_reducible refine v_dnot ?_ | with_reducible refine v_dand ?_ | with_reducible refine v_dor ?_ | with_reducible refine v_andV ?_ | with_reducible refine v_orV ?_ | with_reducible refine v_notV ?_ | with_reducible refine v_ifE ?_ | with_reducible refine v_bm0 ?_ | with_reducible refine v_eqS ?_ | with_reducible refine v_eqI ?_ | with_reducible refine v_neS ?_ | with_reducible refine v_neI ?_ | with_reducible refine v_eqB ?_ | with_reducible refine v_neB ?_ | with_reducible refine v_isNn ?_ | with_reducible refine v_isNs ?_ | with_reducible refine v_isNi ?_ | with_reducible refine v_isNt ?_ | with_reducible refine v_notNn ?_ | with_reducible refine v_notNs ?_ | with_reducible refine v_notNi ?_ | with_reducible refine v_notNt ?_ | with_reducible refine v_isN ?_ | with_reducible refine v_notN ?_ | with_reducible refine v_lt ?_ | with_reducible refine v_le ?_ | with_reducible refine v_gt ?_ | with_reducible refine v_ge ?_ | with_reducible refine v_addI ?_ | with_reducible refine v_subI ?_ | with_reducible refine v_lenT ?_ | with_reducible refine v_lenL ?_ | with_reducible refine v_chain ?_ | with_reducible refine v_un ?_ | with_reducible refine v_tup ?_ | with_reducible refine v_lst ?_ | with_reducible refine v_lstC ?_ | with_reducible refine v_gsub ?_ | with_reducible refine v_rng1 ?_ | with_reducible refine v_rng2 ?_ | with_reducible refine v_slice ?_ | with_reducible refine v_nopart ?_ | with_reducible refine v_part ?_ | with_reducible refine v_partI ?_ | with_reducible refine v_slT ?_ | with_reducible refine v_slL ?_ | with_reducible refine v_rev ?_ | with_reducible refine v_revO ?_ | with_reducible refine v_enumS ?_ | with_reducible refine v_enumL ?_ | with_reducible refine v_enumT ?_ | with_reducible refine v_zipS ?_ | with_reducible refine v_revL ?_ | with_reducible refine v_revT ?_ | with_reducible refine v_putT ?_ | with_reducible refine v_putK ?_ | with_reducible refine v_inT ?_ | with_reducible refine v_getT ?_ | with_reducible refine v_get2T ?_ | with_reducible refine v_make ?_ | with_reducible refine v_fldSet ?_ | with_reducible refine v_forL ?_ | with_reducible refine v_forT ?_ | with_reducible refine v_forS ?_ | with_reducible refine v_lstO ?_ | with_reducible refine v_rolO ?_ | with_reducible refine v_tupO ?_ | with_reducible refine v_strO ?_ | with_reducible refine v_listT ?_ | with_reducible refine v_listL ?_ | with_reducible refine v_tupleL ?_ | with_reducible refine v_tupleT ?_ | with_reducible refine v_isiS ?_ | with_reducible refine v_isiT ?_ | with_reducible refine v_isiL ?_ | with_reducible refine v_allM ?_ | with_reducible refine v_anyM ?_ | with_reducible refine v_eqNS ?_ | with_reducible refine v_neNS ?_ | with_reducible refine v_gcons ?_ | with_reducible refine v_gnil ?_ | with_reducible refine v_par2 ?_ | with_reducible refine v_par33 ?_ | with_reducible refine v_retN ?_ | with_reducible refine v_sameS ?_ | with_reducible refine v_sameB ?_ | with_reducible refine v_sameI ?_ | with_reducible refine v_sameN ?_ | with_reducible refine v_sameT ?_ | with_reducible refine v_sameL ?_ | with_reducible refine v_endN ?_ | with_reducible refine v_bm ?_ | with_reducible refine v_tystr ?_ | with_reducible refine v_break ?_ | with_reducible refine v_cont ?_ | ((with_reducible refine v_slS ?_ ?_); sizeOf_list_dec) | ((with_reducible refine v_lenS ?_ ?_); sizeOf_list_dec) | ((with_reducible refine v_addS ?_ ?_); sizeOf_list_dec) | ((with_reducible refine v_addT ?_ ?_); sizeOf_list_dec) | ((with_reducible refine v_addL ?_ ?_); sizeOf_list_dec) | (with_reducible refine v_par _ _ ?_) | (with_reducible refine v_par3 _ _ _ ?_) | ((with_reducible refine v_gtup ?_ ?_); rfl) | with_reducible refine v_ixT (by with_unfolding_all rfl) ?_ | with_reducible refine v_ixL (by with_unfolding_all rfl) ?_ | with_reducible refine v_ixR (by with_unfolding_all rfl) ?_ | ((with_reducible refine v_ixS ?_ (by with_unfolding_all rfl) ?_); sizeOf_list_dec) | ((with_reducible refine And.intro ?_ ?_); sizeOf_list_dec) | with_reducible refine v_dt (by first | assumption | with_unfolding_all rfl | omega | (simp only [List.length_map, List.length_append, List.length_cons, List.length_nil, List.length_reverse, txts_lenG]; first | done | omega)) ?_ | with_reducible refine v_ndt (by first | assumption | with_unfolding_all rfl | omega | (simp only [List.length_map, List.length_append, List.length_cons, List.length_nil, List.length_reverse, txts_lenG]; first | done | omega)) ?_ | with_reducible refine v_df (by first | assumption | omega | (with_unfolding_all decide) | (simp only [List.length_map, List.length_append, List.length_cons, List.length_nil, List.length_reverse, txts_lenG]; first | done | omega)) ?_ | with_reducible refine v_ndf (by first | assumption | omega | (with_unfolding_all decide) | (simp only [List.length_map, List.length_append, List.length_cons, List.length_nil, List.length_reverse, txts_lenG]; first | done | omega)) ?_ | decreasing_trivial_pre_omega | ((with_reducible refine v_isname ?_); dsimp only [wipeD, List.set]) | ((with_reducible refine v_isvar ?_); dsimp only [wipeD, List.set]))
local macro_rules | `(tactic| array_mem_dec) => `(tactic| repeat array_get_dec)
local macro_rules | `(tactic| bv_omega) => `(tactic| repeat' (first | array_get_dec | with_reducible refine ite_d (fun _ => ?_) (fun _ => ?_) | with_reducible refine ite_nd (fun _ => ?_) (fun _ => ?_) | with_reducible refine ite_b (fun _ => ?_) (fun _ => ?_) | with_reducible refine ite_nb (fun _ => ?_) (fun _ => ?_)))
local macro_rules | `(tactic| decreasing_trivial_pre_omega) => `(tactic| with_reducible refine kz_name ?_)
local macro_rules | `(tactic| decreasing_trivial_pre_omega) => `(tactic| with_reducible refine kz_family ?_)
local macro_rules | `(tactic| decreasing_trivial_pre_omega) => `(tactic| with_reducible refine kz_marks ?_)
local macro_rules | `(tactic| decreasing_trivial_pre_omega) => `(tactic| with_reducible refine kz_yes ?_)
local macro_rules | `(tactic| decreasing_trivial_pre_omega) => `(tactic| with_reducible refine kz_no ?_)
local macro_rules | `(tactic| decreasing_trivial_pre_omega) => `(tactic| with_reducible refine kz_digits ?_)
local macro_rules | `(tactic| decreasing_trivial_pre_omega) => `(tactic| with_reducible refine kz_point ?_)
local macro_rules | `(tactic| decreasing_trivial_pre_omega) => `(tactic| with_reducible refine kz_keep ?_)
local macro_rules | `(tactic| decreasing_trivial_pre_omega) => `(tactic| with_reducible refine v_try ?_)
local macro_rules | `(tactic| decreasing_trivial_pre_omega) => `(tactic| with_reducible refine v_methX ?_)
local macro_rules | `(tactic| decreasing_trivial_pre_omega) => `(tactic| with_reducible refine v_makeX ?_)
local macro_rules | `(tactic| decreasing_trivial_pre_omega) => `(tactic| with_reducible refine v_calX ?_)
local macro_rules | `(tactic| decreasing_trivial_pre_omega) => `(tactic| with_reducible refine v_xfV (by with_unfolding_all rfl) (by with_unfolding_all rfl) ?_)
local macro_rules | `(tactic| decreasing_trivial_pre_omega) => `(tactic| with_reducible refine v_xisV (by with_unfolding_all rfl) ?_)
local macro_rules | `(tactic| decreasing_trivial_pre_omega) => `(tactic| with_reducible refine v_raise ?_)
/-! ### books refused -/
/-- all but the cell p stays -/
def SubX (C : Cl) (p : Addr) (C' : Cl) : Prop := ∀ a c, a ≠ p → C a = some c → C' a = some c
theorem SubX.of {C C' : Cl} {p : Addr} {c : Cell} (h : SubC (updC C p c) C') : SubX C p C' := fun a x ne e => h a x (by rw [updC_ne ne]; exact e)
theorem SubX.upd {C : Cl} {p : Addr} {c : Cell} : SubX C p (updC C p c) := SubX.of (SubC.refl _)
theorem SubX.refl {C : Cl} {p : Addr} : SubX C p C := fun _ _ _ e => e
end G
namespace G
open PySem PySem.Spec PyProof.Rows L2
local macro_rules | `(tactic| sizeOf_list_dec) => `(tactic| exact szl (by first | omega | (simp only [List.length_append, List.length_cons, List.length_nil, List.length_map, List.length_reverse, List.length_singleton, txts_lenG]; omega) | (simp only [List.length_append, List.length_cons, List.length_nil, List.length_map, List.length_reverse, txts_lenG]; omega)))
local macro_rules | `(tactic| array_get_dec) => `(tactic| first | with_reducible refine v_seq ?_ | with_reducible refine v_next ?_ | with_reducible refine v_asg ?_ | (with_reducible refine v_isvar ?_; first | with_reducible refine v_var0 ?_ | with_reducible refine v_var1 ?_ | with_reducible refine v_var2 ?_ | with_reducible refine v_var3 ?_ | with_reducible refine v_var4 ?_ | with_reducible refine v_var5 ?_ | with_reducible refine v_var6 ?_ | with_reducible refine v_var7 ?_ | with_reducible refine v_var8 ?_ | with_reducible refine v_var9 ?_ | with_reducible refine v_var10 ?_ | with_reducible refine v_var11 ?_ | with_reducible refine v_var12 ?_ | with_reducible refine v_var13 ?_ | with_reducible refine v_var14 ?_ | with_reducible refine v_var15 ?_ | with_reducible refine v_var16 ?_ | with_reducible refine v_var17 ?_ | with_reducible refine v_var18 ?_ | with_reducible refine v_var19 ?_ | with_reducible refine v_var20 ?_ | with_reducible refine v_var21 ?_ | with_reducible refine v_var22 ?_ | with_reducible refine v_var23 ?_ | with_reducible refine v_var24 ?_ | with_reducible refine v_var25 ?_) | (with_reducible refine v_isname ?_; first | with_reducible refine v_name0 ?_ | with_reducible refine v_wname0 ?_ | with_reducible refine v_name1 ?_ | with_reducible refine v_wname1 ?_ | with_reducible refine v_name2 ?_ | with_reducible refine v_wname2 ?_ | with_reducible refine v_name3 ?_ | with_reducible refine v_wname3 ?_ | with_reducible refine v_name4 ?_ | with_reducible refine v_wname4 ?_ | with_reducible refine v_name5 ?_ | with_reducible refine v_wname5 ?_ | with_reducible refine v_name6 ?_ | with_reducible refine v_wname6 ?_ | with_reducible refine v_name7 ?_ | with_reducible refine v_wname7 ?_ | with_reducible refine v_name8 ?_ | with_reducible refine v_wname8 ?_ | with_reducible refine v_name9 ?_ | with_reducible refine v_wname9 ?_ | with_reducible refine v_name10 ?_ | with_reducible refine v_wname10 ?_ | with_reducible refine v_name11 ?_ | with_reducible refine v_wname11 ?_ | with_reducible refine v_name12 ?_ | with_reducible refine v_wname12 ?_ | with_reducible refine v_name13 ?_ | with_reducible refine v_wname13 ?_ | with_reducible refine v_name14 ?_ | with_reducible refine v_wname14 ?_ | with_reducible refine v_name15 ?_ | with_reducible refine v_wname15 ?_ | with_reducible refine v_name16 ?_ | with_reducible refine v_wname16 ?_ | with_reducible refine v_name17 ?_ | with_reducible refine v_wname17 ?_ | with_reducible refine v_name18 ?_ | with_reducible refine v_wname18 ?_ | with_reducible refine v_name19 ?_ | with_reducible refine v_wname19 ?_ | with_reducible refine v_name20 ?_ | with_reducible refine v_wname20 ?_ | with_reducible refine v_name21 ?_ | with_reducible refine v_wname21 ?_ | with_reducible refine v_name22 ?_ | with_reducible refine v_wname22 ?_ | with_reducible refine v_name23 ?_ | with_reducible refine v_wname23 ?_ | with_reducible refine v_name24 ?_ | with_reducible refine v_wname24 ?_ | with_reducible refine v_name25 ?_ | with_reducible refine v_wname25 ?_) | with_reducible refine v_drop ?_ | with_reducible refine v_ret ?_ | with_reducible refine v_ifS ?_ | with_reducible refine v_test ?_ | with_reducible refine v_bl ?_ | with_reducible refine v_const ?_ | with_reducible refine v_op ?_ | with_reducible refine v_cb ?_ | with_reducible refine v_nil ?_ | with_reducible refine v_cons ?_ | with_reducible refine v_fld ?_ | with_reducible refine v_meth ?_ | with_reducible refine v_cal ?_ | with_reducible refine v_call0 ?_ | with_reducible refine v_pos2 ?_ | with_reducible refine v_tt ?_ | with_reducible refine v_ff ?_ | with_reducible refine v_ntt ?_ | with_reducible refine v_nff ?_ | with_reducible refine v_dnot ?_ | with_reducible refine v_dand ?_ | with_reducible refine v_dor ?_ | with_reducible refine v_andV ?_ | with_reducible refine v_orV ?_ | with_reducible refine v_notV ?_ | with_reducible refine v_ifE ?_ | with_reducible refine v_bm0 ?_ | with_reducible refine v_eqS ?_ | with_reducible refine v_eqI ?_ | with_reducible refine v_neS ?_ | with_reducible refine v_neI ?_ | with_reducible refine v_eqB ?_ | with_reducible refine v_neB ?_ | with_reducible refine v_isNn ?_ | with_reducible refine v_isNs ?_ | with_reducible refine v_isNi ?_ | with_reducible refine v_isNt ?_ | with_reducible refine v_notNn ?_ | with_reducible refine v_notNs ?_ | with_reducible refine v_notNi ?_ | with_reducible refine v_notNt ?_ | with_reducible refine v_isN ?_ | with_reducible refine v_notN ?_ | with_reducible refine v_lt ?_ | with_reducible refine v_le ?_ | with_reducible refine v_gt ?_ | with_reducible refine v_ge ?_ | with_reducible refine v_addI ?_ | with_reducible refine v_subI ?_ | with_reducible refine v_lenT ?_ | with_reducible refine v_lenL ?_ | with_reducible refine v_chain ?_ | with_reducible refine v_un ?_ | with_reducible refine v_tup ?_ | with_reducible refine v_lst ?_ | with_reducible refine v_lstC ?_ | with_reducible refine v_gsub ?_ | with_reducible refine v_rng1 ?_ | with_reducible refine v_rng2 ?_ | with_reducible refine v_slice ?_ | with_reducible refine v_nopart ?_ | with_reducible refine v_part ?_ | with_reducible refine v_partI ?_ | with_reducible refine v_slT ?_ | with_reducible refine v_slL ?_ | with_reducible refine v_rev ?_ | with_reducible refine v_revO ?_ | with_reducible refine v_enumS ?_ | with_reducible refine v_enumL ?_ | with_reducible refine v_enumT ?_ | with_reducible refine v_zipS ?_ | with_reducible refine v_revL ?_ | with_reducible refine v_revT ?_ | with_reducible refine v_putT ?_ | with_reducible refine v_putK ?_ | with_reducible refine v_inT ?_ | with_reducible refine v_getT ?_ | with_reducible refine v_get2T ?_ | with_reducible refine v_make ?_ | with_reducible refine v_fldSet ?_ | with_reducible refine v_forL ?_ | with_reducible refine v_forT ?_ | with_reducible refine v_forS ?_ | with_reducible refine v_lstO ?_ | with_reducible refine v_rolO ?_ | with_reducible refine v_tupO ?_ | with_reducible refine v_strO ?_ | with_reducible refine v_listT ?_ | with_reducible refine v_listL ?_ | with_reducible refine v_tupleL ?_ | with_reducible refine v_tupleT ?_ | with_reducible refine v_isiS ?_ | with_reducible refine v_isiT ?_ | with_reducible refine v_isiL ?_ | with_reducible refine v_allM ?_ | with_reducible refine v_anyM ?_ | with_reducible refine v_eqNS ?_ | with_reducible refine v_neNS ?_ | with_reducible refine v_gcons ?_ | with_reducible refine v_gnil ?_ | with_reducible refine v_par2 ?_ | with_reducible refine v_par33 ?_ | with_reducible refine v_retN ?_ | with_reducible refine v_sameS ?_ | with_reducible refine v_sameB ?_ | with_reducible refine v_sameI ?_ | with_reducible refine v_sameN ?_ | with_reducible refine v_sameT ?_ | with_reducible refine v_sameL ?_ | with_reducible refine v_endN ?_ | with_reducible refine v_bm ?_ | with_reducible refine v_tystr ?_ | with_reducible refine v_break ?_ | with_reducible refine v_cont ?_ | ((with_reducible refine v_slS ?_ ?_); sizeOf_list_dec) | ((with_reducible refine v_lenS ?_ ?_); sizeOf_list_dec) | ((with_reducible refine v_addS ?_ ?_); sizeOf_list_dec) | ((with_reducible refine v_addT ?_ ?_); sizeOf_list_dec) | ((with_reducible refine v_addL ?_ ?_); sizeOf_list_dec) | (with_reducible refine v_par _ _ ?_) | (with_reducible refine v_par3 _ _ _ ?_) | ((with_reducible refine v_gtup ?_ ?_); rfl) | with_reducible refine v_ixT (by with_unfolding_all rfl) ?_ | with_reducible refine v_ixL (by with_unfolding_all rfl) ?_ | with_reducible refine v_ixR (by with_unfolding_all rfl) ?_ | ((with_reducible refine v_ixS ?_ (by with_unfolding_all rfl) ?_); sizeOf_list_dec) | ((with_reducible refine And.intro ?_ ?_); sizeOf_list_dec) | with_reducible refine v_dt (by first | assumption | with_unfolding_all rfl | omega | (simp only [List.length_map, List.length_append, List.length_cons, List.length_nil, List.length_reverse, txts_lenG]; first | done | omega)) ?_ | with_reducible refine v_ndt (by first | assumption | with_unfolding_all rfl | omega | (simp only [List.length_map, List.length_append, List.length_cons, List.length_nil, List.length_reverse, txts_lenG]; first | done | omega)) ?_ | with_reducible refine v_df (by first | assumption | omega | (with_unfolding_all decide) | (simp only [List.length_map, List.length_append, List.length_cons, List.length_nil, List.length_reverse, txts_lenG]; first | done | omega)) ?_ | with_reducible refine v_ndf (by first | assumption | omega | (with_unfolding_all decide) | (simp only [List.length_map, List.length_append, List.length_cons, List.length_nil, List.length_reverse, txts_lenG]; first | done | omega)) ?_ | decreasing_trivial_pre_omega | ((with_reducible refine v_isname ?_); dsimp only [wipeD, List.set]) | ((with_reducible refine v_isvar ?_); dsimp only [wipeD, List.set]))
local macro_rules | `(tactic| array_mem_dec) => `(tactic| repeat array_get_dec)
local macro_rules | `(tactic| bv_omega) => `(tactic| repeat' (first | array_get_dec | with_reducible refine ite_d (fun _ => ?_) (fun _ => ?_) | with_reducible refine ite_nd (fun _ => ?_) (fun _ => ?_) | with_reducible refine ite_b (fun _ => ?_) (fun _ => ?_) | with_reducible refine ite_nb (fun _ => ?_) (fun _ => ?_)))
local macro_rules | `(tactic| decreasing_trivial_pre_omega) => `(tactic| with_reducible refine kz_name ?_)
local macro_rules | `(tactic| decreasing_trivial_pre_omega) => `(tactic| with_reducible refine kz_family ?_)
local macro_rules | `(tactic| decreasing_trivial_pre_omega) => `(tactic| with_reducible refine kz_marks ?_)
local macro_rules | `(tactic| decreasing_trivial_pre_omega) => `(tactic| with_reducible refine kz_yes ?_)
local macro_rules | `(tactic| decreasing_trivial_pre_omega) => `(tactic| with_reducible refine kz_no ?_)
local macro_rules | `(tactic| decreasing_trivial_pre_omega) => `(tactic| with_reducible refine kz_digits ?_)
local macro_rules | `(tactic| decreasing_trivial_pre_omega) => `(tactic| with_reducible refine kz_point ?_)
local macro_rules | `(tactic| decreasing_trivial_pre_omega) => `(tactic| with_reducible refine kz_keep ?_)
local macro_rules | `(tactic| decreasing_trivial_pre_omega) => `(tactic| with_reducible refine v_try ?_)
local macro_rules | `(tactic| decreasing_trivial_pre_omega) => `(tactic| with_reducible refine v_methX ?_)
local macro_rules | `(tactic| decreasing_trivial_pre_omega) => `(tactic| with_reducible refine v_makeX ?_)
local macro_rules | `(tactic| decreasing_trivial_pre_omega) => `(tactic| with_reducible refine v_calX ?_)
local macro_rules | `(tactic| decreasing_trivial_pre_omega) => `(tactic| with_reducible refine v_xfV (by with_unfolding_all rfl) (by with_unfolding_all rfl) ?_)
local macro_rules | `(tactic| decreasing_trivial_pre_omega) => `(tactic| with_reducible refine v_xisV (by with_unfolding_all rfl) ?_)
local macro_rules | `(tactic| decreasing_trivial_pre_omega) => `(tactic| with_reducible refine v_raise ?_)
/-! ### kinds refused: what the tests say of any thing -/
/-- no tuple, or one with a thing that is no text -/
def NoTs (d : D) (C : Cl) : Prop := (∃ n, tyNm d C = some n ∧ isSub n "tuple" = false) ∨ ∃ xs, d = .tup xs ∧ xs.length ≤ 4000 ∧ (∀ x ∈ xs, Known x C) ∧ ∃ x ∈ xs, onStr isText x = false
def sp_are_textsU : DSp := fun ds C Q _ => (∃ (ls : List (List Nat)) (m : Nat), ds = [.tup (txts ls), .int m] ∧ ls.length ≤ 4000 ∧ (∀ l ∈ ls, l.length ≤ 1000000) ∧ Q (.bl (areTexts ls m)) C) ∨
  ∃ (d : D) (m : Nat), ds = [d, .int m] ∧ NoTs d C ∧ Q (.bl false) C
def td_are_textsU : DS :=
  (dSeq (dIfS (dOr (dNot (dTest (dCB (rIsi "tuple") (dCons (dVar 0) (dCons (dC (.ty "tuple")) dNil))))) (dNot (dTest (dChain rLeD rLeD (dC (.int 1)) (dCB rLen (dCons (dVar 0) dNil)) (dVar 1))))) (dRet (dC (.bl false))) dNext)
    (dRet (dAndV (dCB rAllL (dCons (dFz (dLc (diTup (dVar 0)) (dName 2) dYes (dCall sp_is_text [] (dCons (dVar 2) dNil)) [2])) dNil)) (dOp rEqD (dLenSet (dVar 0)) (dCB rLen (dCons (dVar 0) dNil))))))
theorem len_are_textsU (ds : List D) (C : Cl) (Q : DQ) (E : DX) (h : sp_are_textsU ds C Q E) : ds.length = 2 := by rcases h with ⟨_, _, rfl, _⟩ | ⟨_, _, rfl, _⟩ <;> rfl
theorem known_sub {d : D} {C C' : Cl} (h : Known d C) (s : SubC C C') : Known d C' := by
  obtain ⟨⟨n, hn⟩, hl⟩ := h
  refine ⟨⟨n, ?_⟩, hl⟩
  cases d with
  | ref a =>
    have hn' : (match C a with | some (.lst _) => some "list" | some (.dic _) => some "dict" | some (.dct _) => some "dict" | _ => none) = some n := hn
    show (match C' a with | some (.lst _) => some "list" | some (.dic _) => some "dict" | some (.dct _) => some "dict" | _ => none) = some n
    cases e : C a with
    | none => rw [e] at hn'; cases hn'
    | some c => rw [s _ _ e]; rw [e] at hn'; exact hn'
  | _ => exact hn
theorem pure_are_textsU (ds : List D) (C : Cl) (Q : DQ) (E : DX) (h : sp_are_textsU ds C Q E) : td_are_textsU (endsD Q) (startD ["things", "most", "thing"] ds) C := by
  rcases h with h | ⟨d, m, rfl, ⟨n, hn, hs⟩ | ⟨xs, rfl, hl, hk, hx⟩, hq⟩
  · exact pure_are_texts ds C Q E h
  · unfold td_are_textsU
    refine v_ends ?_
    simp only [startD, List.map_cons, List.map_nil, List.length_cons, List.length_nil, Nat.reduceAdd, Nat.reduceSub, List.reduceReplicate, List.cons_append, List.nil_append]
    array_mem_dec
    refine ⟨_, _, rfl, hn, _, rfl, ?_⟩
    rw [hs]
    array_mem_dec
    exact hq
  · unfold td_are_textsU
    refine v_ends ?_
    simp only [startD, List.map_cons, List.map_nil, List.length_cons, List.length_nil, Nat.reduceAdd, Nat.reduceSub, List.reduceReplicate, List.cons_append, List.nil_append]
    array_mem_dec
    refine ite_d (fun h1 => ?_) (fun h1 => ?_)
    · array_mem_dec
      refine ite_nd (fun h2 => ?_) (fun h2 => ?_)
      · array_mem_dec
        exact hq
      · array_mem_dec
        refine v_lcmapF (as := xs) (e := id) (fun x => .bl (onStr isText x)) (fun R h => ?_) (szl (by omega)) (fun i x C' N _ hm s hN => ?_) ?_
        · rw [List.map_id] at h
          array_mem_dec
          exact h
        · show dName 2 x _ C' _
          array_mem_dec
          exact ⟨x, rfl, known_sub (hk x hm) s, hN⟩
        array_mem_dec
        obtain ⟨x, hm, e⟩ := hx
        rw [show (xs.all fun x => onStr isText x) = false from List.all_eq_false.mpr ⟨x, hm, by rw [e]; exact Bool.false_ne_true⟩]
        array_mem_dec
        exact hq
    · array_mem_dec
      exact hq
def sp_is_betweenU : DSp := fun ds C Q _ => (∃ i lo hi : Int, ds = [.int i, .int lo, .int hi] ∧ Q (.bl (decide (lo ≤ i ∧ i ≤ hi))) C) ∨
  ∃ d lo hi n, ds = [d, .int lo, .int hi] ∧ tyNm d C = some n ∧ (∀ i, d ≠ .int i) ∧ Q (.bl false) C
def td_is_betweenU : DS :=
  (dRet (dAndV (dCB (rIsi "int") (dCons (dVar 0) (dCons (dC (.ty "int")) dNil))) (dAndV (dNotV (dCB (rIsi "bool") (dCons (dVar 0) (dCons (dC (.ty "bool")) dNil)))) (dChain rLeD rLeD (dVar 1) (dVar 0) (dVar 2)))))
theorem len_is_betweenU (ds : List D) (C : Cl) (Q : DQ) (E : DX) (h : sp_is_betweenU ds C Q E) : ds.length = 3 := by rcases h with ⟨_, _, _, rfl, _⟩ | ⟨_, _, _, _, rfl, _⟩ <;> rfl
theorem pure_is_betweenU (ds : List D) (C : Cl) (Q : DQ) (E : DX) (h : sp_is_betweenU ds C Q E) : td_is_betweenU (endsD Q) (startD ["thing", "least", "most"] ds) C := by
  rcases h with h | ⟨d, lo, hi, n, rfl, hn, hd, hq⟩
  · exact pure_is_between ds C Q E h
  · unfold td_is_betweenU
    refine v_ends ?_
    simp only [startD, List.map_cons, List.map_nil, List.length_cons, List.length_nil, Nat.reduceAdd, Nat.reduceSub, List.reduceReplicate, List.cons_append, List.nil_append]
    array_mem_dec
    refine ⟨_, _, rfl, hn, _, rfl, ?_⟩
    by_cases hb : ∃ b, d = .bl b
    · obtain ⟨b, rfl⟩ := hb
      cases hn
      rw [show isSub "bool" "int" = true from rfl]
      array_mem_dec
      refine ⟨_, _, rfl, rfl, _, rfl, ?_⟩
      rw [show isSub "bool" "bool" = true from rfl]
      array_mem_dec
      exact hq
    · have e : isSub n "int" = false := by
        cases d with
        | int i => exact absurd rfl (hd i)
        | bl b => exact absurd ⟨b, rfl⟩ hb
        | ref a =>
          have hn' : (match C a with | some (.lst _) => some "list" | some (.dic _) => some "dict" | some (.dct _) => some "dict" | _ => none) = some n := hn
          cases e : C a with
          | none => rw [e] at hn'; cases hn'
          | some c => rw [e] at hn'; cases c <;> cases hn' <;> rfl
        | _ => cases hn <;> rfl
      rw [e]
      array_mem_dec
      exact hq
/-! the kinds made, or refused -/
def partD (l : List Nat) : List (Str × D) := [("part", .str l)]
def wName : List Nat := [110, 97, 109, 101]
def wMarks : List Nat := [109, 97, 114, 107, 115]
def wYes : List Nat := [121, 101, 115]
def wNo : List Nat := [110, 111]
/-- a thing that is no word -/
def NoW (d : D) (C : Cl) : Prop := Known d C ∧ onStr isWord d = false
def sp_Kind_of_textsX : DSp := fun ds C Q E => (∃ d, ds = [d] ∧ NoW d C ∧ E "BadKind" (partD wName) C)
def td_Kind_of_textsX (Ex : DEnv → DX) : DS :=
  (dSeq (dIfS (dNot (dTest (dCall sp_is_word [] (dCons (dVar 0) dNil)))) (dRaise Ex "BadKind" ["part"] (dCons (dC (.str [110, 97, 109, 101])) dNil)) dNext)
    (dRet (dMake "Kind" (kw2 3 0 sp_Kind_init [(false, 0), (false, 1), (false, 2), (false, 3), (false, 4), (false, 5), (false, 6), (false, 7), (false, 8)] [(.tup []), (.tup []), (.tup []), .non, (.bl false), (.str [45]), (.bl true), .non, (.int 0)]) (dCons (dVar 0) (dCons (dC (.str [116, 101, 120, 116])) dNil)) dNil)))
theorem len_Kind_of_textsX (ds : List D) (C : Cl) (Q : DQ) (E : DX) (h : sp_Kind_of_textsX ds C Q E) : ds.length = 1 := by obtain ⟨_, rfl, _⟩ := h; rfl
theorem pure_Kind_of_textsX (ds : List D) (C : Cl) (Q : DQ) (E : DX) (h : sp_Kind_of_textsX ds C Q E) : td_Kind_of_textsX (fun _ => E) (endsD Q) (startD ["name"] ds) C := by
  obtain ⟨d, rfl, ⟨hk, hw⟩, he⟩ := h
  unfold td_Kind_of_textsX
  refine v_ends ?_
  simp only [startD, List.map_cons, List.map_nil, List.length_cons, List.length_nil, Nat.reduceAdd, Nat.reduceSub, List.reduceReplicate, List.cons_append, List.nil_append]
  array_mem_dec
  refine ⟨d, rfl, hk, ?_⟩
  rw [hw]
  array_mem_dec
  exact ⟨rfl, by show (1 : Nat) ≤ 900; decide, prd1 (by decide), he⟩
/-- marks that are not taken -/
def NoM (m : Nat) (d : D) (C : Cl) : Prop := NoTs d C ∨ ∃ ls, d = .tup (txts ls) ∧ ls.length ≤ 4000 ∧ (∀ l ∈ ls, l.length ≤ 1000000) ∧ areTexts ls m = false
def sp_Kind_of_marksX : DSp := fun ds C Q E => ∃ d ms, ds = [d, .tup ms] ∧ ((NoW d C ∧ E "BadKind" (partD wName) C) ∨
  (∃ l, d = .str l ∧ isWord l = true ∧ l.length ≤ 1000000 ∧ NoM 6 (.tup ms) C ∧ E "BadKind" (partD wMarks) C) ∨
  ∃ l ls, d = .str l ∧ ms = txts ls ∧ isWord l = true ∧ l.length ≤ 1000000 ∧ areTexts ls 6 = true ∧ (∀ t ∈ ls, t.length ≤ 1000000) ∧ Q (kindD { name := l, fam := famMissing, marks := ls }) C)
def td_Kind_of_marksX (Ex : DEnv → DX) : DS :=
  (dSeq (dIfS (dNot (dTest (dCall sp_is_word [] (dCons (dVar 0) dNil)))) (dRaise Ex "BadKind" ["part"] (dCons (dC (.str [110, 97, 109, 101])) dNil)) dNext)
    (dSeq (dIfS (dNot (dTest (dCall sp_are_textsU [] (dCons (dVar 1) (dCons (dC (.int 6)) dNil))))) (dRaise Ex "BadKind" ["part"] (dCons (dC (.str [109, 97, 114, 107, 115])) dNil)) dNext)
    (dRet (dMake "Kind" (kw2 3 1 sp_Kind_init [(true, 0), (false, 0), (false, 1), (false, 2), (false, 3), (false, 4), (false, 5), (false, 6), (false, 7)] [(.tup []), (.tup []), .non, (.bl false), (.str [45]), (.bl true), .non, (.int 0)]) (dCons (dVar 0) (dCons (dC (.str [109, 105, 115, 115, 105, 110, 103])) dNil)) (dCons (dVar 1) dNil)))))
theorem len_Kind_of_marksX (ds : List D) (C : Cl) (Q : DQ) (E : DX) (h : sp_Kind_of_marksX ds C Q E) : ds.length = 2 := by obtain ⟨_, _, rfl, _⟩ := h; rfl
theorem pure_Kind_of_marksX (ds : List D) (C : Cl) (Q : DQ) (E : DX) (h : sp_Kind_of_marksX ds C Q E) : td_Kind_of_marksX (fun _ => E) (endsD Q) (startD ["name", "marks"] ds) C := by
  obtain ⟨d, ms, rfl, h⟩ := h
  unfold td_Kind_of_marksX
  refine v_ends ?_
  simp only [startD, List.map_cons, List.map_nil, List.length_cons, List.length_nil, Nat.reduceAdd, Nat.reduceSub, List.reduceReplicate, List.cons_append, List.nil_append]
  rcases h with ⟨⟨hk, hw⟩, he⟩ | ⟨l, rfl, hw, hl, hm, he⟩ | ⟨l, ls, rfl, rfl, hw, hl, hy, ly, hq⟩
  · array_mem_dec
    refine ⟨d, rfl, hk, ?_⟩
    rw [hw]
    array_mem_dec
    exact ⟨rfl, by show (1 : Nat) ≤ 900; decide, prd1 (by decide), he⟩
  · array_mem_dec
    refine ⟨_, rfl, known_str hl, ?_⟩
    rw [show onStr isWord (.str l) = true from hw]
    array_mem_dec
    rcases hm with hm | ⟨ls, e, h4, hl4, ha⟩
    · refine .inr ⟨_, _, rfl, hm, ?_⟩
      array_mem_dec
      exact ⟨rfl, by show (1 : Nat) ≤ 900; decide, prd1 (by decide), he⟩
    · cases e
      refine .inl ⟨ls, 6, rfl, h4, hl4, ?_⟩
      rw [ha]
      array_mem_dec
      exact ⟨rfl, by show (1 : Nat) ≤ 900; decide, prd1 (by decide), he⟩
  · obtain ⟨a1, a2, a3, a4⟩ := areTexts_len hy
    array_mem_dec
    refine ⟨_, rfl, known_str hl, ?_⟩
    rw [show onStr isWord (.str l) = true from hw]
    array_mem_dec
    refine .inl ⟨ls, 6, rfl, by omega, ly, ?_⟩
    rw [hy]
    array_mem_dec
    exact fun x hx => ⟨rfl, rfl, x, _, _, _, _, _, _, _, _, _, _, _, rfl, updC_same, made_end x hx hq⟩
theorem not_made {d : D} {m : Nat} {C : Cl} {R : D → Cl → Prop} (h : NoM m d C) (q : R (.bl false) C) : sp_are_textsU [d, .int m] C R noX := by
  rcases h with h | ⟨ls, rfl, h4, hl, ha⟩
  · exact .inr ⟨d, m, rfl, h, q⟩
  · refine .inl ⟨ls, m, rfl, h4, hl, ?_⟩
    rw [ha]
    exact q
theorem v_are {ls : List (List Nat)} {m : Nat} {C : Cl} {R : D → Cl → Prop} (h : areTexts ls m = true) (h4 : ls.length ≤ 4000) (hl : ∀ l ∈ ls, l.length ≤ 1000000) (q : R (.bl true) C) : sp_are_textsU [.tup (txts ls), .int m] C R noX :=
  .inl ⟨ls, m, rfl, h4, hl, by rw [h]; exact q⟩
def sp_Kind_of_wordsX : DSp := fun ds C Q E => ∃ d y n, ds = [d, y, n] ∧ ((NoW d C ∧ E "BadKind" (partD wName) C) ∨
  ∃ l, d = .str l ∧ isWord l = true ∧ l.length ≤ 1000000 ∧ ((NoM 4 y C ∧ E "BadKind" (partD wYes) C) ∨
  ∃ ys, y = .tup (txts ys) ∧ areTexts ys 4 = true ∧ (∀ t ∈ ys, t.length ≤ 1000000) ∧ ((NoM 4 n C ∧ E "BadKind" (partD wNo) C) ∨
  ∃ ns, n = .tup (txts ns) ∧ areTexts ns 4 = true ∧ (∀ t ∈ ns, t.length ≤ 1000000) ∧ (((∃ t ∈ ns, t ∈ ys) ∧ E "BadKind" (partD wNo) C) ∨
    ((∀ t ∈ ns, t ∉ ys) ∧ Q (kindD { name := l, fam := famTruth, yes := ys, no := ns }) C)))))
def td_Kind_of_wordsX (Ex : DEnv → DX) : DS :=
  (dSeq (dIfS (dNot (dTest (dCall sp_is_word [] (dCons (dVar 0) dNil)))) (dRaise Ex "BadKind" ["part"] (dCons (dC (.str [110, 97, 109, 101])) dNil)) dNext)
    (dSeq (dIfS (dNot (dTest (dCall sp_are_textsU [] (dCons (dVar 1) (dCons (dC (.int 4)) dNil))))) (dRaise Ex "BadKind" ["part"] (dCons (dC (.str [121, 101, 115])) dNil)) dNext)
    (dSeq (dIfS (dOr (dNot (dTest (dCall sp_are_textsU [] (dCons (dVar 2) (dCons (dC (.int 4)) dNil))))) (dTest (dCB rAnyL (dCons (dFz (dLc (diTup (dVar 2)) (dName 3) dYes (dOp rIn (dVar 3) (dVar 1)) [3])) dNil)))) (dRaise Ex "BadKind" ["part"] (dCons (dC (.str [110, 111])) dNil)) dNext)
    (dRet (dMake "Kind" (kw2 3 2 sp_Kind_init [(false, 0), (true, 0), (true, 1), (false, 1), (false, 2), (false, 3), (false, 4), (false, 5), (false, 6)] [(.tup []), .non, (.bl false), (.str [45]), (.bl true), .non, (.int 0)]) (dCons (dVar 0) (dCons (dC (.str [116, 114, 117, 116, 104])) dNil)) (dCons (dVar 1) (dCons (dVar 2) dNil)))))))
theorem len_Kind_of_wordsX (ds : List D) (C : Cl) (Q : DQ) (E : DX) (h : sp_Kind_of_wordsX ds C Q E) : ds.length = 3 := by obtain ⟨_, _, _, rfl, _⟩ := h; rfl
theorem pure_Kind_of_wordsX (ds : List D) (C : Cl) (Q : DQ) (E : DX) (h : sp_Kind_of_wordsX ds C Q E) : td_Kind_of_wordsX (fun _ => E) (endsD Q) (startD ["name", "yes", "no", "word"] ds) C := by
  obtain ⟨d, y, n, rfl, h⟩ := h
  unfold td_Kind_of_wordsX
  refine v_ends ?_
  simp only [startD, List.map_cons, List.map_nil, List.length_cons, List.length_nil, Nat.reduceAdd, Nat.reduceSub, List.reduceReplicate, List.cons_append, List.nil_append]
  array_mem_dec
  rcases h with ⟨⟨hk, hw⟩, he⟩ | ⟨l, rfl, hw, hl, h⟩
  · refine ⟨d, rfl, hk, ?_⟩
    rw [hw]
    array_mem_dec
    exact ⟨rfl, by show (1 : Nat) ≤ 900; decide, prd1 (by decide), he⟩
  refine ⟨_, rfl, known_str hl, ?_⟩
  rw [show onStr isWord (.str l) = true from hw]
  array_mem_dec
  rcases h with ⟨hm, he⟩ | ⟨ys, rfl, hy, ly, h⟩
  · refine not_made hm ?_
    array_mem_dec
    exact ⟨rfl, by show (1 : Nat) ≤ 900; decide, prd1 (by decide), he⟩
  have ay := (areTexts_len hy).2.1
  refine v_are hy (by omega) ly ?_
  array_mem_dec
  rcases h with ⟨hm, he⟩ | ⟨ns, rfl, hn, ln, h⟩
  · refine not_made hm ?_
    array_mem_dec
    exact ⟨rfl, by show (1 : Nat) ≤ 900; decide, prd1 (by decide), he⟩
  have an := (areTexts_len hn).2.1
  refine v_are hn (by omega) ln ?_
  array_mem_dec
  refine v_lcmapF (as := ns) (e := D.str) (fun t => .bl (decide (t ∈ ys))) (fun R h => ?_) (szl (by omega)) (fun i t C' N _ ht _ hN => ?_) ?_
  · array_mem_dec
    exact h
  · array_mem_dec
    refine in_txts rfl ?_
    exact hN
  array_mem_dec
  rcases h with ⟨⟨t, h1, h2⟩, he⟩ | ⟨hd, hq⟩
  · rw [show (ns.any fun t => decide (t ∈ ys)) = true from List.any_eq_true.mpr ⟨t, h1, decide_eq_true h2⟩]
    array_mem_dec
    exact ⟨rfl, by show (1 : Nat) ≤ 900; decide, prd1 (by decide), he⟩
  · rw [show (ns.any fun t => decide (t ∈ ys)) = false from List.any_eq_false.mpr fun t ht => by rw [decide_eq_false (hd t ht)]; exact Bool.false_ne_true]
    array_mem_dec
    exact fun x hx => ⟨rfl, rfl, x, _, _, _, _, _, _, _, _, _, _, _, rfl, updC_same, made_end x hx hq⟩
/-! numbers -/
def wDigits : List Nat := [100, 105, 103, 105, 116, 115]
def wPoint : List Nat := [112, 111, 105, 110, 116]
def wSigns : List Nat := [115, 105, 103, 110, 115]
def wZeros : List Nat := [122, 101, 114, 111, 115]
def wKeep : List Nat := [107, 101, 101, 112]
def wShown : List Nat := [115, 104, 111, 119, 110]
/-- a count that is not taken -/
def NoCt (lo hi : Int) (d : D) (C : Cl) : Prop := (∃ n, tyNm d C = some n) ∧ ∀ i, d = .int i → ¬ (lo ≤ i ∧ i ≤ hi)
def NoBl (d : D) (C : Cl) : Prop := ∃ n, tyNm d C = some n ∧ isSub n "bool" = false
def NoSg (d : D) (C : Cl) : Prop := (∃ n, tyNm d C = some n) ∧ ∀ l, d = .str l → l ≠ [] ∧ l ≠ [45] ∧ l ≠ [43, 45]
theorem bad_ct {lo hi : Int} {d : D} {C : Cl} {R : D → Cl → Prop} (h : NoCt lo hi d C) (q : R (.bl false) C) : sp_is_betweenU [d, .int lo, .int hi] C R noX := by
  obtain ⟨⟨n, hn⟩, hi'⟩ := h
  by_cases e : ∃ i, d = .int i
  · obtain ⟨i, rfl⟩ := e
    refine .inl ⟨i, lo, hi, rfl, ?_⟩
    rw [decide_eq_false (hi' i rfl)]
    exact q
  · exact .inr ⟨d, lo, hi, n, rfl, hn, fun i z => e ⟨i, z⟩, q⟩
theorem good_ct {lo hi i : Int} {C : Cl} {R : D → Cl → Prop} (h : lo ≤ i ∧ i ≤ hi) (q : R (.bl true) C) : sp_is_betweenU [.int i, .int lo, .int hi] C R noX := .inl ⟨i, lo, hi, rfl, by rw [decide_eq_true h]; exact q⟩
def sp_Kind_of_numbersX : DSp := fun ds C Q E => ∃ d dg pt sg zr kp sh, ds = [d, dg, pt, sg, zr, kp, sh] ∧ ((NoW d C ∧ E "BadKind" (partD wName) C) ∨
  ∃ l, d = .str l ∧ isWord l = true ∧ l.length ≤ 1000000 ∧ ((dg ≠ .non ∧ NoCt 1 20 dg C ∧ E "BadKind" (partD wDigits) C) ∨ ∃ od : Option Nat, dg = optN od ∧ (∀ n, od = some n → 1 ≤ n ∧ n ≤ 20) ∧ ((NoBl pt C ∧ E "BadKind" (partD wPoint) C) ∨
  ∃ p, pt = .bl p ∧ ((NoSg sg C ∧ E "BadKind" (partD wSigns) C) ∨ ∃ s, sg = .str s ∧ (s = [] ∨ s = [45] ∨ s = [43, 45]) ∧ ((NoBl zr C ∧ E "BadKind" (partD wZeros) C) ∨
  ∃ z, zr = .bl z ∧ ((kp ≠ .non ∧ NoCt 1 20 kp C ∧ E "BadKind" (partD wKeep) C) ∨ ∃ ok : Option Nat, kp = optN ok ∧ (∀ n, ok = some n → 1 ≤ n ∧ n ≤ 20) ∧ ((NoCt 0 3 sh C ∧ E "BadKind" (partD wShown) C) ∨
  ∃ n : Nat, sh = .int n ∧ n ≤ 3 ∧ ((0 < n ∧ p = false ∧ E "BadKind" (partD wShown) C) ∨ ((n = 0 ∨ p = true) ∧ Q (kindD { name := l, fam := famNumber, digits := od, point := p, signs := s, zeros := z, keep := ok, shown := n }) C)))))))))
theorem notin_txts {ps : List (List Nat)} {l : List Nat} {y : D} {C : Cl} {Q : DQ} (hy : seqOf C y = some (txts ps)) (hq : Q (.bl (!decide (l ∈ ps))) C) : rNotIn (.str l) y C Q := by
  refine .inr (.inr ⟨_, hy, rfl, flat_txts ps, ?_⟩)
  rw [any_txts]
  exact hq
theorem iteT' {b : Bool} {A B : Prop} (e : b = true) (h : A) : if b = true then A else B := by rw [if_pos e]; exact h
theorem both {T : Prop} (Y : Prop) (f : Y → T) (y : Y) : T := f y
theorem ite_opt {od : Option Nat} {A B : Prop} (h1 : ∀ n, od = some n → A) (h2 : B) : if (!isNonD (optN od)) = true then A else B := by
  cases od with
  | none => exact iteF h2
  | some n => exact iteT (h1 n rfl)
theorem isNon_no {d : D} (h : d ≠ .non) : isNonD d = false := by cases d <;> first | rfl | exact absurd rfl h
def td_Kind_of_numbersX (Ex : DEnv → DX) : DS :=
  (dSeq (dIfS (dNot (dTest (dCall sp_is_word [] (dCons (dVar 0) dNil)))) (dRaise Ex "BadKind" ["part"] (dCons (dC (.str [110, 97, 109, 101])) dNil)) dNext)
    (dSeq (dIfS (dAnd (dTest (dOp rNotN (dVar 1) (dC .non))) (dNot (dTest (dCall sp_is_betweenU [] (dCons (dVar 1) (dCons (dC (.int 1)) (dCons (dC (.int 20)) dNil))))))) (dRaise Ex "BadKind" ["part"] (dCons (dC (.str [100, 105, 103, 105, 116, 115])) dNil)) dNext)
    (dSeq (dIfS (dNot (dTest (dCB (rIsi "bool") (dCons (dVar 2) (dCons (dC (.ty "bool")) dNil))))) (dRaise Ex "BadKind" ["part"] (dCons (dC (.str [112, 111, 105, 110, 116])) dNil)) dNext)
    (dSeq (dIfS (dOr (dNot (dTest (dCB (rIsi "str") (dCons (dVar 3) (dCons (dC (.ty "str")) dNil))))) (dTest (dOp rNotIn (dVar 3) (dTup (dCons (dC (.str [])) (dCons (dC (.str [45])) (dCons (dC (.str [43, 45])) dNil))))))) (dRaise Ex "BadKind" ["part"] (dCons (dC (.str [115, 105, 103, 110, 115])) dNil)) dNext)
    (dSeq (dIfS (dNot (dTest (dCB (rIsi "bool") (dCons (dVar 4) (dCons (dC (.ty "bool")) dNil))))) (dRaise Ex "BadKind" ["part"] (dCons (dC (.str [122, 101, 114, 111, 115])) dNil)) dNext)
    (dSeq (dIfS (dAnd (dTest (dOp rNotN (dVar 5) (dC .non))) (dNot (dTest (dCall sp_is_betweenU [] (dCons (dVar 5) (dCons (dC (.int 1)) (dCons (dC (.int 20)) dNil))))))) (dRaise Ex "BadKind" ["part"] (dCons (dC (.str [107, 101, 101, 112])) dNil)) dNext)
    (dSeq (dIfS (dOr (dNot (dTest (dCall sp_is_betweenU [] (dCons (dVar 6) (dCons (dC (.int 0)) (dCons (dC (.int 3)) dNil)))))) (dAnd (dTest (dOp rGtD (dVar 6) (dC (.int 0)))) (dNot (dTest (dVar 2))))) (dRaise Ex "BadKind" ["part"] (dCons (dC (.str [115, 104, 111, 119, 110])) dNil)) dNext)
    (dRet (dMake "Kind" (kw2 3 6 sp_Kind_init [(false, 0), (false, 1), (false, 2), (true, 0), (true, 1), (true, 2), (true, 3), (true, 4), (true, 5)] [(.tup []), (.tup []), (.tup [])]) (dCons (dVar 0) (dCons (dC (.str [110, 117, 109, 98, 101, 114])) dNil)) (dCons (dVar 1) (dCons (dVar 2) (dCons (dVar 3) (dCons (dVar 4) (dCons (dVar 5) (dCons (dVar 6) dNil)))))))))))))))
theorem len_Kind_of_numbersX (ds : List D) (C : Cl) (Q : DQ) (E : DX) (h : sp_Kind_of_numbersX ds C Q E) : ds.length = 7 := by obtain ⟨_, _, _, _, _, _, _, rfl, _⟩ := h; rfl
theorem pure_Kind_of_numbersX (ds : List D) (C : Cl) (Q : DQ) (E : DX) (h : sp_Kind_of_numbersX ds C Q E) : td_Kind_of_numbersX (fun _ => E) (endsD Q) (startD ["name", "digits", "point", "signs", "zeros", "keep", "shown"] ds) C := by
  obtain ⟨d, dg, pt, sg, zr, kp, sh, rfl, h⟩ := h
  unfold td_Kind_of_numbersX
  refine v_ends ?_
  simp only [startD, List.map_cons, List.map_nil, List.length_cons, List.length_nil, Nat.reduceAdd, Nat.reduceSub, List.reduceReplicate, List.cons_append, List.nil_append]
  array_mem_dec
  rcases h with ⟨⟨hk, hw⟩, he⟩ | ⟨l, rfl, hw, hl, h⟩
  · refine ⟨d, rfl, hk, ?_⟩
    rw [hw]
    array_mem_dec
    exact ⟨rfl, by show (1 : Nat) ≤ 900; decide, prd1 (by decide), he⟩
  refine ⟨_, rfl, known_str hl, ?_⟩
  rw [show onStr isWord (.str l) = true from hw]
  array_mem_dec
  rcases h with ⟨hne, hm, he⟩ | ⟨od, rfl, hod, h⟩
  · rw [isNon_no hne]
    array_mem_dec
    refine bad_ct hm ?_
    array_mem_dec
    exact ⟨rfl, by show (1 : Nat) ≤ 900; decide, prd1 (by decide), he⟩
  refine both ?_ (fun key => ite_opt (fun n e => ?_) ?_) ?_
  rotate_left
  · rw [e]
    array_mem_dec
    refine good_ct (by have := hod n e; omega) ?_
    rw [← e]
    array_mem_dec
    exact key
  · array_mem_dec
    exact key
  rcases h with ⟨⟨n, hn, hs⟩, he⟩ | ⟨p, rfl, h⟩
  · refine ⟨_, _, rfl, hn, _, rfl, ?_⟩
    rw [hs]
    array_mem_dec
    exact ⟨rfl, by show (1 : Nat) ≤ 900; decide, prd1 (by decide), he⟩
  refine ⟨_, _, rfl, rfl, _, rfl, ?_⟩
  rw [show isSub "bool" "bool" = true from rfl]
  array_mem_dec
  rcases h with ⟨⟨⟨n, hn⟩, hs⟩, he⟩ | ⟨s, rfl, hs, h⟩
  · by_cases hS : ∃ l, sg = .str l
    · obtain ⟨l2, rfl⟩ := hS
      refine ⟨_, _, rfl, rfl, _, rfl, ?_⟩
      rw [show isSub "str" "str" = true from rfl]
      array_mem_dec
      refine notin_txts (ps := [[], [45], [43, 45]]) rfl ?_
      rw [decide_eq_false (show ¬ l2 ∈ [[], [45], [43, 45]] by simp only [List.mem_cons, List.not_mem_nil, or_false]; exact fun z => by rcases z with z | z | z; exact (hs l2 rfl).1 z; exact (hs l2 rfl).2.1 z; exact (hs l2 rfl).2.2 z)]
      array_mem_dec
      exact ⟨rfl, by show (1 : Nat) ≤ 900; decide, prd1 (by decide), he⟩
    · have e : isSub n "str" = false := by
        cases e : isSub n "str" with
        | false => rfl
        | true => exact absurd ((strSub hn).mp e) hS
      refine ⟨_, _, rfl, hn, _, rfl, ?_⟩
      rw [e]
      array_mem_dec
      exact ⟨rfl, by show (1 : Nat) ≤ 900; decide, prd1 (by decide), he⟩
  refine ⟨_, _, rfl, rfl, _, rfl, ?_⟩
  rw [show isSub "str" "str" = true from rfl]
  array_mem_dec
  refine notin_txts (ps := [[], [45], [43, 45]]) rfl ?_
  rw [decide_eq_true (show s ∈ [[], [45], [43, 45]] by simp only [List.mem_cons, List.not_mem_nil, or_false]; exact hs)]
  array_mem_dec
  rcases h with ⟨⟨n, hn, hs⟩, he⟩ | ⟨z, rfl, h⟩
  · refine ⟨_, _, rfl, hn, _, rfl, ?_⟩
    rw [hs]
    array_mem_dec
    exact ⟨rfl, by show (1 : Nat) ≤ 900; decide, prd1 (by decide), he⟩
  refine ⟨_, _, rfl, rfl, _, rfl, ?_⟩
  rw [show isSub "bool" "bool" = true from rfl]
  array_mem_dec
  rcases h with ⟨hne, hm, he⟩ | ⟨ok, rfl, hok, h⟩
  · rw [isNon_no hne]
    array_mem_dec
    refine bad_ct hm ?_
    array_mem_dec
    exact ⟨rfl, by show (1 : Nat) ≤ 900; decide, prd1 (by decide), he⟩
  refine both ?_ (fun key => ite_opt (fun n e => ?_) ?_) ?_
  rotate_left
  · rw [e]
    array_mem_dec
    refine good_ct (by have := hok n e; omega) ?_
    rw [← e]
    array_mem_dec
    exact key
  · array_mem_dec
    exact key
  rcases h with ⟨hm, he⟩ | ⟨n, rfl, hn, h⟩
  · refine bad_ct hm ?_
    array_mem_dec
    exact ⟨rfl, by show (1 : Nat) ≤ 900; decide, prd1 (by decide), he⟩
  refine good_ct (by omega) ?_
  array_mem_dec
  rcases h with ⟨n0, rfl, he⟩ | ⟨hp, hq⟩
  · refine iteT' (decide_eq_true (by omega)) ?_
    array_mem_dec
    exact ⟨rfl, by show (1 : Nat) ≤ 900; decide, prd1 (by decide), he⟩
  · have fin : ∀ x, C x = none → kw2 3 6 sp_Kind_init [(false, 0), (false, 1), (false, 2), (true, 0), (true, 1), (true, 2), (true, 3), (true, 4), (true, 5)] [.tup [], .tup [], .tup []] [.ref x, .str l, .str famNumber] [optN od, .bl p, .str s, .bl z, optN ok, .int n] (updC C x (.ins "Kind" [])) (fun v C4 => v = .non ∧ ∃ d' C', Gh (.ref x) C4 d' C' ∧ Q d' C') noX :=
      fun x hx => ⟨rfl, rfl, x, _, _, _, _, _, _, _, _, _, _, _, rfl, updC_same, made_end x hx hq⟩
    refine ite_d (fun e => ?_) (fun e => ?_)
    · obtain rfl : p = true := by
        rcases hp with z0 | z0
        · omega
        · exact z0
      array_mem_dec
      exact fin
    · array_mem_dec
      exact fin
/-! ### the law's own defs -/
def td_l_part (act : (DEnv → DX) → DE) : DS :=
  (dSeq (dAsg (dC (.str [114, 105, 103, 104, 116])) (dName 1))
    (dSeq (dTry [("BadKind", true)] 2 (fun Ex => (dDrop (act Ex)))
      (fun a c ds => (dSeq (dIfS (dOr (dNot (dTest (dXis a true (dVar 2)))) (dOr (dNot (dTest (dXis a true (dVar 2)))) (dTest (dXis a false (dVar 2))))) (dRet (dC (.str [119, 114, 111, 110, 103, 32, 99, 108, 97, 115, 115]))) dNext)
    (dAsg (dXf a ds "part" (dVar 2)) (dName 1)))) (fun _ => noX))
    (dRet (dVar 1))))
def wRight : List Nat := [114, 105, 103, 104, 116]
/-- what is asked raises BadKind of a part -/
theorem part_raises {f : Addr} {l : List Nat} {tl : DX → Cl → DQ → Prop} {C : Cl} {Q : DQ} (h : ∀ (E : DX) (Q2 : DQ), E "BadKind" (partD l) C → tl E C Q2) (hq : Q (.str l) C) :
    td_l_part (dActD f tl) (endsD Q) (startD ["_law_asked", "_law_found", "_law_e"] [.ref f]) C := by
  unfold td_l_part
  refine v_ends ?_
  simp only [startD, List.map_cons, List.map_nil, List.length_cons, List.length_nil, Nat.reduceAdd, Nat.reduceSub, List.reduceReplicate, List.cons_append, List.nil_append]
  array_mem_dec
  refine v_actD ?_
  refine h _ _ ?_
  refine v_catch rfl fun a _ => ?_
  dsimp only [partD]
  array_mem_dec
  exact hq
/-- what is asked returns -/
theorem part_right {f : Addr} {tl : DX → Cl → DQ → Prop} {C : Cl} {Q : DQ} (h : ∀ (E : DX) (Q2 : DQ), (∀ d, Q2 d C) → tl E C Q2) (hq : Q (.str wRight) C) :
    td_l_part (dActD f tl) (endsD Q) (startD ["_law_asked", "_law_found", "_law_e"] [.ref f]) C := by
  unfold td_l_part
  refine v_ends ?_
  simp only [startD, List.map_cons, List.map_nil, List.length_cons, List.length_nil, Nat.reduceAdd, Nat.reduceSub, List.reduceReplicate, List.cons_append, List.nil_append]
  array_mem_dec
  refine v_actD ?_
  refine h _ _ fun d => ?_
  array_mem_dec
  exact hq
/-! the things drawn -/
def Tbl (q : String) (C : Cl) : Prop := ∃ P, C P = some (.tbl q)
theorem Tbl.bag {q : String} {C C' : Cl} {b : Addr} {n m : Nat} (h : Tbl q C) (hb : BagAt C b n) (g : Bagged C b C' m) : Tbl q C' := by
  obtain ⟨P, e⟩ := h
  obtain ⟨x, y, z, hc, _⟩ := hb
  obtain ⟨x', y', z', rfl, _⟩ := g
  refine ⟨P, ?_⟩
  rw [updC_ne (fun z => by rw [z, hc] at e; cases e)]
  exact e
theorem Tbl.new {q : String} {C : Cl} {p : Addr} {c : Cell} (h : Tbl q C) (hp : C p = none) : Tbl q (updC C p c) := by
  obtain ⟨P, e⟩ := h
  refine ⟨P, ?_⟩
  rw [updC_ne (fun z => by rw [z, hp] at e; cases e)]
  exact e
def sp_l_no_word : DSp := fun ds C Q _ => ∃ b n, ds = [.ref b] ∧ BagAt C b n ∧ n < 10000000000 ∧ ∀ d C', (∀ C2, NoW d C2) → Bagged C b C' (n + 1) → Q d C'
def AllD (P : D → Prop) (l : List D) : Prop := ∀ d ∈ l, P d
theorem allD_nil {P : D → Prop} : AllD P [] := nofun
theorem allD_cons {P : D → Prop} {d : D} {l : List D} (h : P d) (t : AllD P l) : AllD P (d :: l) := fun x hx => by
  rcases List.mem_cons.mp hx with rfl | e
  · exact h
  · exact t x e
theorem noW_str {l : List Nat} (h : l.length ≤ 1000000) (e : isWord l = false) : ∀ C2, NoW (.str l) C2 := fun _ => ⟨known_str h, e⟩
theorem noW_oth {d : D} {n : String} (h : ∀ C2, tyNm d C2 = some n) (e : ∀ l, d ≠ .str l) : ∀ C2, NoW d C2 := fun C2 => ⟨⟨⟨n, h C2⟩, fun l z => absurd z (e l)⟩, by cases d <;> first | rfl | exact absurd rfl (e _)⟩
def td_l_no_word : DS :=
  (dRet (dCall sp_l_of [] (dCons (dVar 0) (dCons (dLst (dCons (dC (.str [])) (dCons (dC (.str [97, 98, 99, 100, 101, 102, 103, 104, 105])) (dCons (dC (.str [65])) (dCons (dC (.str [97, 49])) (dCons (dC (.str [97, 32, 98])) (dCons (dC .non) (dCons (dC (.int 7)) (dCons (dTup (dCons (dC (.str [97])) dNil)) (dCons (dMul (dC (.str [97])) (dC (.int 300))) (dCons (dC (.str [122, 95])) (dCons (dC (.str [32, 97])) (dCons (dC (.str [97, 10])) dNil))))))))))))) dNil))))
theorem len_l_no_word (ds : List D) (C : Cl) (Q : DQ) (E : DX) (h : sp_l_no_word ds C Q E) : ds.length = 1 := by repeat (first | (obtain ⟨rfl, _⟩ := h; exact rfl) | (obtain ⟨_, h⟩ := h))
theorem pure_l_no_word (ds : List D) (C : Cl) (Q : DQ) (E : DX) (h : sp_l_no_word ds C Q E) : td_l_no_word (endsD Q) (startD ["_law_bag_here"] ds) C := by
  obtain ⟨b, n, rfl, hb, hn, hq⟩ := h
  unfold td_l_no_word
  refine v_ends ?_
  simp only [startD, List.map_cons, List.map_nil, List.length_cons, List.length_nil, Nat.reduceAdd, Nat.reduceSub, List.reduceReplicate, List.cons_append, List.nil_append]
  array_mem_dec
  refine .inr ⟨_, _, rfl, rfl, by decide, by decide, ?_⟩
  array_mem_dec
  refine ⟨b, _, _, _, rfl, rfl, nofun, nofun, by show (12 : Nat) ≤ 1000000; decide, hb, by omega, fun d C2 hd B => ⟨_, _, .same, hq d C2 ?_ B⟩⟩
  refine (show AllD (fun d => ∀ C2, NoW d C2) _ from ?_) d hd
  refine allD_cons (noW_str (by decide) (by decide)) <| allD_cons (noW_str (by decide) (by decide)) <| allD_cons (noW_str (by decide) (by decide)) <| allD_cons (noW_str (by decide) (by decide)) <| allD_cons (noW_str (by decide) (by decide)) <|
    allD_cons (noW_oth (fun _ => rfl) nofun) <| allD_cons (noW_oth (fun _ => rfl) nofun) <| allD_cons (noW_oth (fun _ => rfl) nofun) <|
    allD_cons (noW_str (by decide) (by decide)) <| allD_cons (noW_str (by decide) (by decide)) <| allD_cons (noW_str (by decide) (by decide)) <| allD_cons (noW_str (by decide) (by decide)) allD_nil
def sp_l_no_count : DSp := fun ds C Q _ => ∃ b n, ds = [.ref b] ∧ BagAt C b n ∧ n < 10000000000 ∧ ∀ d C', (d ≠ .non ∧ ∀ C2, NoCt 1 20 d C2) → Bagged C b C' (n + 1) → Q d C'
theorem noCt_int {lo hi i : Int} (h : ¬ (lo ≤ i ∧ i ≤ hi)) : ∀ C2, NoCt lo hi (.int i) C2 := fun _ => ⟨⟨_, rfl⟩, fun j e => by cases e; exact h⟩
theorem noCt_oth {lo hi : Int} {d : D} {n : String} (h : ∀ C2, tyNm d C2 = some n) (e : ∀ i, d ≠ .int i) : ∀ C2, NoCt lo hi d C2 := fun C2 => ⟨⟨n, h C2⟩, fun i z => absurd z (e i)⟩
def td_l_no_count : DS :=
  (dRet (dCall sp_l_of [] (dCons (dVar 0) (dCons (dLst (dCons (dC (.int 0)) (dCons (dUn rNeg (dC (.int 1))) (dCons (dC (.int 21)) (dCons (dPow (dC (.int 10)) (dC (.int 29))) (dCons (dC (.str [51])) (dCons (dC (.bl true)) (dCons (dTup (dCons (dC (.int 1)) dNil)) (dCons (dC (.bl false)) dNil))))))))) dNil))))
theorem len_l_no_count (ds : List D) (C : Cl) (Q : DQ) (E : DX) (h : sp_l_no_count ds C Q E) : ds.length = 1 := by repeat (first | (obtain ⟨rfl, _⟩ := h; exact rfl) | (obtain ⟨_, h⟩ := h))
theorem pure_l_no_count (ds : List D) (C : Cl) (Q : DQ) (E : DX) (h : sp_l_no_count ds C Q E) : td_l_no_count (endsD Q) (startD ["_law_bag_here"] ds) C := by
  obtain ⟨b, n, rfl, hb, hn, hq⟩ := h
  unfold td_l_no_count
  refine v_ends ?_
  simp only [startD, List.map_cons, List.map_nil, List.length_cons, List.length_nil, Nat.reduceAdd, Nat.reduceSub, List.reduceReplicate, List.cons_append, List.nil_append]
  array_mem_dec
  refine ⟨1, rfl, ?_⟩
  array_mem_dec
  refine ⟨10, 29, rfl, rfl, ⟨by decide, by decide, by decide⟩, ?_⟩
  array_mem_dec
  refine ⟨b, _, _, _, rfl, rfl, nofun, nofun, by show (8 : Nat) ≤ 1000000; decide, hb, by omega, fun d C2 hd B => ⟨_, _, .same, hq d C2 ?_ B⟩⟩
  refine (show AllD (fun d => d ≠ .non ∧ ∀ C2, NoCt 1 20 d C2) _ from ?_) d hd
  refine allD_cons ⟨nofun, noCt_int (by decide)⟩ <| allD_cons ⟨nofun, noCt_int (by decide)⟩ <| allD_cons ⟨nofun, noCt_int (by decide)⟩ <| allD_cons ⟨nofun, noCt_int (by decide)⟩ <|
    allD_cons ⟨nofun, noCt_oth (fun _ => rfl) nofun⟩ <| allD_cons ⟨nofun, noCt_oth (fun _ => rfl) nofun⟩ <| allD_cons ⟨nofun, noCt_oth (fun _ => rfl) nofun⟩ <| allD_cons ⟨nofun, noCt_oth (fun _ => rfl) nofun⟩ allD_nil
/-! marks, right or wrong -/
abbrev qM : String := "_law_marks_right.<locals>.<lambda>"
abbrev qW : String := "_law_words_right.<locals>.<lambda>"
abbrev qN : String := "_law_numbers_right.<locals>.<lambda>"
/-- a thing that is no text -/
def NoT (d : D) (C : Cl) : Prop := Known d C ∧ onStr isText d = false
theorem noT_str {l : List Nat} (h : l.length ≤ 1000000) (e : isText l = false) : ∀ C2, NoT (.str l) C2 := fun _ => ⟨known_str h, e⟩
theorem noT_oth {d : D} {n : String} (h : ∀ C2, tyNm d C2 = some n) (e : ∀ l, d ≠ .str l) : ∀ C2, NoT d C2 := fun C2 => ⟨⟨⟨n, h C2⟩, fun l z => absurd z (e l)⟩, by cases d <;> first | rfl | exact absurd rfl (e _)⟩
theorem noM_one {xs : List D} {d : D} {m : Nat} {C : Cl} (hl : xs.length ≤ 4000) (hk : ∀ x ∈ xs, Known x C) (hd : d ∈ xs) (h : NoT d C) : NoM m (.tup xs) C := .inl (.inr ⟨xs, rfl, hl, hk, d, hd, h.2⟩)
theorem noM_1 {d : D} {m : Nat} (h : ∀ C, NoT d C) : ∀ C, NoM m (.tup [d]) C := fun C => noM_one (xs := [d]) (by show (1 : Nat) ≤ 4000; decide) (fun x hx => by rw [List.mem_singleton.mp hx]; exact (h C).1) (.head _) (h C)
theorem noM_bad {ls : List (List Nat)} {m : Nat} {C : Cl} (hl : ls.length ≤ 4000) (ht : ∀ l ∈ ls, l.length ≤ 1000000) (h : areTexts ls m = false) : NoM m (.tup (txts ls)) C := .inr ⟨ls, rfl, hl, ht, h⟩
theorem areTexts_many {ls : List (List Nat)} {m : Nat} (h : ls.length = 0 ∨ m < ls.length) : areTexts ls m = false := by
  unfold areTexts
  rw [decide_eq_false (show ¬ (1 ≤ ls.length ∧ ls.length ≤ m) by omega)]
  rfl
theorem areTexts_dup {ls : List (List Nat)} {m : Nat} (h : ¬ ls.Nodup) : areTexts ls m = false := by
  unfold areTexts
  rw [decide_eq_false h, Bool.and_false, Bool.and_false]
theorem areTexts_ok {ls : List (List Nat)} {m : Nat} (h1 : 1 ≤ ls.length) (h2 : ls.length ≤ m) (h3 : ∀ l ∈ ls, isText l = true) (h4 : ls.Nodup) : areTexts ls m = true := by
  unfold areTexts
  rw [decide_eq_true ⟨h1, h2⟩, List.all_eq_true.mpr h3, decide_eq_true h4]
  rfl
def ends7 : List Nat := [97, 98, 99, 100, 101, 102, 103]
theorem ends_text {t : List Nat} (ht : isText t = true) : ∀ l ∈ (ends7.map fun c => t ++ [c]), isText l = true := fun l hl => by
  obtain ⟨c, hc, rfl⟩ := List.mem_map.mp hl
  unfold isText at ht ⊢
  rw [List.all_append, ht, Bool.true_and]
  simp only [ends7, List.mem_cons, List.not_mem_nil, or_false] at hc
  rcases hc with rfl | rfl | rfl | rfl | rfl | rfl | rfl <;> decide
theorem ends_nodup {t : List Nat} : (ends7.map fun c => t ++ [c]).Nodup := by
  refine List.pairwise_map.mpr (List.Pairwise.imp (S := fun a b => t ++ [a] ≠ t ++ [b]) (fun h e => h ?_) (show ends7.Nodup by decide))
  have := List.append_cancel_left e
  exact (List.cons.inj this).1
def sp_l_marks_right : DSp := fun ds C Q _ => ∃ b l n, ds = [.ref b, .str l] ∧ isWord l = true ∧ l.length ≤ 1000000 ∧ BagAt C b n ∧ n < 100000000 ∧ Tbl qM C ∧ ∀ C', Bagged C b C' (n + 30000) → Q (.bl true) C'
def td_l_marks_right : DS :=
  (dSeq (dAsg (dTup (dCons (dCall sp_l_no_word [] (dCons (dVar 0) dNil)) (dCons (dCall sp_l_text [] (dCons (dVar 0) dNil)) dNil))) (dgTup 2 (dgCons (dName 2) (dgCons (dName 3) dgNil))))
    (dSeq (dAsg (dCall sp_l_of [] (dCons (dVar 0) (dCons (dLst (dCons (dC .non) (dCons (dC (.int 7)) (dCons (dC (.str [97, 10])) (dCons (dTup (dCons (dC (.str [])) dNil)) dNil))))) dNil))) (dName 4))
    (dSeq (dIfS (dTest (dOp rNeD (dLam ["_law_asked", "_law_found", "_law_e"] "_law_marks_right.<locals>.<lambda>" td_l_part (fun Ex => (dCalX Ex (star2 1 sp_Kind_of_marksX) (dCons (dVar 2) (dCons (dVar 3) dNil)) dNil))) (dC (.str [110, 97, 109, 101])))) (dRet (dC (.bl false))) dNext)
    (dSeq (dIfS (dTest (dOp rNeD (dLam ["_law_asked", "_law_found", "_law_e"] "_law_marks_right.<locals>.<lambda>" td_l_part (fun Ex => (dCalX Ex (star2 1 sp_Kind_of_marksX) (dCons (dVar 2) dNil) dNil))) (dC (.str [110, 97, 109, 101])))) (dRet (dC (.bl false))) dNext)
    (dSeq (dIfS (dTest (dOp rNeD (dLam ["_law_asked", "_law_found", "_law_e"] "_law_marks_right.<locals>.<lambda>" td_l_part (fun Ex => (dCalX Ex (star2 1 sp_Kind_of_marksX) (dCons (dVar 1) dNil) dNil))) (dC (.str [109, 97, 114, 107, 115])))) (dRet (dC (.bl false))) dNext)
    (dSeq (dIfS (dTest (dOp rNeD (dLam ["_law_asked", "_law_found", "_law_e"] "_law_marks_right.<locals>.<lambda>" td_l_part (fun Ex => (dCalX Ex (star2 1 sp_Kind_of_marksX) (dCons (dVar 1) (dCons (dVar 4) dNil)) dNil))) (dC (.str [109, 97, 114, 107, 115])))) (dRet (dC (.bl false))) dNext)
    (dSeq (dIfS (dTest (dOp rNeD (dLam ["_law_asked", "_law_found", "_law_e"] "_law_marks_right.<locals>.<lambda>" td_l_part (fun Ex => (dCalX Ex (star2 1 sp_Kind_of_marksX) (dCons (dVar 1) (dCons (dVar 3) (dCons (dVar 4) (dCons (dAdd (dVar 3) (dC (.str [98]))) dNil)))) dNil))) (dC (.str [109, 97, 114, 107, 115])))) (dRet (dC (.bl false))) dNext)
    (dSeq (dIfS (dTest (dOp rNeD (dLam ["_law_asked", "_law_found", "_law_e"] "_law_marks_right.<locals>.<lambda>" td_l_part (fun Ex => (dCalX Ex (star2 1 sp_Kind_of_marksX) (dCons (dVar 1) (dCons (dVar 3) (dCons (dAdd (dVar 3) (dC (.str [97]))) (dCons (dVar 3) dNil)))) dNil))) (dC (.str [109, 97, 114, 107, 115])))) (dRet (dC (.bl false))) dNext)
    (dSeq (dAsg (dFz (dLc (diStr (dC (.str [97, 98, 99, 100, 101, 102, 103]))) (dName 12) dYes (dAdd (dVar 3) (dVar 12)) [12])) (dgUnl 7 (dgCons (dName 5) (dgCons (dName 6) (dgCons (dName 7) (dgCons (dName 8) (dgCons (dName 9) (dgCons (dName 10) (dgCons (dName 11) dgNil)))))))))
    (dSeq (dIfS (dTest (dOp rNeD (dLam ["_law_asked", "_law_found", "_law_e"] "_law_marks_right.<locals>.<lambda>" td_l_part (fun Ex => (dCalX Ex (star2 1 sp_Kind_of_marksX) (dCons (dVar 1) (dCons (dVar 5) (dCons (dVar 6) (dCons (dVar 7) (dCons (dVar 8) (dCons (dVar 9) (dCons (dVar 10) dNil))))))) dNil))) (dC (.str [114, 105, 103, 104, 116])))) (dRet (dC (.bl false))) dNext)
    (dRet (dOp rEqD (dLam ["_law_asked", "_law_found", "_law_e"] "_law_marks_right.<locals>.<lambda>" td_l_part (fun Ex => (dCalX Ex (star2 1 sp_Kind_of_marksX) (dCons (dVar 1) (dCons (dVar 5) (dCons (dVar 6) (dCons (dVar 7) (dCons (dVar 8) (dCons (dVar 9) (dCons (dVar 10) (dCons (dVar 11) dNil)))))))) dNil))) (dC (.str [109, 97, 114, 107, 115]))))))))))))))
theorem len_l_marks_right (ds : List D) (C : Cl) (Q : DQ) (E : DX) (h : sp_l_marks_right ds C Q E) : ds.length = 2 := by repeat (first | (obtain ⟨rfl, _⟩ := h; exact rfl) | (obtain ⟨_, h⟩ := h))
theorem pure_l_marks_right (ds : List D) (C : Cl) (Q : DQ) (E : DX) (h : sp_l_marks_right ds C Q E) : td_l_marks_right (endsD Q) (startD ["_law_bag_here", "_law_label", "_law_wrong", "_law_text_here", "_law_bad", "_law_a", "_law_b", "_law_c", "_law_d", "_law_e", "_law_f", "_law_g", "_law_end"] ds) C := by
  obtain ⟨b, l, n, rfl, hw, hl, hb, hn, tb, hq⟩ := h
  unfold td_l_marks_right
  refine v_ends ?_
  simp only [startD, List.map_cons, List.map_nil, List.length_cons, List.length_nil, Nat.reduceAdd, Nat.reduceSub, List.reduceReplicate, List.cons_append, List.nil_append]
  array_mem_dec
  refine ⟨b, _, rfl, hb, by omega, fun d C1 hd B1 => ?_⟩
  array_mem_dec
  refine ⟨b, _, rfl, B1.at, by omega, fun t C2 tl ta tq B2 => ?_⟩
  array_mem_dec
  refine ⟨b, _, _, _, rfl, rfl, nofun, nofun, by show (4 : Nat) ≤ 1000000; decide, B2.at, by omega, fun x C3 hx B3 => ?_⟩
  have hx2 : ∀ C2, NoT x C2 := by
    refine (show AllD (fun d => ∀ C2, NoT d C2) _ from ?_) x hx
    exact allD_cons (noT_oth (fun _ => rfl) nofun) <| allD_cons (noT_oth (fun _ => rfl) nofun) <| allD_cons (noT_str (by decide) (by decide)) <| allD_cons (noT_oth (fun _ => rfl) nofun) allD_nil
  clear hx
  have tb3 : Tbl qM C3 := ((tb.bag hb B1).bag B1.at B2).bag B2.at B3
  have B : Bagged C b C3 (n + 30000) := ((B1.trans B2).trans B3).mono (by omega)
  clear B1 B2 B3
  array_mem_dec
  refine ⟨tb3, fun f => part_raises (l := wName) (fun E Q2 he => ?_) ?_⟩
  · dsimp only
    array_mem_dec
    refine ⟨rfl, by show (1 : Nat) ≤ 2; decide, by show (2 : Nat) ≤ sizeLine; decide, d, _, rfl, .inl ⟨hd _, he⟩⟩
  array_mem_dec
  refine ⟨tb3, fun f => part_raises (l := wName) (fun E Q2 he => ?_) ?_⟩
  · dsimp only
    array_mem_dec
    refine ⟨rfl, by show (1 : Nat) ≤ 1; decide, by show (1 : Nat) ≤ sizeLine; decide, d, _, rfl, .inl ⟨hd _, he⟩⟩
  array_mem_dec
  refine ⟨tb3, fun f => part_raises (l := wMarks) (fun E Q2 he => ?_) ?_⟩
  · dsimp only
    array_mem_dec
    exact ⟨rfl, by show (1 : Nat) ≤ 1; decide, by show (1 : Nat) ≤ sizeLine; decide, _, _, rfl, .inr (.inl ⟨l, rfl, hw, hl, noM_bad (ls := []) (by show (0 : Nat) ≤ 4000; decide) nofun rfl, he⟩)⟩
  array_mem_dec
  refine ⟨tb3, fun f => part_raises (l := wMarks) (fun E Q2 he => ?_) ?_⟩
  · dsimp only
    array_mem_dec
    exact ⟨rfl, by show (1 : Nat) ≤ 2; decide, by show (2 : Nat) ≤ sizeLine; decide, _, _, rfl, .inr (.inl ⟨l, rfl, hw, hl, noM_one (xs := [x]) (by show (1 : Nat) ≤ 4000; decide) (allD_cons (hx2 _).1 allD_nil) (.head _) (hx2 _), he⟩)⟩
  array_mem_dec
  refine ⟨tb3, fun f => part_raises (l := wMarks) (fun E Q2 he => ?_) ?_⟩
  · dsimp only
    array_mem_dec
    refine ⟨rfl, by show (1 : Nat) ≤ 4; decide, by show (4 : Nat) ≤ sizeLine; decide, _, _, rfl, .inr (.inl ⟨l, rfl, hw, hl, noM_one (xs := [.str t, x, .str (t ++ [98])]) (by show (3 : Nat) ≤ 4000; decide) ?_ (.tail _ (.head _)) (hx2 _), he⟩)⟩
    exact allD_cons (known_str (by omega)) <| allD_cons (hx2 _).1 <| allD_cons (known_str (by rw [List.length_append]; show t.length + 1 ≤ 1000000; omega)) allD_nil
  array_mem_dec
  refine ⟨tb3, fun f => part_raises (l := wMarks) (fun E Q2 he => ?_) ?_⟩
  · dsimp only
    array_mem_dec
    refine ⟨rfl, by show (1 : Nat) ≤ 4; decide, by show (4 : Nat) ≤ sizeLine; decide, _, _, rfl, .inr (.inl ⟨l, rfl, hw, hl, noM_bad (ls := [t, t ++ [97], t]) (by show (3 : Nat) ≤ 4000; decide) (fun z hz => ?_) (areTexts_dup fun z => ?_), he⟩)⟩
    · have : (t ++ [97]).length = t.length + 1 := by rw [List.length_append]; rfl
      simp only [List.mem_cons, List.not_mem_nil, or_false] at hz
      rcases hz with rfl | rfl | rfl <;> omega
    · simp at z
  array_mem_dec
  have e7 : ∀ l ∈ (ends7.map fun c => t ++ [c]), l.length ≤ 1000000 := fun l hl => by
    obtain ⟨c, hc, rfl⟩ := List.mem_map.mp hl
    rw [List.length_append]
    show t.length + 1 ≤ _
    omega
  refine v_lcmapF (as := ends7) (e := fun c => .str [c]) (fun c => .str (t ++ [c])) (fun R h => ?_) (szl (by decide)) (fun i c C' N _ hc _ hN => ?_) ?_
  · array_mem_dec
    exact ⟨ends7, rfl, h⟩
  · array_mem_dec
    exact hN
  array_mem_dec
  refine v_unl rfl ?_
  show dgCons _ _ ([.str (t ++ [97]), .str (t ++ [98]), .str (t ++ [99]), .str (t ++ [100]), .str (t ++ [101]), .str (t ++ [102]), .str (t ++ [103])]) _ _ _
  array_mem_dec
  refine ⟨tb3, fun f => part_right (fun E Q2 he => ?_) ?_⟩
  · dsimp only
    array_mem_dec
    refine ⟨rfl, by show (1 : Nat) ≤ 7; decide, by show (7 : Nat) ≤ sizeLine; decide, _, _, rfl, .inr (.inr ⟨l, (ends7.map fun c => t ++ [c]).take 6, rfl, rfl, hw, hl, areTexts_ok (by show (1 : Nat) ≤ 6; decide) (by show (6 : Nat) ≤ 6; decide) (fun l hl => ends_text ta l (List.mem_of_mem_take hl)) (List.Sublist.nodup (List.take_sublist _ _) ends_nodup), fun l hl => e7 l (List.mem_of_mem_take hl), he _⟩)⟩
  array_mem_dec
  refine ⟨tb3, fun f => part_raises (l := wMarks) (fun E Q2 he => ?_) ?_⟩
  · dsimp only
    array_mem_dec
    exact ⟨rfl, by show (1 : Nat) ≤ 8; decide, by show (8 : Nat) ≤ sizeLine; decide, _, _, rfl, .inr (.inl ⟨l, rfl, hw, hl, noM_bad (ls := ends7.map fun c => t ++ [c]) (by show (7 : Nat) ≤ 4000; decide) e7 (areTexts_many (.inr (by show (6 : Nat) < 7; decide))), he⟩)⟩
  array_mem_dec
  exact hq _ B
def sp_l_words_right : DSp := fun ds C Q _ => ∃ b l n, ds = [.ref b, .str l] ∧ isWord l = true ∧ l.length ≤ 1000000 ∧ BagAt C b n ∧ n < 10000000 ∧ Tbl qW C ∧ ∀ C', Bagged C b C' (n + 200000) → Q (.bl true) C'
theorem noM_ty {d : D} {n : String} {m : Nat} (h : ∀ C2, tyNm d C2 = some n) (e : isSub n "tuple" = false) : ∀ C2, NoM m d C2 := fun C2 => .inl (.inl ⟨n, h C2, e⟩)
theorem nodup_two {l : List Nat} : ¬ [l, l].Nodup := fun z => by simp at z
theorem nodup_twice {ls : List (List Nat)} (h : 1 ≤ ls.length) : ¬ (ls ++ ls).Nodup := fun z => by
  cases ls with
  | nil => cases h
  | cons a r =>
    have := (List.nodup_append.mp z).2.2 a (.head _) a (.head _)
    exact this rfl
theorem txts_append (as bs : List (List Nat)) : txts as ++ txts bs = txts (as ++ bs) := by unfold txts; rw [List.map_append]
theorem cutX_txts (ls : List (List Nat)) (lo hi : Option Int) : cutL (txts ls) lo hi = txts (cutL ls lo hi) := by
  unfold cutL txts
  rw [List.length_map, List.map_take, List.map_drop]
theorem cutX_mem {α : Type} {l : List α} {lo hi : Option Int} {x : α} (h : x ∈ cutL l lo hi) : x ∈ l := List.mem_of_mem_drop (List.mem_of_mem_take h)
theorem cutX_len {α : Type} {l : List α} {lo hi : Option Int} : (cutL l lo hi).length ≤ l.length := by
  unfold cutL
  rw [List.length_take, List.length_drop]
  omega
theorem at_last {ys : List (List Nat)} (h : 1 ≤ ys.length) : ∃ y ∈ ys, atI (txts ys) (-1) = some (.str y) := by
  have hl : ys.length - 1 < ys.length := by omega
  refine ⟨ys[ys.length - 1], List.getElem_mem hl, ?_⟩
  unfold atI
  have e : ixN (txts ys).length (-1) = some (ys.length - 1) := by
    unfold ixN
    rw [txts_lenG, if_neg (by omega), if_pos (by omega)]
    exact congrArg some (by omega)
  rw [e, Option.bind_some]
  unfold txts
  rw [List.getElem?_map, List.getElem?_eq_getElem hl]
  rfl
def td_l_words_right : DS :=
  (dSeq (dAsg (dCB rTuple (dCons (dCall sp_l_other_texts [] (dCons (dVar 0) (dCons (dAdd (dC (.int 1)) (dCall sp_l_take [] (dCons (dVar 0) (dCons (dC (.int 4)) dNil)))) (dCons (dLst dNil) dNil)))) dNil)) (dName 2))
    (dSeq (dAsg (dCB rTuple (dCons (dCall sp_l_other_texts [] (dCons (dVar 0) (dCons (dAdd (dC (.int 1)) (dCall sp_l_take [] (dCons (dVar 0) (dCons (dC (.int 4)) dNil)))) (dCons (dCB rList (dCons (dVar 2) dNil)) dNil)))) dNil)) (dName 3))
    (dSeq (dAsg (dTup (dCons (dCall sp_l_no_word [] (dCons (dVar 0) dNil)) (dCons (dCall sp_l_take [] (dCons (dVar 0) (dCons (dCB rLen (dCons (dVar 3) dNil)) dNil))) dNil))) (dgTup 2 (dgCons (dName 4) (dgCons (dName 5) dgNil))))
    (dSeq (dAsg (dLst (dCons (dTup dNil) (dCons (dCB rList (dCons (dVar 2) dNil)) (dCons (dAdd (dVar 2) (dVar 2)) (dCons (dTup (dCons (dC (.str [97])) (dCons (dC (.str [98])) (dCons (dC (.str [99])) (dCons (dC (.str [100])) (dCons (dC (.str [101])) dNil)))))) (dCons (dTup (dCons (dC .non) dNil)) dNil)))))) (dName 6))
    (dSeq (dAsg (dCall sp_l_of [] (dCons (dVar 0) (dCons (dAdd (dVar 6) (dLst (dCons (dC (.str [121, 101, 115])) (dCons (dC .non) (dCons (dTup (dCons (dC (.int 1)) dNil)) (dCons (dTup (dCons (dC (.str [97, 10])) dNil)) dNil)))))) dNil))) (dName 6))
    (dSeq (dIfS (dTest (dOp rNeD (dLam ["_law_asked", "_law_found", "_law_e"] "_law_words_right.<locals>.<lambda>" td_l_part (fun Ex => (dCalX Ex (pos2 sp_Kind_of_wordsX []) (dCons (dVar 1) (dCons (dVar 2) (dCons (dVar 3) dNil))) dNil))) (dC (.str [114, 105, 103, 104, 116])))) (dRet (dC (.bl false))) dNext)
    (dSeq (dIfS (dTest (dOp rNeD (dLam ["_law_asked", "_law_found", "_law_e"] "_law_words_right.<locals>.<lambda>" td_l_part (fun Ex => (dCalX Ex (pos2 sp_Kind_of_wordsX []) (dCons (dVar 4) (dCons (dVar 6) (dCons (dVar 6) dNil))) dNil))) (dC (.str [110, 97, 109, 101])))) (dRet (dC (.bl false))) dNext)
    (dSeq (dIfS (dTest (dOp rNeD (dLam ["_law_asked", "_law_found", "_law_e"] "_law_words_right.<locals>.<lambda>" td_l_part (fun Ex => (dCalX Ex (pos2 sp_Kind_of_textsX []) (dCons (dVar 4) dNil) dNil))) (dC (.str [110, 97, 109, 101])))) (dRet (dC (.bl false))) dNext)
    (dSeq (dIfS (dTest (dOp rNeD (dLam ["_law_asked", "_law_found", "_law_e"] "_law_words_right.<locals>.<lambda>" td_l_part (fun Ex => (dCalX Ex (pos2 sp_Kind_of_wordsX []) (dCons (dVar 1) (dCons (dVar 6) (dCons (dVar 6) dNil))) dNil))) (dC (.str [121, 101, 115])))) (dRet (dC (.bl false))) dNext)
    (dSeq (dIfS (dTest (dOp rNeD (dLam ["_law_asked", "_law_found", "_law_e"] "_law_words_right.<locals>.<lambda>" td_l_part (fun Ex => (dCalX Ex (pos2 sp_Kind_of_wordsX []) (dCons (dVar 1) (dCons (dVar 2) (dCons (dVar 6) dNil))) dNil))) (dC (.str [110, 111])))) (dRet (dC (.bl false))) dNext)
    (dSeq (dIfS (dTest (dOp rNeD (dLam ["_law_asked", "_law_found", "_law_e"] "_law_words_right.<locals>.<lambda>" td_l_part (fun Ex => (dCalX Ex (pos2 sp_Kind_of_wordsX []) (dCons (dVar 1) (dCons (dVar 2) (dCons (dTup (dCons (dOp rIx (dVar 3) (dC (.int 0))) (dCons (dOp rIx (dVar 3) (dC (.int 0))) dNil))) dNil))) dNil))) (dC (.str [110, 111])))) (dRet (dC (.bl false))) dNext)
    (dSeq (dAsg (dAdd (dAdd (dSl rSl (dVar 3) dNoPart (dPart (dVar 5))) (dTup (dCons (dOp rIx (dVar 2) (dUn rNeg (dC (.int 1)))) dNil))) (dSl rSl (dVar 3) (dPart (dAdd (dVar 5) (dC (.int 1)))) dNoPart)) (dName 7))
    (dRet (dOp rEqD (dLam ["_law_asked", "_law_found", "_law_e"] "_law_words_right.<locals>.<lambda>" td_l_part (fun Ex => (dCalX Ex (pos2 sp_Kind_of_wordsX []) (dCons (dVar 1) (dCons (dVar 2) (dCons (dVar 7) dNil))) dNil))) (dC (.str [110, 111]))))))))))))))))
theorem len_l_words_right (ds : List D) (C : Cl) (Q : DQ) (E : DX) (h : sp_l_words_right ds C Q E) : ds.length = 2 := by repeat (first | (obtain ⟨rfl, _⟩ := h; exact rfl) | (obtain ⟨_, h⟩ := h))
theorem pure_l_words_right (ds : List D) (C : Cl) (Q : DQ) (E : DX) (h : sp_l_words_right ds C Q E) : td_l_words_right (endsD Q) (startD ["_law_bag_here", "_law_label", "_law_yes", "_law_no", "_law_wrong", "_law_at", "_law_bad", "_law_mixed"] ds) C := by
  obtain ⟨b, l, n, rfl, hw, hl, hb, hn, tb, hq⟩ := h
  unfold td_l_words_right
  refine v_ends ?_
  simp only [startD, List.map_cons, List.map_nil, List.length_cons, List.length_nil, Nat.reduceAdd, Nat.reduceSub, List.reduceReplicate, List.cons_append, List.nil_append]
  array_mem_dec
  refine ⟨b, 4, _, rfl, by decide, by decide, hb, by omega, fun i C1 i0 i1 B1 => ?_⟩
  array_mem_dec
  refine ⟨b, (1 + i).toNat, _, 30, [], by rw [show (((1 + i).toNat : Nat) : Int) = 1 + i by omega] <;> rfl, by omega, by decide, by decide, nofun, B1.at, by omega, fun ys C2 yl yt yn B2 => ?_⟩
  array_mem_dec
  refine ⟨b, 4, _, rfl, by decide, by decide, B2.at, by omega, fun j C3 j0 j1 B3 => ?_⟩
  array_mem_dec
  refine ⟨b, (1 + j).toNat, _, 130, ys, by rw [show (((1 + j).toNat : Nat) : Int) = 1 + j by omega] <;> rfl, by omega, by decide, by decide, fun t ht => (yt t ht).2.1, B3.at, by omega, fun ns C4 nl nt nn B4 => ?_⟩
  array_mem_dec
  refine ⟨b, _, rfl, B4.at, by omega, fun d C5 hd B5 => ?_⟩
  array_mem_dec
  refine ⟨b, _, _, rfl, by rw [txts_lenG]; omega, by rw [txts_lenG]; omega, B5.at, by omega, fun a C6 a0 a1 B6 => ?_⟩
  rw [txts_lenG] at a1
  have ha : areTexts ys 4 = true := areTexts_ok (by omega) (by omega) (fun t ht => (yt t ht).1) yn
  have hb2 : areTexts ns 4 = true := areTexts_ok (by omega) (by omega) (fun t ht => (nt t ht).1) nn
  have ly : ∀ t ∈ ys, t.length ≤ 1000000 := fun t ht => by have := (yt t ht).2.1; omega
  have ln : ∀ t ∈ ns, t.length ≤ 1000000 := fun t ht => by have := (nt t ht).2.1; omega
  array_mem_dec
  refine ⟨b, _, _, _, rfl, rfl, nofun, nofun, by show (9 : Nat) ≤ 1000000; decide, B6.at, by omega, fun x C7 hx B7 => ?_⟩
  have hx2 : ∀ C2, NoM 4 x C2 := by
    refine (show AllD (fun d => ∀ C2, NoM 4 d C2) _ from ?_) x hx
    refine allD_cons (fun C2 => noM_bad (ls := []) (by show (0 : Nat) ≤ 4000; decide) nofun rfl) <| allD_cons (noM_ty (fun _ => rfl) rfl) <|
      allD_cons (fun C2 => ?_) <| allD_cons (fun C2 => noM_bad (ls := [[97], [98], [99], [100], [101]]) (by show (5 : Nat) ≤ 4000; decide) (by decide) (areTexts_many (.inr (by decide)))) <|
      allD_cons (noM_1 (d := .non) (noT_oth (fun _ => rfl) nofun)) <|
      allD_cons (noM_ty (fun _ => rfl) rfl) <| allD_cons (noM_ty (fun _ => rfl) rfl) <|
      allD_cons (noM_1 (d := .int 1) (noT_oth (fun _ => rfl) nofun)) <|
      allD_cons (fun C2 => noM_bad (ls := [[97, 10]]) (by show (1 : Nat) ≤ 4000; decide) (by decide) (by decide)) allD_nil
    rw [txts_append]
    refine noM_bad (by rw [List.length_append]; omega) (fun t ht => ?_) (areTexts_dup (nodup_twice (by omega)))
    rcases List.mem_append.mp ht with h | h <;> exact ly t h
  clear hx
  have tb7 : Tbl qW C7 := ((((((tb.bag hb B1).bag B1.at B2).bag B2.at B3).bag B3.at B4).bag B4.at B5).bag B5.at B6).bag B6.at B7
  have B : Bagged C b C7 (n + 200000) := ((((((B1.trans B2).trans B3).trans B4).trans B5).trans B6).trans B7).mono (by omega)
  clear B1 B2 B3 B4 B5 B6 B7
  array_mem_dec
  refine ⟨tb7, fun f => part_right (fun E Q2 he => ?_) ?_⟩
  · dsimp only
    array_mem_dec
    exact ⟨_, _, _, rfl, .inr ⟨l, rfl, hw, hl, .inr ⟨ys, rfl, ha, ly, .inr ⟨ns, rfl, hb2, ln, .inr ⟨fun t ht => (nt t ht).2.2.1, he _⟩⟩⟩⟩⟩
  array_mem_dec
  refine ⟨tb7, fun f => part_raises (l := wName) (fun E Q2 he => ?_) ?_⟩
  · dsimp only
    array_mem_dec
    exact ⟨_, _, _, rfl, .inl ⟨hd _, he⟩⟩
  array_mem_dec
  refine ⟨tb7, fun f => part_raises (l := wName) (fun E Q2 he => ?_) ?_⟩
  · dsimp only
    array_mem_dec
    exact ⟨_, rfl, hd _, he⟩
  array_mem_dec
  refine ⟨tb7, fun f => part_raises (l := wYes) (fun E Q2 he => ?_) ?_⟩
  · dsimp only
    array_mem_dec
    exact ⟨_, _, _, rfl, .inr ⟨l, rfl, hw, hl, .inl ⟨hx2 _, he⟩⟩⟩
  array_mem_dec
  refine ⟨tb7, fun f => part_raises (l := wNo) (fun E Q2 he => ?_) ?_⟩
  · dsimp only
    array_mem_dec
    exact ⟨_, _, _, rfl, .inr ⟨l, rfl, hw, hl, .inr ⟨ys, rfl, ha, ly, .inl ⟨hx2 _, he⟩⟩⟩⟩
  array_mem_dec
  obtain ⟨n0, nr, rfl⟩ : ∃ n0 nr, ns = n0 :: nr := by
    cases ns with
    | nil => rw [List.length_nil] at nl; omega
    | cons a r => exact ⟨_, _, rfl⟩
  refine ⟨tb7, fun f => part_raises (l := wNo) (fun E Q2 he => ?_) ?_⟩
  · dsimp only
    array_mem_dec
    refine v_ixT (d := .str n0) (atI_nat (j := 0) rfl) ?_
    array_mem_dec
    refine v_ixT (d := .str n0) (atI_nat (j := 0) rfl) ?_
    array_mem_dec
    exact ⟨_, _, _, rfl, .inr ⟨l, rfl, hw, hl, .inr ⟨ys, rfl, ha, ly, .inl ⟨noM_bad (ls := [n0, n0]) (by show (2 : Nat) ≤ 4000; decide) (fun t ht => by
      simp only [List.mem_cons, List.not_mem_nil, or_false, or_self] at ht
      rw [ht]
      exact ln _ (.head _)) (areTexts_dup nodup_two), he⟩⟩⟩⟩
  array_mem_dec
  obtain ⟨y, hy, ey⟩ := at_last (ys := ys) (by omega)
  refine ⟨a, rfl, ?_⟩
  array_mem_dec
  refine ⟨1, rfl, ?_⟩
  refine v_ixT (d := .str y) ey ?_
  array_mem_dec
  have c1 := cutX_len (l := txts (n0 :: nr)) (lo := none) (hi := some a)
  have c2 := cutX_len (l := txts (n0 :: nr)) (lo := some (a + 1)) (hi := none)
  rw [txts_lenG] at c1 c2
  refine v_addT ?_ ?_
  · refine szl ?_
    rw [List.length_append, List.length_singleton]
    omega
  array_mem_dec
  refine ⟨a + 1, rfl, ?_⟩
  array_mem_dec
  obtain ⟨ms, ems, hm, lm⟩ : ∃ ms, cutL (txts (n0 :: nr)) none (some a) ++ [D.str y] ++ cutL (txts (n0 :: nr)) (some (a + 1)) none = txts ms ∧ (∃ t ∈ ms, t ∈ ys) ∧ ms.length ≤ 4000 ∧ ∀ t ∈ ms, t.length ≤ 1000000 := by
    refine ⟨cutL (n0 :: nr) none (some a) ++ [y] ++ cutL (n0 :: nr) (some (a + 1)) none, ?_, ⟨y, List.mem_append_left _ (List.mem_append_right _ (.head _)), hy⟩, ?_, fun t ht => ?_⟩
    · rw [cutX_txts, cutX_txts, ← txts_append, ← txts_append]
      rfl
    · have h1 := cutX_len (l := n0 :: nr) (lo := none) (hi := some a)
      have h2 := cutX_len (l := n0 :: nr) (lo := some (a + 1)) (hi := none)
      rw [List.length_append, List.length_append, List.length_singleton]
      omega
    · rcases List.mem_append.mp ht with h | h
      · rcases List.mem_append.mp h with h | h
        · exact ln t (cutX_mem h)
        · rw [List.mem_singleton.mp h]
          exact ly y hy
      · exact ln t (cutX_mem h)
  rw [ems]
  refine ⟨tb7, fun f => part_raises (l := wNo) (fun E Q2 he => ?_) ?_⟩
  · dsimp only
    array_mem_dec
    refine ⟨_, _, _, rfl, .inr ⟨l, rfl, hw, hl, .inr ⟨ys, rfl, ha, ly, ?_⟩⟩⟩
    cases e : areTexts ms 4 with
    | false => exact .inl ⟨noM_bad lm.1 lm.2 e, he⟩
    | true => exact .inr ⟨ms, rfl, e, lm.2, .inl ⟨hm, he⟩⟩
  array_mem_dec
  exact hq _ B
/-! options, right or wrong -/
def sp_l_numbers_right : DSp := fun ds C Q _ => ∃ b l n, ds = [.ref b, .str l] ∧ isWord l = true ∧ l.length ≤ 1000000 ∧ BagAt C b n ∧ n < 10000000 ∧ Tbl qN C ∧ ∀ C', Bagged C b C' (n + 200000) → Q (.bl true) C'
theorem noBl_oth {d : D} {n : String} (h : ∀ C2, tyNm d C2 = some n) (e : isSub n "bool" = false) : ∀ C2, NoBl d C2 := fun C2 => ⟨n, h C2, e⟩
theorem noSg_str {l : List Nat} (h : l ≠ [] ∧ l ≠ [45] ∧ l ≠ [43, 45]) : ∀ C2, NoSg (.str l) C2 := fun _ => ⟨⟨_, rfl⟩, fun l2 e => by cases e; exact h⟩
theorem noSg_oth {d : D} {n : String} (h : ∀ C2, tyNm d C2 = some n) (e : ∀ l, d ≠ .str l) : ∀ C2, NoSg d C2 := fun C2 => ⟨⟨n, h C2⟩, fun l z => absurd z (e l)⟩
def td_l_numbers_right : DS :=
  (dSeq (dAsg (dTup (dCons (dCall sp_l_no_word [] (dCons (dVar 0) dNil)) (dCons (dCall sp_l_no_count [] (dCons (dVar 0) dNil)) dNil))) (dgTup 2 (dgCons (dName 2) (dgCons (dName 3) dgNil))))
    (dSeq (dAsg (dTup (dCons (dCall sp_l_of [] (dCons (dVar 0) (dCons (dLst (dCons (dC (.int 1)) (dCons (dC (.int 0)) (dCons (dC .non) (dCons (dC (.str [84, 114, 117, 101])) dNil))))) dNil))) (dCons (dCall sp_l_of [] (dCons (dVar 0) (dCons (dLst (dCons (dC (.str [43])) (dCons (dC (.str [45, 43])) (dCons (dC .non) (dCons (dC (.int 5)) (dCons (dTup (dCons (dC (.str [])) dNil)) (dCons (dC (.str [43, 45, 43])) dNil))))))) dNil))) dNil))) (dgTup 2 (dgCons (dName 4) (dgCons (dName 5) dgNil))))
    (dSeq (dAsg (dCall sp_l_of [] (dCons (dVar 0) (dCons (dLst (dCons (dUn rNeg (dC (.int 1))) (dCons (dC (.int 4)) (dCons (dC (.str [49])) (dCons (dC .non) (dCons (dC (.bl true)) (dCons (dPow (dC (.int 10)) (dC (.int 29))) dNil))))))) dNil))) (dName 6))
    (dSeq (dIfS (dTest (dOp rNeD (dLam ["_law_asked", "_law_found", "_law_e"] "_law_numbers_right.<locals>.<lambda>" td_l_part (fun Ex => (dCalX Ex (kw2 1 2 sp_Kind_of_numbersX [(true, 0), (false, 0), (false, 1), (false, 2), (false, 3), (true, 1)] [(.bl false), (.str [45]), (.bl true), .non]) (dCons (dVar 2) dNil) (dCons (dVar 3) (dCons (dC (.int 9)) dNil))))) (dC (.str [110, 97, 109, 101])))) (dRet (dC (.bl false))) dNext)
    (dSeq (dIfS (dTest (dOp rNeD (dLam ["_law_asked", "_law_found", "_law_e"] "_law_numbers_right.<locals>.<lambda>" td_l_part (fun Ex => (dCalX Ex (kw2 1 3 sp_Kind_of_numbersX [(true, 0), (true, 1), (true, 2), (false, 0), (false, 1), (false, 2)] [(.bl true), .non, (.int 0)]) (dCons (dVar 1) dNil) (dCons (dVar 3) (dCons (dVar 4) (dCons (dVar 5) dNil)))))) (dC (.str [100, 105, 103, 105, 116, 115])))) (dRet (dC (.bl false))) dNext)
    (dSeq (dIfS (dTest (dOp rNeD (dLam ["_law_asked", "_law_found", "_law_e"] "_law_numbers_right.<locals>.<lambda>" td_l_part (fun Ex => (dCalX Ex (kw2 1 3 sp_Kind_of_numbersX [(false, 0), (true, 0), (true, 1), (false, 1), (true, 2), (false, 2)] [.non, (.bl true), (.int 0)]) (dCons (dVar 1) dNil) (dCons (dVar 4) (dCons (dVar 5) (dCons (dVar 3) dNil)))))) (dC (.str [112, 111, 105, 110, 116])))) (dRet (dC (.bl false))) dNext)
    (dSeq (dIfS (dTest (dOp rNeD (dLam ["_law_asked", "_law_found", "_law_e"] "_law_numbers_right.<locals>.<lambda>" td_l_part (fun Ex => (dCalX Ex (kw2 1 3 sp_Kind_of_numbersX [(false, 0), (false, 1), (true, 0), (true, 1), (false, 2), (true, 2)] [.non, (.bl false), .non]) (dCons (dVar 1) dNil) (dCons (dVar 5) (dCons (dVar 4) (dCons (dVar 6) dNil)))))) (dC (.str [115, 105, 103, 110, 115])))) (dRet (dC (.bl false))) dNext)
    (dSeq (dIfS (dTest (dOp rNeD (dLam ["_law_asked", "_law_found", "_law_e"] "_law_numbers_right.<locals>.<lambda>" td_l_part (fun Ex => (dCalX Ex (kw2 1 3 sp_Kind_of_numbersX [(false, 0), (false, 1), (false, 2), (true, 0), (true, 1), (true, 2)] [.non, (.bl false), (.str [45])]) (dCons (dVar 1) dNil) (dCons (dVar 4) (dCons (dVar 3) (dCons (dVar 6) dNil)))))) (dC (.str [122, 101, 114, 111, 115])))) (dRet (dC (.bl false))) dNext)
    (dSeq (dIfS (dTest (dOp rNeD (dLam ["_law_asked", "_law_found", "_law_e"] "_law_numbers_right.<locals>.<lambda>" td_l_part (fun Ex => (dCalX Ex (kw2 1 3 sp_Kind_of_numbersX [(false, 0), (true, 2), (false, 1), (false, 2), (true, 0), (true, 1)] [.non, (.str [45]), (.bl true)]) (dCons (dVar 1) dNil) (dCons (dVar 3) (dCons (dVar 6) (dCons (dC (.bl true)) dNil)))))) (dC (.str [107, 101, 101, 112])))) (dRet (dC (.bl false))) dNext)
    (dSeq (dIfS (dTest (dOp rNeD (dLam ["_law_asked", "_law_found", "_law_e"] "_law_numbers_right.<locals>.<lambda>" td_l_part (fun Ex => (dCalX Ex (kw2 1 2 sp_Kind_of_numbersX [(false, 0), (true, 1), (false, 1), (false, 2), (false, 3), (true, 0)] [.non, (.str [45]), (.bl true), .non]) (dCons (dVar 1) dNil) (dCons (dVar 6) (dCons (dC (.bl true)) dNil))))) (dC (.str [115, 104, 111, 119, 110])))) (dRet (dC (.bl false))) dNext)
    (dSeq (dAsg (dAdd (dC (.int 1)) (dCall sp_l_take [] (dCons (dVar 0) (dCons (dC (.int 3)) dNil)))) (dName 7))
    (dSeq (dIfS (dTest (dOp rNeD (dLam ["_law_asked", "_law_found", "_law_e"] "_law_numbers_right.<locals>.<lambda>" td_l_part (fun Ex => (dCalX Ex (kw2 1 1 sp_Kind_of_numbersX [(false, 0), (false, 1), (false, 2), (false, 3), (false, 4), (true, 0)] [.non, (.bl false), (.str [45]), (.bl true), .non]) (dCons (dVar 1) dNil) (dCons (dVar 7) dNil)))) (dC (.str [115, 104, 111, 119, 110])))) (dRet (dC (.bl false))) dNext)
    (dLamSet 8 "_law_numbers_right.<locals>.<lambda>" fun f_l_right => (dRet (dOp rEqD (dLamV 8 f_l_right ["_law_asked", "_law_found", "_law_e"] td_l_part (fun Ex => (dCalX Ex (kw2 1 5 sp_Kind_of_numbersX [(true, 0), (true, 1), (true, 2), (false, 0), (true, 3), (true, 4)] [(.bl true)]) (dCons (dVar 1) dNil) (dCons (dC (.int 20)) (dCons (dC (.bl true)) (dCons (dC (.str [])) (dCons (dC (.int 20)) (dCons (dVar 7) dNil)))))))) (dC (.str [114, 105, 103, 104, 116])))))))))))))))))
theorem len_l_numbers_right (ds : List D) (C : Cl) (Q : DQ) (E : DX) (h : sp_l_numbers_right ds C Q E) : ds.length = 2 := by repeat (first | (obtain ⟨rfl, _⟩ := h; exact rfl) | (obtain ⟨_, h⟩ := h))
theorem pure_l_numbers_right (ds : List D) (C : Cl) (Q : DQ) (E : DX) (h : sp_l_numbers_right ds C Q E) : td_l_numbers_right (endsD Q) (startD ["_law_bag_here", "_law_label", "_law_wrong", "_law_bad", "_law_odd", "_law_sort", "_law_many", "_law_some", "_law_right"] ds) C := by
  obtain ⟨b, l, n, rfl, hw, hl, hb, hn, tb, hq⟩ := h
  unfold td_l_numbers_right
  refine v_ends ?_
  simp only [startD, List.map_cons, List.map_nil, List.length_cons, List.length_nil, Nat.reduceAdd, Nat.reduceSub, List.reduceReplicate, List.cons_append, List.nil_append]
  array_mem_dec
  refine ⟨b, _, rfl, hb, by omega, fun d C1 hd B1 => ?_⟩
  array_mem_dec
  refine ⟨b, _, rfl, B1.at, by omega, fun x C2 ⟨x0, hx⟩ B2 => ?_⟩
  array_mem_dec
  refine ⟨b, _, _, _, rfl, rfl, nofun, nofun, by show (4 : Nat) ≤ 1000000; decide, B2.at, by omega, fun o C3 ho B3 => ?_⟩
  have ho2 : ∀ C2, NoBl o C2 := by
    refine (show AllD (fun d => ∀ C2, NoBl d C2) _ from ?_) o ho
    exact allD_cons (noBl_oth (fun _ => rfl) rfl) <| allD_cons (noBl_oth (fun _ => rfl) rfl) <| allD_cons (noBl_oth (fun _ => rfl) rfl) <| allD_cons (noBl_oth (fun _ => rfl) rfl) allD_nil
  clear ho
  array_mem_dec
  refine ⟨b, _, _, _, rfl, rfl, nofun, nofun, by show (6 : Nat) ≤ 1000000; decide, B3.at, by omega, fun g C4 hg B4 => ?_⟩
  have hg2 : ∀ C2, NoSg g C2 := by
    refine (show AllD (fun d => ∀ C2, NoSg d C2) _ from ?_) g hg
    exact allD_cons (noSg_str (by decide)) <| allD_cons (noSg_str (by decide)) <| allD_cons (noSg_oth (fun _ => rfl) nofun) <| allD_cons (noSg_oth (fun _ => rfl) nofun) <| allD_cons (noSg_oth (fun _ => rfl) nofun) <| allD_cons (noSg_str (by decide)) allD_nil
  clear hg
  array_mem_dec
  refine ⟨1, rfl, ?_⟩
  array_mem_dec
  refine ⟨10, 29, rfl, rfl, ⟨by decide, by decide, by decide⟩, ?_⟩
  array_mem_dec
  refine ⟨b, _, _, _, rfl, rfl, nofun, nofun, by show (6 : Nat) ≤ 1000000; decide, B4.at, by omega, fun m C5 hm B5 => ?_⟩
  have hm2 : ∀ C2, NoCt 0 3 m C2 := by
    refine (show AllD (fun d => ∀ C2, NoCt 0 3 d C2) _ from ?_) m hm
    exact allD_cons (noCt_int (by decide)) <| allD_cons (noCt_int (by decide)) <| allD_cons (noCt_oth (fun _ => rfl) nofun) <| allD_cons (noCt_oth (fun _ => rfl) nofun) <| allD_cons (noCt_oth (fun _ => rfl) nofun) <| allD_cons (noCt_int (by decide)) allD_nil
  clear hm
  have tb5 : Tbl qN C5 := ((((tb.bag hb B1).bag B1.at B2).bag B2.at B3).bag B3.at B4).bag B4.at B5
  have B : Bagged C b C5 (n + 10) := ((((B1.trans B2).trans B3).trans B4).trans B5).mono (by omega)
  clear B1 B2 B3 B4 B5
  have od : (D.non) = optN none := rfl
  have sg : ([45] : List Nat) = [] ∨ ([45] : List Nat) = [45] ∨ ([45] : List Nat) = [43, 45] := .inr (.inl rfl)
  array_mem_dec
  refine ⟨tb5, fun f => part_raises (l := wName) (fun E Q2 he => ?_) ?_⟩
  · dsimp only
    array_mem_dec
    exact ⟨rfl, rfl, _, _, _, _, _, _, _, rfl, .inl ⟨hd _, he⟩⟩
  array_mem_dec
  refine ⟨tb5, fun f => part_raises (l := wDigits) (fun E Q2 he => ?_) ?_⟩
  · dsimp only
    array_mem_dec
    exact ⟨rfl, rfl, _, _, _, _, _, _, _, rfl, .inr ⟨l, rfl, hw, hl, .inl ⟨x0, hx _, he⟩⟩⟩
  array_mem_dec
  refine ⟨tb5, fun f => part_raises (l := wPoint) (fun E Q2 he => ?_) ?_⟩
  · dsimp only
    array_mem_dec
    exact ⟨rfl, rfl, _, _, _, _, _, _, _, rfl, .inr ⟨l, rfl, hw, hl, .inr ⟨none, rfl, nofun, .inl ⟨ho2 _, he⟩⟩⟩⟩
  array_mem_dec
  refine ⟨tb5, fun f => part_raises (l := wSigns) (fun E Q2 he => ?_) ?_⟩
  · dsimp only
    array_mem_dec
    exact ⟨rfl, rfl, _, _, _, _, _, _, _, rfl, .inr ⟨l, rfl, hw, hl, .inr ⟨none, rfl, nofun, .inr ⟨false, rfl, .inl ⟨hg2 _, he⟩⟩⟩⟩⟩
  array_mem_dec
  refine ⟨tb5, fun f => part_raises (l := wZeros) (fun E Q2 he => ?_) ?_⟩
  · dsimp only
    array_mem_dec
    exact ⟨rfl, rfl, _, _, _, _, _, _, _, rfl, .inr ⟨l, rfl, hw, hl, .inr ⟨none, rfl, nofun, .inr ⟨false, rfl, .inr ⟨_, rfl, sg, .inl ⟨ho2 _, he⟩⟩⟩⟩⟩⟩
  array_mem_dec
  refine ⟨tb5, fun f => part_raises (l := wKeep) (fun E Q2 he => ?_) ?_⟩
  · dsimp only
    array_mem_dec
    exact ⟨rfl, rfl, _, _, _, _, _, _, _, rfl, .inr ⟨l, rfl, hw, hl, .inr ⟨none, rfl, nofun, .inr ⟨true, rfl, .inr ⟨_, rfl, sg, .inr ⟨true, rfl, .inl ⟨x0, hx _, he⟩⟩⟩⟩⟩⟩⟩
  array_mem_dec
  refine ⟨tb5, fun f => part_raises (l := wShown) (fun E Q2 he => ?_) ?_⟩
  · dsimp only
    array_mem_dec
    exact ⟨rfl, rfl, _, _, _, _, _, _, _, rfl, .inr ⟨l, rfl, hw, hl, .inr ⟨none, rfl, nofun, .inr ⟨true, rfl, .inr ⟨_, rfl, sg, .inr ⟨true, rfl, .inr ⟨none, rfl, nofun, .inl ⟨hm2 _, he⟩⟩⟩⟩⟩⟩⟩⟩
  array_mem_dec
  refine ⟨b, 3, _, rfl, by decide, by decide, B.at, by omega, fun i C6 i0 i1 B6 => ?_⟩
  have tb6 : Tbl qN C6 := tb5.bag B.at B6
  obtain ⟨k, rfl⟩ : ∃ k : Nat, i = k := ⟨i.toNat, by omega⟩
  array_mem_dec
  rw [show (1 : Int) + (k : Int) = ((1 + k : Nat) : Int) by omega]
  refine ⟨tb6, fun f => part_raises (l := wShown) (fun E Q2 he => ?_) ?_⟩
  · dsimp only
    array_mem_dec
    exact ⟨rfl, rfl, _, _, _, _, _, _, _, rfl, .inr ⟨l, rfl, hw, hl, .inr ⟨none, rfl, nofun, .inr ⟨false, rfl, .inr ⟨_, rfl, sg, .inr ⟨true, rfl, .inr ⟨none, rfl, nofun, .inr ⟨1 + k, rfl, by omega, .inl ⟨by omega, rfl, he⟩⟩⟩⟩⟩⟩⟩⟩⟩
  array_mem_dec
  refine ⟨tb6, fun f => ?_⟩
  array_mem_dec
  refine ⟨rfl, part_right (fun E Q2 he => ?_) ?_⟩
  · dsimp only
    array_mem_dec
    exact ⟨rfl, rfl, _, _, _, _, _, _, _, rfl, .inr ⟨l, rfl, hw, hl, .inr ⟨some 20, rfl, fun n e => by cases e; decide, .inr ⟨true, rfl, .inr ⟨_, rfl, .inl rfl, .inr ⟨true, rfl, .inr ⟨some 20, rfl, fun n e => by cases e; decide, .inr ⟨1 + k, rfl, by omega, .inr ⟨.inr rfl, he _⟩⟩⟩⟩⟩⟩⟩⟩⟩
  array_mem_dec
  exact hq _ ((B.trans B6).mono (by omega))
def td_law : DS :=
  (dSeq (dFor (diRng1 (dCons (dCB rMax2 (dCons (dC (.int 1)) (dCons (dCB rMin2 (dCons (dC (.int 5)) (dCons (dCB rLen (dCons (dVar 0) dNil)) dNil))) dNil))) dNil)) (dName 1)
    (dSeq (dAsg (dCall sp_l_bag [] (dCons (dVar 0) (dCons (dVar 1) dNil))) (dName 2))
    (dSeq (dAsg (dOp rIx (dCall sp_l_words [] (dCons (dVar 2) (dCons (dC (.int 1)) dNil))) (dC (.int 0))) (dName 3))
    (dSeq (dIfS (dOr (dNot (dTest (dCall sp_l_marks_right [] (dCons (dVar 2) (dCons (dVar 3) dNil))))) (dNot (dTest (dCall sp_l_words_right [] (dCons (dVar 2) (dCons (dVar 3) dNil)))))) (dRet (dC (.bl false))) dNext)
    (dIfS (dNot (dTest (dCall sp_l_numbers_right [] (dCons (dVar 2) (dCons (dVar 3) dNil))))) (dRet (dC (.bl false))) dNext)))))
    (dRet (dC (.bl true))))
theorem pure_law (ds : List D) (C : Cl) (Q : DQ) (E : DX) (h : sp_lawT [qN, qM, qW] ds C Q E) : td_law (endsD Q) (startD ["_law_script", "_law_at", "_law_bag_here", "_law_label"] ds) C := by
  obtain ⟨ns, rfl, hl, htb, hq⟩ := h
  have tM : Tbl qM C := htb qM (by simp)
  have tN : Tbl qN C := htb qN (by simp)
  have tW : Tbl qW C := htb qW (by simp)
  dsimp only [td_law, dSeq, dFor]
  refine law_rng (ns := ns) (m := 5) (ρ := [some (.rol (ns.map D.int)), none, none, none]) rfl hl fun n hn => ?_
  refine ⟨fun i ρ C' => (Tbl qM C' ∧ Tbl qN C' ∧ Tbl qW C') ∧ ∃ x y z, ρ = [some (.rol (ns.map D.int)), x, y, z], ⟨⟨tM, tN, tW⟩, _, _, _, rfl⟩, ?_, ?_⟩
  · rintro i d ρ C' hx ⟨⟨tM, tN, tW⟩, x, y, z, rfl⟩
    obtain ⟨hi, rfl⟩ := ranged_get hx
    rw [show (0 : Int) + (i : Int) = (i : Int) by omega]
    refine ⟨_, rfl, _, rfl, ns, i, rfl, by omega, fun b C1 hb B1 => ?_⟩
    have nw : ∀ {q : String}, Tbl q C' → Tbl q C1 := fun t => by
      obtain ⟨u, v, w, rfl, _⟩ := B1
      exact t.new hb
    array_mem_dec
    refine ⟨b, 1, _, rfl, by decide, B1.at, by decide, fun ws C2 wl ww _ B2 => ?_⟩
    obtain ⟨w, rfl⟩ := List.length_eq_one_iff.mp wl
    have hw := ww w (.head _)
    have hwl := isWord_len hw
    array_mem_dec
    refine ⟨b, w, _, rfl, hw, by omega, B2.at, by decide, (nw tM).bag B1.at B2, fun C3 B3 => ?_⟩
    array_mem_dec
    have t3 : ∀ {q : String}, Tbl q C' → Tbl q C3 := fun t => ((nw t).bag B1.at B2).bag B2.at B3
    refine ⟨b, w, _, rfl, hw, by omega, B3.at, by decide, t3 tW, fun C4 B4 => ?_⟩
    array_mem_dec
    have t4 : ∀ {q : String}, Tbl q C' → Tbl q C4 := fun t => (t3 t).bag B3.at B4
    refine ⟨b, w, _, rfl, hw, by omega, B4.at, by decide, t4 tN, fun C5 B5 => ?_⟩
    array_mem_dec
    have t5 : ∀ {q : String}, Tbl q C' → Tbl q C5 := fun t => (t4 t).bag B4.at B5
    exact ⟨⟨t5 tM, t5 tN, t5 tW⟩, _, _, _, rfl⟩
  · rintro ρ C' ⟨_, x, y, z, rfl⟩
    exact ⟨_, _, .same, hq _⟩
end G
set_option maxHeartbeats 2000000
namespace G
open PySem PySem.Spec PyProof.Rows L2
/-! ### the end: the law is called where nothing is being shown; ts: tables that stand empty -/
/-- what is tracked at the start: the empty tables, the script if the module does not own it -/
def H00 (ts : List Addr) (b : Bool) (a : Addr) (o : Obj) (xs : List V) : Hp := fun x => if x ∈ ts then some (.tbl #[]) else if x = a ∧ b = true then some (.frz o (.lst xs)) else none
theorem call_law {P : Program} {w : World} {K : PySem.W.Frag} {mg mb : Str → Option Value} {CX : CXT} {k : Nat} {fa a : Addr} {cs : List (Addr × Addr)} {fd : FuncData} {x : Str} {sp : Sp} {t : Shared} {vs : List Value} {ns : List Int}
    (KX : K.In t.heap) (hns : t.heap.Ns mainGlobals mg) (hbn : t.heap.Ns builtinsNs mb) (hbb : ∀ x : Str, x ≠ "__name__" → mb x = bootBuiltins x) (hlim : t.heap.NoLimit) (hg : t.gens = #[])
    (hT : ∀ p ∈ cs, t.heap.get? p.2 = some { cls := .none, data := .fields #[] }) (nT : ∀ p ∈ cs, K.lookup p.2 = none) (cd : ∀ p ∈ cs, PySem.W.codeHdIn K p.1 p.2 = true)
    (hbm : ∃ (bm : Addr) (ob : Obj), mg "__builtins__" = some (.ref bm) ∧ bm ≠ builtinsNs ∧ t.heap.get? bm = some ob ∧ ob.cls = .type "module" ∧ ob.dict = some builtinsNs ∧ ob.data = .plain)
    (ha : t.heap.get? a = some { cls := .type "list", data := .seq vs.toArray }) (hi : IntsAre vs ns) (hl : ns.length ≤ sizeLine) (hr : Room k callerA)
    (F : ∀ base : Heap, K.In base → base.Ns mainGlobals mg → (∀ p ∈ cs, LamX.TabB base mg p.1 p.2) → FnOk P w K mg base CX k fa fd [x] sp) (hbind : ∀ (s : Shared) (u : Value), BindsTo s fd ⟨[u], []⟩ [(x, u)])
    (hsp : ∀ H : Hp, (∀ p ∈ cs, H p.2 = some (.tbl #[])) → SqL K H a (ns.map V.int) → sp [.ref a] H (fun v _ => v = .bl true) fun _ _ _ => False)
    (hCX : ∀ H e s', CX [] H t (fun _ _ _ => False) e s' → False) :
    codeAny (model P w) callerA (.call (.ref fa) ⟨[.ref a], []⟩) (fun r s' => r = .ok (.ret (.bool true)) ∧ OldK t.heap s'.heap ∧ s'.os = t.os ∧ AllBare s'.gens) t := by
  have rv := vals_ints hi
  generalize hts : cs.map (·.2) = ts
  have inT : ∀ {p}, p ∈ cs → p.2 ∈ ts := fun {p} hp => by rw [← hts]; exact List.mem_map.mpr ⟨p, hp, rfl⟩
  have ofT : ∀ {b}, b ∈ ts → ∃ p ∈ cs, p.2 = b := fun {b} hb => by
    rw [← hts] at hb
    obtain ⟨p, hp, e⟩ := List.mem_map.mp hb
    exact ⟨p, hp, e⟩
  have getT : ∀ {b}, b ∈ ts → t.heap.get? b = some { cls := .none, data := .fields #[] } := fun hb => by
    obtain ⟨p, hp, rfl⟩ := ofT hb
    exact hT p hp
  have na : a ∉ ts := fun z => by
    have e := getT z
    rw [ha] at e
    have e2 : Data.seq vs.toArray = Data.fields #[] := congrArg Obj.data (Option.some.inj e)
    cases e2
  generalize hob : ({ cls := .type "list", data := .seq vs.toArray } : Obj) = oa at ha
  generalize hz : (K.lookup a).isNone = z
  generalize hH : H00 ts z a oa (ns.map V.int) = H
  have H1 : ∀ {b}, b ∈ ts → H b = some (.tbl #[]) := fun hb => by rw [← hH]; exact if_pos hb
  have H2 : ∀ b u, H b = some u → (b ∈ ts ∧ u = .tbl #[]) ∨ (b = a ∧ z = true ∧ u = .frz oa (.lst (ns.map V.int))) := fun b u e => by
    rw [← hH] at e
    unfold H00 at e
    split at e
    · cases e; exact .inl ⟨‹_›, rfl⟩
    · split at e
      · cases e; rename_i q; exact .inr ⟨q.1, q.2, rfl⟩
      · cases e
  have free : ∀ {b : Addr} {o : Obj}, t.heap.get? b = some o → (∀ us n, o.data ≠ .seq us n) → o.data ≠ .fields #[] → H b = none := fun {b o} e h1 h2 => by
    cases q : H b with
    | none => rfl
    | some u =>
      rcases H2 b u q with ⟨m, _⟩ | ⟨rfl, _⟩
      · rw [getT m] at e
        cases e
        exact absurd rfl h2
      · rw [ha] at e
        cases e
        rw [← hob] at h1
        exact absurd rfl (h1 _ _)
  have kept : ∀ {b : Addr} {o : Obj}, t.heap.get? b = some o → H b = none → (hidT t.heap H).get? b = some o := fun e n => hidT_get e n
  have nsOk : ∀ {b : Addr} {m : Str → Option Value}, t.heap.Ns b m → (hidT t.heap H).Ns b m := fun {b m} ⟨o, es, ep, e, d, r⟩ =>
    ⟨o, es, ep, kept e (free e (fun us n y => by rw [d] at y; cases y) fun y => by rw [d] at y; cases y), d, r⟩
  have KB : K.In (hidT t.heap H) := fun b o e => by
    refine kept (KX b o e) ?_
    cases q : H b with
    | none => rfl
    | some u =>
      rcases H2 b u q with ⟨m, _⟩ | ⟨rfl, h1, _⟩
      · obtain ⟨p, hp, rfl⟩ := ofT m
        rw [nT p hp] at e; cases e
      · rw [← hz, e] at h1; cases h1
  have hM : L2.Mod K mg (hidT t.heap H) := ⟨KB, nsOk hns, ⟨mb, nsOk hbn, hbb⟩, let ⟨mc, h1, h2⟩ := hlim; ⟨mc, nsOk h1, h2⟩⟩
  have TB : ∀ p ∈ cs, LamX.TabB (hidT t.heap H) mg p.1 p.2 := fun p hp => by
    refine ⟨PySem.W.codeHd_of_K KB (cd p hp), ?_, fun y => ?_⟩
    · obtain ⟨bm, ob, b1, b2, b3, b4, b5, b6⟩ := hbm
      refine ⟨bm, ob, b1, b2, fun y => ?_, fun y => ?_, kept b3 (free b3 (fun us n y => by rw [b6] at y; cases y) fun y => by rw [b6] at y; cases y), b4, b5, b6⟩
      · obtain ⟨o, es, ep, e, d, _⟩ := hns
        rw [y, e] at b3
        cases b3
        rw [d] at b6; cases b6
      · rw [y, hT p hp] at b3
        cases b3; cases b6
    · obtain ⟨o, es, ep, e, d, _⟩ := hns
      rw [y, hT p hp] at e
      cases e; cases d
  have hok : HOk P w H t.heap := fun b u e => by
    rcases H2 b u e with ⟨m, rfl⟩ | ⟨rfl, _, rfl⟩
    · exact getT m
    · exact ⟨ha, by rw [List.length_map]; exact hl, vs, _, rv, by rw [hob]; exact ha⟩
  have sq : SqL K H a (ns.map V.int) := by
    cases q : K.lookup a with
    | some o =>
      have e := KX a o q
      rw [ha] at e
      cases e
      exact .inr ⟨_, vs.toArray, _, q, by rw [← hob], by rw [← hob], by rw [← hob], by rw [List.size_toArray, hi.length]; exact hl, by simpa using rv⟩
    | none =>
      refine .inl (.inr ⟨oa, ?_⟩)
      rw [← hH]
      unfold H00
      rw [if_neg na, if_pos ⟨rfl, by rw [← hz, q]; rfl⟩]
  have e0 : Env0 P w K mg (hidT t.heap H) callerA [] t H := ⟨rfl, hM, fun b o e => of_hidT e, Nat.le_of_eq (hidT_size _ _), trivial, fun b hb => absurd (show b ∈ ([] : List Addr) from hb) (by simp), hok, .of_eq hg⟩
  refine codeAny_mono ((F _ KB (nsOk hns) TB).run callerA [] t H ⟨[.ref a], []⟩ [.ref a] [.ref a] _ _ hr e0 (hbind t (.ref a)) (.cons rfl .nil) (hsp H (fun p hp => H1 (inT hp)) sq)) fun res s' h => ?_
  cases res with
  | error e => exact (hCX H e s' h).elim
  | ok fl =>
    cases fl with
    | next => exact False.elim h
    | brk => exact False.elim h
    | cont => exact False.elim h
    | ret u =>
      obtain ⟨v, H', os, bare, un, hok', r', q⟩ := h
      obtain rfl : v = .bl true := q
      obtain rfl : u = Value.bool true := r'
      have old : ∀ b o, b ∉ ts → t.heap.get? b = some o → s'.heap.get? b = some o := fun b o nb e => by
        cases q : H b with
        | none => exact un.keep b o e q (by intro y; exact absurd (show b ∈ ([] : List Addr) from y) (by simp)) (by simp)
        | some u =>
          rcases H2 b u q with ⟨m, _⟩ | ⟨rfl, _, rfl⟩
          · exact absurd m nb
          · have q2 := un.frzs _ oa _ q
            obtain ⟨y1, _⟩ := hok' _ _ q2
            rw [ha] at e; cases e
            exact y1
      have grown : ∀ b, b ∈ ts → ∃ more : Array Value, s'.heap.get? b = some { cls := .none, data := .fields more } := fun b hb => by
        obtain ⟨more, y⟩ := un.tbls b #[] (H1 hb)
        exact ⟨_, hok' b _ y⟩
      refine ⟨rfl, ⟨fun b o e => ?_, fun b o e => ?_⟩, os, bare⟩
      · by_cases hb : b ∈ ts
        · obtain ⟨more, hm⟩ := grown b hb
          obtain ⟨p, hp, rfl⟩ := ofT hb
          rw [hT p hp] at e
          cases e
          have c := PySem.W.codeHd_of_K KX (cd p hp)
          exact .inr (.inl ⟨(c.tab (hT p hp)).isCodeTable, rfl, #[], more, rfl, by rw [Array.empty_append]; exact hm⟩)
        · exact .inl (old b o hb e)
      · by_cases hb : b ∈ ts
        · obtain ⟨more, hm⟩ := grown b hb
          exact ⟨_, hm⟩
        · exact ⟨o, old b o hb e⟩
theorem roomG {k : Nat} (h : L2.Room k callerA) : Room k callerA := ⟨h, rfl⟩
/-- the end of a law -/
theorem walk_G {l : PySem.W.OpenLaw} {n k : Nat} {q : Program} {loose : List Str} {XP : (Str → Option Value) → Heap → Prop} {YP : World → Heap → Prop} {d : DefRec} {CX : CXT} {x : Str} (hn : l.most = some n) (hn2 : n ≤ sizeLine) (hdf : d.params.defaults = []) (hr : L2.Room k callerA)
    (F : ∀ (w : World) (mg : Str → Option Value) (fa : Addr) (h : Heap), YP w h → h.Ns mainGlobals mg → mg d.name = some (.ref fa) →
      ∃ (K : PySem.W.Frag) (fd : FuncData) (cs : List (Addr × Addr)) (sp : Sp), K.In h ∧ (∀ p ∈ cs, h.get? p.2 = some { cls := .none, data := .fields #[] }) ∧ (∀ p ∈ cs, K.lookup p.2 = none) ∧ (∀ p ∈ cs, PySem.W.codeHdIn K p.1 p.2 = true) ∧ (∀ (s : Shared) (u : Value), BindsTo s fd ⟨[u], []⟩ [(x, u)]) ∧
        (∀ (H : Hp) (a : Addr) (ns : List Int), ns.length ≤ n → (∀ p ∈ cs, H p.2 = some (.tbl #[])) → SqL K H a (ns.map V.int) → sp [.ref a] H (fun v _ => v = .bl true) fun _ _ _ => False) ∧
        ∀ base : Heap, K.In base → base.Ns mainGlobals mg → (∀ p ∈ cs, LamX.TabB base mg p.1 p.2) → FnOk l.prog w K mg base CX k fa fd [x] sp)
    (hCX : ∀ (H : Hp) (s : Shared) (e : Value) (s' : Shared), CX [] H s (fun _ _ _ => False) e s' → False) : PySem.W.WalkO q loose XP YP l.row.toRowW d [] fun f vs => PySem.call f vs := by
  refine Att.attach_callB hn hdf fun w s₀ t mg mb fa o pm cd doc a vs ns G Y ho hd hcd hmg hobj hints hlen hbits hg => ?_
  obtain ⟨K, fd, cs, sp, KX, hT, nT, hc, hb, hsp, hF⟩ := F w mg fa _ Y G.T.g hmg
  exact call_law KX G.T.g G.T.b G.T.builtins G.T.nolimit hg hT nT hc G.T.bmain hobj hints (Nat.le_trans hlen hn2) (roomG hr) hF hb (fun H hH hS => hsp H a ns hlen hH hS) fun H e s' => hCX H t e s'
end G
namespace Lw
open PySem PySem.Spec PyProof.Rows L2 G
theorem sc_l_part : FnScope ["_law_asked", "_law_found", "_law_e"] ["_law_asked"] (defScope s_l_part) := ⟨rfl, rfl, rfl, by decide +kernel, rfl, by decide +kernel, by decide +kernel⟩
theorem sc_Kind_init : FnScope ["self", "name", "family", "marks", "yes", "no", "digits", "point", "signs", "zeros", "keep", "shown"] ["self", "name", "family", "marks", "yes", "no", "digits", "point", "signs", "zeros", "keep", "shown"] (defScope s_Kind_init) := ⟨rfl, rfl, rfl, by decide +kernel, rfl, by decide +kernel, by decide +kernel⟩
theorem sc_is_betweenU : FnScope ["thing", "least", "most"] ["thing", "least", "most"] (defScope s_is_betweenU) := ⟨rfl, rfl, rfl, by decide +kernel, rfl, by decide +kernel, by decide +kernel⟩
theorem sc_is_word : FnScope ["thing", "sign"] ["thing"] (defScope s_is_word) := ⟨rfl, rfl, rfl, by decide +kernel, rfl, by decide +kernel, by decide +kernel⟩
theorem sc_Kind_of_numbersX : FnScope ["name", "digits", "point", "signs", "zeros", "keep", "shown"] ["name", "digits", "point", "signs", "zeros", "keep", "shown"] (defScope s_Kind_of_numbersX) := ⟨rfl, rfl, rfl, by decide +kernel, rfl, by decide +kernel, by decide +kernel⟩
theorem sc_l_take : FnScope ["_law_bag_here", "_law_many", "_law_digit", "_law_mixed"] ["_law_bag_here", "_law_many"] (defScope s_l_take) := ⟨rfl, rfl, rfl, by decide +kernel, rfl, by decide +kernel, by decide +kernel⟩
theorem sc_l_of : FnScope ["_law_bag_here", "_law_some"] ["_law_bag_here", "_law_some"] (defScope s_l_of) := ⟨rfl, rfl, rfl, by decide +kernel, rfl, by decide +kernel, by decide +kernel⟩
theorem sc_l_no_count : FnScope ["_law_bag_here"] ["_law_bag_here"] (defScope s_l_no_count) := ⟨rfl, rfl, rfl, by decide +kernel, rfl, by decide +kernel, by decide +kernel⟩
theorem sc_l_no_word : FnScope ["_law_bag_here"] ["_law_bag_here"] (defScope s_l_no_word) := ⟨rfl, rfl, rfl, by decide +kernel, rfl, by decide +kernel, by decide +kernel⟩
theorem sc_l_numbers_right : FnScope ["_law_bag_here", "_law_label", "_law_wrong", "_law_bad", "_law_odd", "_law_sort", "_law_many", "_law_some", "_law_right"] ["_law_bag_here", "_law_label"] (defScope s_l_numbers_right) := ⟨rfl, rfl, rfl, by decide +kernel, rfl, by decide +kernel, by decide +kernel⟩
theorem sc_is_text : FnScope ["thing", "sign"] ["thing"] (defScope s_is_text) := ⟨rfl, rfl, rfl, by decide +kernel, rfl, by decide +kernel, by decide +kernel⟩
theorem sc_are_textsU : FnScope ["things", "most", "thing"] ["things", "most"] (defScope s_are_textsU) := ⟨rfl, rfl, rfl, by decide +kernel, rfl, by decide +kernel, by decide +kernel⟩
theorem sc_Kind_of_marksX : FnScope ["name", "marks"] ["name", "marks"] (defScope s_Kind_of_marksX) := ⟨rfl, rfl, rfl, by decide +kernel, rfl, by decide +kernel, by decide +kernel⟩
theorem sc_l_digits : FnScope ["_law_bag_here", "_law_least", "_law_most", "_law_found", "_law_turn"] ["_law_bag_here", "_law_least", "_law_most"] (defScope s_l_digits) := ⟨rfl, rfl, rfl, by decide +kernel, rfl, by decide +kernel, by decide +kernel⟩
theorem sc_l_number : FnScope ["_law_bag_here", "_law_most", "_law_sign", "_law_before"] ["_law_bag_here", "_law_most"] (defScope s_l_number) := ⟨rfl, rfl, rfl, by decide +kernel, rfl, by decide +kernel, by decide +kernel⟩
theorem sc_l_signs : FnScope ["_law_some"] [] (defScope s_l_signs) := ⟨rfl, rfl, rfl, by decide +kernel, rfl, by decide +kernel, by decide +kernel⟩
theorem sc_l_text : FnScope ["_law_bag_here", "_law_road", "_law_turn"] ["_law_bag_here"] (defScope s_l_text) := ⟨rfl, rfl, rfl, by decide +kernel, rfl, by decide +kernel, by decide +kernel⟩
theorem sc_l_marks_right : FnScope ["_law_bag_here", "_law_label", "_law_wrong", "_law_text_here", "_law_bad", "_law_a", "_law_b", "_law_c", "_law_d", "_law_e", "_law_f", "_law_g", "_law_end"] ["_law_bag_here", "_law_label"] (defScope s_l_marks_right) := ⟨rfl, rfl, rfl, by decide +kernel, rfl, by decide +kernel, by decide +kernel⟩
theorem sc_Kind_of_wordsX : FnScope ["name", "yes", "no", "word"] ["name", "yes", "no"] (defScope s_Kind_of_wordsX) := ⟨rfl, rfl, rfl, by decide +kernel, rfl, by decide +kernel, by decide +kernel⟩
theorem sc_Kind_of_textsX : FnScope ["name"] ["name"] (defScope s_Kind_of_textsX) := ⟨rfl, rfl, rfl, by decide +kernel, rfl, by decide +kernel, by decide +kernel⟩
theorem sc_l_other_texts : FnScope ["_law_bag_here", "_law_many", "_law_taken", "_law_found", "_law_turn", "_law_text_here"] ["_law_bag_here", "_law_many", "_law_taken"] (defScope s_l_other_texts) := ⟨rfl, rfl, rfl, by decide +kernel, rfl, by decide +kernel, by decide +kernel⟩
theorem sc_l_words_right : FnScope ["_law_bag_here", "_law_label", "_law_yes", "_law_no", "_law_wrong", "_law_at", "_law_bad", "_law_mixed"] ["_law_bag_here", "_law_label"] (defScope s_l_words_right) := ⟨rfl, rfl, rfl, by decide +kernel, rfl, by decide +kernel, by decide +kernel⟩
theorem sc_l_word : FnScope ["_law_bag_here", "_law_at", "_law_most", "_law_letters", "_law_some", "_law_turn"] ["_law_bag_here", "_law_at", "_law_most"] (defScope s_l_word) := ⟨rfl, rfl, rfl, by decide +kernel, rfl, by decide +kernel, by decide +kernel⟩
theorem sc_l_words : FnScope ["_law_bag_here", "_law_many", "_law_side", "_law_at"] ["_law_bag_here", "_law_many"] (defScope s_l_words) := ⟨rfl, rfl, rfl, by decide +kernel, rfl, by decide +kernel, by decide +kernel⟩
theorem sc_l_bag : FnScope ["_law_script", "_law_at", "_law_cell", "_law_row"] ["_law_script", "_law_at"] (defScope s_l_bag) := ⟨rfl, rfl, rfl, by decide +kernel, rfl, by decide +kernel, by decide +kernel⟩
theorem sc_law : FnScope ["_law_script", "_law_at", "_law_bag_here", "_law_label"] ["_law_script"] (defScope s_law) := ⟨rfl, rfl, rfl, by decide +kernel, rfl, by decide +kernel, by decide +kernel⟩
theorem sc_BadKind_init : FnScope ["self", "part"] ["self", "part"] (defScope s_BadKind_init) := ⟨rfl, rfl, rfl, by decide +kernel, rfl, by decide +kernel, by decide +kernel⟩
structure Ad where
  cl : Nm
  a_l_part : Addr
  d_l_part : FuncData
  a_Kind_init : Addr
  d_Kind_init : FuncData
  t_Kind_init_marks : Addr
  t_Kind_init_yes : Addr
  t_Kind_init_no : Addr
  a_is_betweenU : Addr
  d_is_betweenU : FuncData
  a_is_word : Addr
  d_is_word : FuncData
  a_Kind_of_numbersX : Addr
  d_Kind_of_numbersX : FuncData
  p_Kind_of_numbersX : Addr
  a_l_take : Addr
  d_l_take : FuncData
  a_l_of : Addr
  d_l_of : FuncData
  a_l_no_count : Addr
  d_l_no_count : FuncData
  a_l_no_word : Addr
  d_l_no_word : FuncData
  a_l_numbers_right : Addr
  d_l_numbers_right : FuncData
  c_l_numbers_right : Addr
  P_l_numbers_right : Addr
  a_is_text : Addr
  d_is_text : FuncData
  a_are_textsU : Addr
  d_are_textsU : FuncData
  a_Kind_of_marksX : Addr
  d_Kind_of_marksX : FuncData
  p_Kind_of_marksX : Addr
  a_l_digits : Addr
  d_l_digits : FuncData
  a_l_number : Addr
  d_l_number : FuncData
  a_l_signs : Addr
  d_l_signs : FuncData
  a_l_text : Addr
  d_l_text : FuncData
  a_l_marks_right : Addr
  d_l_marks_right : FuncData
  c_l_marks_right : Addr
  P_l_marks_right : Addr
  a_Kind_of_wordsX : Addr
  d_Kind_of_wordsX : FuncData
  p_Kind_of_wordsX : Addr
  a_Kind_of_textsX : Addr
  d_Kind_of_textsX : FuncData
  p_Kind_of_textsX : Addr
  a_l_other_texts : Addr
  d_l_other_texts : FuncData
  a_l_words_right : Addr
  d_l_words_right : FuncData
  c_l_words_right : Addr
  P_l_words_right : Addr
  a_l_word : Addr
  d_l_word : FuncData
  a_l_words : Addr
  d_l_words : FuncData
  a_l_bag : Addr
  d_l_bag : FuncData
  a_law : Addr
  d_law : FuncData
  a_BadKind_init : Addr
  d_BadKind_init : FuncData
structure Txt (K : PySem.W.Frag) (mg : Str → Option Value) (base : Heap) (A : Ad) : Prop where
  f_l_part : Fun K "_law_part" "_law_part" s_l_part A.a_l_part A.d_l_part
  b_l_part : Binds K A.d_l_part ["_law_asked"] []
  m_l_part : mg "_law_part" = some (.ref A.a_l_part)
  kp_l_part : PySem.W.keepIn K (.ref A.a_l_part) = true
  f_Kind_init : FunD K "__init__" "Kind.__init__" (defArgs s_Kind_init) (defBody s_Kind_init) (defScope s_Kind_init) [] [("marks", (.ref A.t_Kind_init_marks)), ("yes", (.ref A.t_Kind_init_yes)), ("no", (.ref A.t_Kind_init_no)), ("digits", .non), ("point", (.bl false)), ("signs", (.str ⟨[45].toArray⟩)), ("zeros", (.bl true)), ("keep", .non), ("shown", (.int 0))] A.a_Kind_init A.d_Kind_init
  t_Kind_init_marks : KTup K A.t_Kind_init_marks []
  t_Kind_init_yes : KTup K A.t_Kind_init_yes []
  t_Kind_init_no : KTup K A.t_Kind_init_no []
  h_Kind_init : Mk K (A.cl "Kind") A.a_Kind_init
  f_is_betweenU : Fun K "is_between" "is_between" s_is_betweenU A.a_is_betweenU A.d_is_betweenU
  b_is_betweenU : Binds K A.d_is_betweenU ["thing", "least", "most"] []
  m_is_betweenU : mg "is_between" = some (.ref A.a_is_betweenU)
  kp_is_betweenU : PySem.W.keepIn K (.ref A.a_is_betweenU) = true
  f_is_word : Fun K "is_word" "is_word" s_is_word A.a_is_word A.d_is_word
  b_is_word : Binds K A.d_is_word ["thing"] []
  m_is_word : mg "is_word" = some (.ref A.a_is_word)
  kp_is_word : PySem.W.keepIn K (.ref A.a_is_word) = true
  f_Kind_of_numbersX : FunD K "of_numbers" "Kind.of_numbers" (defArgs s_Kind_of_numbersX) (defBody s_Kind_of_numbersX) (defScope s_Kind_of_numbersX) [] [("digits", .non), ("point", (.bl false)), ("signs", (.str ⟨[45].toArray⟩)), ("zeros", (.bl true)), ("keep", .non), ("shown", (.int 0))] A.a_Kind_of_numbersX A.d_Kind_of_numbersX
  h_Kind_of_numbersX : SMet K (A.cl "Kind") (.type "type") "of_numbers" A.p_Kind_of_numbersX A.a_Kind_of_numbersX
  f_l_take : Fun K "_law_take" "_law_take" s_l_take A.a_l_take A.d_l_take
  b_l_take : Binds K A.d_l_take ["_law_bag_here", "_law_many"] []
  m_l_take : mg "_law_take" = some (.ref A.a_l_take)
  kp_l_take : PySem.W.keepIn K (.ref A.a_l_take) = true
  f_l_of : Fun K "_law_of" "_law_of" s_l_of A.a_l_of A.d_l_of
  b_l_of : Binds K A.d_l_of ["_law_bag_here", "_law_some"] []
  m_l_of : mg "_law_of" = some (.ref A.a_l_of)
  kp_l_of : PySem.W.keepIn K (.ref A.a_l_of) = true
  f_l_no_count : Fun K "_law_no_count" "_law_no_count" s_l_no_count A.a_l_no_count A.d_l_no_count
  b_l_no_count : Binds K A.d_l_no_count ["_law_bag_here"] []
  m_l_no_count : mg "_law_no_count" = some (.ref A.a_l_no_count)
  kp_l_no_count : PySem.W.keepIn K (.ref A.a_l_no_count) = true
  f_l_no_word : Fun K "_law_no_word" "_law_no_word" s_l_no_word A.a_l_no_word A.d_l_no_word
  b_l_no_word : Binds K A.d_l_no_word ["_law_bag_here"] []
  m_l_no_word : mg "_law_no_word" = some (.ref A.a_l_no_word)
  kp_l_no_word : PySem.W.keepIn K (.ref A.a_l_no_word) = true
  f_l_numbers_right : Fun K "_law_numbers_right" "_law_numbers_right" s_l_numbers_right A.a_l_numbers_right A.d_l_numbers_right
  b_l_numbers_right : Binds K A.d_l_numbers_right ["_law_bag_here", "_law_label"] []
  m_l_numbers_right : mg "_law_numbers_right" = some (.ref A.a_l_numbers_right)
  kp_l_numbers_right : PySem.W.keepIn K (.ref A.a_l_numbers_right) = true
  lc_l_numbers_right : A.d_l_numbers_right.code = .ref A.c_l_numbers_right
  tb_l_numbers_right : LamX.TabB base mg A.c_l_numbers_right A.P_l_numbers_right
  lp_l_numbers_right : A.cl "_law_numbers_right.<locals>.<lambda>" = A.P_l_numbers_right
  f_is_text : Fun K "is_text" "is_text" s_is_text A.a_is_text A.d_is_text
  b_is_text : Binds K A.d_is_text ["thing"] []
  m_is_text : mg "is_text" = some (.ref A.a_is_text)
  kp_is_text : PySem.W.keepIn K (.ref A.a_is_text) = true
  f_are_textsU : Fun K "are_texts" "are_texts" s_are_textsU A.a_are_textsU A.d_are_textsU
  b_are_textsU : Binds K A.d_are_textsU ["things", "most"] []
  m_are_textsU : mg "are_texts" = some (.ref A.a_are_textsU)
  kp_are_textsU : PySem.W.keepIn K (.ref A.a_are_textsU) = true
  f_Kind_of_marksX : Fun K "of_marks" "Kind.of_marks" s_Kind_of_marksX A.a_Kind_of_marksX A.d_Kind_of_marksX
  b_Kind_of_marksX : ∀ (kV doc pm : Value) (an : Option Addr) (cdv ct : Value) (us rest : List Value), us.length = 1 → bindArgs (PySem.W.fnOf "of_marks" "Kind.of_marks" (defArgs s_Kind_of_marksX) (defBody s_Kind_of_marksX) (defScope s_Kind_of_marksX) .none kV doc pm an cdv ct) ⟨us ++ rest, []⟩ = (newTuple rest >>= fun t => pure ((["name"] : List Str).zip us ++ [(("marks" : Str), t)]))
  h_Kind_of_marksX : SMet K (A.cl "Kind") (.type "type") "of_marks" A.p_Kind_of_marksX A.a_Kind_of_marksX
  f_l_digits : Fun K "_law_digits" "_law_digits" s_l_digits A.a_l_digits A.d_l_digits
  b_l_digits : Binds K A.d_l_digits ["_law_bag_here", "_law_least", "_law_most"] []
  m_l_digits : mg "_law_digits" = some (.ref A.a_l_digits)
  kp_l_digits : PySem.W.keepIn K (.ref A.a_l_digits) = true
  f_l_number : Fun K "_law_number" "_law_number" s_l_number A.a_l_number A.d_l_number
  b_l_number : Binds K A.d_l_number ["_law_bag_here", "_law_most"] []
  m_l_number : mg "_law_number" = some (.ref A.a_l_number)
  kp_l_number : PySem.W.keepIn K (.ref A.a_l_number) = true
  f_l_signs : Fun K "_law_signs" "_law_signs" s_l_signs A.a_l_signs A.d_l_signs
  b_l_signs : Binds K A.d_l_signs [] []
  m_l_signs : mg "_law_signs" = some (.ref A.a_l_signs)
  kp_l_signs : PySem.W.keepIn K (.ref A.a_l_signs) = true
  f_l_text : Fun K "_law_text" "_law_text" s_l_text A.a_l_text A.d_l_text
  b_l_text : Binds K A.d_l_text ["_law_bag_here"] []
  m_l_text : mg "_law_text" = some (.ref A.a_l_text)
  kp_l_text : PySem.W.keepIn K (.ref A.a_l_text) = true
  f_l_marks_right : Fun K "_law_marks_right" "_law_marks_right" s_l_marks_right A.a_l_marks_right A.d_l_marks_right
  b_l_marks_right : Binds K A.d_l_marks_right ["_law_bag_here", "_law_label"] []
  m_l_marks_right : mg "_law_marks_right" = some (.ref A.a_l_marks_right)
  kp_l_marks_right : PySem.W.keepIn K (.ref A.a_l_marks_right) = true
  lc_l_marks_right : A.d_l_marks_right.code = .ref A.c_l_marks_right
  tb_l_marks_right : LamX.TabB base mg A.c_l_marks_right A.P_l_marks_right
  lp_l_marks_right : A.cl "_law_marks_right.<locals>.<lambda>" = A.P_l_marks_right
  f_Kind_of_wordsX : Fun K "of_words" "Kind.of_words" s_Kind_of_wordsX A.a_Kind_of_wordsX A.d_Kind_of_wordsX
  b_Kind_of_wordsX : Binds K A.d_Kind_of_wordsX ["name", "yes", "no"] []
  h_Kind_of_wordsX : SMet K (A.cl "Kind") (.type "type") "of_words" A.p_Kind_of_wordsX A.a_Kind_of_wordsX
  f_Kind_of_textsX : Fun K "of_texts" "Kind.of_texts" s_Kind_of_textsX A.a_Kind_of_textsX A.d_Kind_of_textsX
  b_Kind_of_textsX : Binds K A.d_Kind_of_textsX ["name"] []
  h_Kind_of_textsX : SMet K (A.cl "Kind") (.type "type") "of_texts" A.p_Kind_of_textsX A.a_Kind_of_textsX
  f_l_other_texts : Fun K "_law_other_texts" "_law_other_texts" s_l_other_texts A.a_l_other_texts A.d_l_other_texts
  b_l_other_texts : Binds K A.d_l_other_texts ["_law_bag_here", "_law_many", "_law_taken"] []
  m_l_other_texts : mg "_law_other_texts" = some (.ref A.a_l_other_texts)
  kp_l_other_texts : PySem.W.keepIn K (.ref A.a_l_other_texts) = true
  f_l_words_right : Fun K "_law_words_right" "_law_words_right" s_l_words_right A.a_l_words_right A.d_l_words_right
  b_l_words_right : Binds K A.d_l_words_right ["_law_bag_here", "_law_label"] []
  m_l_words_right : mg "_law_words_right" = some (.ref A.a_l_words_right)
  kp_l_words_right : PySem.W.keepIn K (.ref A.a_l_words_right) = true
  lc_l_words_right : A.d_l_words_right.code = .ref A.c_l_words_right
  tb_l_words_right : LamX.TabB base mg A.c_l_words_right A.P_l_words_right
  lp_l_words_right : A.cl "_law_words_right.<locals>.<lambda>" = A.P_l_words_right
  f_l_word : Fun K "_law_word" "_law_word" s_l_word A.a_l_word A.d_l_word
  b_l_word : Binds K A.d_l_word ["_law_bag_here", "_law_at", "_law_most"] []
  m_l_word : mg "_law_word" = some (.ref A.a_l_word)
  kp_l_word : PySem.W.keepIn K (.ref A.a_l_word) = true
  f_l_words : Fun K "_law_words" "_law_words" s_l_words A.a_l_words A.d_l_words
  b_l_words : Binds K A.d_l_words ["_law_bag_here", "_law_many"] []
  m_l_words : mg "_law_words" = some (.ref A.a_l_words)
  kp_l_words : PySem.W.keepIn K (.ref A.a_l_words) = true
  f_l_bag : Fun K "_law_bag" "_law_bag" s_l_bag A.a_l_bag A.d_l_bag
  b_l_bag : Binds K A.d_l_bag ["_law_script", "_law_at"] []
  m_l_bag : mg "_law_bag" = some (.ref A.a_l_bag)
  kp_l_bag : PySem.W.keepIn K (.ref A.a_l_bag) = true
  f_law : Fun K "law" "law" s_law A.a_law A.d_law
  b_law : Binds K A.d_law ["_law_script"] []
  m_law : mg "law" = some (.ref A.a_law)
  kp_law : PySem.W.keepIn K (.ref A.a_law) = true
  c_Kind : Cls K (A.cl "Kind")
  m_Kind : mg "Kind" = some (.ref (A.cl "Kind"))
  r_Kind : ClX.CRead K (A.cl "Kind") (.type "type")
  n_Kind_digits : NoAttr K (A.cl "Kind") "digits"
  n_Kind_family : NoAttr K (A.cl "Kind") "family"
  n_Kind_keep : NoAttr K (A.cl "Kind") "keep"
  n_Kind_marks : NoAttr K (A.cl "Kind") "marks"
  n_Kind_name : NoAttr K (A.cl "Kind") "name"
  n_Kind_no : NoAttr K (A.cl "Kind") "no"
  n_Kind_point : NoAttr K (A.cl "Kind") "point"
  n_Kind_shown : NoAttr K (A.cl "Kind") "shown"
  n_Kind_signs : NoAttr K (A.cl "Kind") "signs"
  n_Kind_yes : NoAttr K (A.cl "Kind") "yes"
  n_Kind_zeros : NoAttr K (A.cl "Kind") "zeros"
  f_BadKind_init : Fun K "__init__" "BadKind.__init__" s_BadKind_init A.a_BadKind_init A.d_BadKind_init
  b_BadKind_init : Binds K A.d_BadKind_init ["self", "part"] []
  xo_BadKind : OexC K (A.cl "BadKind")
  xi_BadKind : PySem.W.findIn K (.ref (A.cl "BadKind")) "__init__" = some (some (.ref A.a_BadKind_init))
  xt_BadKind : PySem.W.typeIn K (.ref A.a_BadKind_init) = some (.type "function")
  xn_BadKind : ∀ f ∈ (["part"] : List Str), PySem.W.findIn K (.ref (A.cl "BadKind")) f = some none
  xr_GuessError : ClX.CRead K (A.cl "GuessError") (.type "type")
  xb_GuessError : PySem.W.findCls K (.ref (A.cl "GuessError")) (.type "type") "__init__" = some (.val (.builtin "ValueError.__init__"))
  xc_BadKind : XfC K (A.cl "BadKind")
  ex_BadKind : ExcC K (A.cl "BadKind")
  em_BadKind_GuessError : PySem.W.exmOne K (.ref (A.cl "BadKind")) (.ref (A.cl "GuessError")) = some true
  kx_BadKind_BadBook : PySem.W.kitOne K (.ref (A.cl "BadKind")) (.ref (A.cl "BadBook")) = some false
  kx_BadKind_BadKind : PySem.W.kitOne K (.ref (A.cl "BadKind")) (.ref (A.cl "BadKind")) = some true
  kx_BadKind_ValueError : PySem.W.kitOne K (.ref (A.cl "BadKind")) (.type "ValueError") = some true
  m_GuessError : mg "GuessError" = some (.ref (A.cl "GuessError"))
  m_BadKind : mg "BadKind" = some (.ref (A.cl "BadKind"))
  m_BadBook : mg "BadBook" = some (.ref (A.cl "BadBook"))
  z_ValueError : mg "ValueError" = none
  z_abs : mg "abs" = none
  z_all : mg "all" = none
  z_any : mg "any" = none
  z_bool : mg "bool" = none
  z_int : mg "int" = none
  z_isinstance : mg "isinstance" = none
  z_len : mg "len" = none
  z_list : mg "list" = none
  z_max : mg "max" = none
  z_min : mg "min" = none
  z_ord : mg "ord" = none
  z_range : mg "range" = none
  z_set : mg "set" = none
  z_str : mg "str" = none
  z_tuple : mg "tuple" = none
  g_LETTERS : ∃ t, mg "LETTERS" = some (.str ⟨[97, 98, 99, 100, 101, 102, 103, 104, 105, 106, 107, 108, 109, 110, 111, 112, 113, 114, 115, 116, 117, 118, 119, 120, 121, 122].toArray⟩ t)
  g_MOST_DIGITS : ∃ t, mg "MOST_DIGITS" = some (.int 20 t)
  g_MOST_MARKS : ∃ t, mg "MOST_MARKS" = some (.int 6 t)
  g_MOST_SHOWN : ∃ t, mg "MOST_SHOWN" = some (.int 3 t)
  g_MOST_WORDS : ∃ t, mg "MOST_WORDS" = some (.int 4 t)
section
variable {P : Program} {w : World} {K : PySem.W.Frag} {mg : Str → Option Value} {base : Heap} {A : Ad}
theorem Txt.fl_digits_Kind (T : Txt K mg base A) : FldOk K A.cl "digits" ["Kind"] := (fld_cons T.c_Kind T.n_Kind_digits fld_nil)
theorem Txt.fl_family_Kind (T : Txt K mg base A) : FldOk K A.cl "family" ["Kind"] := (fld_cons T.c_Kind T.n_Kind_family fld_nil)
theorem Txt.fl_keep_Kind (T : Txt K mg base A) : FldOk K A.cl "keep" ["Kind"] := (fld_cons T.c_Kind T.n_Kind_keep fld_nil)
theorem Txt.fl_marks_Kind (T : Txt K mg base A) : FldOk K A.cl "marks" ["Kind"] := (fld_cons T.c_Kind T.n_Kind_marks fld_nil)
theorem Txt.fl_name_Kind (T : Txt K mg base A) : FldOk K A.cl "name" ["Kind"] := (fld_cons T.c_Kind T.n_Kind_name fld_nil)
theorem Txt.fl_no_Kind (T : Txt K mg base A) : FldOk K A.cl "no" ["Kind"] := (fld_cons T.c_Kind T.n_Kind_no fld_nil)
theorem Txt.fl_point_Kind (T : Txt K mg base A) : FldOk K A.cl "point" ["Kind"] := (fld_cons T.c_Kind T.n_Kind_point fld_nil)
theorem Txt.fl_shown_Kind (T : Txt K mg base A) : FldOk K A.cl "shown" ["Kind"] := (fld_cons T.c_Kind T.n_Kind_shown fld_nil)
theorem Txt.fl_signs_Kind (T : Txt K mg base A) : FldOk K A.cl "signs" ["Kind"] := (fld_cons T.c_Kind T.n_Kind_signs fld_nil)
theorem Txt.fl_yes_Kind (T : Txt K mg base A) : FldOk K A.cl "yes" ["Kind"] := (fld_cons T.c_Kind T.n_Kind_yes fld_nil)
theorem Txt.fl_zeros_Kind (T : Txt K mg base A) : FldOk K A.cl "zeros" ["Kind"] := (fld_cons T.c_Kind T.n_Kind_zeros fld_nil)
theorem xk_BadKind (T : Txt K mg base A) : G.FnOk P w K mg base CX0 1 A.a_BadKind_init A.d_BadKind_init ["self", "part"] (spXi K (A.cl "BadKind") ["part"]) := by
  have nd := sc_BadKind_init.nd
  refine xi_1 (k := 0) (ts := [tC (.str "wrong option of a kind: "), tFmtD K (tVar 1)]) T.f_BadKind_init sc_BadKind_init rfl (fun σ H y1 e1 p1 t ht => ?_) (Nat.le_of_ble_eq_true rfl) fun cdv A' outer s H E hr => ?_
  · simp only [List.mem_cons, List.not_mem_nil, or_false] at ht
    rcases ht with rfl | rfl
    · exact pl_c (by decide)
    · exact pl_fmt e1 p1
  · exact (pss_cons (ps_expr (pe_ginit T.m_GuessError T.xr_GuessError T.xb_GuessError (pa_cons (pv 0) (pa_cons (pe_joined (.cons pe_str (.cons (pe_fmtD hr (pv 1)) .nil))) pa_nil)))) (pss_cons (ps_ost (pv 0) (pv 1)) pss_nil))
theorem lm_l_part {X : Cx} {A : Ad} (T : Txt X.K X.mg X.base A) {cdg : Value} {s : Shared} {H F0 : Hp} {f : Addr} {tl : DX → Cl → DQ → Prop} (act : ∀ (W : WX) (pn : List (Addr × Obj)) (xe : Value → Shared → Prop) (F1 : Hp) (Ex : DEnv → DX) (p1 p2 : Pos), Same F0 F1 → Takes ((gCx X ["_law_asked", "_law_found", "_law_e"] "_law_part" (defScope s_l_part) A.a_l_part cdg s H).tr pn xe) W → FinW X.K ⟨A.cl, F1⟩ Ex W → PEd ((gCx X ["_law_asked", "_law_found", "_law_e"] "_law_part" (defScope s_l_part) A.a_l_part cdg s H).tr pn xe) ⟨A.cl, F1⟩ (.Call (.Name "_law_asked" p1) [] [] p2) (dActD f tl Ex)) :
    PSsd (gCx X ["_law_asked", "_law_found", "_law_e"] "_law_part" (defScope s_l_part) A.a_l_part cdg s H).nox ⟨A.cl, F0⟩ (defBody s_l_part) (td_l_part (dActD f tl)) := by
  have nd := sc_l_part.nd
  exact (dss_cons (ds_set 1 nd (de_str (l := [114, 105, 103, 104, 116])))
      (dss_cons (ds_try (i := 2) (hN := nd) takes0 finw_none ⟨rfl, by decide, .inl T.m_GuessError⟩ (exs_cons T.em_BadKind_GuessError exs_nil) (fun W pn xe F0 Ex sb tkX po fw => (dss_one (ds_expr (act W pn xe F0 Ex _ _ sb tkX fw))))
      (fun a dd oe c fs ds pn F0 hz hv hd rf lk => by
        obtain rfl := caught1 lk (by decide)
        exact (dss_cons (ds_if (PW.pt (dw_or (dt_not (dt_val (de_xis hz hv hd T.ex_BadKind (ck_of T.ex_BadKind.hd) T.z_isinstance (dv 2) (xis_own T.m_BadKind) rel_ref T.kx_BadKind_BadKind))) (dw_or (dt_not (dt_val (de_xis hz hv hd T.ex_BadKind (ck_of T.ex_BadKind.hd) T.z_isinstance (dv 2) (xis_blt T.z_ValueError PyProof.Rows.Boot.«ValueError») rel_ty T.kx_BadKind_ValueError))) (dw_or1 (dt_val (de_xis hz hv hd T.ex_BadKind (ck_of T.ex_BadKind.hd) T.z_isinstance (dv 2) (xis_own T.m_BadBook) rel_ref T.kx_BadKind_BadBook)))))) (dss_one (ds_ret (de_str (l := [119, 114, 111, 110, 103, 32, 99, 108, 97, 115, 115])))) dss_nil)
      (dss_one (ds_set 1 nd (de_xf hz hv hd rf T.xc_BadKind (T.xn_BadKind "part" (by decide)) (dv 2)))))))
      (dss_one (ds_ret (dv 1)))))
theorem ok_Kind_init (T : Txt K mg base A) : FnD P w K A.cl mg base 1 A.a_Kind_init A.d_Kind_init ["self", "name", "family", "marks", "yes", "no", "digits", "point", "signs", "zeros", "keep", "shown"] sp_Kind_init := by
  have nd := sc_Kind_init.nd
  refine fn_dD (k := 0) (td := td_Kind_init) T.f_Kind_init sc_Kind_init len_Kind_init pure_Kind_init fun cdv A' outer s H E hr => ?_
  exact (dss_cons (ds_fld (dv 0) (dv 1) T.fl_name_Kind)
      (dss_cons (ds_fld (dv 0) (dv 2) T.fl_family_Kind)
      (dss_cons (ds_fld (dv 0) (dv 3) T.fl_marks_Kind)
      (dss_cons (ds_fld (dv 0) (dv 4) T.fl_yes_Kind)
      (dss_cons (ds_fld (dv 0) (dv 5) T.fl_no_Kind)
      (dss_cons (ds_fld (dv 0) (dv 6) T.fl_digits_Kind)
      (dss_cons (ds_fld (dv 0) (dv 7) T.fl_point_Kind)
      (dss_cons (ds_fld (dv 0) (dv 8) T.fl_signs_Kind)
      (dss_cons (ds_fld (dv 0) (dv 9) T.fl_zeros_Kind)
      (dss_cons (ds_fld (dv 0) (dv 10) T.fl_keep_Kind)
      (dss_one (ds_fld (dv 0) (dv 11) T.fl_shown_Kind))))))))))))
theorem ce_Kind_init_3_digits_point_signs_zeros_keep_shown (T : Txt K mg base A) : Cee P w K A.cl mg base CX0 1 A.a_Kind_init ["digits", "point", "signs", "zeros", "keep", "shown"] (kw2 3 6 sp_Kind_init [(false, 0), (false, 1), (false, 2), (true, 0), (true, 1), (true, 2), (true, 3), (true, 4), (true, 5)] [(.tup []), (.tup []), (.tup [])]) := by
  obtain ⟨mv, hb⟩ := T.f_Kind_init.kbinds0 (ps := ["self", "name", "family", "marks", "yes", "no", "digits", "point", "signs", "zeros", "keep", "shown"]) 3 ["digits", "point", "signs", "zeros", "keep", "shown"] [("marks", (.ref A.t_Kind_init_marks)), ("yes", (.ref A.t_Kind_init_yes)), ("no", (.ref A.t_Kind_init_no))] (fun us mv ws => gOf [(false, 0), (false, 1), (false, 2), (true, 0), (true, 1), (true, 2), (true, 3), (true, 4), (true, 5)] us mv ws) (by simp) (by simp) (fun r m z => gOf_vals r m z [(false, 0), (false, 1), (false, 2), (true, 0), (true, 1), (true, 2), (true, 3), (true, 4), (true, 5)]) (fun D doc pm an cdv ct us mv ws h1 h2 h3 => match us, mv, ws, h1, h2, h3 with | [_, _, _], [_, _, _], [_, _, _, _, _, _], _, _, _ => ⟨_, _, _, _, _, _, rfl, rfl, ⟨_, _, _, _, _, _, rfl, rfl, ⟨_, _, _, _, _, _, rfl, rfl, rfl⟩⟩⟩)
  exact Cee.kwD (ok_Kind_init T) hb fun _ => (.cons ((T.t_Kind_init_marks.rep .nil)) (.cons ((T.t_Kind_init_yes.rep .nil)) (.cons ((T.t_Kind_init_no.rep .nil)) .nil)))
theorem ce_Kind_init_3_marks (T : Txt K mg base A) : Cee P w K A.cl mg base CX0 1 A.a_Kind_init ["marks"] (kw2 3 1 sp_Kind_init [(true, 0), (false, 0), (false, 1), (false, 2), (false, 3), (false, 4), (false, 5), (false, 6), (false, 7)] [(.tup []), (.tup []), .non, (.bl false), (.str [45]), (.bl true), .non, (.int 0)]) := by
  obtain ⟨mv, hb⟩ := T.f_Kind_init.kbinds0 (ps := ["self", "name", "family", "marks", "yes", "no", "digits", "point", "signs", "zeros", "keep", "shown"]) 3 ["marks"] [("yes", (.ref A.t_Kind_init_yes)), ("no", (.ref A.t_Kind_init_no)), ("digits", .non), ("point", (.bl false)), ("signs", (.str ⟨[45].toArray⟩)), ("zeros", (.bl true)), ("keep", .non), ("shown", (.int 0))] (fun us mv ws => gOf [(true, 0), (false, 0), (false, 1), (false, 2), (false, 3), (false, 4), (false, 5), (false, 6), (false, 7)] us mv ws) (by simp) (by simp) (fun r m z => gOf_vals r m z [(true, 0), (false, 0), (false, 1), (false, 2), (false, 3), (false, 4), (false, 5), (false, 6), (false, 7)]) (fun D doc pm an cdv ct us mv ws h1 h2 h3 => match us, mv, ws, h1, h2, h3 with | [_, _, _], [_, _, _, _, _, _, _, _], [_], _, _, _ => ⟨_, _, _, _, _, _, rfl, rfl, ⟨_, _, _, _, _, _, rfl, rfl, ⟨_, _, _, _, _, _, rfl, rfl, ⟨_, _, _, _, _, _, rfl, rfl, ⟨_, _, _, _, _, _, rfl, rfl, ⟨_, _, _, _, _, _, rfl, rfl, ⟨_, _, _, _, _, _, rfl, rfl, ⟨_, _, _, _, _, _, rfl, rfl, rfl⟩⟩⟩⟩⟩⟩⟩⟩)
  exact Cee.kwD (ok_Kind_init T) hb fun _ => (.cons ((T.t_Kind_init_yes.rep .nil)) (.cons ((T.t_Kind_init_no.rep .nil)) (.cons (.non) (.cons (.bl _) (.cons (.str _) (.cons (.bl _) (.cons (.non) (.cons (.int _) .nil))))))))
theorem ce_Kind_init_3_yes_no (T : Txt K mg base A) : Cee P w K A.cl mg base CX0 1 A.a_Kind_init ["yes", "no"] (kw2 3 2 sp_Kind_init [(false, 0), (true, 0), (true, 1), (false, 1), (false, 2), (false, 3), (false, 4), (false, 5), (false, 6)] [(.tup []), .non, (.bl false), (.str [45]), (.bl true), .non, (.int 0)]) := by
  obtain ⟨mv, hb⟩ := T.f_Kind_init.kbinds0 (ps := ["self", "name", "family", "marks", "yes", "no", "digits", "point", "signs", "zeros", "keep", "shown"]) 3 ["yes", "no"] [("marks", (.ref A.t_Kind_init_marks)), ("digits", .non), ("point", (.bl false)), ("signs", (.str ⟨[45].toArray⟩)), ("zeros", (.bl true)), ("keep", .non), ("shown", (.int 0))] (fun us mv ws => gOf [(false, 0), (true, 0), (true, 1), (false, 1), (false, 2), (false, 3), (false, 4), (false, 5), (false, 6)] us mv ws) (by simp) (by simp) (fun r m z => gOf_vals r m z [(false, 0), (true, 0), (true, 1), (false, 1), (false, 2), (false, 3), (false, 4), (false, 5), (false, 6)]) (fun D doc pm an cdv ct us mv ws h1 h2 h3 => match us, mv, ws, h1, h2, h3 with | [_, _, _], [_, _, _, _, _, _, _], [_, _], _, _, _ => ⟨_, _, _, _, _, _, rfl, rfl, ⟨_, _, _, _, _, _, rfl, rfl, ⟨_, _, _, _, _, _, rfl, rfl, ⟨_, _, _, _, _, _, rfl, rfl, ⟨_, _, _, _, _, _, rfl, rfl, ⟨_, _, _, _, _, _, rfl, rfl, ⟨_, _, _, _, _, _, rfl, rfl, rfl⟩⟩⟩⟩⟩⟩⟩)
  exact Cee.kwD (ok_Kind_init T) hb fun _ => (.cons ((T.t_Kind_init_marks.rep .nil)) (.cons (.non) (.cons (.bl _) (.cons (.str _) (.cons (.bl _) (.cons (.non) (.cons (.int _) .nil)))))))
theorem ce_Kind_init_3 (T : Txt K mg base A) : Cee P w K A.cl mg base CX0 1 A.a_Kind_init [] (kw2 3 0 sp_Kind_init [(false, 0), (false, 1), (false, 2), (false, 3), (false, 4), (false, 5), (false, 6), (false, 7), (false, 8)] [(.tup []), (.tup []), (.tup []), .non, (.bl false), (.str [45]), (.bl true), .non, (.int 0)]) := by
  obtain ⟨mv, hb⟩ := T.f_Kind_init.kbinds0 (ps := ["self", "name", "family", "marks", "yes", "no", "digits", "point", "signs", "zeros", "keep", "shown"]) 3 [] [("marks", (.ref A.t_Kind_init_marks)), ("yes", (.ref A.t_Kind_init_yes)), ("no", (.ref A.t_Kind_init_no)), ("digits", .non), ("point", (.bl false)), ("signs", (.str ⟨[45].toArray⟩)), ("zeros", (.bl true)), ("keep", .non), ("shown", (.int 0))] (fun us mv ws => gOf [(false, 0), (false, 1), (false, 2), (false, 3), (false, 4), (false, 5), (false, 6), (false, 7), (false, 8)] us mv ws) (by simp) (by simp) (fun r m z => gOf_vals r m z [(false, 0), (false, 1), (false, 2), (false, 3), (false, 4), (false, 5), (false, 6), (false, 7), (false, 8)]) (fun D doc pm an cdv ct us mv ws h1 h2 h3 => match us, mv, ws, h1, h2, h3 with | [_, _, _], [_, _, _, _, _, _, _, _, _], [], _, _, _ => ⟨_, _, _, _, _, _, rfl, rfl, ⟨_, _, _, _, _, _, rfl, rfl, ⟨_, _, _, _, _, _, rfl, rfl, ⟨_, _, _, _, _, _, rfl, rfl, ⟨_, _, _, _, _, _, rfl, rfl, ⟨_, _, _, _, _, _, rfl, rfl, ⟨_, _, _, _, _, _, rfl, rfl, ⟨_, _, _, _, _, _, rfl, rfl, ⟨_, _, _, _, _, _, rfl, rfl, rfl⟩⟩⟩⟩⟩⟩⟩⟩⟩)
  exact Cee.kwD (ok_Kind_init T) hb fun _ => (.cons ((T.t_Kind_init_marks.rep .nil)) (.cons ((T.t_Kind_init_yes.rep .nil)) (.cons ((T.t_Kind_init_no.rep .nil)) (.cons (.non) (.cons (.bl _) (.cons (.str _) (.cons (.bl _) (.cons (.non) (.cons (.int _) .nil)))))))))
theorem ok_is_betweenU (T : Txt K mg base A) : FnD P w K A.cl mg base 1 A.a_is_betweenU A.d_is_betweenU ["thing", "least", "most"] sp_is_betweenU := by
  have nd := sc_is_betweenU.nd
  refine fn_d (k := 0) (td := td_is_betweenU) T.f_is_betweenU sc_is_betweenU len_is_betweenU pure_is_betweenU fun cdv A' outer s H E hr => ?_
  exact (dss_one (ds_ret (de_and (de_callB (cd_isi isi_int) T.z_isinstance boot_isinstance_ (da_cons (dv 0) (da_cons (de_bltn T.z_int boot_int_ (v := .ty "int") rfl (fun _ => .ty "int")) da_nil))) (de_and (de_not (de_callB (cd_isi isi_bool) T.z_isinstance boot_isinstance_ (da_cons (dv 0) (da_cons (de_bltn T.z_bool boot_bool_ (v := .ty "bool") rfl (fun _ => .ty "bool")) da_nil)))) (de_one (de_chain od_le od_le (dv 1) (dv 0) (dv 2)))))))
theorem ok_is_word (T : Txt K mg base A) : FnD P w K A.cl mg base 1 A.a_is_word A.d_is_word ["thing"] sp_is_word := by
  have nd := sc_is_word.nd
  refine fn_d (k := 0) (td := td_is_word) T.f_is_word sc_is_word len_is_word pure_is_word fun cdv A' outer s H E hr => ?_
  exact (dss_cons (ds_if (PW.pt (dw_or (dt_not (dt_val (de_callB (cd_isi isi_str) T.z_isinstance boot_isinstance_ (da_cons (dv 0) (da_cons (de_bltn T.z_str boot_str_ (v := .ty "str") rfl (fun _ => .ty "str")) da_nil))))) (dw_or1 (dt_not (dt_chain od_le od_le de_int (de_callB cd_len T.z_len boot_len_ (da_cons (dv 0) da_nil)) de_int))))) (dss_one (ds_ret de_bl)) dss_nil)
      (dss_one (ds_ret (de_callB cd_all T.z_all boot_all_ (da_cons (de_fz (de_lc nd (di_str (dv 0)) (blkOk_by (own := [("sign", 1)]) (N := ["thing", "sign"]) (sc := defScope s_is_word) (by decide +kernel)) (fun _ _ _ _ _ => (do_name 1 nd)) (fun _ _ _ _ _ => dts_nil) (fun _ _ _ _ _ => (de_cmp od_in (dv 1) (de_gstr T.g_LETTERS) rfl)))) da_nil)))))
theorem ok_Kind_of_numbersX (T : Txt K mg base A) : G.FnOk P w K mg base (L2.CX P w) 3 A.a_Kind_of_numbersX A.d_Kind_of_numbersX ["name", "digits", "point", "signs", "zeros", "keep", "shown"] (lowSp K A.cl sp_Kind_of_numbersX) := by
  have nd := sc_Kind_of_numbersX.nd
  refine fn_dDX (k := 2) (td := td_Kind_of_numbersX) T.f_Kind_of_numbersX sc_Kind_of_numbersX len_Kind_of_numbersX pure_Kind_of_numbersX fun cdv A' outer s H E F0 Ex W hr tkX fw => ?_
  exact (dss_cons (ds_if (dt_not (dt_val (de_call (ok_is_word T) (hr.mono (by decide)) T.m_is_word T.f_is_word.kp T.b_is_word .nil (fun _ => .nil) (da_cons (dv 0) da_nil)))) (dss_one (ds_raise tkX fw T.xo_BadKind T.xi_BadKind T.xt_BadKind T.xn_BadKind (xk_BadKind T) (hr.mono (by decide)) T.b_BadKind_init T.m_BadKind (da_cons (de_str (l := [110, 97, 109, 101])) da_nil))) dss_nil)
      (dss_cons (ds_if (PW.pt (dw_and (dt_cmp od_notN (dv 1) de_non (nomark _)) (dw_and1 (dt_not (dt_val (de_call (ok_is_betweenU T) (hr.mono (by decide)) T.m_is_betweenU T.f_is_betweenU.kp T.b_is_betweenU .nil (fun _ => .nil) (da_cons (dv 1) (da_cons de_int (da_cons (de_gint T.g_MOST_DIGITS) da_nil))))))))) (dss_one (ds_raise tkX fw T.xo_BadKind T.xi_BadKind T.xt_BadKind T.xn_BadKind (xk_BadKind T) (hr.mono (by decide)) T.b_BadKind_init T.m_BadKind (da_cons (de_str (l := [100, 105, 103, 105, 116, 115])) da_nil))) dss_nil)
      (dss_cons (ds_if (dt_not (dt_val (de_callB (cd_isi isi_bool) T.z_isinstance boot_isinstance_ (da_cons (dv 2) (da_cons (de_bltn T.z_bool boot_bool_ (v := .ty "bool") rfl (fun _ => .ty "bool")) da_nil))))) (dss_one (ds_raise tkX fw T.xo_BadKind T.xi_BadKind T.xt_BadKind T.xn_BadKind (xk_BadKind T) (hr.mono (by decide)) T.b_BadKind_init T.m_BadKind (da_cons (de_str (l := [112, 111, 105, 110, 116])) da_nil))) dss_nil)
      (dss_cons (ds_if (PW.pt (dw_or (dt_not (dt_val (de_callB (cd_isi isi_str) T.z_isinstance boot_isinstance_ (da_cons (dv 3) (da_cons (de_bltn T.z_str boot_str_ (v := .ty "str") rfl (fun _ => .ty "str")) da_nil))))) (dw_or1 (dt_cmp od_notin (dv 3) (de_tup (da_cons (de_str (l := [])) (da_cons (de_str (l := [45])) (da_cons (de_str (l := [43, 45])) da_nil)))) rfl)))) (dss_one (ds_raise tkX fw T.xo_BadKind T.xi_BadKind T.xt_BadKind T.xn_BadKind (xk_BadKind T) (hr.mono (by decide)) T.b_BadKind_init T.m_BadKind (da_cons (de_str (l := [115, 105, 103, 110, 115])) da_nil))) dss_nil)
      (dss_cons (ds_if (dt_not (dt_val (de_callB (cd_isi isi_bool) T.z_isinstance boot_isinstance_ (da_cons (dv 4) (da_cons (de_bltn T.z_bool boot_bool_ (v := .ty "bool") rfl (fun _ => .ty "bool")) da_nil))))) (dss_one (ds_raise tkX fw T.xo_BadKind T.xi_BadKind T.xt_BadKind T.xn_BadKind (xk_BadKind T) (hr.mono (by decide)) T.b_BadKind_init T.m_BadKind (da_cons (de_str (l := [122, 101, 114, 111, 115])) da_nil))) dss_nil)
      (dss_cons (ds_if (PW.pt (dw_and (dt_cmp od_notN (dv 5) de_non (nomark _)) (dw_and1 (dt_not (dt_val (de_call (ok_is_betweenU T) (hr.mono (by decide)) T.m_is_betweenU T.f_is_betweenU.kp T.b_is_betweenU .nil (fun _ => .nil) (da_cons (dv 5) (da_cons de_int (da_cons (de_gint T.g_MOST_DIGITS) da_nil))))))))) (dss_one (ds_raise tkX fw T.xo_BadKind T.xi_BadKind T.xt_BadKind T.xn_BadKind (xk_BadKind T) (hr.mono (by decide)) T.b_BadKind_init T.m_BadKind (da_cons (de_str (l := [107, 101, 101, 112])) da_nil))) dss_nil)
      (dss_cons (ds_if (PW.pt (dw_or (dt_not (dt_val (de_call (ok_is_betweenU T) (hr.mono (by decide)) T.m_is_betweenU T.f_is_betweenU.kp T.b_is_betweenU .nil (fun _ => .nil) (da_cons (dv 6) (da_cons de_int (da_cons (de_gint T.g_MOST_SHOWN) da_nil)))))) (dw_or1 (PW.pt (dw_and (dt_cmp od_gt (dv 6) de_int (nomark _)) (dw_and1 (dt_not (dt_val (dv 2))))))))) (dss_one (ds_raise tkX fw T.xo_BadKind T.xi_BadKind T.xt_BadKind T.xn_BadKind (xk_BadKind T) (hr.mono (by decide)) T.b_BadKind_init T.m_BadKind (da_cons (de_str (l := [115, 104, 111, 119, 110])) da_nil))) dss_nil)
      (dss_one (ds_ret (de_make (ce_Kind_init_3_digits_point_signs_zeros_keep_shown T) T.h_Kind_init (hr.mono (by decide)) pass0 T.m_Kind (da_cons (dv 0) (da_cons (de_str (l := [110, 117, 109, 98, 101, 114])) da_nil)) (dk_cons (dv 1) (dk_cons (dv 2) (dk_cons (dv 3) (dk_cons (dv 4) (dk_cons (dv 5) (dk_cons (dv 6) dk_nil))))))))))))))))
theorem ce_Kind_of_numbersX_1_digits_point_signs_keep_shown (T : Txt K mg base A) : Cee P w K A.cl mg base (L2.CX P w) 3 A.a_Kind_of_numbersX ["digits", "point", "signs", "keep", "shown"] (kw2 1 5 sp_Kind_of_numbersX [(true, 0), (true, 1), (true, 2), (false, 0), (true, 3), (true, 4)] [(.bl true)]) := by
  obtain ⟨mv, hb⟩ := T.f_Kind_of_numbersX.kbinds0 (ps := ["name", "digits", "point", "signs", "zeros", "keep", "shown"]) 1 ["digits", "point", "signs", "keep", "shown"] [("zeros", (.bl true))] (fun us mv ws => gOf [(true, 0), (true, 1), (true, 2), (false, 0), (true, 3), (true, 4)] us mv ws) (by simp) (by simp) (fun r m z => gOf_vals r m z [(true, 0), (true, 1), (true, 2), (false, 0), (true, 3), (true, 4)]) (fun D doc pm an cdv ct us mv ws h1 h2 h3 => match us, mv, ws, h1, h2, h3 with | [_], [_], [_, _, _, _, _], _, _, _ => ⟨_, _, _, _, _, _, rfl, rfl, rfl⟩)
  exact Cee.kwD (ok_Kind_of_numbersX T) hb fun _ => (.cons (.bl _) .nil)
theorem ce_Kind_of_numbersX_1_shown (T : Txt K mg base A) : Cee P w K A.cl mg base (L2.CX P w) 3 A.a_Kind_of_numbersX ["shown"] (kw2 1 1 sp_Kind_of_numbersX [(false, 0), (false, 1), (false, 2), (false, 3), (false, 4), (true, 0)] [.non, (.bl false), (.str [45]), (.bl true), .non]) := by
  obtain ⟨mv, hb⟩ := T.f_Kind_of_numbersX.kbinds0 (ps := ["name", "digits", "point", "signs", "zeros", "keep", "shown"]) 1 ["shown"] [("digits", .non), ("point", (.bl false)), ("signs", (.str ⟨[45].toArray⟩)), ("zeros", (.bl true)), ("keep", .non)] (fun us mv ws => gOf [(false, 0), (false, 1), (false, 2), (false, 3), (false, 4), (true, 0)] us mv ws) (by simp) (by simp) (fun r m z => gOf_vals r m z [(false, 0), (false, 1), (false, 2), (false, 3), (false, 4), (true, 0)]) (fun D doc pm an cdv ct us mv ws h1 h2 h3 => match us, mv, ws, h1, h2, h3 with | [_], [_, _, _, _, _], [_], _, _, _ => ⟨_, _, _, _, _, _, rfl, rfl, ⟨_, _, _, _, _, _, rfl, rfl, ⟨_, _, _, _, _, _, rfl, rfl, ⟨_, _, _, _, _, _, rfl, rfl, ⟨_, _, _, _, _, _, rfl, rfl, rfl⟩⟩⟩⟩⟩)
  exact Cee.kwD (ok_Kind_of_numbersX T) hb fun _ => (.cons (.non) (.cons (.bl _) (.cons (.str _) (.cons (.bl _) (.cons (.non) .nil)))))
theorem ce_Kind_of_numbersX_1_shown_point (T : Txt K mg base A) : Cee P w K A.cl mg base (L2.CX P w) 3 A.a_Kind_of_numbersX ["shown", "point"] (kw2 1 2 sp_Kind_of_numbersX [(false, 0), (true, 1), (false, 1), (false, 2), (false, 3), (true, 0)] [.non, (.str [45]), (.bl true), .non]) := by
  obtain ⟨mv, hb⟩ := T.f_Kind_of_numbersX.kbinds0 (ps := ["name", "digits", "point", "signs", "zeros", "keep", "shown"]) 1 ["shown", "point"] [("digits", .non), ("signs", (.str ⟨[45].toArray⟩)), ("zeros", (.bl true)), ("keep", .non)] (fun us mv ws => gOf [(false, 0), (true, 1), (false, 1), (false, 2), (false, 3), (true, 0)] us mv ws) (by simp) (by simp) (fun r m z => gOf_vals r m z [(false, 0), (true, 1), (false, 1), (false, 2), (false, 3), (true, 0)]) (fun D doc pm an cdv ct us mv ws h1 h2 h3 => match us, mv, ws, h1, h2, h3 with | [_], [_, _, _, _], [_, _], _, _, _ => ⟨_, _, _, _, _, _, rfl, rfl, ⟨_, _, _, _, _, _, rfl, rfl, ⟨_, _, _, _, _, _, rfl, rfl, ⟨_, _, _, _, _, _, rfl, rfl, rfl⟩⟩⟩⟩)
  exact Cee.kwD (ok_Kind_of_numbersX T) hb fun _ => (.cons (.non) (.cons (.str _) (.cons (.bl _) (.cons (.non) .nil))))
theorem ce_Kind_of_numbersX_1_keep_shown_point (T : Txt K mg base A) : Cee P w K A.cl mg base (L2.CX P w) 3 A.a_Kind_of_numbersX ["keep", "shown", "point"] (kw2 1 3 sp_Kind_of_numbersX [(false, 0), (true, 2), (false, 1), (false, 2), (true, 0), (true, 1)] [.non, (.str [45]), (.bl true)]) := by
  obtain ⟨mv, hb⟩ := T.f_Kind_of_numbersX.kbinds0 (ps := ["name", "digits", "point", "signs", "zeros", "keep", "shown"]) 1 ["keep", "shown", "point"] [("digits", .non), ("signs", (.str ⟨[45].toArray⟩)), ("zeros", (.bl true))] (fun us mv ws => gOf [(false, 0), (true, 2), (false, 1), (false, 2), (true, 0), (true, 1)] us mv ws) (by simp) (by simp) (fun r m z => gOf_vals r m z [(false, 0), (true, 2), (false, 1), (false, 2), (true, 0), (true, 1)]) (fun D doc pm an cdv ct us mv ws h1 h2 h3 => match us, mv, ws, h1, h2, h3 with | [_], [_, _, _], [_, _, _], _, _, _ => ⟨_, _, _, _, _, _, rfl, rfl, ⟨_, _, _, _, _, _, rfl, rfl, ⟨_, _, _, _, _, _, rfl, rfl, rfl⟩⟩⟩)
  exact Cee.kwD (ok_Kind_of_numbersX T) hb fun _ => (.cons (.non) (.cons (.str _) (.cons (.bl _) .nil)))
theorem ce_Kind_of_numbersX_1_zeros_keep_shown (T : Txt K mg base A) : Cee P w K A.cl mg base (L2.CX P w) 3 A.a_Kind_of_numbersX ["zeros", "keep", "shown"] (kw2 1 3 sp_Kind_of_numbersX [(false, 0), (false, 1), (false, 2), (true, 0), (true, 1), (true, 2)] [.non, (.bl false), (.str [45])]) := by
  obtain ⟨mv, hb⟩ := T.f_Kind_of_numbersX.kbinds0 (ps := ["name", "digits", "point", "signs", "zeros", "keep", "shown"]) 1 ["zeros", "keep", "shown"] [("digits", .non), ("point", (.bl false)), ("signs", (.str ⟨[45].toArray⟩))] (fun us mv ws => gOf [(false, 0), (false, 1), (false, 2), (true, 0), (true, 1), (true, 2)] us mv ws) (by simp) (by simp) (fun r m z => gOf_vals r m z [(false, 0), (false, 1), (false, 2), (true, 0), (true, 1), (true, 2)]) (fun D doc pm an cdv ct us mv ws h1 h2 h3 => match us, mv, ws, h1, h2, h3 with | [_], [_, _, _], [_, _, _], _, _, _ => ⟨_, _, _, _, _, _, rfl, rfl, ⟨_, _, _, _, _, _, rfl, rfl, ⟨_, _, _, _, _, _, rfl, rfl, rfl⟩⟩⟩)
  exact Cee.kwD (ok_Kind_of_numbersX T) hb fun _ => (.cons (.non) (.cons (.bl _) (.cons (.str _) .nil)))
theorem ce_Kind_of_numbersX_1_signs_zeros_shown (T : Txt K mg base A) : Cee P w K A.cl mg base (L2.CX P w) 3 A.a_Kind_of_numbersX ["signs", "zeros", "shown"] (kw2 1 3 sp_Kind_of_numbersX [(false, 0), (false, 1), (true, 0), (true, 1), (false, 2), (true, 2)] [.non, (.bl false), .non]) := by
  obtain ⟨mv, hb⟩ := T.f_Kind_of_numbersX.kbinds0 (ps := ["name", "digits", "point", "signs", "zeros", "keep", "shown"]) 1 ["signs", "zeros", "shown"] [("digits", .non), ("point", (.bl false)), ("keep", .non)] (fun us mv ws => gOf [(false, 0), (false, 1), (true, 0), (true, 1), (false, 2), (true, 2)] us mv ws) (by simp) (by simp) (fun r m z => gOf_vals r m z [(false, 0), (false, 1), (true, 0), (true, 1), (false, 2), (true, 2)]) (fun D doc pm an cdv ct us mv ws h1 h2 h3 => match us, mv, ws, h1, h2, h3 with | [_], [_, _, _], [_, _, _], _, _, _ => ⟨_, _, _, _, _, _, rfl, rfl, ⟨_, _, _, _, _, _, rfl, rfl, ⟨_, _, _, _, _, _, rfl, rfl, rfl⟩⟩⟩)
  exact Cee.kwD (ok_Kind_of_numbersX T) hb fun _ => (.cons (.non) (.cons (.bl _) (.cons (.non) .nil)))
theorem ce_Kind_of_numbersX_1_point_signs_keep (T : Txt K mg base A) : Cee P w K A.cl mg base (L2.CX P w) 3 A.a_Kind_of_numbersX ["point", "signs", "keep"] (kw2 1 3 sp_Kind_of_numbersX [(false, 0), (true, 0), (true, 1), (false, 1), (true, 2), (false, 2)] [.non, (.bl true), (.int 0)]) := by
  obtain ⟨mv, hb⟩ := T.f_Kind_of_numbersX.kbinds0 (ps := ["name", "digits", "point", "signs", "zeros", "keep", "shown"]) 1 ["point", "signs", "keep"] [("digits", .non), ("zeros", (.bl true)), ("shown", (.int 0))] (fun us mv ws => gOf [(false, 0), (true, 0), (true, 1), (false, 1), (true, 2), (false, 2)] us mv ws) (by simp) (by simp) (fun r m z => gOf_vals r m z [(false, 0), (true, 0), (true, 1), (false, 1), (true, 2), (false, 2)]) (fun D doc pm an cdv ct us mv ws h1 h2 h3 => match us, mv, ws, h1, h2, h3 with | [_], [_, _, _], [_, _, _], _, _, _ => ⟨_, _, _, _, _, _, rfl, rfl, ⟨_, _, _, _, _, _, rfl, rfl, ⟨_, _, _, _, _, _, rfl, rfl, rfl⟩⟩⟩)
  exact Cee.kwD (ok_Kind_of_numbersX T) hb fun _ => (.cons (.non) (.cons (.bl _) (.cons (.int _) .nil)))
theorem ce_Kind_of_numbersX_1_digits_point_signs (T : Txt K mg base A) : Cee P w K A.cl mg base (L2.CX P w) 3 A.a_Kind_of_numbersX ["digits", "point", "signs"] (kw2 1 3 sp_Kind_of_numbersX [(true, 0), (true, 1), (true, 2), (false, 0), (false, 1), (false, 2)] [(.bl true), .non, (.int 0)]) := by
  obtain ⟨mv, hb⟩ := T.f_Kind_of_numbersX.kbinds0 (ps := ["name", "digits", "point", "signs", "zeros", "keep", "shown"]) 1 ["digits", "point", "signs"] [("zeros", (.bl true)), ("keep", .non), ("shown", (.int 0))] (fun us mv ws => gOf [(true, 0), (true, 1), (true, 2), (false, 0), (false, 1), (false, 2)] us mv ws) (by simp) (by simp) (fun r m z => gOf_vals r m z [(true, 0), (true, 1), (true, 2), (false, 0), (false, 1), (false, 2)]) (fun D doc pm an cdv ct us mv ws h1 h2 h3 => match us, mv, ws, h1, h2, h3 with | [_], [_, _, _], [_, _, _], _, _, _ => ⟨_, _, _, _, _, _, rfl, rfl, ⟨_, _, _, _, _, _, rfl, rfl, ⟨_, _, _, _, _, _, rfl, rfl, rfl⟩⟩⟩)
  exact Cee.kwD (ok_Kind_of_numbersX T) hb fun _ => (.cons (.bl _) (.cons (.non) (.cons (.int _) .nil)))
theorem ce_Kind_of_numbersX_1_digits_shown (T : Txt K mg base A) : Cee P w K A.cl mg base (L2.CX P w) 3 A.a_Kind_of_numbersX ["digits", "shown"] (kw2 1 2 sp_Kind_of_numbersX [(true, 0), (false, 0), (false, 1), (false, 2), (false, 3), (true, 1)] [(.bl false), (.str [45]), (.bl true), .non]) := by
  obtain ⟨mv, hb⟩ := T.f_Kind_of_numbersX.kbinds0 (ps := ["name", "digits", "point", "signs", "zeros", "keep", "shown"]) 1 ["digits", "shown"] [("point", (.bl false)), ("signs", (.str ⟨[45].toArray⟩)), ("zeros", (.bl true)), ("keep", .non)] (fun us mv ws => gOf [(true, 0), (false, 0), (false, 1), (false, 2), (false, 3), (true, 1)] us mv ws) (by simp) (by simp) (fun r m z => gOf_vals r m z [(true, 0), (false, 0), (false, 1), (false, 2), (false, 3), (true, 1)]) (fun D doc pm an cdv ct us mv ws h1 h2 h3 => match us, mv, ws, h1, h2, h3 with | [_], [_, _, _, _], [_, _], _, _, _ => ⟨_, _, _, _, _, _, rfl, rfl, ⟨_, _, _, _, _, _, rfl, rfl, ⟨_, _, _, _, _, _, rfl, rfl, ⟨_, _, _, _, _, _, rfl, rfl, rfl⟩⟩⟩⟩)
  exact Cee.kwD (ok_Kind_of_numbersX T) hb fun _ => (.cons (.bl _) (.cons (.str _) (.cons (.bl _) (.cons (.non) .nil))))
theorem ok_l_take (T : Txt K mg base A) : FnD P w K A.cl mg base 1 A.a_l_take A.d_l_take ["_law_bag_here", "_law_many"] sp_l_take := by
  have nd := sc_l_take.nd
  refine fn_d (k := 0) (td := td_l_take) T.f_l_take sc_l_take len_l_take pure_l_take fun cdv A' outer s H E hr => ?_
  exact (dss_cons (ds_if (dt_cmp od_gt (de_ix (dv 0) de_int) de_int (nomark _)) (dss_cons (ds_set 2 nd (de_op od_mod (de_callTy cd_int T.z_int boot_int_ (da_cons (de_ix (dv 0) de_int) da_nil)) (dv 1)))
      (dss_cons (ds_asg (de_op od_fdiv (de_ix (dv 0) de_int) (dv 1)) (dg_sub (dv 0) de_int st_list))
      (dss_one (ds_ret (dv 2))))) dss_nil)
      (dss_cons (ds_asg (de_op od_add (de_ix (dv 0) de_int) de_int) (dg_sub (dv 0) de_int st_list))
      (dss_cons (ds_set 3 nd (de_op od_mod (de_callTy cd_int T.z_int boot_int_ (da_cons (de_op od_pow (de_op od_add (de_ix (dv 0) de_int) (de_op od_mul de_int (de_ix (dv 0) de_int))) de_int) da_nil)) de_int))
      (dss_cons (ds_set 3 nd (de_op od_mod (de_callTy cd_int T.z_int boot_int_ (da_cons (de_op od_pow (de_op od_add (dv 3) (de_op od_mul de_int (de_ix (dv 0) de_int))) de_int) da_nil)) de_int))
      (dss_one (ds_ret (de_op od_mod (de_callTy cd_int T.z_int boot_int_ (da_cons (de_op od_fdiv (dv 3) de_int) da_nil)) (dv 1))))))))
theorem ok_l_of (T : Txt K mg base A) : FnD P w K A.cl mg base 2 A.a_l_of A.d_l_of ["_law_bag_here", "_law_some"] sp_l_of := by
  have nd := sc_l_of.nd
  refine fn_d (k := 1) (td := td_l_of) T.f_l_of sc_l_of len_l_of pure_l_of fun cdv A' outer s H E hr => ?_
  exact (dss_one (ds_ret (de_ix (dv 1) (de_call (ok_l_take T) (hr.mono (by decide)) T.m_l_take T.f_l_take.kp T.b_l_take .nil (fun _ => .nil) (da_cons (dv 0) (da_cons (de_callB cd_len T.z_len boot_len_ (da_cons (dv 1) da_nil)) da_nil))))))
theorem ok_l_no_count (T : Txt K mg base A) : FnD P w K A.cl mg base 3 A.a_l_no_count A.d_l_no_count ["_law_bag_here"] sp_l_no_count := by
  have nd := sc_l_no_count.nd
  refine fn_d (k := 2) (td := td_l_no_count) T.f_l_no_count sc_l_no_count len_l_no_count pure_l_no_count fun cdv A' outer s H E hr => ?_
  exact (dss_one (ds_ret (de_call (ok_l_of T) (hr.mono (by decide)) T.m_l_of T.f_l_of.kp T.b_l_of .nil (fun _ => .nil) (da_cons (dv 0) (da_cons (de_lst (da_cons de_int (da_cons (de_un ud_neg de_int) (da_cons de_int (da_cons (de_op od_pow de_int de_int) (da_cons (de_str (l := [51])) (da_cons de_bl (da_cons (de_tup (da_cons de_int da_nil)) (da_cons de_bl da_nil))))))))) da_nil)))))
theorem ok_l_no_word (T : Txt K mg base A) : FnD P w K A.cl mg base 3 A.a_l_no_word A.d_l_no_word ["_law_bag_here"] sp_l_no_word := by
  have nd := sc_l_no_word.nd
  refine fn_d (k := 2) (td := td_l_no_word) T.f_l_no_word sc_l_no_word len_l_no_word pure_l_no_word fun cdv A' outer s H E hr => ?_
  exact (dss_one (ds_ret (de_call (ok_l_of T) (hr.mono (by decide)) T.m_l_of T.f_l_of.kp T.b_l_of .nil (fun _ => .nil) (da_cons (dv 0) (da_cons (de_lst (da_cons (de_str (l := [])) (da_cons (de_str (l := [97, 98, 99, 100, 101, 102, 103, 104, 105])) (da_cons (de_str (l := [65])) (da_cons (de_str (l := [97, 49])) (da_cons (de_str (l := [97, 32, 98])) (da_cons de_non (da_cons de_int (da_cons (de_tup (da_cons (de_str (l := [97])) da_nil)) (da_cons (de_op od_mul (de_str (l := [97])) de_int) (da_cons (de_str (l := [122, 95])) (da_cons (de_str (l := [32, 97])) (da_cons (de_str (l := [97, 10])) da_nil))))))))))))) da_nil)))))
theorem ok_l_numbers_right (T : Txt K mg base A) : FnD P w K A.cl mg base 6 A.a_l_numbers_right A.d_l_numbers_right ["_law_bag_here", "_law_label"] sp_l_numbers_right := by
  have nd := sc_l_numbers_right.nd
  refine fn_dL (k := 5) (td := td_l_numbers_right) T.f_l_numbers_right T.lc_l_numbers_right sc_l_numbers_right len_l_numbers_right pure_l_numbers_right fun cdv A' outer s H E hcv hr => ?_
  exact (dss_cons (ds_asg (de_tup (da_cons (de_call (ok_l_no_word T) (hr.mono (by decide)) T.m_l_no_word T.f_l_no_word.kp T.b_l_no_word .nil (fun _ => .nil) (da_cons (dv 0) da_nil)) (da_cons (de_call (ok_l_no_count T) (hr.mono (by decide)) T.m_l_no_count T.f_l_no_count.kp T.b_l_no_count .nil (fun _ => .nil) (da_cons (dv 0) da_nil)) da_nil))) (dg_tup (dgs_cons (dg_name 2 nd) (dgs_cons (dg_name 3 nd) dgs_nil))))
      (dss_cons (ds_asg (de_tup (da_cons (de_call (ok_l_of T) (hr.mono (by decide)) T.m_l_of T.f_l_of.kp T.b_l_of .nil (fun _ => .nil) (da_cons (dv 0) (da_cons (de_lst (da_cons de_int (da_cons de_int (da_cons de_non (da_cons (de_str (l := [84, 114, 117, 101])) da_nil))))) da_nil))) (da_cons (de_call (ok_l_of T) (hr.mono (by decide)) T.m_l_of T.f_l_of.kp T.b_l_of .nil (fun _ => .nil) (da_cons (dv 0) (da_cons (de_lst (da_cons (de_str (l := [43])) (da_cons (de_str (l := [45, 43])) (da_cons de_non (da_cons de_int (da_cons (de_tup (da_cons (de_str (l := [])) da_nil)) (da_cons (de_str (l := [43, 45, 43])) da_nil))))))) da_nil))) da_nil))) (dg_tup (dgs_cons (dg_name 4 nd) (dgs_cons (dg_name 5 nd) dgs_nil))))
      (dss_cons (ds_set 6 nd (de_call (ok_l_of T) (hr.mono (by decide)) T.m_l_of T.f_l_of.kp T.b_l_of .nil (fun _ => .nil) (da_cons (dv 0) (da_cons (de_lst (da_cons (de_un ud_neg de_int) (da_cons de_int (da_cons (de_str (l := [49])) (da_cons de_non (da_cons de_bl (da_cons (de_op od_pow de_int de_int) da_nil))))))) da_nil))))
      (dss_cons (ds_if (dt_cmp (od_ne hr) (de_lam (k := 3) T.f_l_part sc_l_part (.inl rfl) rfl T.m_l_part T.kp_l_part T.b_l_part T.tb_l_numbers_right hcv T.lp_l_numbers_right rfl (hr.mono (by decide)) (show LamX.LamS (defScope s_l_numbers_right) _ from LamX.lamS_by (by decide +kernel)) rfl (fun _ _ _ _ _ => rfl) (fun cdg s H F0 f tl act => lm_l_part T act) (fun A outer s H E f c' F1 Ex W hr tkX fw => (de_smethX tkX fw (ce_Kind_of_numbersX_1_digits_shown T) (hr.mono (by decide)) T.m_Kind T.r_Kind T.h_Kind_of_numbersX (da_cons (dv 2) da_nil) (dk_cons (dv 3) (dk_cons de_int dk_nil))))) (de_str (l := [110, 97, 109, 101])) (nomark _)) (dss_one (ds_ret de_bl)) dss_nil)
      (dss_cons (ds_if (dt_cmp (od_ne hr) (de_lam (k := 3) T.f_l_part sc_l_part (.inl rfl) rfl T.m_l_part T.kp_l_part T.b_l_part T.tb_l_numbers_right hcv T.lp_l_numbers_right rfl (hr.mono (by decide)) (show LamX.LamS (defScope s_l_numbers_right) _ from LamX.lamS_by (by decide +kernel)) rfl (fun _ _ _ _ _ => rfl) (fun cdg s H F0 f tl act => lm_l_part T act) (fun A outer s H E f c' F1 Ex W hr tkX fw => (de_smethX tkX fw (ce_Kind_of_numbersX_1_digits_point_signs T) (hr.mono (by decide)) T.m_Kind T.r_Kind T.h_Kind_of_numbersX (da_cons (dv 1) da_nil) (dk_cons (dv 3) (dk_cons (dv 4) (dk_cons (dv 5) dk_nil)))))) (de_str (l := [100, 105, 103, 105, 116, 115])) (nomark _)) (dss_one (ds_ret de_bl)) dss_nil)
      (dss_cons (ds_if (dt_cmp (od_ne hr) (de_lam (k := 3) T.f_l_part sc_l_part (.inl rfl) rfl T.m_l_part T.kp_l_part T.b_l_part T.tb_l_numbers_right hcv T.lp_l_numbers_right rfl (hr.mono (by decide)) (show LamX.LamS (defScope s_l_numbers_right) _ from LamX.lamS_by (by decide +kernel)) rfl (fun _ _ _ _ _ => rfl) (fun cdg s H F0 f tl act => lm_l_part T act) (fun A outer s H E f c' F1 Ex W hr tkX fw => (de_smethX tkX fw (ce_Kind_of_numbersX_1_point_signs_keep T) (hr.mono (by decide)) T.m_Kind T.r_Kind T.h_Kind_of_numbersX (da_cons (dv 1) da_nil) (dk_cons (dv 4) (dk_cons (dv 5) (dk_cons (dv 3) dk_nil)))))) (de_str (l := [112, 111, 105, 110, 116])) (nomark _)) (dss_one (ds_ret de_bl)) dss_nil)
      (dss_cons (ds_if (dt_cmp (od_ne hr) (de_lam (k := 3) T.f_l_part sc_l_part (.inl rfl) rfl T.m_l_part T.kp_l_part T.b_l_part T.tb_l_numbers_right hcv T.lp_l_numbers_right rfl (hr.mono (by decide)) (show LamX.LamS (defScope s_l_numbers_right) _ from LamX.lamS_by (by decide +kernel)) rfl (fun _ _ _ _ _ => rfl) (fun cdg s H F0 f tl act => lm_l_part T act) (fun A outer s H E f c' F1 Ex W hr tkX fw => (de_smethX tkX fw (ce_Kind_of_numbersX_1_signs_zeros_shown T) (hr.mono (by decide)) T.m_Kind T.r_Kind T.h_Kind_of_numbersX (da_cons (dv 1) da_nil) (dk_cons (dv 5) (dk_cons (dv 4) (dk_cons (dv 6) dk_nil)))))) (de_str (l := [115, 105, 103, 110, 115])) (nomark _)) (dss_one (ds_ret de_bl)) dss_nil)
      (dss_cons (ds_if (dt_cmp (od_ne hr) (de_lam (k := 3) T.f_l_part sc_l_part (.inl rfl) rfl T.m_l_part T.kp_l_part T.b_l_part T.tb_l_numbers_right hcv T.lp_l_numbers_right rfl (hr.mono (by decide)) (show LamX.LamS (defScope s_l_numbers_right) _ from LamX.lamS_by (by decide +kernel)) rfl (fun _ _ _ _ _ => rfl) (fun cdg s H F0 f tl act => lm_l_part T act) (fun A outer s H E f c' F1 Ex W hr tkX fw => (de_smethX tkX fw (ce_Kind_of_numbersX_1_zeros_keep_shown T) (hr.mono (by decide)) T.m_Kind T.r_Kind T.h_Kind_of_numbersX (da_cons (dv 1) da_nil) (dk_cons (dv 4) (dk_cons (dv 3) (dk_cons (dv 6) dk_nil)))))) (de_str (l := [122, 101, 114, 111, 115])) (nomark _)) (dss_one (ds_ret de_bl)) dss_nil)
      (dss_cons (ds_if (dt_cmp (od_ne hr) (de_lam (k := 3) T.f_l_part sc_l_part (.inl rfl) rfl T.m_l_part T.kp_l_part T.b_l_part T.tb_l_numbers_right hcv T.lp_l_numbers_right rfl (hr.mono (by decide)) (show LamX.LamS (defScope s_l_numbers_right) _ from LamX.lamS_by (by decide +kernel)) rfl (fun _ _ _ _ _ => rfl) (fun cdg s H F0 f tl act => lm_l_part T act) (fun A outer s H E f c' F1 Ex W hr tkX fw => (de_smethX tkX fw (ce_Kind_of_numbersX_1_keep_shown_point T) (hr.mono (by decide)) T.m_Kind T.r_Kind T.h_Kind_of_numbersX (da_cons (dv 1) da_nil) (dk_cons (dv 3) (dk_cons (dv 6) (dk_cons de_bl dk_nil)))))) (de_str (l := [107, 101, 101, 112])) (nomark _)) (dss_one (ds_ret de_bl)) dss_nil)
      (dss_cons (ds_if (dt_cmp (od_ne hr) (de_lam (k := 3) T.f_l_part sc_l_part (.inl rfl) rfl T.m_l_part T.kp_l_part T.b_l_part T.tb_l_numbers_right hcv T.lp_l_numbers_right rfl (hr.mono (by decide)) (show LamX.LamS (defScope s_l_numbers_right) _ from LamX.lamS_by (by decide +kernel)) rfl (fun _ _ _ _ _ => rfl) (fun cdg s H F0 f tl act => lm_l_part T act) (fun A outer s H E f c' F1 Ex W hr tkX fw => (de_smethX tkX fw (ce_Kind_of_numbersX_1_shown_point T) (hr.mono (by decide)) T.m_Kind T.r_Kind T.h_Kind_of_numbersX (da_cons (dv 1) da_nil) (dk_cons (dv 6) (dk_cons de_bl dk_nil))))) (de_str (l := [115, 104, 111, 119, 110])) (nomark _)) (dss_one (ds_ret de_bl)) dss_nil)
      (dss_cons (ds_set 7 nd (de_op od_add de_int (de_call (ok_l_take T) (hr.mono (by decide)) T.m_l_take T.f_l_take.kp T.b_l_take .nil (fun _ => .nil) (da_cons (dv 0) (da_cons de_int da_nil)))))
      (dss_cons (ds_if (dt_cmp (od_ne hr) (de_lam (k := 3) T.f_l_part sc_l_part (.inl rfl) rfl T.m_l_part T.kp_l_part T.b_l_part T.tb_l_numbers_right hcv T.lp_l_numbers_right rfl (hr.mono (by decide)) (show LamX.LamS (defScope s_l_numbers_right) _ from LamX.lamS_by (by decide +kernel)) rfl (fun _ _ _ _ _ => rfl) (fun cdg s H F0 f tl act => lm_l_part T act) (fun A outer s H E f c' F1 Ex W hr tkX fw => (de_smethX tkX fw (ce_Kind_of_numbersX_1_shown T) (hr.mono (by decide)) T.m_Kind T.r_Kind T.h_Kind_of_numbersX (da_cons (dv 1) da_nil) (dk_cons (dv 7) dk_nil)))) (de_str (l := [115, 104, 111, 119, 110])) (nomark _)) (dss_one (ds_ret de_bl)) dss_nil)
      (ds_lamSet 8 nd T.tb_l_numbers_right hcv T.lp_l_numbers_right rfl (show LamX.LamS (defScope s_l_numbers_right) _ from LamX.lamS_by (by decide +kernel)) rfl (fun f_l_right _ _ _ _ _ hfO hcO =>
      (dss_one (ds_ret (de_cmp (od_eq hr) (de_lamV (k := 3) 8 T.f_l_part sc_l_part (.inl rfl) rfl T.m_l_part T.kp_l_part T.b_l_part hfO hcO (hr.mono (by decide)) (show LamX.LamS (defScope s_l_numbers_right) _ from LamX.lamS_by (by decide +kernel)) (fun _ _ _ _ _ => rfl) (fun cdg s H F0 f tl act => lm_l_part T act) (fun A outer s H E f c' F1 Ex W hr tkX fw => (de_smethX tkX fw (ce_Kind_of_numbersX_1_digits_point_signs_keep_shown T) (hr.mono (by decide)) T.m_Kind T.r_Kind T.h_Kind_of_numbersX (da_cons (dv 1) da_nil) (dk_cons de_int (dk_cons de_bl (dk_cons (de_str (l := [])) (dk_cons de_int (dk_cons (dv 7) dk_nil)))))))) (de_str (l := [114, 105, 103, 104, 116])) (nomark _))))))))))))))))))
theorem ok_is_text (T : Txt K mg base A) : FnD P w K A.cl mg base 1 A.a_is_text A.d_is_text ["thing"] sp_is_text := by
  have nd := sc_is_text.nd
  refine fn_d (k := 0) (td := td_is_text) T.f_is_text sc_is_text len_is_text pure_is_text fun cdv A' outer s H E hr => ?_
  exact (dss_cons (ds_if (dt_not (dt_val (de_callB (cd_isi isi_str) T.z_isinstance boot_isinstance_ (da_cons (dv 0) (da_cons (de_bltn T.z_str boot_str_ (v := .ty "str") rfl (fun _ => .ty "str")) da_nil))))) (dss_one (ds_ret de_bl)) dss_nil)
      (dss_one (ds_ret (de_callB cd_all T.z_all boot_all_ (da_cons (de_fz (de_lc nd (di_str (dv 0)) (blkOk_by (own := [("sign", 1)]) (N := ["thing", "sign"]) (sc := defScope s_is_text) (by decide +kernel)) (fun _ _ _ _ _ => (do_name 1 nd)) (fun _ _ _ _ _ => dts_nil) (fun _ _ _ _ _ => (de_and (de_chain od_le od_le de_int (de_callB cd_ord T.z_ord boot_ord_ (da_cons (dv 1) da_nil)) de_int) (de_one (de_cmp (od_ne hr) (de_callB cd_ord T.z_ord boot_ord_ (da_cons (dv 1) da_nil)) de_int (nomark _))))))) da_nil)))))
theorem ok_are_textsU (T : Txt K mg base A) : FnD P w K A.cl mg base 2 A.a_are_textsU A.d_are_textsU ["things", "most"] sp_are_textsU := by
  have nd := sc_are_textsU.nd
  refine fn_d (k := 1) (td := td_are_textsU) T.f_are_textsU sc_are_textsU len_are_textsU pure_are_textsU fun cdv A' outer s H E hr => ?_
  exact (dss_cons (ds_if (PW.pt (dw_or (dt_not (dt_val (de_callB (cd_isi isi_tuple) T.z_isinstance boot_isinstance_ (da_cons (dv 0) (da_cons (de_bltn T.z_tuple boot_tuple_ (v := .ty "tuple") rfl (fun _ => .ty "tuple")) da_nil))))) (dw_or1 (dt_not (dt_chain od_le od_le de_int (de_callB cd_len T.z_len boot_len_ (da_cons (dv 0) da_nil)) (dv 1)))))) (dss_one (ds_ret de_bl)) dss_nil)
      (dss_one (ds_ret (de_and (de_callB cd_all T.z_all boot_all_ (da_cons (de_fz (de_lc nd (di_tup (dv 0)) (blkOk_by (own := [("thing", 2)]) (N := ["things", "most", "thing"]) (sc := defScope s_are_textsU) (by decide +kernel)) (fun _ _ _ _ _ => (do_name 2 nd)) (fun _ _ _ _ _ => dts_nil) (fun _ _ _ _ _ => (de_call (ok_is_text T) (hr.mono (by decide)) T.m_is_text T.f_is_text.kp T.b_is_text .nil (fun _ => .nil) (da_cons (dv 2) da_nil))))) da_nil)) (de_one (de_cmp (od_eq hr) (de_lenSet T.z_len T.z_set (dv 0)) (de_callB cd_len T.z_len boot_len_ (da_cons (dv 0) da_nil)) (nomark _)))))))
theorem ce_Kind_of_marksX_star (T : Txt K mg base A) : Cee P w K A.cl mg base (L2.CX P w) 3 A.a_Kind_of_marksX [] (star2 1 sp_Kind_of_marksX) := by
  have nd := sc_Kind_of_marksX.nd
  refine Cee.starDX (k := 2) (td := td_Kind_of_marksX) (ps := ["name"]) T.f_Kind_of_marksX sc_Kind_of_marksX T.b_Kind_of_marksX len_Kind_of_marksX pure_Kind_of_marksX fun cdv A' outer s H E F0 Ex W hr tkX fw => ?_
  exact (dss_cons (ds_if (dt_not (dt_val (de_call (ok_is_word T) (hr.mono (by decide)) T.m_is_word T.f_is_word.kp T.b_is_word .nil (fun _ => .nil) (da_cons (dv 0) da_nil)))) (dss_one (ds_raise tkX fw T.xo_BadKind T.xi_BadKind T.xt_BadKind T.xn_BadKind (xk_BadKind T) (hr.mono (by decide)) T.b_BadKind_init T.m_BadKind (da_cons (de_str (l := [110, 97, 109, 101])) da_nil))) dss_nil)
      (dss_cons (ds_if (dt_not (dt_val (de_call (ok_are_textsU T) (hr.mono (by decide)) T.m_are_textsU T.f_are_textsU.kp T.b_are_textsU .nil (fun _ => .nil) (da_cons (dv 1) (da_cons (de_gint T.g_MOST_MARKS) da_nil))))) (dss_one (ds_raise tkX fw T.xo_BadKind T.xi_BadKind T.xt_BadKind T.xn_BadKind (xk_BadKind T) (hr.mono (by decide)) T.b_BadKind_init T.m_BadKind (da_cons (de_str (l := [109, 97, 114, 107, 115])) da_nil))) dss_nil)
      (dss_one (ds_ret (de_make (ce_Kind_init_3_marks T) T.h_Kind_init (hr.mono (by decide)) pass0 T.m_Kind (da_cons (dv 0) (da_cons (de_str (l := [109, 105, 115, 115, 105, 110, 103])) da_nil)) (dk_cons (dv 1) dk_nil))))))
theorem ce_Kind_of_marksX_8 (T : Txt K mg base A) : Cee P w K A.cl mg base (L2.CX P w) 3 A.a_Kind_of_marksX [] (star2 1 sp_Kind_of_marksX) := ce_Kind_of_marksX_star T
theorem ce_Kind_of_marksX_7 (T : Txt K mg base A) : Cee P w K A.cl mg base (L2.CX P w) 3 A.a_Kind_of_marksX [] (star2 1 sp_Kind_of_marksX) := ce_Kind_of_marksX_star T
theorem ce_Kind_of_marksX_4 (T : Txt K mg base A) : Cee P w K A.cl mg base (L2.CX P w) 3 A.a_Kind_of_marksX [] (star2 1 sp_Kind_of_marksX) := ce_Kind_of_marksX_star T
theorem ce_Kind_of_marksX_2 (T : Txt K mg base A) : Cee P w K A.cl mg base (L2.CX P w) 3 A.a_Kind_of_marksX [] (star2 1 sp_Kind_of_marksX) := ce_Kind_of_marksX_star T
theorem ce_Kind_of_marksX_1 (T : Txt K mg base A) : Cee P w K A.cl mg base (L2.CX P w) 3 A.a_Kind_of_marksX [] (star2 1 sp_Kind_of_marksX) := ce_Kind_of_marksX_star T
theorem ok_l_digits (T : Txt K mg base A) : FnD P w K A.cl mg base 3 A.a_l_digits A.d_l_digits ["_law_bag_here", "_law_least", "_law_most"] sp_l_digits := by
  have nd := sc_l_digits.nd
  refine fn_d (k := 2) (td := td_l_digits) T.f_l_digits sc_l_digits len_l_digits pure_l_digits fun cdv A' outer s H E hr => ?_
  exact (dss_cons (ds_set 3 nd (de_str (l := [])))
      (dss_cons (ds_for PassesOwn.never (di_rng1 T.z_range (da_cons (de_op od_add (dv 1) (de_call (ok_l_take T) (hr.mono (by decide)) T.m_l_take T.f_l_take.kp T.b_l_take .nil (fun _ => .nil) (da_cons (dv 0) (da_cons (de_op od_add (de_op od_sub (dv 2) (dv 1)) de_int) da_nil)))) da_nil)) (dg_name 4 nd) (dss_one (ds_set 3 nd (de_op od_add (dv 3) (de_call (ok_l_of T) (hr.mono (by decide)) T.m_l_of T.f_l_of.kp T.b_l_of .nil (fun _ => .nil) (da_cons (dv 0) (da_cons (de_str (l := [48, 48, 48, 49, 50, 51, 52, 53, 54, 55, 56, 57])) da_nil)))))))
      (dss_one (ds_ret (dv 3)))))
theorem ok_l_number (T : Txt K mg base A) : FnD P w K A.cl mg base 4 A.a_l_number A.d_l_number ["_law_bag_here", "_law_most"] sp_l_number := by
  have nd := sc_l_number.nd
  refine fn_d (k := 3) (td := td_l_number) T.f_l_number sc_l_number len_l_number pure_l_number fun cdv A' outer s H E hr => ?_
  exact (dss_cons (ds_set 2 nd (de_call (ok_l_of T) (hr.mono (by decide)) T.m_l_of T.f_l_of.kp T.b_l_of .nil (fun _ => .nil) (da_cons (dv 0) (da_cons (de_lst (da_cons (de_str (l := [])) (da_cons (de_str (l := [])) (da_cons (de_str (l := [])) (da_cons (de_str (l := [45])) (da_cons (de_str (l := [43])) da_nil)))))) da_nil))))
      (dss_cons (ds_set 3 nd (de_call (ok_l_digits T) (hr.mono (by decide)) T.m_l_digits T.f_l_digits.kp T.b_l_digits .nil (fun _ => .nil) (da_cons (dv 0) (da_cons de_int (da_cons (dv 1) da_nil)))))
      (dss_cons (ds_if (dt_cmp (od_eq hr) (de_call (ok_l_take T) (hr.mono (by decide)) T.m_l_take T.f_l_take.kp T.b_l_take .nil (fun _ => .nil) (da_cons (dv 0) (da_cons de_int da_nil))) de_int (nomark _)) (dss_one (ds_ret (de_op od_add (dv 2) (dv 3)))) dss_nil)
      (dss_one (ds_ret (de_op od_add (de_op od_add (de_op od_add (dv 2) (dv 3)) (de_str (l := [46]))) (de_call (ok_l_digits T) (hr.mono (by decide)) T.m_l_digits T.f_l_digits.kp T.b_l_digits .nil (fun _ => .nil) (da_cons (dv 0) (da_cons de_int (da_cons (dv 1) da_nil))))))))))
theorem ok_l_signs (T : Txt K mg base A) : FnD P w K A.cl mg base 1 A.a_l_signs A.d_l_signs [] sp_l_signs := by
  have nd := sc_l_signs.nd
  refine fn_d (k := 0) (td := td_l_signs) T.f_l_signs sc_l_signs len_l_signs pure_l_signs fun cdv A' outer s H E hr => ?_
  exact (dss_cons (ds_set 0 nd (de_str (l := [32, 33, 34, 35, 36, 38, 39, 40, 41, 42, 43, 44, 45, 46, 47, 48, 49, 50, 51, 52, 53, 54, 55, 56, 57, 58, 59, 60, 61, 62, 63, 64, 65, 66, 67, 68, 69, 70, 71, 72, 73, 74, 75, 76, 77, 78, 79, 80, 81, 82, 83, 84, 85, 86, 87, 88, 89, 90, 91, 92, 93, 94, 95])))
      (dss_one (ds_ret (de_op od_add (dv 0) (de_str (l := [96, 97, 98, 99, 100, 101, 102, 103, 104, 105, 106, 107, 108, 109, 110, 111, 112, 113, 114, 115, 116, 117, 118, 119, 120, 121, 122, 123, 124, 125, 126]))))))
theorem ok_l_text (T : Txt K mg base A) : FnD P w K A.cl mg base 5 A.a_l_text A.d_l_text ["_law_bag_here"] sp_l_text := by
  have nd := sc_l_text.nd
  refine fn_d (k := 4) (td := td_l_text) T.f_l_text sc_l_text len_l_text pure_l_text fun cdv A' outer s H E hr => ?_
  exact (dss_cons (ds_set 1 nd (de_call (ok_l_take T) (hr.mono (by decide)) T.m_l_take T.f_l_take.kp T.b_l_take .nil (fun _ => .nil) (da_cons (dv 0) (da_cons de_int da_nil))))
      (dss_cons (ds_if (dt_cmp (od_eq hr) (dv 1) de_int (nomark _)) (dss_one (ds_ret (de_bm PySem.F.plainAttrs_str PySem.F.slot_str_join PySem.F.type_str_join md_join (de_str (l := [])) (da_cons (de_fz (de_lc nd (di_rng1 T.z_range (da_cons (de_call (ok_l_take T) (hr.mono (by decide)) T.m_l_take T.f_l_take.kp T.b_l_take .nil (fun _ => .nil) (da_cons (dv 0) (da_cons de_int da_nil))) da_nil)) (blkOk_by (own := [("_law_turn", 2)]) (N := ["_law_bag_here", "_law_road", "_law_turn"]) (sc := defScope s_l_text) (by decide +kernel)) (fun _ _ _ _ _ => (do_name 2 nd)) (fun _ _ _ _ _ => dts_nil) (fun _ _ _ _ _ => (de_call (ok_l_of T) (hr.mono (by decide)) T.m_l_of T.f_l_of.kp T.b_l_of .nil (fun _ => .nil) (da_cons (dv 0) (da_cons (de_call0 (ok_l_signs T) (hr.mono (by decide)) T.m_l_signs T.f_l_signs.kp T.b_l_signs .nil (fun _ => .nil)) da_nil)))))) da_nil)))) dss_nil)
      (dss_cons (ds_if (dt_cmp (od_eq hr) (dv 1) de_int (nomark _)) (dss_one (ds_ret (de_bm PySem.F.plainAttrs_str PySem.F.slot_str_join PySem.F.type_str_join md_join (de_str (l := [])) (da_cons (de_fz (de_lc nd (di_rng1 T.z_range (da_cons (de_call (ok_l_take T) (hr.mono (by decide)) T.m_l_take T.f_l_take.kp T.b_l_take .nil (fun _ => .nil) (da_cons (dv 0) (da_cons de_int da_nil))) da_nil)) (blkOk_by (own := [("_law_turn", 2)]) (N := ["_law_bag_here", "_law_road", "_law_turn"]) (sc := defScope s_l_text) (by decide +kernel)) (fun _ _ _ _ _ => (do_name 2 nd)) (fun _ _ _ _ _ => dts_nil) (fun _ _ _ _ _ => (de_call (ok_l_of T) (hr.mono (by decide)) T.m_l_of T.f_l_of.kp T.b_l_of .nil (fun _ => .nil) (da_cons (dv 0) (da_cons (de_str (l := [48, 48, 49, 57, 43, 45, 46, 32])) da_nil)))))) da_nil)))) dss_nil)
      (dss_cons (ds_if (dt_cmp (od_eq hr) (dv 1) de_int (nomark _)) (dss_one (ds_ret (de_call (ok_l_of T) (hr.mono (by decide)) T.m_l_of T.f_l_of.kp T.b_l_of .nil (fun _ => .nil) (da_cons (dv 0) (da_cons (de_lst (da_cons (de_str (l := [])) (da_cons (de_str (l := [78, 65])) (da_cons (de_str (l := [121, 101, 115])) (da_cons (de_str (l := [110, 111])) (da_cons (de_str (l := [120])) (da_cons (de_str (l := [116, 114, 117, 101])) (da_cons (de_str (l := [45])) (da_cons (de_str (l := [49])) (da_cons (de_str (l := [48])) (da_cons (de_str (l := [48, 48])) (da_cons (de_str (l := [48, 49])) (da_cons (de_str (l := [49, 46, 48])) (da_cons (de_str (l := [45, 48])) (da_cons (de_str (l := [43, 49])) da_nil))))))))))))))) da_nil))))) dss_nil)
      (dss_one (ds_ret (de_call (ok_l_number T) (hr.mono (by decide)) T.m_l_number T.f_l_number.kp T.b_l_number .nil (fun _ => .nil) (da_cons (dv 0) (da_cons de_int da_nil)))))))))
theorem ok_l_marks_right (T : Txt K mg base A) : FnD P w K A.cl mg base 6 A.a_l_marks_right A.d_l_marks_right ["_law_bag_here", "_law_label"] sp_l_marks_right := by
  have nd := sc_l_marks_right.nd
  refine fn_dL (k := 5) (td := td_l_marks_right) T.f_l_marks_right T.lc_l_marks_right sc_l_marks_right len_l_marks_right pure_l_marks_right fun cdv A' outer s H E hcv hr => ?_
  exact (dss_cons (ds_asg (de_tup (da_cons (de_call (ok_l_no_word T) (hr.mono (by decide)) T.m_l_no_word T.f_l_no_word.kp T.b_l_no_word .nil (fun _ => .nil) (da_cons (dv 0) da_nil)) (da_cons (de_call (ok_l_text T) (hr.mono (by decide)) T.m_l_text T.f_l_text.kp T.b_l_text .nil (fun _ => .nil) (da_cons (dv 0) da_nil)) da_nil))) (dg_tup (dgs_cons (dg_name 2 nd) (dgs_cons (dg_name 3 nd) dgs_nil))))
      (dss_cons (ds_set 4 nd (de_call (ok_l_of T) (hr.mono (by decide)) T.m_l_of T.f_l_of.kp T.b_l_of .nil (fun _ => .nil) (da_cons (dv 0) (da_cons (de_lst (da_cons de_non (da_cons de_int (da_cons (de_str (l := [97, 10])) (da_cons (de_tup (da_cons (de_str (l := [])) da_nil)) da_nil))))) da_nil))))
      (dss_cons (ds_if (dt_cmp (od_ne hr) (de_lam (k := 3) T.f_l_part sc_l_part (.inl rfl) rfl T.m_l_part T.kp_l_part T.b_l_part T.tb_l_marks_right hcv T.lp_l_marks_right rfl (hr.mono (by decide)) (show LamX.LamS (defScope s_l_marks_right) _ from LamX.lamS_by (by decide +kernel)) rfl (fun _ _ _ _ _ => rfl) (fun cdg s H F0 f tl act => lm_l_part T act) (fun A outer s H E f c' F1 Ex W hr tkX fw => (de_smethX tkX fw (ce_Kind_of_marksX_2 T) (hr.mono (by decide)) T.m_Kind T.r_Kind T.h_Kind_of_marksX (da_cons (dv 2) (da_cons (dv 3) da_nil)) dk_nil))) (de_str (l := [110, 97, 109, 101])) (nomark _)) (dss_one (ds_ret de_bl)) dss_nil)
      (dss_cons (ds_if (dt_cmp (od_ne hr) (de_lam (k := 3) T.f_l_part sc_l_part (.inl rfl) rfl T.m_l_part T.kp_l_part T.b_l_part T.tb_l_marks_right hcv T.lp_l_marks_right rfl (hr.mono (by decide)) (show LamX.LamS (defScope s_l_marks_right) _ from LamX.lamS_by (by decide +kernel)) rfl (fun _ _ _ _ _ => rfl) (fun cdg s H F0 f tl act => lm_l_part T act) (fun A outer s H E f c' F1 Ex W hr tkX fw => (de_smethX tkX fw (ce_Kind_of_marksX_1 T) (hr.mono (by decide)) T.m_Kind T.r_Kind T.h_Kind_of_marksX (da_cons (dv 2) da_nil) dk_nil))) (de_str (l := [110, 97, 109, 101])) (nomark _)) (dss_one (ds_ret de_bl)) dss_nil)
      (dss_cons (ds_if (dt_cmp (od_ne hr) (de_lam (k := 3) T.f_l_part sc_l_part (.inl rfl) rfl T.m_l_part T.kp_l_part T.b_l_part T.tb_l_marks_right hcv T.lp_l_marks_right rfl (hr.mono (by decide)) (show LamX.LamS (defScope s_l_marks_right) _ from LamX.lamS_by (by decide +kernel)) rfl (fun _ _ _ _ _ => rfl) (fun cdg s H F0 f tl act => lm_l_part T act) (fun A outer s H E f c' F1 Ex W hr tkX fw => (de_smethX tkX fw (ce_Kind_of_marksX_1 T) (hr.mono (by decide)) T.m_Kind T.r_Kind T.h_Kind_of_marksX (da_cons (dv 1) da_nil) dk_nil))) (de_str (l := [109, 97, 114, 107, 115])) (nomark _)) (dss_one (ds_ret de_bl)) dss_nil)
      (dss_cons (ds_if (dt_cmp (od_ne hr) (de_lam (k := 3) T.f_l_part sc_l_part (.inl rfl) rfl T.m_l_part T.kp_l_part T.b_l_part T.tb_l_marks_right hcv T.lp_l_marks_right rfl (hr.mono (by decide)) (show LamX.LamS (defScope s_l_marks_right) _ from LamX.lamS_by (by decide +kernel)) rfl (fun _ _ _ _ _ => rfl) (fun cdg s H F0 f tl act => lm_l_part T act) (fun A outer s H E f c' F1 Ex W hr tkX fw => (de_smethX tkX fw (ce_Kind_of_marksX_2 T) (hr.mono (by decide)) T.m_Kind T.r_Kind T.h_Kind_of_marksX (da_cons (dv 1) (da_cons (dv 4) da_nil)) dk_nil))) (de_str (l := [109, 97, 114, 107, 115])) (nomark _)) (dss_one (ds_ret de_bl)) dss_nil)
      (dss_cons (ds_if (dt_cmp (od_ne hr) (de_lam (k := 3) T.f_l_part sc_l_part (.inl rfl) rfl T.m_l_part T.kp_l_part T.b_l_part T.tb_l_marks_right hcv T.lp_l_marks_right rfl (hr.mono (by decide)) (show LamX.LamS (defScope s_l_marks_right) _ from LamX.lamS_by (by decide +kernel)) rfl (fun _ _ _ _ _ => rfl) (fun cdg s H F0 f tl act => lm_l_part T act) (fun A outer s H E f c' F1 Ex W hr tkX fw => (de_smethX tkX fw (ce_Kind_of_marksX_4 T) (hr.mono (by decide)) T.m_Kind T.r_Kind T.h_Kind_of_marksX (da_cons (dv 1) (da_cons (dv 3) (da_cons (dv 4) (da_cons (de_op od_add (dv 3) (de_str (l := [98]))) da_nil)))) dk_nil))) (de_str (l := [109, 97, 114, 107, 115])) (nomark _)) (dss_one (ds_ret de_bl)) dss_nil)
      (dss_cons (ds_if (dt_cmp (od_ne hr) (de_lam (k := 3) T.f_l_part sc_l_part (.inl rfl) rfl T.m_l_part T.kp_l_part T.b_l_part T.tb_l_marks_right hcv T.lp_l_marks_right rfl (hr.mono (by decide)) (show LamX.LamS (defScope s_l_marks_right) _ from LamX.lamS_by (by decide +kernel)) rfl (fun _ _ _ _ _ => rfl) (fun cdg s H F0 f tl act => lm_l_part T act) (fun A outer s H E f c' F1 Ex W hr tkX fw => (de_smethX tkX fw (ce_Kind_of_marksX_4 T) (hr.mono (by decide)) T.m_Kind T.r_Kind T.h_Kind_of_marksX (da_cons (dv 1) (da_cons (dv 3) (da_cons (de_op od_add (dv 3) (de_str (l := [97]))) (da_cons (dv 3) da_nil)))) dk_nil))) (de_str (l := [109, 97, 114, 107, 115])) (nomark _)) (dss_one (ds_ret de_bl)) dss_nil)
      (dss_cons (ds_asg (de_fz (de_lc nd (di_str (de_str (l := [97, 98, 99, 100, 101, 102, 103]))) (blkOk_by (own := [("_law_end", 12)]) (N := ["_law_bag_here", "_law_label", "_law_wrong", "_law_text_here", "_law_bad", "_law_a", "_law_b", "_law_c", "_law_d", "_law_e", "_law_f", "_law_g", "_law_end"]) (sc := defScope s_l_marks_right) (by decide +kernel)) (fun _ _ _ _ _ => (do_name 12 nd)) (fun _ _ _ _ _ => dts_nil) (fun _ _ _ _ _ => (de_op od_add (dv 3) (dv 12))))) (dg_unl (dgs_cons (dg_name 5 nd) (dgs_cons (dg_name 6 nd) (dgs_cons (dg_name 7 nd) (dgs_cons (dg_name 8 nd) (dgs_cons (dg_name 9 nd) (dgs_cons (dg_name 10 nd) (dgs_cons (dg_name 11 nd) dgs_nil)))))))))
      (dss_cons (ds_if (dt_cmp (od_ne hr) (de_lam (k := 3) T.f_l_part sc_l_part (.inl rfl) rfl T.m_l_part T.kp_l_part T.b_l_part T.tb_l_marks_right hcv T.lp_l_marks_right rfl (hr.mono (by decide)) (show LamX.LamS (defScope s_l_marks_right) _ from LamX.lamS_by (by decide +kernel)) rfl (fun _ _ _ _ _ => rfl) (fun cdg s H F0 f tl act => lm_l_part T act) (fun A outer s H E f c' F1 Ex W hr tkX fw => (de_smethX tkX fw (ce_Kind_of_marksX_7 T) (hr.mono (by decide)) T.m_Kind T.r_Kind T.h_Kind_of_marksX (da_cons (dv 1) (da_cons (dv 5) (da_cons (dv 6) (da_cons (dv 7) (da_cons (dv 8) (da_cons (dv 9) (da_cons (dv 10) da_nil))))))) dk_nil))) (de_str (l := [114, 105, 103, 104, 116])) (nomark _)) (dss_one (ds_ret de_bl)) dss_nil)
      (dss_one (ds_ret (de_cmp (od_eq hr) (de_lam (k := 3) T.f_l_part sc_l_part (.inl rfl) rfl T.m_l_part T.kp_l_part T.b_l_part T.tb_l_marks_right hcv T.lp_l_marks_right rfl (hr.mono (by decide)) (show LamX.LamS (defScope s_l_marks_right) _ from LamX.lamS_by (by decide +kernel)) rfl (fun _ _ _ _ _ => rfl) (fun cdg s H F0 f tl act => lm_l_part T act) (fun A outer s H E f c' F1 Ex W hr tkX fw => (de_smethX tkX fw (ce_Kind_of_marksX_8 T) (hr.mono (by decide)) T.m_Kind T.r_Kind T.h_Kind_of_marksX (da_cons (dv 1) (da_cons (dv 5) (da_cons (dv 6) (da_cons (dv 7) (da_cons (dv 8) (da_cons (dv 9) (da_cons (dv 10) (da_cons (dv 11) da_nil)))))))) dk_nil))) (de_str (l := [109, 97, 114, 107, 115])) (nomark _))))))))))))))
theorem ok_Kind_of_wordsX (T : Txt K mg base A) : G.FnOk P w K mg base (L2.CX P w) 3 A.a_Kind_of_wordsX A.d_Kind_of_wordsX ["name", "yes", "no"] (lowSp K A.cl sp_Kind_of_wordsX) := by
  have nd := sc_Kind_of_wordsX.nd
  refine fn_dX (k := 2) (td := td_Kind_of_wordsX) T.f_Kind_of_wordsX sc_Kind_of_wordsX len_Kind_of_wordsX pure_Kind_of_wordsX fun cdv A' outer s H E F0 Ex W hr tkX fw => ?_
  exact (dss_cons (ds_if (dt_not (dt_val (de_call (ok_is_word T) (hr.mono (by decide)) T.m_is_word T.f_is_word.kp T.b_is_word .nil (fun _ => .nil) (da_cons (dv 0) da_nil)))) (dss_one (ds_raise tkX fw T.xo_BadKind T.xi_BadKind T.xt_BadKind T.xn_BadKind (xk_BadKind T) (hr.mono (by decide)) T.b_BadKind_init T.m_BadKind (da_cons (de_str (l := [110, 97, 109, 101])) da_nil))) dss_nil)
      (dss_cons (ds_if (dt_not (dt_val (de_call (ok_are_textsU T) (hr.mono (by decide)) T.m_are_textsU T.f_are_textsU.kp T.b_are_textsU .nil (fun _ => .nil) (da_cons (dv 1) (da_cons (de_gint T.g_MOST_WORDS) da_nil))))) (dss_one (ds_raise tkX fw T.xo_BadKind T.xi_BadKind T.xt_BadKind T.xn_BadKind (xk_BadKind T) (hr.mono (by decide)) T.b_BadKind_init T.m_BadKind (da_cons (de_str (l := [121, 101, 115])) da_nil))) dss_nil)
      (dss_cons (ds_if (PW.pt (dw_or (dt_not (dt_val (de_call (ok_are_textsU T) (hr.mono (by decide)) T.m_are_textsU T.f_are_textsU.kp T.b_are_textsU .nil (fun _ => .nil) (da_cons (dv 2) (da_cons (de_gint T.g_MOST_WORDS) da_nil))))) (dw_or1 (dt_val (de_callB cd_any T.z_any boot_any_ (da_cons (de_fz (de_lc nd (di_tup (dv 2)) (blkOk_by (own := [("word", 3)]) (N := ["name", "yes", "no", "word"]) (sc := defScope s_Kind_of_wordsX) (by decide +kernel)) (fun _ _ _ _ _ => (do_name 3 nd)) (fun _ _ _ _ _ => dts_nil) (fun _ _ _ _ _ => (de_cmp od_in (dv 3) (dv 1) rfl)))) da_nil)))))) (dss_one (ds_raise tkX fw T.xo_BadKind T.xi_BadKind T.xt_BadKind T.xn_BadKind (xk_BadKind T) (hr.mono (by decide)) T.b_BadKind_init T.m_BadKind (da_cons (de_str (l := [110, 111])) da_nil))) dss_nil)
      (dss_one (ds_ret (de_make (ce_Kind_init_3_yes_no T) T.h_Kind_init (hr.mono (by decide)) pass0 T.m_Kind (da_cons (dv 0) (da_cons (de_str (l := [116, 114, 117, 116, 104])) da_nil)) (dk_cons (dv 1) (dk_cons (dv 2) dk_nil))))))))
theorem ce_Kind_of_wordsX_3 (T : Txt K mg base A) : Cee P w K A.cl mg base (L2.CX P w) 3 A.a_Kind_of_wordsX [] (pos2 sp_Kind_of_wordsX []) := Cee.posD (ok_Kind_of_wordsX T) T.b_Kind_of_wordsX .nil fun _ => .nil
theorem ok_Kind_of_textsX (T : Txt K mg base A) : G.FnOk P w K mg base (L2.CX P w) 3 A.a_Kind_of_textsX A.d_Kind_of_textsX ["name"] (lowSp K A.cl sp_Kind_of_textsX) := by
  have nd := sc_Kind_of_textsX.nd
  refine fn_dX (k := 2) (td := td_Kind_of_textsX) T.f_Kind_of_textsX sc_Kind_of_textsX len_Kind_of_textsX pure_Kind_of_textsX fun cdv A' outer s H E F0 Ex W hr tkX fw => ?_
  exact (dss_cons (ds_if (dt_not (dt_val (de_call (ok_is_word T) (hr.mono (by decide)) T.m_is_word T.f_is_word.kp T.b_is_word .nil (fun _ => .nil) (da_cons (dv 0) da_nil)))) (dss_one (ds_raise tkX fw T.xo_BadKind T.xi_BadKind T.xt_BadKind T.xn_BadKind (xk_BadKind T) (hr.mono (by decide)) T.b_BadKind_init T.m_BadKind (da_cons (de_str (l := [110, 97, 109, 101])) da_nil))) dss_nil)
      (dss_one (ds_ret (de_make (ce_Kind_init_3 T) T.h_Kind_init (hr.mono (by decide)) pass0 T.m_Kind (da_cons (dv 0) (da_cons (de_str (l := [116, 101, 120, 116])) da_nil)) dk_nil))))
theorem ce_Kind_of_textsX_1 (T : Txt K mg base A) : Cee P w K A.cl mg base (L2.CX P w) 3 A.a_Kind_of_textsX [] (pos2 sp_Kind_of_textsX []) := Cee.posD (ok_Kind_of_textsX T) T.b_Kind_of_textsX .nil fun _ => .nil
theorem ok_l_other_texts (T : Txt K mg base A) : FnD P w K A.cl mg base 6 A.a_l_other_texts A.d_l_other_texts ["_law_bag_here", "_law_many", "_law_taken"] sp_l_other_texts := by
  have nd := sc_l_other_texts.nd
  refine fn_d (k := 5) (td := td_l_other_texts) T.f_l_other_texts sc_l_other_texts len_l_other_texts pure_l_other_texts fun cdv A' outer s H E hr => ?_
  exact (dss_cons (ds_set 3 nd (de_lstC da_nil))
      (dss_cons (ds_for PassesOwn.never (di_rng1 T.z_range (da_cons (dv 1) da_nil)) (dg_name 4 nd) (dss_cons (ds_set 5 nd (de_call (ok_l_text T) (hr.mono (by decide)) T.m_l_text T.f_l_text.kp T.b_l_text .nil (fun _ => .nil) (da_cons (dv 0) da_nil)))
      (dss_cons (ds_while PassesOwn.never (PW.pt (dw_or (dt_cmp od_in (dv 5) (dv 3) rfl) (dw_or1 (dt_cmp od_in (dv 5) (dv 2) rfl)))) (dss_one (ds_set 5 nd (de_op od_add (dv 5) (de_str (l := [122]))))))
      (dss_one (ds_expr (de_bm PySem.F.plainAttrs_list PySem.F.slot_list_append PySem.F.type_list_append md_append (dv 3) (da_cons (dv 5) da_nil)))))))
      (dss_one (ds_ret (dv 3)))))
theorem ok_l_words_right (T : Txt K mg base A) : FnD P w K A.cl mg base 7 A.a_l_words_right A.d_l_words_right ["_law_bag_here", "_law_label"] sp_l_words_right := by
  have nd := sc_l_words_right.nd
  refine fn_dL (k := 6) (td := td_l_words_right) T.f_l_words_right T.lc_l_words_right sc_l_words_right len_l_words_right pure_l_words_right fun cdv A' outer s H E hcv hr => ?_
  exact (dss_cons (ds_set 2 nd (de_callTy cd_tuple T.z_tuple boot_tuple_ (da_cons (de_call (ok_l_other_texts T) (hr.mono (by decide)) T.m_l_other_texts T.f_l_other_texts.kp T.b_l_other_texts .nil (fun _ => .nil) (da_cons (dv 0) (da_cons (de_op od_add de_int (de_call (ok_l_take T) (hr.mono (by decide)) T.m_l_take T.f_l_take.kp T.b_l_take .nil (fun _ => .nil) (da_cons (dv 0) (da_cons de_int da_nil)))) (da_cons (de_lst da_nil) da_nil)))) da_nil)))
      (dss_cons (ds_set 3 nd (de_callTy cd_tuple T.z_tuple boot_tuple_ (da_cons (de_call (ok_l_other_texts T) (hr.mono (by decide)) T.m_l_other_texts T.f_l_other_texts.kp T.b_l_other_texts .nil (fun _ => .nil) (da_cons (dv 0) (da_cons (de_op od_add de_int (de_call (ok_l_take T) (hr.mono (by decide)) T.m_l_take T.f_l_take.kp T.b_l_take .nil (fun _ => .nil) (da_cons (dv 0) (da_cons de_int da_nil)))) (da_cons (de_callTy cd_list T.z_list boot_list_ (da_cons (dv 2) da_nil)) da_nil)))) da_nil)))
      (dss_cons (ds_asg (de_tup (da_cons (de_call (ok_l_no_word T) (hr.mono (by decide)) T.m_l_no_word T.f_l_no_word.kp T.b_l_no_word .nil (fun _ => .nil) (da_cons (dv 0) da_nil)) (da_cons (de_call (ok_l_take T) (hr.mono (by decide)) T.m_l_take T.f_l_take.kp T.b_l_take .nil (fun _ => .nil) (da_cons (dv 0) (da_cons (de_callB cd_len T.z_len boot_len_ (da_cons (dv 3) da_nil)) da_nil))) da_nil))) (dg_tup (dgs_cons (dg_name 4 nd) (dgs_cons (dg_name 5 nd) dgs_nil))))
      (dss_cons (ds_set 6 nd (de_lst (da_cons (de_tup da_nil) (da_cons (de_callTy cd_list T.z_list boot_list_ (da_cons (dv 2) da_nil)) (da_cons (de_op od_add (dv 2) (dv 2)) (da_cons (de_tup (da_cons (de_str (l := [97])) (da_cons (de_str (l := [98])) (da_cons (de_str (l := [99])) (da_cons (de_str (l := [100])) (da_cons (de_str (l := [101])) da_nil)))))) (da_cons (de_tup (da_cons de_non da_nil)) da_nil)))))))
      (dss_cons (ds_set 6 nd (de_call (ok_l_of T) (hr.mono (by decide)) T.m_l_of T.f_l_of.kp T.b_l_of .nil (fun _ => .nil) (da_cons (dv 0) (da_cons (de_op od_add (dv 6) (de_lst (da_cons (de_str (l := [121, 101, 115])) (da_cons de_non (da_cons (de_tup (da_cons de_int da_nil)) (da_cons (de_tup (da_cons (de_str (l := [97, 10])) da_nil)) da_nil)))))) da_nil))))
      (dss_cons (ds_if (dt_cmp (od_ne hr) (de_lam (k := 4) T.f_l_part sc_l_part (.inl rfl) rfl T.m_l_part T.kp_l_part T.b_l_part T.tb_l_words_right hcv T.lp_l_words_right rfl (hr.mono (by decide)) (show LamX.LamS (defScope s_l_words_right) _ from LamX.lamS_by (by decide +kernel)) rfl (fun _ _ _ _ _ => rfl) (fun cdg s H F0 f tl act => lm_l_part T act) (fun A outer s H E f c' F1 Ex W hr tkX fw => (de_smethX tkX fw (ce_Kind_of_wordsX_3 T) (hr.mono (by decide)) T.m_Kind T.r_Kind T.h_Kind_of_wordsX (da_cons (dv 1) (da_cons (dv 2) (da_cons (dv 3) da_nil))) dk_nil))) (de_str (l := [114, 105, 103, 104, 116])) (nomark _)) (dss_one (ds_ret de_bl)) dss_nil)
      (dss_cons (ds_if (dt_cmp (od_ne hr) (de_lam (k := 4) T.f_l_part sc_l_part (.inl rfl) rfl T.m_l_part T.kp_l_part T.b_l_part T.tb_l_words_right hcv T.lp_l_words_right rfl (hr.mono (by decide)) (show LamX.LamS (defScope s_l_words_right) _ from LamX.lamS_by (by decide +kernel)) rfl (fun _ _ _ _ _ => rfl) (fun cdg s H F0 f tl act => lm_l_part T act) (fun A outer s H E f c' F1 Ex W hr tkX fw => (de_smethX tkX fw (ce_Kind_of_wordsX_3 T) (hr.mono (by decide)) T.m_Kind T.r_Kind T.h_Kind_of_wordsX (da_cons (dv 4) (da_cons (dv 6) (da_cons (dv 6) da_nil))) dk_nil))) (de_str (l := [110, 97, 109, 101])) (nomark _)) (dss_one (ds_ret de_bl)) dss_nil)
      (dss_cons (ds_if (dt_cmp (od_ne hr) (de_lam (k := 4) T.f_l_part sc_l_part (.inl rfl) rfl T.m_l_part T.kp_l_part T.b_l_part T.tb_l_words_right hcv T.lp_l_words_right rfl (hr.mono (by decide)) (show LamX.LamS (defScope s_l_words_right) _ from LamX.lamS_by (by decide +kernel)) rfl (fun _ _ _ _ _ => rfl) (fun cdg s H F0 f tl act => lm_l_part T act) (fun A outer s H E f c' F1 Ex W hr tkX fw => (de_smethX tkX fw (ce_Kind_of_textsX_1 T) (hr.mono (by decide)) T.m_Kind T.r_Kind T.h_Kind_of_textsX (da_cons (dv 4) da_nil) dk_nil))) (de_str (l := [110, 97, 109, 101])) (nomark _)) (dss_one (ds_ret de_bl)) dss_nil)
      (dss_cons (ds_if (dt_cmp (od_ne hr) (de_lam (k := 4) T.f_l_part sc_l_part (.inl rfl) rfl T.m_l_part T.kp_l_part T.b_l_part T.tb_l_words_right hcv T.lp_l_words_right rfl (hr.mono (by decide)) (show LamX.LamS (defScope s_l_words_right) _ from LamX.lamS_by (by decide +kernel)) rfl (fun _ _ _ _ _ => rfl) (fun cdg s H F0 f tl act => lm_l_part T act) (fun A outer s H E f c' F1 Ex W hr tkX fw => (de_smethX tkX fw (ce_Kind_of_wordsX_3 T) (hr.mono (by decide)) T.m_Kind T.r_Kind T.h_Kind_of_wordsX (da_cons (dv 1) (da_cons (dv 6) (da_cons (dv 6) da_nil))) dk_nil))) (de_str (l := [121, 101, 115])) (nomark _)) (dss_one (ds_ret de_bl)) dss_nil)
      (dss_cons (ds_if (dt_cmp (od_ne hr) (de_lam (k := 4) T.f_l_part sc_l_part (.inl rfl) rfl T.m_l_part T.kp_l_part T.b_l_part T.tb_l_words_right hcv T.lp_l_words_right rfl (hr.mono (by decide)) (show LamX.LamS (defScope s_l_words_right) _ from LamX.lamS_by (by decide +kernel)) rfl (fun _ _ _ _ _ => rfl) (fun cdg s H F0 f tl act => lm_l_part T act) (fun A outer s H E f c' F1 Ex W hr tkX fw => (de_smethX tkX fw (ce_Kind_of_wordsX_3 T) (hr.mono (by decide)) T.m_Kind T.r_Kind T.h_Kind_of_wordsX (da_cons (dv 1) (da_cons (dv 2) (da_cons (dv 6) da_nil))) dk_nil))) (de_str (l := [110, 111])) (nomark _)) (dss_one (ds_ret de_bl)) dss_nil)
      (dss_cons (ds_if (dt_cmp (od_ne hr) (de_lam (k := 4) T.f_l_part sc_l_part (.inl rfl) rfl T.m_l_part T.kp_l_part T.b_l_part T.tb_l_words_right hcv T.lp_l_words_right rfl (hr.mono (by decide)) (show LamX.LamS (defScope s_l_words_right) _ from LamX.lamS_by (by decide +kernel)) rfl (fun _ _ _ _ _ => rfl) (fun cdg s H F0 f tl act => lm_l_part T act) (fun A outer s H E f c' F1 Ex W hr tkX fw => (de_smethX tkX fw (ce_Kind_of_wordsX_3 T) (hr.mono (by decide)) T.m_Kind T.r_Kind T.h_Kind_of_wordsX (da_cons (dv 1) (da_cons (dv 2) (da_cons (de_tup (da_cons (de_ix (dv 3) de_int) (da_cons (de_ix (dv 3) de_int) da_nil))) da_nil))) dk_nil))) (de_str (l := [110, 111])) (nomark _)) (dss_one (ds_ret de_bl)) dss_nil)
      (dss_cons (ds_set 7 nd (de_op od_add (de_op od_add (de_slice (dv 3) dp_none (dp_some (dv 5))) (de_tup (da_cons (de_ix (dv 2) (de_un ud_neg de_int)) da_nil))) (de_slice (dv 3) (dp_some (de_op od_add (dv 5) de_int)) dp_none)))
      (dss_one (ds_ret (de_cmp (od_eq hr) (de_lam (k := 4) T.f_l_part sc_l_part (.inl rfl) rfl T.m_l_part T.kp_l_part T.b_l_part T.tb_l_words_right hcv T.lp_l_words_right rfl (hr.mono (by decide)) (show LamX.LamS (defScope s_l_words_right) _ from LamX.lamS_by (by decide +kernel)) rfl (fun _ _ _ _ _ => rfl) (fun cdg s H F0 f tl act => lm_l_part T act) (fun A outer s H E f c' F1 Ex W hr tkX fw => (de_smethX tkX fw (ce_Kind_of_wordsX_3 T) (hr.mono (by decide)) T.m_Kind T.r_Kind T.h_Kind_of_wordsX (da_cons (dv 1) (da_cons (dv 2) (da_cons (dv 7) da_nil))) dk_nil))) (de_str (l := [110, 111])) (nomark _))))))))))))))))
theorem ok_l_word (T : Txt K mg base A) : FnD P w K A.cl mg base 3 A.a_l_word A.d_l_word ["_law_bag_here", "_law_at", "_law_most"] sp_l_word := by
  have nd := sc_l_word.nd
  refine fn_d (k := 2) (td := td_l_word) T.f_l_word sc_l_word len_l_word pure_l_word fun cdv A' outer s H E hr => ?_
  exact (dss_cons (ds_set 3 nd (de_str (l := [97, 98, 99, 100, 101, 102, 103, 104, 105, 106, 107, 108, 109, 110, 111, 112, 113, 114, 115, 116, 117, 118, 119, 120, 121, 122])))
      (dss_cons (ds_set 4 nd (de_bm PySem.F.plainAttrs_str PySem.F.slot_str_join PySem.F.type_str_join md_join (de_str (l := [])) (da_cons (de_fz (de_lc nd (di_rng1 T.z_range (da_cons (de_call (ok_l_take T) (hr.mono (by decide)) T.m_l_take T.f_l_take.kp T.b_l_take .nil (fun _ => .nil) (da_cons (dv 0) (da_cons de_int da_nil))) da_nil)) (blkOk_by (own := [("_law_turn", 5)]) (N := ["_law_bag_here", "_law_at", "_law_most", "_law_letters", "_law_some", "_law_turn"]) (sc := defScope s_l_word) (by decide +kernel)) (fun _ _ _ _ _ => (do_name 5 nd)) (fun _ _ _ _ _ => dts_nil) (fun _ _ _ _ _ => (de_call (ok_l_of T) (hr.mono (by decide)) T.m_l_of T.f_l_of.kp T.b_l_of .nil (fun _ => .nil) (da_cons (dv 0) (da_cons (dv 3) da_nil)))))) da_nil)))
      (dss_one (ds_ret (de_ifExp (dt_cmp (od_eq hr) (dv 2) de_int (nomark _)) (de_op od_add (de_ix (de_str (l := [99, 103, 104, 105, 106, 108, 110])) (dv 1)) (dv 4)) (de_op od_add (dv 4) (de_ix (de_str (l := [99, 103, 104, 105, 106, 108, 110])) (dv 1))))))))
theorem ok_l_words (T : Txt K mg base A) : FnD P w K A.cl mg base 4 A.a_l_words A.d_l_words ["_law_bag_here", "_law_many"] sp_l_words := by
  have nd := sc_l_words.nd
  refine fn_d (k := 3) (td := td_l_words) T.f_l_words sc_l_words len_l_words pure_l_words fun cdv A' outer s H E hr => ?_
  exact (dss_cons (ds_set 2 nd (de_call (ok_l_take T) (hr.mono (by decide)) T.m_l_take T.f_l_take.kp T.b_l_take .nil (fun _ => .nil) (da_cons (dv 0) (da_cons de_int da_nil))))
      (dss_one (ds_ret (de_fz (de_lc nd (di_rng1 T.z_range (da_cons (dv 1) da_nil)) (blkOk_by (own := [("_law_at", 3)]) (N := ["_law_bag_here", "_law_many", "_law_side", "_law_at"]) (sc := defScope s_l_words) (by decide +kernel)) (fun _ _ _ _ _ => (do_name 3 nd)) (fun _ _ _ _ _ => dts_nil) (fun _ _ _ _ _ => (de_call (ok_l_word T) (hr.mono (by decide)) T.m_l_word T.f_l_word.kp T.b_l_word .nil (fun _ => .nil) (da_cons (dv 0) (da_cons (dv 3) (da_cons (dv 2) da_nil))))))))))
theorem ok_l_bag (T : Txt K mg base A) : FnD P w K A.cl mg base 1 A.a_l_bag A.d_l_bag ["_law_script", "_law_at"] sp_l_bag := by
  have nd := sc_l_bag.nd
  refine fn_d (k := 0) (td := td_l_bag) T.f_l_bag sc_l_bag len_l_bag pure_l_bag fun cdv A' outer s H E hr => ?_
  exact (dss_cons (ds_set 2 nd (de_ifExp (dt_cmp od_lt (dv 1) (de_callB cd_len T.z_len boot_len_ (da_cons (dv 0) da_nil)) (nomark _)) (de_ix (dv 0) (dv 1)) de_int))
      (dss_cons (ds_set 3 nd (de_ifExp (dt_cmp od_ge (de_callB cd_abs T.z_abs boot_abs_ (da_cons (dv 2) da_nil)) (de_op od_pow de_int de_int) (nomark _)) (de_callB cd_abs T.z_abs boot_abs_ (da_cons (dv 2) da_nil)) de_int))
      (dss_one (ds_ret (de_lstC (da_cons (dv 3) (da_cons (de_op od_add (de_op od_add (de_op od_mul (de_op od_mod (de_callTy cd_int T.z_int boot_int_ (da_cons (dv 2) da_nil)) de_int) de_int) (de_op od_mul de_int (dv 1))) de_int) (da_cons de_int da_nil))))))))
theorem ok_law (T : Txt K mg base A) : FnD P w K A.cl mg base 8 A.a_law A.d_law ["_law_script"] (sp_lawT ["_law_numbers_right.<locals>.<lambda>", "_law_marks_right.<locals>.<lambda>", "_law_words_right.<locals>.<lambda>"]) := by
  have nd := sc_law.nd
  refine fn_d (k := 7) (td := td_law) T.f_law sc_law len_lawT pure_law fun cdv A' outer s H E hr => ?_
  exact (dss_cons (ds_for PassesOwn.never (di_rng1 T.z_range (da_cons (de_callB cd_max T.z_max boot_max_ (da_cons de_int (da_cons (de_callB cd_min T.z_min boot_min_ (da_cons de_int (da_cons (de_callB cd_len T.z_len boot_len_ (da_cons (dv 0) da_nil)) da_nil))) da_nil))) da_nil)) (dg_name 1 nd) (dss_cons (ds_set 2 nd (de_call (ok_l_bag T) (hr.mono (by decide)) T.m_l_bag T.f_l_bag.kp T.b_l_bag .nil (fun _ => .nil) (da_cons (dv 0) (da_cons (dv 1) da_nil))))
      (dss_cons (ds_set 3 nd (de_ix (de_call (ok_l_words T) (hr.mono (by decide)) T.m_l_words T.f_l_words.kp T.b_l_words .nil (fun _ => .nil) (da_cons (dv 2) (da_cons de_int da_nil))) de_int))
      (dss_cons (ds_if (PW.pt (dw_or (dt_not (dt_val (de_call (ok_l_marks_right T) (hr.mono (by decide)) T.m_l_marks_right T.f_l_marks_right.kp T.b_l_marks_right .nil (fun _ => .nil) (da_cons (dv 2) (da_cons (dv 3) da_nil))))) (dw_or1 (dt_not (dt_val (de_call (ok_l_words_right T) (hr.mono (by decide)) T.m_l_words_right T.f_l_words_right.kp T.b_l_words_right .nil (fun _ => .nil) (da_cons (dv 2) (da_cons (dv 3) da_nil)))))))) (dss_one (ds_ret de_bl)) dss_nil)
      (dss_one (ds_if (dt_not (dt_val (de_call (ok_l_numbers_right T) (hr.mono (by decide)) T.m_l_numbers_right T.f_l_numbers_right.kp T.b_l_numbers_right .nil (fun _ => .nil) (da_cons (dv 2) (da_cons (dv 3) da_nil))))) (dss_one (ds_ret de_bl)) dss_nil))))))
      (dss_one (ds_ret de_bl)))
end
theorem all_mk {l : PySem.W.OpenLaw} {w : World} {K : PySem.W.Frag} {h : Heap} {mg : Str → Option Value} {fa : Addr} (X : K.In h) (G : h.Ns mainGlobals mg) (hfa : mg "law" = some (.ref fa))
    {C_Kind : Addr}
    {f_l_part : Addr} {d_l_part : FuncData}
    {f_Kind_init : Addr} {d_Kind_init : FuncData}
    {t_Kind_init_marks : Addr}
    {t_Kind_init_yes : Addr}
    {t_Kind_init_no : Addr}
    {f_is_betweenU : Addr} {d_is_betweenU : FuncData}
    {f_is_word : Addr} {d_is_word : FuncData}
    {p_Kind_of_numbersX : Addr}
    {f_Kind_of_numbersX : Addr} {d_Kind_of_numbersX : FuncData}
    {f_l_take : Addr} {d_l_take : FuncData}
    {f_l_of : Addr} {d_l_of : FuncData}
    {f_l_no_count : Addr} {d_l_no_count : FuncData}
    {f_l_no_word : Addr} {d_l_no_word : FuncData}
    {C_code_l_numbers_right : Addr} {C_tab_l_numbers_right : Addr}
    {f_l_numbers_right : Addr} {d_l_numbers_right : FuncData}
    {f_is_text : Addr} {d_is_text : FuncData}
    {f_are_textsU : Addr} {d_are_textsU : FuncData}
    {p_Kind_of_marksX : Addr}
    {f_Kind_of_marksX : Addr} {d_Kind_of_marksX : FuncData}
    {f_l_digits : Addr} {d_l_digits : FuncData}
    {f_l_number : Addr} {d_l_number : FuncData}
    {f_l_signs : Addr} {d_l_signs : FuncData}
    {f_l_text : Addr} {d_l_text : FuncData}
    {C_code_l_marks_right : Addr} {C_tab_l_marks_right : Addr}
    {f_l_marks_right : Addr} {d_l_marks_right : FuncData}
    {p_Kind_of_wordsX : Addr}
    {f_Kind_of_wordsX : Addr} {d_Kind_of_wordsX : FuncData}
    {p_Kind_of_textsX : Addr}
    {f_Kind_of_textsX : Addr} {d_Kind_of_textsX : FuncData}
    {f_l_other_texts : Addr} {d_l_other_texts : FuncData}
    {C_code_l_words_right : Addr} {C_tab_l_words_right : Addr}
    {f_l_words_right : Addr} {d_l_words_right : FuncData}
    {f_l_word : Addr} {d_l_word : FuncData}
    {f_l_words : Addr} {d_l_words : FuncData}
    {f_l_bag : Addr} {d_l_bag : FuncData}
    {f_law : Addr} {d_law : FuncData}
    {C_GuessError : Addr}
    {C_BadKind : Addr}
    {C_BadBook : Addr}
    {f_BadKind_init : Addr} {d_BadKind_init : FuncData}
    (a_Kind : PySem.W.nsIn K mainGlobals "Kind" = some (some (.ref C_Kind)))
    (pg_Kind : PySem.W.plainGet K C_Kind Str.empty = true)
    (hd_Kind : PySem.W.hasDictIn K C_Kind = true)
    (po_Kind : PySem.W.plainOver K C_Kind = true)
    (sa_Kind : PySem.W.findIn K (.ref C_Kind) "__setattr__" = some (some (.builtin "object.__setattr__")))
    (rd_Kind : PySem.W.readsIn K C_Kind (.type "type") = true)
    (ga_Kind : PySem.W.specialIn K (.ref C_Kind) "__getattribute__" = some (some (.builtin "type.__getattribute__")))
    (n_Kind_digits : PySem.W.findIn K (.ref C_Kind) "digits" = some none)
    (n_Kind_family : PySem.W.findIn K (.ref C_Kind) "family" = some none)
    (n_Kind_keep : PySem.W.findIn K (.ref C_Kind) "keep" = some none)
    (n_Kind_marks : PySem.W.findIn K (.ref C_Kind) "marks" = some none)
    (n_Kind_name : PySem.W.findIn K (.ref C_Kind) "name" = some none)
    (n_Kind_no : PySem.W.findIn K (.ref C_Kind) "no" = some none)
    (n_Kind_point : PySem.W.findIn K (.ref C_Kind) "point" = some none)
    (n_Kind_shown : PySem.W.findIn K (.ref C_Kind) "shown" = some none)
    (n_Kind_signs : PySem.W.findIn K (.ref C_Kind) "signs" = some none)
    (n_Kind_yes : PySem.W.findIn K (.ref C_Kind) "yes" = some none)
    (n_Kind_zeros : PySem.W.findIn K (.ref C_Kind) "zeros" = some none)
    (a_l_part : PySem.W.nsIn K mainGlobals "_law_part" = some (some (.ref f_l_part)))
    (F_l_part : FunD K "_law_part" "_law_part" (defArgs s_l_part) (defBody s_l_part) (defScope s_l_part) [] [] f_l_part d_l_part)
    (a_Kind_init : PySem.W.findIn K (.ref C_Kind) "__init__" = some (some (.ref f_Kind_init)))
    (fn_Kind_init : PySem.W.isFn K (.ref f_Kind_init) = true)
    (mk_Kind_init : PySem.W.makesIn K C_Kind = true)
    (kc_Kind_init : PySem.W.keepIn K (.ref C_Kind) = true)
    (kt_Kind_init_marks : KTup K t_Kind_init_marks [])
    (kt_Kind_init_yes : KTup K t_Kind_init_yes [])
    (kt_Kind_init_no : KTup K t_Kind_init_no [])
    (F_Kind_init : FunD K "__init__" "Kind.__init__" (defArgs s_Kind_init) (defBody s_Kind_init) (defScope s_Kind_init) [] [("marks", (.ref t_Kind_init_marks)), ("yes", (.ref t_Kind_init_yes)), ("no", (.ref t_Kind_init_no)), ("digits", .non), ("point", (.bl false)), ("signs", (.str ⟨[45].toArray⟩)), ("zeros", (.bl true)), ("keep", .non), ("shown", (.int 0))] f_Kind_init d_Kind_init)
    (a_is_betweenU : PySem.W.nsIn K mainGlobals "is_between" = some (some (.ref f_is_betweenU)))
    (F_is_betweenU : FunD K "is_between" "is_between" (defArgs s_is_betweenU) (defBody s_is_betweenU) (defScope s_is_betweenU) [] [] f_is_betweenU d_is_betweenU)
    (a_is_word : PySem.W.nsIn K mainGlobals "is_word" = some (some (.ref f_is_word)))
    (F_is_word : FunD K "is_word" "is_word" (defArgs s_is_word) (defBody s_is_word) (defScope s_is_word) [] [] f_is_word d_is_word)
    (a_Kind_of_numbersX : PySem.W.findCls K (.ref C_Kind) (.type "type") "of_numbers" = some (.get (.builtin "staticmethod.__get__") (.ref p_Kind_of_numbersX) .none (.ref C_Kind)))
    (rc_Kind_of_numbersX : ∃ rest, PySem.W.recIn K p_Kind_of_numbersX "staticmethod" = some (.ref f_Kind_of_numbersX :: rest))
    (F_Kind_of_numbersX : FunD K "of_numbers" "Kind.of_numbers" (defArgs s_Kind_of_numbersX) (defBody s_Kind_of_numbersX) (defScope s_Kind_of_numbersX) [] [("digits", .non), ("point", (.bl false)), ("signs", (.str ⟨[45].toArray⟩)), ("zeros", (.bl true)), ("keep", .non), ("shown", (.int 0))] f_Kind_of_numbersX d_Kind_of_numbersX)
    (a_l_take : PySem.W.nsIn K mainGlobals "_law_take" = some (some (.ref f_l_take)))
    (F_l_take : FunD K "_law_take" "_law_take" (defArgs s_l_take) (defBody s_l_take) (defScope s_l_take) [] [] f_l_take d_l_take)
    (a_l_of : PySem.W.nsIn K mainGlobals "_law_of" = some (some (.ref f_l_of)))
    (F_l_of : FunD K "_law_of" "_law_of" (defArgs s_l_of) (defBody s_l_of) (defScope s_l_of) [] [] f_l_of d_l_of)
    (a_l_no_count : PySem.W.nsIn K mainGlobals "_law_no_count" = some (some (.ref f_l_no_count)))
    (F_l_no_count : FunD K "_law_no_count" "_law_no_count" (defArgs s_l_no_count) (defBody s_l_no_count) (defScope s_l_no_count) [] [] f_l_no_count d_l_no_count)
    (a_l_no_word : PySem.W.nsIn K mainGlobals "_law_no_word" = some (some (.ref f_l_no_word)))
    (F_l_no_word : FunD K "_law_no_word" "_law_no_word" (defArgs s_l_no_word) (defBody s_l_no_word) (defScope s_l_no_word) [] [] f_l_no_word d_l_no_word)
    (a_l_numbers_right : PySem.W.nsIn K mainGlobals "_law_numbers_right" = some (some (.ref f_l_numbers_right)))
    (lc_l_numbers_right : codeX K f_l_numbers_right C_code_l_numbers_right = true)
    (lh_l_numbers_right : PySem.W.codeHdIn K C_code_l_numbers_right C_tab_l_numbers_right = true)
    (F_l_numbers_right : FunD K "_law_numbers_right" "_law_numbers_right" (defArgs s_l_numbers_right) (defBody s_l_numbers_right) (defScope s_l_numbers_right) [] [] f_l_numbers_right d_l_numbers_right)
    (a_is_text : PySem.W.nsIn K mainGlobals "is_text" = some (some (.ref f_is_text)))
    (F_is_text : FunD K "is_text" "is_text" (defArgs s_is_text) (defBody s_is_text) (defScope s_is_text) [] [] f_is_text d_is_text)
    (a_are_textsU : PySem.W.nsIn K mainGlobals "are_texts" = some (some (.ref f_are_textsU)))
    (F_are_textsU : FunD K "are_texts" "are_texts" (defArgs s_are_textsU) (defBody s_are_textsU) (defScope s_are_textsU) [] [] f_are_textsU d_are_textsU)
    (a_Kind_of_marksX : PySem.W.findCls K (.ref C_Kind) (.type "type") "of_marks" = some (.get (.builtin "staticmethod.__get__") (.ref p_Kind_of_marksX) .none (.ref C_Kind)))
    (rc_Kind_of_marksX : ∃ rest, PySem.W.recIn K p_Kind_of_marksX "staticmethod" = some (.ref f_Kind_of_marksX :: rest))
    (F_Kind_of_marksX : FunD K "of_marks" "Kind.of_marks" (defArgs s_Kind_of_marksX) (defBody s_Kind_of_marksX) (defScope s_Kind_of_marksX) [] [] f_Kind_of_marksX d_Kind_of_marksX)
    (a_l_digits : PySem.W.nsIn K mainGlobals "_law_digits" = some (some (.ref f_l_digits)))
    (F_l_digits : FunD K "_law_digits" "_law_digits" (defArgs s_l_digits) (defBody s_l_digits) (defScope s_l_digits) [] [] f_l_digits d_l_digits)
    (a_l_number : PySem.W.nsIn K mainGlobals "_law_number" = some (some (.ref f_l_number)))
    (F_l_number : FunD K "_law_number" "_law_number" (defArgs s_l_number) (defBody s_l_number) (defScope s_l_number) [] [] f_l_number d_l_number)
    (a_l_signs : PySem.W.nsIn K mainGlobals "_law_signs" = some (some (.ref f_l_signs)))
    (F_l_signs : FunD K "_law_signs" "_law_signs" (defArgs s_l_signs) (defBody s_l_signs) (defScope s_l_signs) [] [] f_l_signs d_l_signs)
    (a_l_text : PySem.W.nsIn K mainGlobals "_law_text" = some (some (.ref f_l_text)))
    (F_l_text : FunD K "_law_text" "_law_text" (defArgs s_l_text) (defBody s_l_text) (defScope s_l_text) [] [] f_l_text d_l_text)
    (a_l_marks_right : PySem.W.nsIn K mainGlobals "_law_marks_right" = some (some (.ref f_l_marks_right)))
    (lc_l_marks_right : codeX K f_l_marks_right C_code_l_marks_right = true)
    (lh_l_marks_right : PySem.W.codeHdIn K C_code_l_marks_right C_tab_l_marks_right = true)
    (F_l_marks_right : FunD K "_law_marks_right" "_law_marks_right" (defArgs s_l_marks_right) (defBody s_l_marks_right) (defScope s_l_marks_right) [] [] f_l_marks_right d_l_marks_right)
    (a_Kind_of_wordsX : PySem.W.findCls K (.ref C_Kind) (.type "type") "of_words" = some (.get (.builtin "staticmethod.__get__") (.ref p_Kind_of_wordsX) .none (.ref C_Kind)))
    (rc_Kind_of_wordsX : ∃ rest, PySem.W.recIn K p_Kind_of_wordsX "staticmethod" = some (.ref f_Kind_of_wordsX :: rest))
    (F_Kind_of_wordsX : FunD K "of_words" "Kind.of_words" (defArgs s_Kind_of_wordsX) (defBody s_Kind_of_wordsX) (defScope s_Kind_of_wordsX) [] [] f_Kind_of_wordsX d_Kind_of_wordsX)
    (a_Kind_of_textsX : PySem.W.findCls K (.ref C_Kind) (.type "type") "of_texts" = some (.get (.builtin "staticmethod.__get__") (.ref p_Kind_of_textsX) .none (.ref C_Kind)))
    (rc_Kind_of_textsX : ∃ rest, PySem.W.recIn K p_Kind_of_textsX "staticmethod" = some (.ref f_Kind_of_textsX :: rest))
    (F_Kind_of_textsX : FunD K "of_texts" "Kind.of_texts" (defArgs s_Kind_of_textsX) (defBody s_Kind_of_textsX) (defScope s_Kind_of_textsX) [] [] f_Kind_of_textsX d_Kind_of_textsX)
    (a_l_other_texts : PySem.W.nsIn K mainGlobals "_law_other_texts" = some (some (.ref f_l_other_texts)))
    (F_l_other_texts : FunD K "_law_other_texts" "_law_other_texts" (defArgs s_l_other_texts) (defBody s_l_other_texts) (defScope s_l_other_texts) [] [] f_l_other_texts d_l_other_texts)
    (a_l_words_right : PySem.W.nsIn K mainGlobals "_law_words_right" = some (some (.ref f_l_words_right)))
    (lc_l_words_right : codeX K f_l_words_right C_code_l_words_right = true)
    (lh_l_words_right : PySem.W.codeHdIn K C_code_l_words_right C_tab_l_words_right = true)
    (F_l_words_right : FunD K "_law_words_right" "_law_words_right" (defArgs s_l_words_right) (defBody s_l_words_right) (defScope s_l_words_right) [] [] f_l_words_right d_l_words_right)
    (a_l_word : PySem.W.nsIn K mainGlobals "_law_word" = some (some (.ref f_l_word)))
    (F_l_word : FunD K "_law_word" "_law_word" (defArgs s_l_word) (defBody s_l_word) (defScope s_l_word) [] [] f_l_word d_l_word)
    (a_l_words : PySem.W.nsIn K mainGlobals "_law_words" = some (some (.ref f_l_words)))
    (F_l_words : FunD K "_law_words" "_law_words" (defArgs s_l_words) (defBody s_l_words) (defScope s_l_words) [] [] f_l_words d_l_words)
    (a_l_bag : PySem.W.nsIn K mainGlobals "_law_bag" = some (some (.ref f_l_bag)))
    (F_l_bag : FunD K "_law_bag" "_law_bag" (defArgs s_l_bag) (defBody s_l_bag) (defScope s_l_bag) [] [] f_l_bag d_l_bag)
    (a_law : PySem.W.nsIn K mainGlobals "law" = some (some (.ref f_law)))
    (F_law : FunD K "law" "law" (defArgs s_law) (defBody s_law) (defScope s_law) [] [] f_law d_law)
    (a_GuessError : PySem.W.nsIn K mainGlobals "GuessError" = some (some (.ref C_GuessError)))
    (a_BadKind : PySem.W.nsIn K mainGlobals "BadKind" = some (some (.ref C_BadKind)))
    (a_BadBook : PySem.W.nsIn K mainGlobals "BadBook" = some (some (.ref C_BadBook)))
    (xi_BadKind : PySem.W.findIn K (.ref C_BadKind) "__init__" = some (some (.ref f_BadKind_init)))
    (xt_BadKind : PySem.W.typeIn K (.ref f_BadKind_init) = some (.type "function"))
    (F_BadKind_init : FunD K "__init__" "BadKind.__init__" (defArgs s_BadKind_init) (defBody s_BadKind_init) (defScope s_BadKind_init) [] [] f_BadKind_init d_BadKind_init)
    (xq_BadKind : PySem.W.excInitIn K C_BadKind [.type "ValueError", .type "Exception", .type "BaseException", .type "object"] "ValueError.__new__" = true)
    (xh_BadKind : PySem.W.hasDictIn K C_BadKind = true)
    (xsa_BadKind : PySem.W.findIn K (.ref C_BadKind) "__setattr__" = some (some (.builtin "object.__setattr__")))
    (xex_BadKind : PySem.W.subIn K (.ref C_BadKind) (.type "BaseException") = some true)
    (xty_BadKind : PySem.W.typeIn K (.ref C_BadKind) = some (.type "type"))
    (xkp_BadKind : PySem.W.keepIn K (.ref C_BadKind) = true)
    (xn_BadKind_part : PySem.W.findIn K (.ref C_BadKind) "part" = some none)
    (xrd_GuessError : PySem.W.readsIn K C_GuessError (.type "type") = true)
    (xga_GuessError : PySem.W.specialIn K (.ref C_GuessError) "__getattribute__" = some (some (.builtin "type.__getattribute__")))
    (xb_GuessError : PySem.W.findCls K (.ref C_GuessError) (.type "type") "__init__" = some (.val (.builtin "ValueError.__init__")))
    (eg_BadKind : PySem.W.findIn K (.ref C_BadKind) "__getattribute__" = some (some (.builtin "BaseException.__getattribute__")))
    (ek_BadKind : PySem.W.findIn K (.ref C_BadKind) "__getattr__" = some none)
    (es_BadKind : PySem.W.subIn K (.ref C_BadKind) (.type "BaseException") = some true)
    (ed_BadKind : PySem.W.hasDictIn K C_BadKind = true)
    (ea_BadKind : PySem.W.findIn K (.ref C_BadKind) "__class__" = some (some (.builtin "object.__class__")))
    (en_BadKind : PySem.W.specialIn K (.builtin "object.__class__") "__get__" = some (some (.builtin "getset_descriptor.__get__")))
    (et_BadKind : PySem.W.takesIn K (.builtin "object.__class__") = some true)
    (em_BadKind : PySem.W.mroIn K C_BadKind (.type "object") = some true)
    (hs_GuessError : PySem.W.subIn K (.ref C_GuessError) (.type "BaseException") = some true)
    (hh_GuessError : PySem.W.hasDictIn K C_GuessError = true)
    (ht_GuessError : PySem.W.typeIn K (.ref C_GuessError) = some (.type "type"))
    (es_BadKind_GuessError : PySem.W.subIn K (.ref C_BadKind) (.ref C_GuessError) = some true)
    (kx_BadKind_BadBook : PySem.W.kitOne K (.ref C_BadKind) (.ref C_BadBook) = some false)
    (kx_BadKind_BadKind : PySem.W.kitOne K (.ref C_BadKind) (.ref C_BadKind) = some true)
    (kx_BadKind_ValueError : PySem.W.kitOne K (.ref C_BadKind) (.type "ValueError") = some true)
    (z_ValueError : PySem.W.nsIn K mainGlobals "ValueError" = some none)
    (z_abs : PySem.W.nsIn K mainGlobals "abs" = some none)
    (z_all : PySem.W.nsIn K mainGlobals "all" = some none)
    (z_any : PySem.W.nsIn K mainGlobals "any" = some none)
    (z_bool : PySem.W.nsIn K mainGlobals "bool" = some none)
    (z_int : PySem.W.nsIn K mainGlobals "int" = some none)
    (z_isinstance : PySem.W.nsIn K mainGlobals "isinstance" = some none)
    (z_len : PySem.W.nsIn K mainGlobals "len" = some none)
    (z_list : PySem.W.nsIn K mainGlobals "list" = some none)
    (z_max : PySem.W.nsIn K mainGlobals "max" = some none)
    (z_min : PySem.W.nsIn K mainGlobals "min" = some none)
    (z_ord : PySem.W.nsIn K mainGlobals "ord" = some none)
    (z_range : PySem.W.nsIn K mainGlobals "range" = some none)
    (z_set : PySem.W.nsIn K mainGlobals "set" = some none)
    (z_str : PySem.W.nsIn K mainGlobals "str" = some none)
    (z_tuple : PySem.W.nsIn K mainGlobals "tuple" = some none)
    (g_LETTERS : ∃ t, PySem.W.nsIn K mainGlobals "LETTERS" = some (some (.str ⟨[97, 98, 99, 100, 101, 102, 103, 104, 105, 106, 107, 108, 109, 110, 111, 112, 113, 114, 115, 116, 117, 118, 119, 120, 121, 122].toArray⟩ t)))
    (g_MOST_DIGITS : ∃ t, PySem.W.nsIn K mainGlobals "MOST_DIGITS" = some (some (.int 20 t)))
    (g_MOST_MARKS : ∃ t, PySem.W.nsIn K mainGlobals "MOST_MARKS" = some (some (.int 6 t)))
    (g_MOST_SHOWN : ∃ t, PySem.W.nsIn K mainGlobals "MOST_SHOWN" = some (some (.int 3 t)))
    (g_MOST_WORDS : ∃ t, PySem.W.nsIn K mainGlobals "MOST_WORDS" = some (some (.int 4 t))) :
    ∃ (cl : Nm) (fd : FuncData), (cl "_law_numbers_right.<locals>.<lambda>" = C_tab_l_numbers_right ∧ cl "_law_marks_right.<locals>.<lambda>" = C_tab_l_marks_right ∧ cl "_law_words_right.<locals>.<lambda>" = C_tab_l_words_right) ∧ (∀ (s : Shared) (v : Value), BindsTo s fd ⟨[v], []⟩ [("_law_script", v)]) ∧ ∀ base : Heap, K.In base → base.Ns mainGlobals mg → (∀ p ∈ [(C_code_l_numbers_right, C_tab_l_numbers_right), (C_code_l_marks_right, C_tab_l_marks_right), (C_code_l_words_right, C_tab_l_words_right)], LamX.TabB base mg p.1 p.2) → _root_.G.FnOk l.prog w K mg base CX0 8 fa fd ["_law_script"] (lowSp K cl (sp_lawT ["_law_numbers_right.<locals>.<lambda>", "_law_marks_right.<locals>.<lambda>", "_law_words_right.<locals>.<lambda>"])) := by
  have e := hfa.symm.trans (PySem.W.mg_of X G a_law)
  cases e
  obtain ⟨cl, e_Kind, e_GuessError, e_BadKind, e_BadBook, e_tab_l_numbers_right, e_tab_l_marks_right, e_tab_l_words_right⟩ : ∃ cl : Nm, cl "Kind" = C_Kind ∧ cl "GuessError" = C_GuessError ∧ cl "BadKind" = C_BadKind ∧ cl "BadBook" = C_BadBook ∧ cl "_law_numbers_right.<locals>.<lambda>" = C_tab_l_numbers_right ∧ cl "_law_marks_right.<locals>.<lambda>" = C_tab_l_marks_right ∧ cl "_law_words_right.<locals>.<lambda>" = C_tab_l_words_right := ⟨nm1 "Kind" C_Kind (nm1 "GuessError" C_GuessError (nm1 "BadKind" C_BadKind (nm1 "BadBook" C_BadBook (nm1 "_law_numbers_right.<locals>.<lambda>" C_tab_l_numbers_right (nm1 "_law_marks_right.<locals>.<lambda>" C_tab_l_marks_right (nm1 "_law_words_right.<locals>.<lambda>" C_tab_l_words_right (fun _ => 0))))))), by simp [nm1], by simp [nm1], by simp [nm1], by simp [nm1], by simp [nm1], by simp [nm1], by simp [nm1]⟩
  subst e_Kind
  subst e_GuessError
  subst e_BadKind
  subst e_BadBook
  subst e_tab_l_numbers_right
  subst e_tab_l_marks_right
  subst e_tab_l_words_right
  have F_BadKind_init := fun_ofD F_BadKind_init
  have b_BadKind_init := F_BadKind_init.binds (ps := ["self", "part"]) fun _ _ _ _ _ _ us hl => match us, hl with | [_, _], _ => rfl
  have B_law := FunD.bindsA (ps := ["_law_script"]) F_law fun _ _ _ _ _ _ us hl => match us, hl with | [_], _ => rfl
  have k_l_part := F_l_part.kp
  have F_l_part := fun_ofD F_l_part
  have b_l_part := F_l_part.binds (ps := ["_law_asked"]) fun _ _ _ _ _ _ us hl => match us, hl with | [_], _ => rfl
  have k_Kind_init := F_Kind_init.kp
  have k_is_betweenU := F_is_betweenU.kp
  have F_is_betweenU := fun_ofD F_is_betweenU
  have b_is_betweenU := F_is_betweenU.binds (ps := ["thing", "least", "most"]) fun _ _ _ _ _ _ us hl => match us, hl with | [_, _, _], _ => rfl
  have k_is_word := F_is_word.kp
  have F_is_word := fun_ofD F_is_word
  have b_is_word := F_is_word.binds (ps := ["thing"]) fun _ _ _ _ _ _ us hl => match us, hl with | [_], _ => rfl
  have k_Kind_of_numbersX := F_Kind_of_numbersX.kp
  have k_l_take := F_l_take.kp
  have F_l_take := fun_ofD F_l_take
  have b_l_take := F_l_take.binds (ps := ["_law_bag_here", "_law_many"]) fun _ _ _ _ _ _ us hl => match us, hl with | [_, _], _ => rfl
  have k_l_of := F_l_of.kp
  have F_l_of := fun_ofD F_l_of
  have b_l_of := F_l_of.binds (ps := ["_law_bag_here", "_law_some"]) fun _ _ _ _ _ _ us hl => match us, hl with | [_, _], _ => rfl
  have k_l_no_count := F_l_no_count.kp
  have F_l_no_count := fun_ofD F_l_no_count
  have b_l_no_count := F_l_no_count.binds (ps := ["_law_bag_here"]) fun _ _ _ _ _ _ us hl => match us, hl with | [_], _ => rfl
  have k_l_no_word := F_l_no_word.kp
  have F_l_no_word := fun_ofD F_l_no_word
  have b_l_no_word := F_l_no_word.binds (ps := ["_law_bag_here"]) fun _ _ _ _ _ _ us hl => match us, hl with | [_], _ => rfl
  have k_l_numbers_right := F_l_numbers_right.kp
  have F_l_numbers_right := fun_ofD F_l_numbers_right
  have b_l_numbers_right := F_l_numbers_right.binds (ps := ["_law_bag_here", "_law_label"]) fun _ _ _ _ _ _ us hl => match us, hl with | [_, _], _ => rfl
  have k_is_text := F_is_text.kp
  have F_is_text := fun_ofD F_is_text
  have b_is_text := F_is_text.binds (ps := ["thing"]) fun _ _ _ _ _ _ us hl => match us, hl with | [_], _ => rfl
  have k_are_textsU := F_are_textsU.kp
  have F_are_textsU := fun_ofD F_are_textsU
  have b_are_textsU := F_are_textsU.binds (ps := ["things", "most"]) fun _ _ _ _ _ _ us hl => match us, hl with | [_, _], _ => rfl
  have k_Kind_of_marksX := F_Kind_of_marksX.kp
  have F_Kind_of_marksX := fun_ofD F_Kind_of_marksX
  have k_l_digits := F_l_digits.kp
  have F_l_digits := fun_ofD F_l_digits
  have b_l_digits := F_l_digits.binds (ps := ["_law_bag_here", "_law_least", "_law_most"]) fun _ _ _ _ _ _ us hl => match us, hl with | [_, _, _], _ => rfl
  have k_l_number := F_l_number.kp
  have F_l_number := fun_ofD F_l_number
  have b_l_number := F_l_number.binds (ps := ["_law_bag_here", "_law_most"]) fun _ _ _ _ _ _ us hl => match us, hl with | [_, _], _ => rfl
  have k_l_signs := F_l_signs.kp
  have F_l_signs := fun_ofD F_l_signs
  have b_l_signs := F_l_signs.binds (ps := []) fun _ _ _ _ _ _ us hl => match us, hl with | [], _ => rfl
  have k_l_text := F_l_text.kp
  have F_l_text := fun_ofD F_l_text
  have b_l_text := F_l_text.binds (ps := ["_law_bag_here"]) fun _ _ _ _ _ _ us hl => match us, hl with | [_], _ => rfl
  have k_l_marks_right := F_l_marks_right.kp
  have F_l_marks_right := fun_ofD F_l_marks_right
  have b_l_marks_right := F_l_marks_right.binds (ps := ["_law_bag_here", "_law_label"]) fun _ _ _ _ _ _ us hl => match us, hl with | [_, _], _ => rfl
  have k_Kind_of_wordsX := F_Kind_of_wordsX.kp
  have F_Kind_of_wordsX := fun_ofD F_Kind_of_wordsX
  have b_Kind_of_wordsX := F_Kind_of_wordsX.binds (ps := ["name", "yes", "no"]) fun _ _ _ _ _ _ us hl => match us, hl with | [_, _, _], _ => rfl
  have k_Kind_of_textsX := F_Kind_of_textsX.kp
  have F_Kind_of_textsX := fun_ofD F_Kind_of_textsX
  have b_Kind_of_textsX := F_Kind_of_textsX.binds (ps := ["name"]) fun _ _ _ _ _ _ us hl => match us, hl with | [_], _ => rfl
  have k_l_other_texts := F_l_other_texts.kp
  have F_l_other_texts := fun_ofD F_l_other_texts
  have b_l_other_texts := F_l_other_texts.binds (ps := ["_law_bag_here", "_law_many", "_law_taken"]) fun _ _ _ _ _ _ us hl => match us, hl with | [_, _, _], _ => rfl
  have k_l_words_right := F_l_words_right.kp
  have F_l_words_right := fun_ofD F_l_words_right
  have b_l_words_right := F_l_words_right.binds (ps := ["_law_bag_here", "_law_label"]) fun _ _ _ _ _ _ us hl => match us, hl with | [_, _], _ => rfl
  have k_l_word := F_l_word.kp
  have F_l_word := fun_ofD F_l_word
  have b_l_word := F_l_word.binds (ps := ["_law_bag_here", "_law_at", "_law_most"]) fun _ _ _ _ _ _ us hl => match us, hl with | [_, _, _], _ => rfl
  have k_l_words := F_l_words.kp
  have F_l_words := fun_ofD F_l_words
  have b_l_words := F_l_words.binds (ps := ["_law_bag_here", "_law_many"]) fun _ _ _ _ _ _ us hl => match us, hl with | [_, _], _ => rfl
  have k_l_bag := F_l_bag.kp
  have F_l_bag := fun_ofD F_l_bag
  have b_l_bag := F_l_bag.binds (ps := ["_law_script", "_law_at"]) fun _ _ _ _ _ _ us hl => match us, hl with | [_, _], _ => rfl
  have k_law := F_law.kp
  have F_law := fun_ofD F_law
  have b_law := F_law.binds (ps := ["_law_script"]) fun _ _ _ _ _ _ us hl => match us, hl with | [_], _ => rfl
  refine ⟨cl, d_law, ⟨rfl, rfl, rfl⟩, fun s v => B_law s [v] rfl, fun base _ _ hTB => ?_⟩
  have T : Txt K mg base ⟨cl, f_l_part, d_l_part, f_Kind_init, d_Kind_init, t_Kind_init_marks, t_Kind_init_yes, t_Kind_init_no, f_is_betweenU, d_is_betweenU, f_is_word, d_is_word, f_Kind_of_numbersX, d_Kind_of_numbersX, p_Kind_of_numbersX, f_l_take, d_l_take, f_l_of, d_l_of, f_l_no_count, d_l_no_count, f_l_no_word, d_l_no_word, f_l_numbers_right, d_l_numbers_right, C_code_l_numbers_right, (cl "_law_numbers_right.<locals>.<lambda>"), f_is_text, d_is_text, f_are_textsU, d_are_textsU, f_Kind_of_marksX, d_Kind_of_marksX, p_Kind_of_marksX, f_l_digits, d_l_digits, f_l_number, d_l_number, f_l_signs, d_l_signs, f_l_text, d_l_text, f_l_marks_right, d_l_marks_right, C_code_l_marks_right, (cl "_law_marks_right.<locals>.<lambda>"), f_Kind_of_wordsX, d_Kind_of_wordsX, p_Kind_of_wordsX, f_Kind_of_textsX, d_Kind_of_textsX, p_Kind_of_textsX, f_l_other_texts, d_l_other_texts, f_l_words_right, d_l_words_right, C_code_l_words_right, (cl "_law_words_right.<locals>.<lambda>"), f_l_word, d_l_word, f_l_words, d_l_words, f_l_bag, d_l_bag, fa, d_law, f_BadKind_init, d_BadKind_init⟩ := {
    f_l_part := F_l_part
    b_l_part := b_l_part
    m_l_part := PySem.W.mg_of X G a_l_part
    kp_l_part := k_l_part
    f_Kind_init := F_Kind_init
    t_Kind_init_marks := kt_Kind_init_marks
    t_Kind_init_yes := kt_Kind_init_yes
    t_Kind_init_no := kt_Kind_init_no
    h_Kind_init := ⟨mk_Kind_init, a_Kind_init, fn_Kind_init, kc_Kind_init⟩
    f_is_betweenU := F_is_betweenU
    b_is_betweenU := b_is_betweenU
    m_is_betweenU := PySem.W.mg_of X G a_is_betweenU
    kp_is_betweenU := k_is_betweenU
    f_is_word := F_is_word
    b_is_word := b_is_word
    m_is_word := PySem.W.mg_of X G a_is_word
    kp_is_word := k_is_word
    f_Kind_of_numbersX := F_Kind_of_numbersX
    h_Kind_of_numbersX := ⟨a_Kind_of_numbersX, rc_Kind_of_numbersX, k_Kind_of_numbersX⟩
    f_l_take := F_l_take
    b_l_take := b_l_take
    m_l_take := PySem.W.mg_of X G a_l_take
    kp_l_take := k_l_take
    f_l_of := F_l_of
    b_l_of := b_l_of
    m_l_of := PySem.W.mg_of X G a_l_of
    kp_l_of := k_l_of
    f_l_no_count := F_l_no_count
    b_l_no_count := b_l_no_count
    m_l_no_count := PySem.W.mg_of X G a_l_no_count
    kp_l_no_count := k_l_no_count
    f_l_no_word := F_l_no_word
    b_l_no_word := b_l_no_word
    m_l_no_word := PySem.W.mg_of X G a_l_no_word
    kp_l_no_word := k_l_no_word
    f_l_numbers_right := F_l_numbers_right
    b_l_numbers_right := b_l_numbers_right
    m_l_numbers_right := PySem.W.mg_of X G a_l_numbers_right
    kp_l_numbers_right := k_l_numbers_right
    lc_l_numbers_right := codeX_ok F_l_numbers_right lc_l_numbers_right
    tb_l_numbers_right := hTB (C_code_l_numbers_right, cl "_law_numbers_right.<locals>.<lambda>") (by simp)
    lp_l_numbers_right := rfl
    f_is_text := F_is_text
    b_is_text := b_is_text
    m_is_text := PySem.W.mg_of X G a_is_text
    kp_is_text := k_is_text
    f_are_textsU := F_are_textsU
    b_are_textsU := b_are_textsU
    m_are_textsU := PySem.W.mg_of X G a_are_textsU
    kp_are_textsU := k_are_textsU
    f_Kind_of_marksX := F_Kind_of_marksX
    b_Kind_of_marksX := fun _ _ _ _ _ _ us rest hl => match us, rest, hl with | [_], [], _ => rfl | [_], _ :: _, _ => rfl
    h_Kind_of_marksX := ⟨a_Kind_of_marksX, rc_Kind_of_marksX, k_Kind_of_marksX⟩
    f_l_digits := F_l_digits
    b_l_digits := b_l_digits
    m_l_digits := PySem.W.mg_of X G a_l_digits
    kp_l_digits := k_l_digits
    f_l_number := F_l_number
    b_l_number := b_l_number
    m_l_number := PySem.W.mg_of X G a_l_number
    kp_l_number := k_l_number
    f_l_signs := F_l_signs
    b_l_signs := b_l_signs
    m_l_signs := PySem.W.mg_of X G a_l_signs
    kp_l_signs := k_l_signs
    f_l_text := F_l_text
    b_l_text := b_l_text
    m_l_text := PySem.W.mg_of X G a_l_text
    kp_l_text := k_l_text
    f_l_marks_right := F_l_marks_right
    b_l_marks_right := b_l_marks_right
    m_l_marks_right := PySem.W.mg_of X G a_l_marks_right
    kp_l_marks_right := k_l_marks_right
    lc_l_marks_right := codeX_ok F_l_marks_right lc_l_marks_right
    tb_l_marks_right := hTB (C_code_l_marks_right, cl "_law_marks_right.<locals>.<lambda>") (by simp)
    lp_l_marks_right := rfl
    f_Kind_of_wordsX := F_Kind_of_wordsX
    b_Kind_of_wordsX := b_Kind_of_wordsX
    h_Kind_of_wordsX := ⟨a_Kind_of_wordsX, rc_Kind_of_wordsX, k_Kind_of_wordsX⟩
    f_Kind_of_textsX := F_Kind_of_textsX
    b_Kind_of_textsX := b_Kind_of_textsX
    h_Kind_of_textsX := ⟨a_Kind_of_textsX, rc_Kind_of_textsX, k_Kind_of_textsX⟩
    f_l_other_texts := F_l_other_texts
    b_l_other_texts := b_l_other_texts
    m_l_other_texts := PySem.W.mg_of X G a_l_other_texts
    kp_l_other_texts := k_l_other_texts
    f_l_words_right := F_l_words_right
    b_l_words_right := b_l_words_right
    m_l_words_right := PySem.W.mg_of X G a_l_words_right
    kp_l_words_right := k_l_words_right
    lc_l_words_right := codeX_ok F_l_words_right lc_l_words_right
    tb_l_words_right := hTB (C_code_l_words_right, cl "_law_words_right.<locals>.<lambda>") (by simp)
    lp_l_words_right := rfl
    f_l_word := F_l_word
    b_l_word := b_l_word
    m_l_word := PySem.W.mg_of X G a_l_word
    kp_l_word := k_l_word
    f_l_words := F_l_words
    b_l_words := b_l_words
    m_l_words := PySem.W.mg_of X G a_l_words
    kp_l_words := k_l_words
    f_l_bag := F_l_bag
    b_l_bag := b_l_bag
    m_l_bag := PySem.W.mg_of X G a_l_bag
    kp_l_bag := k_l_bag
    f_law := F_law
    b_law := b_law
    m_law := PySem.W.mg_of X G a_law
    kp_law := k_law
    c_Kind := ⟨pg_Kind, hd_Kind, po_Kind, sa_Kind⟩
    m_Kind := PySem.W.mg_of X G a_Kind
    r_Kind := ⟨rd_Kind, ga_Kind⟩
    n_Kind_digits := n_Kind_digits
    n_Kind_family := n_Kind_family
    n_Kind_keep := n_Kind_keep
    n_Kind_marks := n_Kind_marks
    n_Kind_name := n_Kind_name
    n_Kind_no := n_Kind_no
    n_Kind_point := n_Kind_point
    n_Kind_shown := n_Kind_shown
    n_Kind_signs := n_Kind_signs
    n_Kind_yes := n_Kind_yes
    n_Kind_zeros := n_Kind_zeros
    f_BadKind_init := F_BadKind_init
    b_BadKind_init := b_BadKind_init
    xo_BadKind := oexC_of xq_BadKind xh_BadKind xsa_BadKind xex_BadKind xty_BadKind xkp_BadKind
    xi_BadKind := xi_BadKind
    xt_BadKind := xt_BadKind
    xn_BadKind := (nf_cons xn_BadKind_part nf_nil)
    xr_GuessError := ⟨xrd_GuessError, xga_GuessError⟩
    xb_GuessError := xb_GuessError
    xc_BadKind := ⟨eg_BadKind, ek_BadKind, es_BadKind, ed_BadKind⟩
    ex_BadKind := ⟨eg_BadKind, ek_BadKind, es_BadKind, ed_BadKind, ea_BadKind, en_BadKind, et_BadKind, em_BadKind⟩
    em_BadKind_GuessError := PySem.W.exm_ref hs_GuessError hh_GuessError ht_GuessError es_BadKind_GuessError
    kx_BadKind_BadBook := kx_BadKind_BadBook
    kx_BadKind_BadKind := kx_BadKind_BadKind
    kx_BadKind_ValueError := kx_BadKind_ValueError
    m_GuessError := PySem.W.mg_of X G a_GuessError
    m_BadKind := PySem.W.mg_of X G a_BadKind
    m_BadBook := PySem.W.mg_of X G a_BadBook
    z_ValueError := PySem.W.mg_none_of X G z_ValueError
    z_abs := PySem.W.mg_none_of X G z_abs
    z_all := PySem.W.mg_none_of X G z_all
    z_any := PySem.W.mg_none_of X G z_any
    z_bool := PySem.W.mg_none_of X G z_bool
    z_int := PySem.W.mg_none_of X G z_int
    z_isinstance := PySem.W.mg_none_of X G z_isinstance
    z_len := PySem.W.mg_none_of X G z_len
    z_list := PySem.W.mg_none_of X G z_list
    z_max := PySem.W.mg_none_of X G z_max
    z_min := PySem.W.mg_none_of X G z_min
    z_ord := PySem.W.mg_none_of X G z_ord
    z_range := PySem.W.mg_none_of X G z_range
    z_set := PySem.W.mg_none_of X G z_set
    z_str := PySem.W.mg_none_of X G z_str
    z_tuple := PySem.W.mg_none_of X G z_tuple
    g_LETTERS := ⟨g_LETTERS.choose, PySem.W.mg_of X G g_LETTERS.choose_spec⟩
    g_MOST_DIGITS := ⟨g_MOST_DIGITS.choose, PySem.W.mg_of X G g_MOST_DIGITS.choose_spec⟩
    g_MOST_MARKS := ⟨g_MOST_MARKS.choose, PySem.W.mg_of X G g_MOST_MARKS.choose_spec⟩
    g_MOST_SHOWN := ⟨g_MOST_SHOWN.choose, PySem.W.mg_of X G g_MOST_SHOWN.choose_spec⟩
    g_MOST_WORDS := ⟨g_MOST_WORDS.choose, PySem.W.mg_of X G g_MOST_WORDS.choose_spec⟩
  }
  exact ok_law T
theorem facts {l : PySem.W.OpenLaw} {w : World} {K : PySem.W.Frag} {h : Heap} {mg : Str → Option Value} {f : Addr} (X : K.In h) (G : h.Ns mainGlobals mg) (hfa : mg ("law" : Str) = some (.ref f)) (c : SaysX fa fn K) :
    ∃ (cl : Nm) (fd : FuncData), (cl "_law_numbers_right.<locals>.<lambda>" = 360 ∧ cl "_law_marks_right.<locals>.<lambda>" = 348 ∧ cl "_law_words_right.<locals>.<lambda>" = 353) ∧ (∀ (s : Shared) (v : Value), BindsTo s fd ⟨[v], []⟩ [("_law_script", v)]) ∧ ∀ base : Heap, K.In base → base.Ns mainGlobals mg → (∀ p ∈ ([(364, 360), (350, 348), (357, 353)] : List (Addr × Addr)), LamX.TabB base mg p.1 p.2) → _root_.G.FnOk l.prog w K mg base CX0 8 f fd ["_law_script"] (lowSp K cl (sp_lawT ["_law_numbers_right.<locals>.<lambda>", "_law_marks_right.<locals>.<lambda>", "_law_words_right.<locals>.<lambda>"])) := by
  have a_Kind : PySem.W.nsIn K mainGlobals "Kind" = some (some (.ref 257)) := of_decide_eq_true (c.fact 0 0 (l := fa0) rfl rfl)
  have pg_Kind : PySem.W.plainGet K 257 Str.empty = true := of_decide_eq_true (c.fact 0 1 (l := fa0) rfl rfl)
  have hd_Kind : PySem.W.hasDictIn K 257 = true := of_decide_eq_true (c.fact 0 2 (l := fa0) rfl rfl)
  have po_Kind : PySem.W.plainOver K 257 = true := of_decide_eq_true (c.fact 0 3 (l := fa0) rfl rfl)
  have sa_Kind : PySem.W.findIn K (.ref 257) "__setattr__" = some (some (.builtin "object.__setattr__")) := of_decide_eq_true (c.fact 0 4 (l := fa0) rfl rfl)
  have rd_Kind : PySem.W.readsIn K 257 (.type "type") = true := of_decide_eq_true (c.fact 0 5 (l := fa0) rfl rfl)
  have ga_Kind : PySem.W.specialIn K (.ref 257) "__getattribute__" = some (some (.builtin "type.__getattribute__")) := of_decide_eq_true (c.fact 0 6 (l := fa0) rfl rfl)
  have n_Kind_digits : PySem.W.findIn K (.ref 257) "digits" = some none := of_decide_eq_true (c.fact 0 7 (l := fa0) rfl rfl)
  have n_Kind_family : PySem.W.findIn K (.ref 257) "family" = some none := of_decide_eq_true (c.fact 0 8 (l := fa0) rfl rfl)
  have n_Kind_keep : PySem.W.findIn K (.ref 257) "keep" = some none := of_decide_eq_true (c.fact 0 9 (l := fa0) rfl rfl)
  have n_Kind_marks : PySem.W.findIn K (.ref 257) "marks" = some none := of_decide_eq_true (c.fact 0 10 (l := fa0) rfl rfl)
  have n_Kind_name : PySem.W.findIn K (.ref 257) "name" = some none := of_decide_eq_true (c.fact 0 11 (l := fa0) rfl rfl)
  have n_Kind_no : PySem.W.findIn K (.ref 257) "no" = some none := of_decide_eq_true (c.fact 0 12 (l := fa0) rfl rfl)
  have n_Kind_point : PySem.W.findIn K (.ref 257) "point" = some none := of_decide_eq_true (c.fact 0 13 (l := fa0) rfl rfl)
  have n_Kind_shown : PySem.W.findIn K (.ref 257) "shown" = some none := of_decide_eq_true (c.fact 0 14 (l := fa0) rfl rfl)
  have n_Kind_signs : PySem.W.findIn K (.ref 257) "signs" = some none := of_decide_eq_true (c.fact 0 15 (l := fa0) rfl rfl)
  have n_Kind_yes : PySem.W.findIn K (.ref 257) "yes" = some none := of_decide_eq_true (c.fact 0 16 (l := fa0) rfl rfl)
  have n_Kind_zeros : PySem.W.findIn K (.ref 257) "zeros" = some none := of_decide_eq_true (c.fact 0 17 (l := fa0) rfl rfl)
  have a_l_part : PySem.W.nsIn K mainGlobals "_law_part" = some (some (.ref 332)) := of_decide_eq_true (c.fact 0 18 (l := fa0) rfl rfl)
  obtain ⟨d_l_part, F_l_part⟩ := c.fun_ 0 (d := ⟨332, "_law_part", "_law_part", s_l_part, [], []⟩) rfl
  have a_Kind_init : PySem.W.findIn K (.ref 257) "__init__" = some (some (.ref 165)) := of_decide_eq_true (c.fact 0 19 (l := fa0) rfl rfl)
  have fn_Kind_init : PySem.W.isFn K (.ref 165) = true := of_decide_eq_true (c.fact 0 20 (l := fa0) rfl rfl)
  have mk_Kind_init : PySem.W.makesIn K 257 = true := of_decide_eq_true (c.fact 0 21 (l := fa0) rfl rfl)
  have kc_Kind_init : PySem.W.keepIn K (.ref 257) = true := of_decide_eq_true (c.fact 0 22 (l := fa0) rfl rfl)
  have kt_Kind_init_marks : KTup K 155 [] := tupX_ok (c.fact 0 23 (l := fa0) rfl rfl)
  have kt_Kind_init_yes : KTup K 156 [] := tupX_ok (c.fact 0 24 (l := fa0) rfl rfl)
  have kt_Kind_init_no : KTup K 157 [] := tupX_ok (c.fact 0 25 (l := fa0) rfl rfl)
  obtain ⟨d_Kind_init, F_Kind_init⟩ := c.fun_ 1 (d := ⟨165, "__init__", "Kind.__init__", s_Kind_init, [], [("marks", (.ref 155)), ("yes", (.ref 156)), ("no", (.ref 157)), ("digits", .non), ("point", (.bl false)), ("signs", (.str ⟨[45].toArray⟩)), ("zeros", (.bl true)), ("keep", .non), ("shown", (.int 0))]⟩) rfl
  have a_is_betweenU : PySem.W.nsIn K mainGlobals "is_between" = some (some (.ref 113)) := of_decide_eq_true (c.fact 0 26 (l := fa0) rfl rfl)
  obtain ⟨d_is_betweenU, F_is_betweenU⟩ := c.fun_ 2 (d := ⟨113, "is_between", "is_between", s_is_betweenU, [], []⟩) rfl
  have a_is_word : PySem.W.nsIn K mainGlobals "is_word" = some (some (.ref 96)) := of_decide_eq_true (c.fact 0 27 (l := fa0) rfl rfl)
  obtain ⟨d_is_word, F_is_word⟩ := c.fun_ 3 (d := ⟨96, "is_word", "is_word", s_is_word, [], []⟩) rfl
  have a_Kind_of_numbersX : PySem.W.findCls K (.ref 257) (.type "type") "of_numbers" = some (.get (.builtin "staticmethod.__get__") (.ref 193) .none (.ref 257)) := getX_ok (c.fact 0 28 (l := fa0) rfl rfl)
  have rc_Kind_of_numbersX : ∃ rest, PySem.W.recIn K 193 "staticmethod" = some (.ref 191 :: rest) := recX_ok (c.fact 0 29 (l := fa0) rfl rfl)
  obtain ⟨d_Kind_of_numbersX, F_Kind_of_numbersX⟩ := c.fun_ 4 (d := ⟨191, "of_numbers", "Kind.of_numbers", s_Kind_of_numbersX, [], [("digits", .non), ("point", (.bl false)), ("signs", (.str ⟨[45].toArray⟩)), ("zeros", (.bl true)), ("keep", .non), ("shown", (.int 0))]⟩) rfl
  have a_l_take : PySem.W.nsIn K mainGlobals "_law_take" = some (some (.ref 275)) := of_decide_eq_true (c.fact 0 30 (l := fa0) rfl rfl)
  obtain ⟨d_l_take, F_l_take⟩ := c.fun_ 5 (d := ⟨275, "_law_take", "_law_take", s_l_take, [], []⟩) rfl
  have a_l_of : PySem.W.nsIn K mainGlobals "_law_of" = some (some (.ref 282)) := of_decide_eq_true (c.fact 0 31 (l := fa0) rfl rfl)
  obtain ⟨d_l_of, F_l_of⟩ := c.fun_ 6 (d := ⟨282, "_law_of", "_law_of", s_l_of, [], []⟩) rfl
  have a_l_no_count : PySem.W.nsIn K mainGlobals "_law_no_count" = some (some (.ref 346)) := of_decide_eq_true (c.fact 0 32 (l := fa0) rfl rfl)
  obtain ⟨d_l_no_count, F_l_no_count⟩ := c.fun_ 7 (d := ⟨346, "_law_no_count", "_law_no_count", s_l_no_count, [], []⟩) rfl
  have a_l_no_word : PySem.W.nsIn K mainGlobals "_law_no_word" = some (some (.ref 339)) := of_decide_eq_true (c.fact 0 33 (l := fa0) rfl rfl)
  obtain ⟨d_l_no_word, F_l_no_word⟩ := c.fun_ 8 (d := ⟨339, "_law_no_word", "_law_no_word", s_l_no_word, [], []⟩) rfl
  have a_l_numbers_right : PySem.W.nsIn K mainGlobals "_law_numbers_right" = some (some (.ref 365)) := of_decide_eq_true (c.fact 0 34 (l := fa0) rfl rfl)
  have lc_l_numbers_right : codeX K 365 364 = true := of_decide_eq_true (c.fact 0 35 (l := fa0) rfl rfl)
  have lh_l_numbers_right : PySem.W.codeHdIn K 364 360 = true := of_decide_eq_true (c.fact 0 36 (l := fa0) rfl rfl)
  obtain ⟨d_l_numbers_right, F_l_numbers_right⟩ := c.fun_ 9 (d := ⟨365, "_law_numbers_right", "_law_numbers_right", s_l_numbers_right, [], []⟩) rfl
  have a_is_text : PySem.W.nsIn K mainGlobals "is_text" = some (some (.ref 101)) := of_decide_eq_true (c.fact 0 37 (l := fa0) rfl rfl)
  obtain ⟨d_is_text, F_is_text⟩ := c.fun_ 10 (d := ⟨101, "is_text", "is_text", s_is_text, [], []⟩) rfl
  have a_are_textsU : PySem.W.nsIn K mainGlobals "are_texts" = some (some (.ref 106)) := of_decide_eq_true (c.fact 0 38 (l := fa0) rfl rfl)
  obtain ⟨d_are_textsU, F_are_textsU⟩ := c.fun_ 11 (d := ⟨106, "are_texts", "are_texts", s_are_textsU, [], []⟩) rfl
  have a_Kind_of_marksX : PySem.W.findCls K (.ref 257) (.type "type") "of_marks" = some (.get (.builtin "staticmethod.__get__") (.ref 174) .none (.ref 257)) := getX_ok (c.fact 0 39 (l := fa0) rfl rfl)
  have rc_Kind_of_marksX : ∃ rest, PySem.W.recIn K 174 "staticmethod" = some (.ref 172 :: rest) := recX_ok (c.fact 1 0 (l := fa1) rfl rfl)
  obtain ⟨d_Kind_of_marksX, F_Kind_of_marksX⟩ := c.fun_ 12 (d := ⟨172, "of_marks", "Kind.of_marks", s_Kind_of_marksX, [], []⟩) rfl
  have a_l_digits : PySem.W.nsIn K mainGlobals "_law_digits" = some (some (.ref 296)) := of_decide_eq_true (c.fact 1 1 (l := fa1) rfl rfl)
  obtain ⟨d_l_digits, F_l_digits⟩ := c.fun_ 13 (d := ⟨296, "_law_digits", "_law_digits", s_l_digits, [], []⟩) rfl
  have a_l_number : PySem.W.nsIn K mainGlobals "_law_number" = some (some (.ref 303)) := of_decide_eq_true (c.fact 1 2 (l := fa1) rfl rfl)
  obtain ⟨d_l_number, F_l_number⟩ := c.fun_ 14 (d := ⟨303, "_law_number", "_law_number", s_l_number, [], []⟩) rfl
  have a_l_signs : PySem.W.nsIn K mainGlobals "_law_signs" = some (some (.ref 289)) := of_decide_eq_true (c.fact 1 3 (l := fa1) rfl rfl)
  obtain ⟨d_l_signs, F_l_signs⟩ := c.fun_ 15 (d := ⟨289, "_law_signs", "_law_signs", s_l_signs, [], []⟩) rfl
  have a_l_text : PySem.W.nsIn K mainGlobals "_law_text" = some (some (.ref 308)) := of_decide_eq_true (c.fact 1 4 (l := fa1) rfl rfl)
  obtain ⟨d_l_text, F_l_text⟩ := c.fun_ 16 (d := ⟨308, "_law_text", "_law_text", s_l_text, [], []⟩) rfl
  have a_l_marks_right : PySem.W.nsIn K mainGlobals "_law_marks_right" = some (some (.ref 351)) := of_decide_eq_true (c.fact 1 5 (l := fa1) rfl rfl)
  have lc_l_marks_right : codeX K 351 350 = true := of_decide_eq_true (c.fact 1 6 (l := fa1) rfl rfl)
  have lh_l_marks_right : PySem.W.codeHdIn K 350 348 = true := of_decide_eq_true (c.fact 1 7 (l := fa1) rfl rfl)
  obtain ⟨d_l_marks_right, F_l_marks_right⟩ := c.fun_ 17 (d := ⟨351, "_law_marks_right", "_law_marks_right", s_l_marks_right, [], []⟩) rfl
  have a_Kind_of_wordsX : PySem.W.findCls K (.ref 257) (.type "type") "of_words" = some (.get (.builtin "staticmethod.__get__") (.ref 182) .none (.ref 257)) := getX_ok (c.fact 1 8 (l := fa1) rfl rfl)
  have rc_Kind_of_wordsX : ∃ rest, PySem.W.recIn K 182 "staticmethod" = some (.ref 180 :: rest) := recX_ok (c.fact 1 9 (l := fa1) rfl rfl)
  obtain ⟨d_Kind_of_wordsX, F_Kind_of_wordsX⟩ := c.fun_ 18 (d := ⟨180, "of_words", "Kind.of_words", s_Kind_of_wordsX, [], []⟩) rfl
  have a_Kind_of_textsX : PySem.W.findCls K (.ref 257) (.type "type") "of_texts" = some (.get (.builtin "staticmethod.__get__") (.ref 203) .none (.ref 257)) := getX_ok (c.fact 1 10 (l := fa1) rfl rfl)
  have rc_Kind_of_textsX : ∃ rest, PySem.W.recIn K 203 "staticmethod" = some (.ref 201 :: rest) := recX_ok (c.fact 1 11 (l := fa1) rfl rfl)
  obtain ⟨d_Kind_of_textsX, F_Kind_of_textsX⟩ := c.fun_ 19 (d := ⟨201, "of_texts", "Kind.of_texts", s_Kind_of_textsX, [], []⟩) rfl
  have a_l_other_texts : PySem.W.nsIn K mainGlobals "_law_other_texts" = some (some (.ref 315)) := of_decide_eq_true (c.fact 1 12 (l := fa1) rfl rfl)
  obtain ⟨d_l_other_texts, F_l_other_texts⟩ := c.fun_ 20 (d := ⟨315, "_law_other_texts", "_law_other_texts", s_l_other_texts, [], []⟩) rfl
  have a_l_words_right : PySem.W.nsIn K mainGlobals "_law_words_right" = some (some (.ref 358)) := of_decide_eq_true (c.fact 1 13 (l := fa1) rfl rfl)
  have lc_l_words_right : codeX K 358 357 = true := of_decide_eq_true (c.fact 1 14 (l := fa1) rfl rfl)
  have lh_l_words_right : PySem.W.codeHdIn K 357 353 = true := of_decide_eq_true (c.fact 1 15 (l := fa1) rfl rfl)
  obtain ⟨d_l_words_right, F_l_words_right⟩ := c.fun_ 21 (d := ⟨358, "_law_words_right", "_law_words_right", s_l_words_right, [], []⟩) rfl
  have a_l_word : PySem.W.nsIn K mainGlobals "_law_word" = some (some (.ref 320)) := of_decide_eq_true (c.fact 1 16 (l := fa1) rfl rfl)
  obtain ⟨d_l_word, F_l_word⟩ := c.fun_ 22 (d := ⟨320, "_law_word", "_law_word", s_l_word, [], []⟩) rfl
  have a_l_words : PySem.W.nsIn K mainGlobals "_law_words" = some (some (.ref 325)) := of_decide_eq_true (c.fact 1 17 (l := fa1) rfl rfl)
  obtain ⟨d_l_words, F_l_words⟩ := c.fun_ 23 (d := ⟨325, "_law_words", "_law_words", s_l_words, [], []⟩) rfl
  have a_l_bag : PySem.W.nsIn K mainGlobals "_law_bag" = some (some (.ref 268)) := of_decide_eq_true (c.fact 1 18 (l := fa1) rfl rfl)
  obtain ⟨d_l_bag, F_l_bag⟩ := c.fun_ 24 (d := ⟨268, "_law_bag", "_law_bag", s_l_bag, [], []⟩) rfl
  have a_law : PySem.W.nsIn K mainGlobals "law" = some (some (.ref 372)) := of_decide_eq_true (c.fact 1 19 (l := fa1) rfl rfl)
  obtain ⟨d_law, F_law⟩ := c.fun_ 25 (d := ⟨372, "law", "law", s_law, [], []⟩) rfl
  have a_GuessError : PySem.W.nsIn K mainGlobals "GuessError" = some (some (.ref 31)) := of_decide_eq_true (c.fact 1 20 (l := fa1) rfl rfl)
  have a_BadKind : PySem.W.nsIn K mainGlobals "BadKind" = some (some (.ref 51)) := of_decide_eq_true (c.fact 1 21 (l := fa1) rfl rfl)
  have a_BadBook : PySem.W.nsIn K mainGlobals "BadBook" = some (some (.ref 70)) := of_decide_eq_true (c.fact 1 22 (l := fa1) rfl rfl)
  have xi_BadKind : PySem.W.findIn K (.ref 51) "__init__" = some (some (.ref 48)) := of_decide_eq_true (c.fact 1 23 (l := fa1) rfl rfl)
  have xt_BadKind : PySem.W.typeIn K (.ref 48) = some (.type "function") := of_decide_eq_true (c.fact 1 24 (l := fa1) rfl rfl)
  obtain ⟨d_BadKind_init, F_BadKind_init⟩ := c.fun_ 26 (d := ⟨48, "__init__", "BadKind.__init__", s_BadKind_init, [], []⟩) rfl
  have xq_BadKind : PySem.W.excInitIn K 51 [.type "ValueError", .type "Exception", .type "BaseException", .type "object"] "ValueError.__new__" = true := of_decide_eq_true (c.fact 1 25 (l := fa1) rfl rfl)
  have xh_BadKind : PySem.W.hasDictIn K 51 = true := of_decide_eq_true (c.fact 1 26 (l := fa1) rfl rfl)
  have xsa_BadKind : PySem.W.findIn K (.ref 51) "__setattr__" = some (some (.builtin "object.__setattr__")) := of_decide_eq_true (c.fact 1 27 (l := fa1) rfl rfl)
  have xex_BadKind : PySem.W.subIn K (.ref 51) (.type "BaseException") = some true := of_decide_eq_true (c.fact 1 28 (l := fa1) rfl rfl)
  have xty_BadKind : PySem.W.typeIn K (.ref 51) = some (.type "type") := of_decide_eq_true (c.fact 1 29 (l := fa1) rfl rfl)
  have xkp_BadKind : PySem.W.keepIn K (.ref 51) = true := of_decide_eq_true (c.fact 1 30 (l := fa1) rfl rfl)
  have xn_BadKind_part : PySem.W.findIn K (.ref 51) "part" = some none := of_decide_eq_true (c.fact 1 31 (l := fa1) rfl rfl)
  have xrd_GuessError : PySem.W.readsIn K 31 (.type "type") = true := of_decide_eq_true (c.fact 1 32 (l := fa1) rfl rfl)
  have xga_GuessError : PySem.W.specialIn K (.ref 31) "__getattribute__" = some (some (.builtin "type.__getattribute__")) := of_decide_eq_true (c.fact 1 33 (l := fa1) rfl rfl)
  have xb_GuessError : PySem.W.findCls K (.ref 31) (.type "type") "__init__" = some (.val (.builtin "ValueError.__init__")) := valX_ok (c.fact 1 34 (l := fa1) rfl rfl)
  have eg_BadKind : PySem.W.findIn K (.ref 51) "__getattribute__" = some (some (.builtin "BaseException.__getattribute__")) := of_decide_eq_true (c.fact 1 35 (l := fa1) rfl rfl)
  have ek_BadKind : PySem.W.findIn K (.ref 51) "__getattr__" = some none := of_decide_eq_true (c.fact 1 36 (l := fa1) rfl rfl)
  have es_BadKind : PySem.W.subIn K (.ref 51) (.type "BaseException") = some true := of_decide_eq_true (c.fact 1 37 (l := fa1) rfl rfl)
  have ed_BadKind : PySem.W.hasDictIn K 51 = true := of_decide_eq_true (c.fact 1 38 (l := fa1) rfl rfl)
  have ea_BadKind : PySem.W.findIn K (.ref 51) "__class__" = some (some (.builtin "object.__class__")) := of_decide_eq_true (c.fact 1 39 (l := fa1) rfl rfl)
  have en_BadKind : PySem.W.specialIn K (.builtin "object.__class__") "__get__" = some (some (.builtin "getset_descriptor.__get__")) := of_decide_eq_true (c.fact 2 0 (l := fa2) rfl rfl)
  have et_BadKind : PySem.W.takesIn K (.builtin "object.__class__") = some true := of_decide_eq_true (c.fact 2 1 (l := fa2) rfl rfl)
  have em_BadKind : PySem.W.mroIn K 51 (.type "object") = some true := of_decide_eq_true (c.fact 2 2 (l := fa2) rfl rfl)
  have hs_GuessError : PySem.W.subIn K (.ref 31) (.type "BaseException") = some true := of_decide_eq_true (c.fact 2 3 (l := fa2) rfl rfl)
  have hh_GuessError : PySem.W.hasDictIn K 31 = true := of_decide_eq_true (c.fact 2 4 (l := fa2) rfl rfl)
  have ht_GuessError : PySem.W.typeIn K (.ref 31) = some (.type "type") := of_decide_eq_true (c.fact 2 5 (l := fa2) rfl rfl)
  have es_BadKind_GuessError : PySem.W.subIn K (.ref 51) (.ref 31) = some true := of_decide_eq_true (c.fact 2 6 (l := fa2) rfl rfl)
  have kx_BadKind_BadBook : PySem.W.kitOne K (.ref 51) (.ref 70) = some false := of_decide_eq_true (c.fact 2 7 (l := fa2) rfl rfl)
  have kx_BadKind_BadKind : PySem.W.kitOne K (.ref 51) (.ref 51) = some true := of_decide_eq_true (c.fact 2 8 (l := fa2) rfl rfl)
  have kx_BadKind_ValueError : PySem.W.kitOne K (.ref 51) (.type "ValueError") = some true := of_decide_eq_true (c.fact 2 9 (l := fa2) rfl rfl)
  have z_ValueError : PySem.W.nsIn K mainGlobals "ValueError" = some none := of_decide_eq_true (c.fact 2 10 (l := fa2) rfl rfl)
  have z_abs : PySem.W.nsIn K mainGlobals "abs" = some none := of_decide_eq_true (c.fact 2 11 (l := fa2) rfl rfl)
  have z_all : PySem.W.nsIn K mainGlobals "all" = some none := of_decide_eq_true (c.fact 2 12 (l := fa2) rfl rfl)
  have z_any : PySem.W.nsIn K mainGlobals "any" = some none := of_decide_eq_true (c.fact 2 13 (l := fa2) rfl rfl)
  have z_bool : PySem.W.nsIn K mainGlobals "bool" = some none := of_decide_eq_true (c.fact 2 14 (l := fa2) rfl rfl)
  have z_int : PySem.W.nsIn K mainGlobals "int" = some none := of_decide_eq_true (c.fact 2 15 (l := fa2) rfl rfl)
  have z_isinstance : PySem.W.nsIn K mainGlobals "isinstance" = some none := of_decide_eq_true (c.fact 2 16 (l := fa2) rfl rfl)
  have z_len : PySem.W.nsIn K mainGlobals "len" = some none := of_decide_eq_true (c.fact 2 17 (l := fa2) rfl rfl)
  have z_list : PySem.W.nsIn K mainGlobals "list" = some none := of_decide_eq_true (c.fact 2 18 (l := fa2) rfl rfl)
  have z_max : PySem.W.nsIn K mainGlobals "max" = some none := of_decide_eq_true (c.fact 2 19 (l := fa2) rfl rfl)
  have z_min : PySem.W.nsIn K mainGlobals "min" = some none := of_decide_eq_true (c.fact 2 20 (l := fa2) rfl rfl)
  have z_ord : PySem.W.nsIn K mainGlobals "ord" = some none := of_decide_eq_true (c.fact 2 21 (l := fa2) rfl rfl)
  have z_range : PySem.W.nsIn K mainGlobals "range" = some none := of_decide_eq_true (c.fact 2 22 (l := fa2) rfl rfl)
  have z_set : PySem.W.nsIn K mainGlobals "set" = some none := of_decide_eq_true (c.fact 2 23 (l := fa2) rfl rfl)
  have z_str : PySem.W.nsIn K mainGlobals "str" = some none := of_decide_eq_true (c.fact 2 24 (l := fa2) rfl rfl)
  have z_tuple : PySem.W.nsIn K mainGlobals "tuple" = some none := of_decide_eq_true (c.fact 2 25 (l := fa2) rfl rfl)
  have g_LETTERS : ∃ t, PySem.W.nsIn K mainGlobals "LETTERS" = some (some (.str ⟨[97, 98, 99, 100, 101, 102, 103, 104, 105, 106, 107, 108, 109, 110, 111, 112, 113, 114, 115, 116, 117, 118, 119, 120, 121, 122].toArray⟩ t)) := strX_ok (c.fact 2 26 (l := fa2) rfl rfl)
  have g_MOST_DIGITS : ∃ t, PySem.W.nsIn K mainGlobals "MOST_DIGITS" = some (some (.int 20 t)) := intX_ok (c.fact 2 27 (l := fa2) rfl rfl)
  have g_MOST_MARKS : ∃ t, PySem.W.nsIn K mainGlobals "MOST_MARKS" = some (some (.int 6 t)) := intX_ok (c.fact 2 28 (l := fa2) rfl rfl)
  have g_MOST_SHOWN : ∃ t, PySem.W.nsIn K mainGlobals "MOST_SHOWN" = some (some (.int 3 t)) := intX_ok (c.fact 2 29 (l := fa2) rfl rfl)
  have g_MOST_WORDS : ∃ t, PySem.W.nsIn K mainGlobals "MOST_WORDS" = some (some (.int 4 t)) := intX_ok (c.fact 2 30 (l := fa2) rfl rfl)
  exact all_mk X G hfa a_Kind pg_Kind hd_Kind po_Kind sa_Kind rd_Kind ga_Kind n_Kind_digits n_Kind_family n_Kind_keep n_Kind_marks n_Kind_name n_Kind_no n_Kind_point n_Kind_shown n_Kind_signs n_Kind_yes n_Kind_zeros a_l_part F_l_part a_Kind_init fn_Kind_init mk_Kind_init kc_Kind_init kt_Kind_init_marks kt_Kind_init_yes kt_Kind_init_no F_Kind_init a_is_betweenU F_is_betweenU a_is_word F_is_word a_Kind_of_numbersX rc_Kind_of_numbersX F_Kind_of_numbersX a_l_take F_l_take a_l_of F_l_of a_l_no_count F_l_no_count a_l_no_word F_l_no_word a_l_numbers_right lc_l_numbers_right lh_l_numbers_right F_l_numbers_right a_is_text F_is_text a_are_textsU F_are_textsU a_Kind_of_marksX rc_Kind_of_marksX F_Kind_of_marksX a_l_digits F_l_digits a_l_number F_l_number a_l_signs F_l_signs a_l_text F_l_text a_l_marks_right lc_l_marks_right lh_l_marks_right F_l_marks_right a_Kind_of_wordsX rc_Kind_of_wordsX F_Kind_of_wordsX a_Kind_of_textsX rc_Kind_of_textsX F_Kind_of_textsX a_l_other_texts F_l_other_texts a_l_words_right lc_l_words_right lh_l_words_right F_l_words_right a_l_word F_l_word a_l_words F_l_words a_l_bag F_l_bag a_law F_law a_GuessError a_BadKind a_BadBook xi_BadKind xt_BadKind F_BadKind_init xq_BadKind xh_BadKind xsa_BadKind xex_BadKind xty_BadKind xkp_BadKind xn_BadKind_part xrd_GuessError xga_GuessError xb_GuessError eg_BadKind ek_BadKind es_BadKind ed_BadKind ea_BadKind en_BadKind et_BadKind em_BadKind hs_GuessError hh_GuessError ht_GuessError es_BadKind_GuessError kx_BadKind_BadBook kx_BadKind_BadKind kx_BadKind_ValueError z_ValueError z_abs z_all z_any z_bool z_int z_isinstance z_len z_list z_max z_min z_ord z_range z_set z_str z_tuple g_LETTERS g_MOST_DIGITS g_MOST_MARKS g_MOST_SHOWN g_MOST_WORDS
end Lw
open PySem PySem.W PySem.Calls PyProof.Rows
set_option maxRecDepth 100000 in
set_option maxHeartbeats 0 in
theorem PySem.Challenge.cw_guessedkinds_k17_kinds_refused_holds : PySem.Challenge.rw_guessedkinds_k17_kinds_refused.Holds := by
  refine Lw.pre ?_
  · refine G.walk_G (l := PySem.Challenge.rw_guessedkinds_k17_kinds_refused) (n := 63) (k := 8) (x := "_law_script") (CX := L2.CX0) rfl (by decide) (by kernel_rfl) ⟨rfl, by decide, by decide⟩ ?F (fun _ _ _ _ z => z)
    intro w mg fa h Y Gn hmg0
    obtain ⟨K, KX, c, ct⟩ := Y
    have hmg : mg ("law" : PySem.Str) = some (.ref fa) := by
      have e : (HandSHeadRun.topDef (OpenLaw.row PySem.Challenge.rw_guessedkinds_k17_kinds_refused).prog 40).name = ("law" : PySem.Str) := by kernel_rfl
      rw [← e]
      exact hmg0
    obtain ⟨cl, fd, ⟨q0, q1, q2⟩, hb, hF⟩ := Lw.facts (l := PySem.Challenge.rw_guessedkinds_k17_kinds_refused) (w := w) KX Gn hmg c
    refine ⟨K, fd, [(364, 360), (350, 348), (357, 353)], G.lowSp K cl (G.sp_lawT ["_law_numbers_right.<locals>.<lambda>", "_law_marks_right.<locals>.<lambda>", "_law_words_right.<locals>.<lambda>"]), KX, ?_, ?_, ?_, hb, fun H a ns hl hH hS => G.law_inT ["_law_numbers_right.<locals>.<lambda>", "_law_marks_right.<locals>.<lambda>", "_law_words_right.<locals>.<lambda>"] ns hl (fun x hx => ?_) (fun x hx y hy e => ?_) hS, fun base h1 h2 h3 => hF base h1 h2 h3⟩
    · intro p hp
      simp only [List.mem_cons, List.not_mem_nil, or_false] at hp
      rcases hp with rfl | rfl | rfl <;> exact (ct _ (by simp)).2
    · intro p hp
      simp only [List.mem_cons, List.not_mem_nil, or_false] at hp
      rcases hp with rfl | rfl | rfl <;> exact (ct _ (by simp)).1
    · intro p hp
      simp only [List.mem_cons, List.not_mem_nil, or_false] at hp
      rcases hp with rfl | rfl | rfl
      · exact of_decide_eq_true (c.fact 0 36 (l := Lw.fa0) rfl rfl)
      · exact of_decide_eq_true (c.fact 1 7 (l := Lw.fa1) rfl rfl)
      · exact of_decide_eq_true (c.fact 1 15 (l := Lw.fa1) rfl rfl)
    · simp only [List.mem_cons, List.not_mem_nil, or_false] at hx
      rcases hx with rfl | rfl | rfl
      · rw [q0]; exact hH (364, 360) (by simp)
      · rw [q1]; exact hH (350, 348) (by simp)
      · rw [q2]; exact hH (357, 353) (by simp)
    · simp only [List.mem_cons, List.not_mem_nil, or_false] at hx hy
      rcases hx with rfl | rfl | rfl <;> rcases hy with rfl | rfl | rfl <;> first | rfl | (exfalso; simp only [q0, q1, q2] at e; revert e; decide)
