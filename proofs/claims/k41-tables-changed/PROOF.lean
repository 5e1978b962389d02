import PyProof.Rows.All
import Wide.All
import OpenK.AllK
import Wide.FinOn
import HandS.ForMost
import HandS.Lambda
import HandS.WordsExc
import HandS.Defaults
import HandS.Rev
import HandS.Wide
import HandS.StrMore
import HandS.TupAny
import HandS.IsInst
import HandS.MakeKwOnly
import HandS.ClsMeth
import HandS.Star
import KE.KOpsOwn
import HandS.FStr
import HandS.Style
import PyProof.P3Eq
import KE.KFmtOwn
import HandS.OwnEq
import HandS.DictComp
import HandS.Property
import KE.GoesEnum
import KE.GoesZip
import HandS.SetKeys
import HandS.ExcInit
import HandS.ExcField
import KE.KExcIs
import HandS.ExcIs
import KE.KExcInit
import KE.KExcLine
import HandS.RaiseMore
import KE.KCallOwn
import HandS.NoneIn
import HandS.More
import HandS.Iter
import HandS.DictEq
import KE.KRevSl
import HandS.Strs
import HandS.Deep
import HandS.Text
import HandS.EndTab
import HandS.HeadEnd
import HandS.Ends
import HandS.Words
import HandS.Head0
import HandS.Head1
import HandS.Head2
import HandS.HeadHook1
import HandS.HeadHook2
import HandS.HeadHook4
import KE.RegKIsAll
import PySem.Challenge.RW_guessedkinds_k41_tables_changed
set_option Elab.async false
set_option linter.all false
set_option maxRecDepth 100000
set_option maxHeartbeats 4000000
namespace G
open PySem PySem.Spec PyProof.Rows L2
/-! ### the head by one run in the kernel: facts of the module's things at told places -/
abbrev FaX := PySem.W.Frag → Bool
/-- a def: its place, its statement, its defaults -/
structure DefG where
  ad : Addr
  nm : Str
  ql : Str
  st : Stmt
  dfl : List V := []
  kwd : List (Str × V) := []
def seenF (K : PySem.W.Frag) (a : Addr) : He.FnW := (K.lookup a).bind fun o => match o with
  | ⟨_, _, .func z, _⟩ => some (z.name, z.qualname, z.params, z.body, z.scope, z.globals, z.closure, z.builtins)
  | _ => none
def DefG.tells (d : DefG) : He.FnW := some (d.nm, d.ql, defArgs d.st, .stmts (defBody d.st), defScope d.st, mainGlobals, [], builtinsNs)
def DefG.good (K : PySem.W.Frag) (d : DefG) : Bool := PySem.W.keepIn K (.ref d.ad) && ((K.lookup d.ad).any fun o => match o with
  | ⟨_, _, .func z, _⟩ => PySem.W.codeIn K z.code d.ql && (He.dflB K z.defaults d.dfl && He.kwdB K z.kwdefaults d.kwd)
  | _ => false)
theorem DefG.funD {K : PySem.W.Frag} {d : DefG} (e : seenF K d.ad = d.tells) (c : d.good K = true) : ∃ z, FunD K d.nm d.ql (defArgs d.st) (defBody d.st) (defScope d.st) d.dfl d.kwd d.ad z := by
  unfold DefG.good at c
  rw [Bool.and_eq_true] at c
  obtain ⟨kp, c⟩ := c
  unfold seenF at e
  cases hl : K.lookup d.ad with
  | none => rw [hl] at c; cases c
  | some o =>
    rw [hl] at c e
    obtain ⟨oc, od, dt, sl⟩ := o
    cases dt with
    | func z =>
      obtain ⟨z1, z2, z3, z4, z5, z6, z7, z8, z9, z10, z11, z12, z13, z14, z15⟩ := z
      have e' : (some (z1, z2, z3, z4, z5, z6, z7, z15) : He.FnW) = some (d.nm, d.ql, defArgs d.st, .stmts (defBody d.st), defScope d.st, mainGlobals, [], builtinsNs) := e
      injection e' with e'
      simp only [Prod.mk.injEq] at e'
      obtain ⟨rfl, rfl, rfl, rfl, rfl, rfl, rfl, rfl⟩ := e'
      have c' : (PySem.W.codeIn K z13 d.ql && (He.dflB K z8 d.dfl && He.kwdB K z9 d.kwd)) = true := c
      simp only [Bool.and_eq_true] at c'
      exact ⟨_, ⟨oc, od, z8, z9, z10, z11, z12, z13, z14, sl, rfl, hl, c'.1, He.dflB_ok c'.2.1, He.kwdB_ok c'.2.2⟩, kp⟩
    | _ => cases c
theorem fun_ofD {K : PySem.W.Frag} {x q : Str} {st : Stmt} {f : Addr} {z : FuncData} (F : FunD K x q (defArgs st) (defBody st) (defScope st) [] [] f z) : Fun K x q st f z := by
  obtain ⟨oc, od, dV, kV, doc, pm, an, cdv, ct, sl, e, lk, hc, hd, _⟩ := F.ex
  rcases hd with ⟨_, rfl⟩ | ⟨h, _⟩
  · exact ⟨⟨oc, od, kV, doc, pm, an, cdv, ct, sl, e, lk, hc⟩, F.kp⟩
  · exact absurd rfl h
def obsX (as : List Addr) (fa : List (List FaX)) (fn : List DefG) (g : Addr → Option Obj) : Bool × List He.FnW :=
  ((fa.all fun l => l.all fun f => f (He.frG g as)) && (fn.all fun d => d.good (He.frG g as)), fn.map fun d => seenF (He.frG g as) d.ad)
def SaysX (fa : List (List FaX)) (fn : List DefG) (K : PySem.W.Frag) : Prop := ((fa.all fun l => l.all fun f => f K) && (fn.all fun d => d.good K), fn.map fun d => seenF K d.ad) = (true, fn.map DefG.tells)
def hookX (as : List Addr) (fa : List (List FaX)) (fn : List DefG) : PySem.W.Hook where
  α := Bool × List He.FnW
  obs := fun s => obsX as fa fn s.heap.get?
  val := fun _ => (true, fn.map DefG.tells)
  says := fun _ h => ∃ K : PySem.W.Frag, K.In h ∧ SaysX fa fn K
  of := fun _ _ e => ⟨_, He.frG_in, e⟩
  keeps := fun _ _ _ ⟨K, hK, c⟩ k => ⟨K, PySem.W.Frag.In.keeps hK k, c⟩
theorem obsX_eq {as : List Addr} {fa : List (List FaX)} {fn : List DefG} {g : Addr → Option Obj} {s : Shared} (h : ∀ a, g a = s.heap.get? a) : obsX as fa fn g = (hookX as fa fn).obs s := by
  have e : g = s.heap.get? := funext h
  rw [e]
  rfl
section
variable {fa : List (List FaX)} {fn : List DefG} {K : PySem.W.Frag}
theorem SaysX.fact (c : SaysX fa fn K) (i j : Nat) {l : List FaX} {f : FaX} (h : fa[i]? = some l := by rfl) (h2 : l[j]? = some f := by rfl) : f K = true := by
  have c1 : ((fa.all fun l => l.all fun f => f K) && (fn.all fun d => d.good K)) = true := congrArg Prod.fst c
  rw [Bool.and_eq_true] at c1
  exact List.all_eq_true.mp (List.all_eq_true.mp c1.1 l (List.mem_of_getElem? h)) f (List.mem_of_getElem? h2)
theorem SaysX.fun_ (c : SaysX fa fn K) (i : Nat) {d : DefG} (h : fn[i]? = some d := by rfl) : ∃ z, FunD K d.nm d.ql (defArgs d.st) (defBody d.st) (defScope d.st) d.dfl d.kwd d.ad z := by
  have c1 : ((fa.all fun l => l.all fun f => f K) && (fn.all fun d => d.good K)) = true := congrArg Prod.fst c
  rw [Bool.and_eq_true] at c1
  have c2 : fn.map (fun d => seenF K d.ad) = fn.map DefG.tells := congrArg Prod.snd c
  have c3 := congrArg (fun l => l[i]?) c2
  simp only [List.getElem?_map, h, Option.map_some, Option.some.injEq] at c3
  exact DefG.funD c3 (List.all_eq_true.mp c1.2 d (List.mem_of_getElem? h))
end
/-! the same, empty tables left out and told -/
def tabB (g : Addr → Option Obj) (tb : List Addr) : Bool := tb.all fun P => match g P with
  | some o => He.emptyTab o
  | none => false
def obsT (as : List Addr) (fa : List (List FaX)) (fn : List DefG) (tb : List Addr) (g : Addr → Option Obj) : Bool × List He.FnW :=
  (((fa.all fun l => l.all fun f => f (He.frT g as)) && (fn.all fun d => d.good (He.frT g as))) && tabB g tb, fn.map fun d => seenF (He.frT g as) d.ad)
def SaysT (tb : List Addr) (h : Heap) (K : PySem.W.Frag) : Prop := ∀ P ∈ tb, K.lookup P = none ∧ h.get? P = some { cls := .none, data := .fields #[] }
theorem obsT_of {as : List Addr} {fa : List (List FaX)} {fn : List DefG} {tb : List Addr} {h : Heap} (e : obsT as fa fn tb h.get? = (true, fn.map DefG.tells)) : SaysX fa fn (He.frT h.get? as) ∧ SaysT tb h (He.frT h.get? as) := by
  have e1 : (((fa.all fun l => l.all fun f => f (He.frT h.get? as)) && (fn.all fun d => d.good (He.frT h.get? as))) && tabB h.get? tb) = true := congrArg Prod.fst e
  have e2 : fn.map (fun d => seenF (He.frT h.get? as) d.ad) = fn.map DefG.tells := congrArg Prod.snd e
  rw [Bool.and_eq_true] at e1
  refine ⟨?_, fun P hP => ?_⟩
  · unfold SaysX
    rw [e1.1, e2]
  · have e3 := List.all_eq_true.mp e1.2 P hP
    cases q : h.get? P with
    | none => rw [q] at e3; cases e3
    | some o =>
      rw [q] at e3
      exact ⟨He.frT_none q e3, by rw [He.emptyTab_eq e3]⟩
def hookT (as : List Addr) (fa : List (List FaX)) (fn : List DefG) (tb : List Addr) : PySem.W.Hook where
  α := Bool × List He.FnW
  obs := fun s => obsT as fa fn tb s.heap.get?
  val := fun _ => (true, fn.map DefG.tells)
  says := fun _ h => ∃ K : PySem.W.Frag, K.In h ∧ SaysX fa fn K ∧ SaysT tb h K
  of := fun _ _ e => ⟨_, He.frT_in, obsT_of e⟩
  keeps := fun _ _ _ ⟨K, hK, c, t⟩ k => ⟨K, PySem.W.Frag.In.keeps hK k, c, fun P hP => ⟨(t P hP).1, k _ _ (t P hP).2⟩⟩
theorem obsT_eq {as : List Addr} {fa : List (List FaX)} {fn : List DefG} {tb : List Addr} {g : Addr → Option Obj} {s : Shared} (h : ∀ a, g a = s.heap.get? a) : obsT as fa fn tb g = (hookT as fa fn tb).obs s := by
  have e : g = s.heap.get? := funext h
  rw [e]
  rfl
/-! facts that are no equations one can decide -/
def getX (K : PySem.W.Frag) (C : Addr) (x : Str) (g : String) (p : Addr) : Bool := match PySem.W.findCls K (.ref C) (.type "type") x with
  | some (.get a b c d) => decide (a = .builtin g ∧ b = .ref p ∧ c = .none ∧ d = .ref C)
  | _ => false
theorem getX_ok {K : PySem.W.Frag} {C p : Addr} {x : Str} {g : String} (h : getX K C x g p = true) : PySem.W.findCls K (.ref C) (.type "type") x = some (.get (.builtin g) (.ref p) .none (.ref C)) := by
  unfold getX at h
  split at h
  · rename_i a b c d e
    obtain ⟨rfl, rfl, rfl, rfl⟩ := of_decide_eq_true h
    exact e
  · cases h
def valX (K : PySem.W.Frag) (c : Value) (x : Str) (v : Value) : Bool := match PySem.W.findCls K c (.type "type") x with
  | some (.val a) => decide (a = v)
  | _ => false
theorem valX_ok {K : PySem.W.Frag} {c v : Value} {x : Str} (h : valX K c x v = true) : PySem.W.findCls K c (.type "type") x = some (.val v) := by
  unfold valX at h
  split at h
  · rename_i a e
    have := of_decide_eq_true h
    subst this
    exact e
  · cases h
def recX (K : PySem.W.Frag) (p : Addr) (T : String) (f : Addr) : Bool := match PySem.W.recIn K p T with
  | some (a :: _) => decide (a = .ref f)
  | _ => false
theorem recX_ok {K : PySem.W.Frag} {p f : Addr} {T : String} (h : recX K p T f = true) : ∃ rest, PySem.W.recIn K p T = some (.ref f :: rest) := by
  unfold recX at h
  split at h
  · rename_i a r e
    have := of_decide_eq_true h
    subst this
    exact ⟨r, e⟩
  · cases h
def intX (K : PySem.W.Frag) (x : Str) (i : Int) : Bool := match PySem.W.nsIn K mainGlobals x with
  | some (some (.int j _)) => decide (j = i)
  | _ => false
theorem intX_ok {K : PySem.W.Frag} {x : Str} {i : Int} (h : intX K x i = true) : ∃ t, PySem.W.nsIn K mainGlobals x = some (some (.int i t)) := by
  unfold intX at h
  split at h
  · rename_i j t e
    have := of_decide_eq_true h
    subst this
    exact ⟨t, e⟩
  · cases h
def strX (K : PySem.W.Frag) (x z : Str) : Bool := match PySem.W.nsIn K mainGlobals x with
  | some (some (.str y _)) => decide (y = z)
  | _ => false
theorem strX_ok {K : PySem.W.Frag} {x z : Str} (h : strX K x z = true) : ∃ t, PySem.W.nsIn K mainGlobals x = some (some (.str z t)) := by
  unfold strX at h
  split at h
  · rename_i j t e
    have := of_decide_eq_true h
    subst this
    exact ⟨t, e⟩
  · cases h
def tupX (K : PySem.W.Frag) (a : Addr) (vs : List V) : Bool := (K.lookup a).any fun o => match o with
  | ⟨.type c, _, .seq its _, _⟩ => decide (c = "tuple") && (Nat.ble its.size 1000 && He.relAll vs its.toList)
  | _ => false
theorem tupX_ok {K : PySem.W.Frag} {a : Addr} {vs : List V} (h : tupX K a vs = true) : ∃ (o : Obj) (its : Array Value) (n : Nat), K.lookup a = some o ∧ o.cls = .type "tuple" ∧ o.data = .seq its n ∧ its.size ≤ sizeLine ∧ Vals vs its.toList := by
  unfold tupX at h
  cases hl : K.lookup a with
  | none => rw [hl] at h; cases h
  | some o =>
    rw [hl] at h
    obtain ⟨oc, od, dt, sl⟩ := o
    cases oc with
    | type c =>
      cases dt with
      | seq its n =>
        have h' : (decide (c = "tuple") && (Nat.ble its.size 1000 && He.relAll vs its.toList)) = true := h
        simp only [Bool.and_eq_true] at h'
        have e := of_decide_eq_true h'.1
        subst e
        exact ⟨_, its, n, rfl, rfl, rfl, Nat.le_trans (Nat.le_of_ble_eq_true h'.2.1) (by decide), He.relAll_ok h'.2.2⟩
      | _ => cases h
    | _ => cases dt <;> cases h
/-- the code object of the function at f -/
def codeX (K : PySem.W.Frag) (f c : Addr) : Bool := match K.lookup f with
  | some ⟨_, _, .func z, _⟩ => decide (z.code = .ref c)
  | _ => false
end G
namespace Lw
open PySem PySem.Spec PyProof.Rows L2 G
def top (i : Nat) : Stmt := PySem.Challenge.pw_guessedkinds_k41_tables_changed.main.body.getD i (.Pass ⟨0, 0, 0, 0⟩)
abbrev s_l_take : Stmt := (top 12)
abbrev s_Table_getitemC : Stmt := (inClass (top 9) 5)
abbrev s_Table_containsC : Stmt := (inClass (top 9) 4)
abbrev s_Table_row_at : Stmt := (inClass (top 9) 7)
abbrev s_is_word : Stmt := (top 7)
abbrev s_Table_initC : Stmt := (inClass (top 9) 0)
abbrev s_Table_namesC : Stmt := (inClass (top 9) 1)
abbrev s_Table_add : Stmt := (inClass (top 9) 9)
abbrev s_Table_only : Stmt := (inClass (top 9) 8)
abbrev s_Table_lenC : Stmt := (inClass (top 9) 2)
abbrev s_l_copied : Stmt := (top 21)
abbrev s_Table_eqC : Stmt := (inClass (top 9) 10)
abbrev s_l_is_as : Stmt := (top 25)
abbrev s_l_is_word : Stmt := (top 22)
abbrev s_l_put : Stmt := (top 24)
abbrev s_Table_setitemX : Stmt := (inClass (top 9) 6)
abbrev s_l_of : Stmt := (top 13)
abbrev s_l_digits : Stmt := (top 15)
abbrev s_l_number : Stmt := (top 16)
abbrev s_l_signs : Stmt := (top 14)
abbrev s_l_text : Stmt := (top 17)
abbrev s_l_word : Stmt := (top 18)
abbrev s_l_words : Stmt := (top 19)
abbrev s_l_name : Stmt := (top 23)
abbrev s_l_columns : Stmt := (top 20)
abbrev s_l_right : Stmt := (top 26)
abbrev s_l_bag : Stmt := (top 11)
abbrev s_law : Stmt := (top 27)
abbrev s_BadTable_init : Stmt := (inClass (top 2) 0)
def fa0 : List FaX := [
  fun K => decide (PySem.W.nsIn K mainGlobals "Table" = some (some (.ref 172))),
  fun K => decide (PySem.W.plainGet K 172 Str.empty = true),
  fun K => decide (PySem.W.hasDictIn K 172 = true),
  fun K => decide (PySem.W.plainOver K 172 = true),
  fun K => decide (PySem.W.findIn K (.ref 172) "__setattr__" = some (some (.builtin "object.__setattr__"))),
  fun K => decide (PySem.W.readsIn K 172 (.type "type") = true),
  fun K => decide (PySem.W.specialIn K (.ref 172) "__getattribute__" = some (some (.builtin "type.__getattribute__"))),
  fun K => decide (PySem.W.findIn K (.ref 172) "held" = some none),
  fun K => decide (PySem.W.findIn K (.ref 172) "many" = some none),
  fun K => decide (PySem.W.findIn K (.ref 172) "__ne__" = some (some (.builtin "object.__ne__"))),
  fun K => decide (PySem.W.mroIn K 172 (.type "object") = some true),
  fun K => decide (PySem.W.selfFirst K 172 = true),
  fun K => decide (PySem.W.noSeq K 172 = true),
  fun K => decide (PySem.W.nsIn K mainGlobals "_law_take" = some (some (.ref 190))),
  fun K => decide (PySem.W.findIn K (.ref 172) "__getitem__" = some (some (.ref 140))),
  fun K => decide (PySem.W.isFn K (.ref 140) = true),
  fun K => decide (PySem.W.fnIn K 140 = true),
  fun K => decide (PySem.W.findIn K (.ref 172) "__contains__" = some (some (.ref 133))),
  fun K => decide (PySem.W.isFn K (.ref 133) = true),
  fun K => decide (PySem.W.findIn K (.ref 172) "row_at" = some (some (.ref 152))),
  fun K => decide (PySem.W.isFn K (.ref 152) = true),
  fun K => decide (PySem.W.nsIn K mainGlobals "is_word" = some (some (.ref 91))),
  fun K => decide (PySem.W.findIn K (.ref 172) "__init__" = some (some (.ref 105))),
  fun K => decide (PySem.W.isFn K (.ref 105) = true),
  fun K => decide (PySem.W.makesIn K 172 = true),
  fun K => decide (PySem.W.keepIn K (.ref 172) = true),
  fun K => decide (PySem.W.findIn K (.ref 172) "names" = some (some (.ref 112))),
  fun K => decide (PySem.W.isFn K (.ref 112) = true),
  fun K => decide (PySem.W.findIn K (.ref 172) "__add__" = some (some (.ref 162))),
  fun K => decide (PySem.W.isFn K (.ref 162) = true),
  fun K => decide (PySem.W.findIn K (.ref 172) "only" = some (some (.ref 157))),
  fun K => decide (PySem.W.isFn K (.ref 157) = true),
  fun K => decide (PySem.W.findIn K (.ref 172) "__len__" = some (some (.ref 119))),
  fun K => decide (PySem.W.isFn K (.ref 119) = true),
  fun K => decide (PySem.W.nsIn K mainGlobals "_law_copied" = some (some (.ref 243))),
  fun K => decide (PySem.W.findIn K (.ref 172) "__eq__" = some (some (.ref 169))),
  fun K => decide (PySem.W.isFn K (.ref 169) = true),
  fun K => decide (PySem.W.nsIn K mainGlobals "_law_is_as" = some (some (.ref 265))),
  fun K => decide (PySem.W.nsIn K mainGlobals "_law_is_word" = some (some (.ref 248))),
  fun K => decide (PySem.W.nsIn K mainGlobals "_law_put" = some (some (.ref 260)))]
def fa1 : List FaX := [
  fun K => decide (PySem.W.findIn K (.ref 172) "__setitem__" = some (some (.ref 147))),
  fun K => decide (PySem.W.isFn K (.ref 147) = true),
  fun K => decide (PySem.W.nsIn K mainGlobals "_law_of" = some (some (.ref 197))),
  fun K => decide (PySem.W.nsIn K mainGlobals "_law_digits" = some (some (.ref 211))),
  fun K => decide (PySem.W.nsIn K mainGlobals "_law_number" = some (some (.ref 218))),
  fun K => decide (PySem.W.nsIn K mainGlobals "_law_signs" = some (some (.ref 204))),
  fun K => decide (PySem.W.nsIn K mainGlobals "_law_text" = some (some (.ref 223))),
  fun K => decide (PySem.W.nsIn K mainGlobals "_law_word" = some (some (.ref 228))),
  fun K => decide (PySem.W.nsIn K mainGlobals "_law_words" = some (some (.ref 233))),
  fun K => decide (PySem.W.nsIn K mainGlobals "_law_name" = some (some (.ref 255))),
  fun K => decide (PySem.W.nsIn K mainGlobals "_law_columns" = some (some (.ref 238))),
  fun K => decide (PySem.W.nsIn K mainGlobals "_law_right" = some (some (.ref 270))),
  fun K => decide (PySem.W.nsIn K mainGlobals "_law_bag" = some (some (.ref 183))),
  fun K => decide (PySem.W.nsIn K mainGlobals "law" = some (some (.ref 277))),
  fun K => decide (PySem.W.kitOne K (.type "NoneType") (.ref 172) = some false),
  fun K => decide (PySem.W.kitOne K (.type "bool") (.ref 172) = some false),
  fun K => decide (PySem.W.kitOne K (.type "int") (.ref 172) = some false),
  fun K => decide (PySem.W.kitOne K (.type "str") (.ref 172) = some false),
  fun K => decide (PySem.W.kitOne K (.type "list") (.ref 172) = some false),
  fun K => decide (PySem.W.kitOne K (.type "tuple") (.ref 172) = some false),
  fun K => decide (PySem.W.kitOne K (.type "dict") (.ref 172) = some false),
  fun K => decide (PySem.W.kitOne K (.ref 172) (.ref 172) = some true),
  fun K => decide (PySem.W.findIn K (.ref 172) "__class__" = some (some (.builtin "object.__class__"))),
  fun K => decide (PySem.W.specialIn K (.builtin "object.__class__") "__get__" = some (some (.builtin "getset_descriptor.__get__"))),
  fun K => decide (PySem.W.takesIn K (.builtin "object.__class__") = some true),
  fun K => decide (PySem.W.mroIn K 172 (.type "object") = some true),
  fun K => decide (PySem.W.nsIn K mainGlobals "GuessError" = some (some (.ref 24))),
  fun K => decide (PySem.W.nsIn K mainGlobals "BadTable" = some (some (.ref 44))),
  fun K => decide (PySem.W.nsIn K mainGlobals "NoColumn" = some (some (.ref 63))),
  fun K => decide (PySem.W.findIn K (.ref 44) "__init__" = some (some (.ref 41))),
  fun K => decide (PySem.W.typeIn K (.ref 41) = some (.type "function")),
  fun K => decide (PySem.W.excInitIn K 44 [.type "ValueError", .type "Exception", .type "BaseException", .type "object"] "ValueError.__new__" = true),
  fun K => decide (PySem.W.hasDictIn K 44 = true),
  fun K => decide (PySem.W.findIn K (.ref 44) "__setattr__" = some (some (.builtin "object.__setattr__"))),
  fun K => decide (PySem.W.subIn K (.ref 44) (.type "BaseException") = some true),
  fun K => decide (PySem.W.typeIn K (.ref 44) = some (.type "type")),
  fun K => decide (PySem.W.keepIn K (.ref 44) = true),
  fun K => decide (PySem.W.findIn K (.ref 44) "part" = some none),
  fun K => decide (PySem.W.readsIn K 24 (.type "type") = true),
  fun K => decide (PySem.W.specialIn K (.ref 24) "__getattribute__" = some (some (.builtin "type.__getattribute__")))]
def fa2 : List FaX := [
  fun K => valX K (.ref 24) "__init__" (.builtin "ValueError.__init__"),
  fun K => decide (PySem.W.findIn K (.ref 44) "__getattribute__" = some (some (.builtin "BaseException.__getattribute__"))),
  fun K => decide (PySem.W.findIn K (.ref 44) "__getattr__" = some none),
  fun K => decide (PySem.W.subIn K (.ref 44) (.type "BaseException") = some true),
  fun K => decide (PySem.W.hasDictIn K 44 = true),
  fun K => decide (PySem.W.findIn K (.ref 44) "__class__" = some (some (.builtin "object.__class__"))),
  fun K => decide (PySem.W.specialIn K (.builtin "object.__class__") "__get__" = some (some (.builtin "getset_descriptor.__get__"))),
  fun K => decide (PySem.W.takesIn K (.builtin "object.__class__") = some true),
  fun K => decide (PySem.W.mroIn K 44 (.type "object") = some true),
  fun K => decide (PySem.W.subIn K (.ref 44) (.type "BaseException") = some true),
  fun K => decide (PySem.W.hasDictIn K 44 = true),
  fun K => decide (PySem.W.typeIn K (.ref 44) = some (.type "type")),
  fun K => decide (PySem.W.subIn K (.ref 44) (.ref 44) = some true),
  fun K => decide (PySem.W.kitOne K (.ref 44) (.ref 24) = some true),
  fun K => decide (PySem.W.kitOne K (.ref 44) (.ref 63) = some false),
  fun K => decide (PySem.W.nsIn K mainGlobals "abs" = some none),
  fun K => decide (PySem.W.nsIn K mainGlobals "all" = some none),
  fun K => decide (PySem.W.nsIn K mainGlobals "enumerate" = some none),
  fun K => decide (PySem.W.nsIn K mainGlobals "int" = some none),
  fun K => decide (PySem.W.nsIn K mainGlobals "isinstance" = some none),
  fun K => decide (PySem.W.nsIn K mainGlobals "len" = some none),
  fun K => decide (PySem.W.nsIn K mainGlobals "list" = some none),
  fun K => decide (PySem.W.nsIn K mainGlobals "max" = some none),
  fun K => decide (PySem.W.nsIn K mainGlobals "min" = some none),
  fun K => decide (PySem.W.nsIn K mainGlobals "range" = some none),
  fun K => decide (PySem.W.nsIn K mainGlobals "repr" = some none),
  fun K => decide (PySem.W.nsIn K mainGlobals "str" = some none),
  fun K => decide (PySem.W.nsIn K mainGlobals "tuple" = some none),
  fun K => strX K "LETTERS" ⟨[97, 98, 99, 100, 101, 102, 103, 104, 105, 106, 107, 108, 109, 110, 111, 112, 113, 114, 115, 116, 117, 118, 119, 120, 121, 122].toArray⟩]
def fa : List (List FaX) := [fa0, fa1, fa2]
def fn0 : List DefG := [
  ⟨190, "_law_take", "_law_take", s_l_take, [], []⟩,
  ⟨140, "__getitem__", "Table.__getitem__", s_Table_getitemC, [], []⟩,
  ⟨133, "__contains__", "Table.__contains__", s_Table_containsC, [], []⟩,
  ⟨152, "row_at", "Table.row_at", s_Table_row_at, [], []⟩,
  ⟨91, "is_word", "is_word", s_is_word, [], []⟩,
  ⟨105, "__init__", "Table.__init__", s_Table_initC, [], []⟩,
  ⟨112, "names", "Table.names", s_Table_namesC, [], []⟩,
  ⟨162, "__add__", "Table.__add__", s_Table_add, [], []⟩,
  ⟨157, "only", "Table.only", s_Table_only, [], []⟩,
  ⟨119, "__len__", "Table.__len__", s_Table_lenC, [], []⟩,
  ⟨243, "_law_copied", "_law_copied", s_l_copied, [], []⟩,
  ⟨169, "__eq__", "Table.__eq__", s_Table_eqC, [], []⟩,
  ⟨265, "_law_is_as", "_law_is_as", s_l_is_as, [], []⟩,
  ⟨248, "_law_is_word", "_law_is_word", s_l_is_word, [], []⟩,
  ⟨260, "_law_put", "_law_put", s_l_put, [], []⟩,
  ⟨147, "__setitem__", "Table.__setitem__", s_Table_setitemX, [], []⟩,
  ⟨197, "_law_of", "_law_of", s_l_of, [], []⟩,
  ⟨211, "_law_digits", "_law_digits", s_l_digits, [], []⟩,
  ⟨218, "_law_number", "_law_number", s_l_number, [], []⟩,
  ⟨204, "_law_signs", "_law_signs", s_l_signs, [], []⟩,
  ⟨223, "_law_text", "_law_text", s_l_text, [], []⟩,
  ⟨228, "_law_word", "_law_word", s_l_word, [], []⟩,
  ⟨233, "_law_words", "_law_words", s_l_words, [], []⟩,
  ⟨255, "_law_name", "_law_name", s_l_name, [], []⟩,
  ⟨238, "_law_columns", "_law_columns", s_l_columns, [], []⟩,
  ⟨270, "_law_right", "_law_right", s_l_right, [], []⟩,
  ⟨183, "_law_bag", "_law_bag", s_l_bag, [], []⟩,
  ⟨277, "law", "law", s_law, [], []⟩,
  ⟨41, "__init__", "BadTable.__init__", s_BadTable_init, [], []⟩]
def fn : List DefG := fn0
def as0 : List Addr := [3, 2, 172, 24, 44, 63, 190, 140, 133, 152, 91, 105, 112, 162, 157, 119, 243, 169, 265, 248, 260, 147, 197, 211, 218, 204, 223, 228, 233, 255, 238, 270, 183, 277, 41, 6, 4, 83, 171, 23]
def as1 : List Addr := [43, 62, 189, 139, 132, 151, 90, 104, 111, 161, 156, 118, 242, 168, 264, 247, 259, 146, 196, 210, 217, 203, 222, 227, 232, 254, 237, 269, 182, 276, 40, 15, 22, 25, 28, 35, 36, 37, 38, 39]
def as2 : List Addr := [42, 47, 54, 55, 56, 57, 58, 59, 60, 61, 64, 67, 74, 75, 76, 77, 78, 79, 80, 81, 82, 84, 87, 88, 89, 99, 100, 101, 102, 103, 106, 107, 108, 109, 110, 113, 114, 115, 116, 117]
def as3 : List Addr := [120, 121, 122, 123, 124, 125, 126, 127, 128, 129, 130, 131, 134, 135, 136, 137, 138, 141, 142, 143, 144, 145, 148, 149, 150, 153, 154, 155, 158, 159, 160, 163, 164, 165, 166, 167, 170, 173, 174, 177]
def as4 : List Addr := [178, 179, 180, 181, 184, 185, 186, 187, 188, 191, 192, 193, 194, 195, 198, 199, 200, 201, 202, 205, 206, 207, 208, 209, 212, 213, 214, 215, 216, 219, 220, 221, 224, 225, 226, 229, 230, 231, 234, 235]
def as5 : List Addr := [236, 239, 240, 241, 244, 245, 246, 249, 250, 251, 252, 253, 256, 257, 258, 261, 262, 263, 266, 267, 268, 271, 272, 273, 274, 275]
def as : List Addr := as0 ++ as1 ++ as2 ++ as3 ++ as4 ++ as5
def hxN0 : List PySem.Str := ["__name__", "GuessError", "BadTable", "NoColumn", "NoRow", "LETTERS", "is_word", "Table", "_law_bag", "_law_take", "_law_of", "_law_signs", "_law_digits", "_law_number", "_law_text", "_law_word", "_law_words", "_law_columns", "_law_copied", "_law_is_word", "_law_name", "_law_put", "_law_is_as", "_law_right"]
def names : List PySem.Str := hxN0
abbrev R : PySem.W.OpenRow := PySem.W.OpenLaw.row PySem.Challenge.rw_guessedkinds_k41_tables_changed
abbrev qv : Program := PySem.W.view R.prog [27]
abbrev hk : PySem.W.Hook := hookX as fa fn
def ob (s : PySem.W.SharedT) : Bool × List He.FnW := obsX as fa fn (HandSHeadRun.getT s)
theorem ob_eq (s : PySem.W.SharedT) : ob s = hk.obs s.abs := obsX_eq (HandSHeadRun.getT_eq s)
theorem run (w : World) : HandSHeadRun.RunEq R qv hk ob 60000 names w := by
  intro os
  kernel_rfl
end Lw
open PySem PySem.W PySem.Calls PyProof.Rows in
set_option maxRecDepth 100000 in
set_option maxHeartbeats 0 in
theorem Lw.pre (hc : PySem.W.WalkO Lw.qv Lw.names (PySem.W.XL Lw.qv []) Lw.hk.says (OpenLaw.row PySem.Challenge.rw_guessedkinds_k41_tables_changed).toRowW (HandSHeadRun.topDef (OpenLaw.row PySem.Challenge.rw_guessedkinds_k41_tables_changed).prog 27) [] fun f vs => PySem.call f vs) : PySem.Challenge.rw_guessedkinds_k41_tables_changed.Holds := by
  w_on; o_law
  refine HandSHeadRun.head_any (r := OpenLaw.row PySem.Challenge.rw_guessedkinds_k41_tables_changed) (q := Lw.qv) (H := Lw.hk) (ob := Lw.ob) (M := 60000) (loose := Lw.names) (d := HandSHeadRun.topDef (OpenLaw.row PySem.Challenge.rw_guessedkinds_k41_tables_changed).prog 27) (kwd := []) Lw.ob_eq
    (by kernel_rfl) (fun s => by kernel_rfl) Lw.run (by kernel_rfl) (by kernel_rfl) (by kernel_rfl) (by rfl) (by first | assumption | decide +kernel) (by decide +kernel) ⟨rfl, rfl, rfl, rfl, rfl, by decide +kernel⟩ ?hw hc
  w_witness2
/-! room where nothing is being shown; defs that ask for it -/
namespace G
open PySem PySem.Spec PyProof.Rows L2
structure Room (k : Nat) (A : Around) : Prop where
  r : L2.Room k A
  gd : A.guards = some []
instance {k : Nat} {A : Around} : CoeOut (Room k A) (L2.Room k A) := ⟨Room.r⟩
section
variable {j k : Nat} {A : Around}
theorem Room.mono (h : Room k A) (l : j ≤ k) : Room j A := ⟨h.r.mono l, h.gd⟩
theorem Room.deeper (h : Room (k + 1) A) (env : Env) : Room k (A.deeper env) := ⟨h.r.deeper env, h.gd⟩
theorem Room.in1 (h : Room (k + 1) A) : Room k A.in1 := ⟨h.r.in1, h.gd⟩
theorem make_guards {C : Addr} {us : List Value} {kw : List (Str × Value)} (h : A.guards = some []) : (A.under (.builtin "type.__call__" ⟨.ref C :: us, kw⟩)).guards = some [] := by
  first | rfl | simp [Around.under, Code.guards, Code.isGuard, guardIds, pushGuards, h]
theorem Room.make (h : Room (k + 1) A) (C : Addr) (us : List Value) (kw : List (Str × Value)) : Room k (A.under (.builtin "type.__call__" ⟨.ref C :: us, kw⟩)) := ⟨h.r.make C us kw, make_guards h.gd⟩
theorem Room.depth (h : Room k A) : A.depth < recursionLimit := h.r.depth
theorem Room.units (h : Room k A) : A.units + 64 < cLine := h.r.units
theorem Room.units0 (h : Room k A) : A.units < cLine := h.r.units0
theorem Room.un (h : Room k A) : A.units + 16 * k + 200 < cLine := h.r.un
theorem Room.hd (h : Room k A) : A.handled = none := h.r.hd
end
/-- a def's promise, asked where nothing is being shown -/
structure FnOk (P : Program) (w : World) (K : PySem.W.Frag) (mg : Str → Option Value) (base : Heap) (CX : CXT) (k : Nat) (f : Addr) (fd : FuncData) (ps : List Str) (sp : Sp) : Prop where
  len : ∀ vs H Q E, sp vs H Q E → vs.length = ps.length
  run : ∀ (A : Around) (outer : List Env) (s : Shared) (H : Hp) (args : Args) (us : List Value) (vs : List V) (Q : VK) (E : XK),
    Room k A → Env0 P w K mg base A outer s H → BindsTo s fd args (ps.zip us) → Vals vs us → sp vs H Q E → codeAny (model P w) A (.call (.ref f) args) (CR CX outer P w H s Q E) s
section
variable {P : Program} {w : World} {K : PySem.W.Frag} {mg : Str → Option Value} {base : Heap} {CX : CXT} {j k : Nat} {f : Addr} {fd : FuncData} {N ps : List Str} {sp sp' : Sp}
theorem FnOk.mono (F : FnOk P w K mg base CX j f fd ps sp) (h : j ≤ k) : FnOk P w K mg base CX k f fd ps sp :=
  ⟨F.len, fun A outer s H args us vs Q E hr e0 hb r q => F.run A outer s H args us vs Q E (hr.mono h) e0 hb r q⟩
theorem FnOk.imp (F : FnOk P w K mg base CX k f fd ps sp) (h : ∀ vs H Q E, sp' vs H Q E → sp vs H Q E) : FnOk P w K mg base CX k f fd ps sp' :=
  ⟨fun vs H Q E q => F.len vs H Q E (h vs H Q E q), fun A outer s H args us vs Q E hr e0 hb r q => F.run A outer s H args us vs Q E hr e0 hb r (h vs H Q E q)⟩
theorem fn_any {name qual : Str} {params : Arguments} {body : List Stmt} {scope : Scope} {dV kV doc pm cdv ct oc : Value} {an od : Option Addr} {osl : Array (Option Value)}
    (lk : K.lookup f = some ⟨oc, od, .func (PySem.W.fnOf name qual params body scope dV kV doc pm an cdv ct), osl⟩) (hcd : PySem.W.codeIn K cdv qual = true) (S : FnScope N ps scope) (len : ∀ vs H Q E, sp vs H Q E → vs.length = ps.length)
    (hbody : ∀ (A : Around) (outer : List Env) (s : Shared) (H : Hp) (vs : List V) (Q : VK) (E : XK), Room k (A.deeper (envOfC qual scope s.heap.objs.size f cdv)) → sp vs H Q E →
      ∃ t, PSs (cxOf CX P w K mg base N qual scope f cdv A outer s H E) body t ∧ t { nx := fun _ H' => Q .non H', rt := Q } (L2.start N vs) H) :
    FnOk P w K mg base CX (k + 1) f (PySem.W.fnOf name qual params body scope dV kV doc pm an cdv ct) ps sp :=
  ⟨len, fun A outer s H args us vs Q E hr e0 hb r q => LamX.run_ofS lk hcd S hr.r e0 hb r (len vs H Q E q) fun hr' => hbody A outer s H vs Q E ⟨hr', hr.gd⟩ q⟩
theorem funOk {x qual : Str} {st : Stmt} (F : Fun K x qual st f fd) (S : FnScope N ps (defScope st)) (len : ∀ vs H Q E, sp vs H Q E → vs.length = ps.length)
    (hbody : ∀ (cdv : Value) (A : Around) (outer : List Env) (s : Shared) (H : Hp) (vs : List V) (Q : VK) (E : XK), Room k (A.deeper (envOfC qual (defScope st) s.heap.objs.size f cdv)) → sp vs H Q E →
      ∃ t, PSs (cxOf CX0 P w K mg base N qual (defScope st) f cdv A outer s H E).nox (defBody st) t ∧ t { nx := fun _ H' => Q .non H', rt := Q } (L2.start N vs) H) : FnOk P w K mg base CX0 (k + 1) f fd ps sp := by
  obtain ⟨oc, od, kV, doc, pm, an, cdv, ct, osl, e, lk, hcd⟩ := F.ex
  subst e
  refine fn_any lk hcd S len fun A outer s H vs Q E hr q => ?_
  obtain ⟨t, h1, h2⟩ := hbody cdv A outer s H vs Q E hr q
  exact ⟨t, h1.nox, h2⟩
theorem funOkX {x qual : Str} {st : Stmt} (F : Fun K x qual st f fd) (S : FnScope N ps (defScope st)) (len : ∀ vs H Q E, sp vs H Q E → vs.length = ps.length)
    (hbody : ∀ (cdv : Value) (A : Around) (outer : List Env) (s : Shared) (H : Hp) (vs : List V) (Q : VK) (E : XK), Room k (A.deeper (envOfC qual (defScope st) s.heap.objs.size f cdv)) → sp vs H Q E →
      ∃ t, PSs (cxOf CX P w K mg base N qual (defScope st) f cdv A outer s H E) (defBody st) t ∧ t { nx := fun _ H' => Q .non H', rt := Q } (L2.start N vs) H) : FnOk P w K mg base CX (k + 1) f fd ps sp := by
  obtain ⟨oc, od, kV, doc, pm, an, cdv, ct, osl, e, lk, hcd⟩ := F.ex
  subst e
  exact fn_any lk hcd S len fun A outer s H vs Q E hr q => hbody cdv A outer s H vs Q E hr q
end
/-! ### calls of such defs -/
section
variable {X : Cx} {CX : CXT} {k : Nat} {f : Addr} {fd : FuncData} {ps : List Str} {sp : Sp} {ds : List Value} {dvs : List V} {E : XK} {pins : List (Addr × Obj)} {σ : L2.St} {H : Hp} {s : Shared} {x : Str} {p pos : Pos} {e : Expr} {es : List Expr} {t : TA}
theorem fn_run {us : List Value} {vs : List V} {Q : VK} (F : FnOk X.prog X.w X.K X.mg X.base CX k f fd ps sp) (hr : Room k X.A) (hb : Binds X.K fd ps ds) (hd : Vals dvs ds) (hx : Passes CX X E) (I : Inv X pins σ H s) (r : Vals vs us)
    (h : sp (vs ++ dvs) H Q E) : wpAny (model X.prog X.w) X.A (call (.ref f) us) (EP X pins σ Q) X.xe s := by
  have r2 := r.append hd
  have hl : (us ++ ds).length = ps.length := r2.length.symm.trans (F.len _ _ _ _ h)
  refine wpAny_call (codeAny_mono (F.run X.A X.stack s H ⟨us, []⟩ (us ++ ds) (vs ++ dvs) Q E hr I.env0 (hb s us I.kIn hl) r2 h) fun res s' hq => ?_)
  cases res with
  | error er => exact hx pins σ H s er s' I hq
  | ok fl =>
    cases fl with
    | ret u => exact I.after hq
    | next => exact hq.elim
    | brk => exact hq.elim
    | cont => exact hq.elim
theorem pe_callG (F : FnOk X.prog X.w X.K X.mg X.base CX k f fd ps sp) (hr : Room k X.A) (hg : Gl X x) (hm : X.mg x = some (.ref f)) (hk : PySem.W.keepIn X.K (.ref f) = true) (hb : Binds X.K fd ps ds) (hd : Vals dvs ds)
    (hx : Passes CX X E) (ha : PA X (e :: es) t) (hdb : (x == ("__debug__" : Str)) = false) (he : starEach (e :: es) X.env = (false, eval e X.env) :: starEach es X.env) (hpl : (backTo pos (starEach es X.env)).any (·.1) = false) :
    PE X (.Call (.Name x p) (e :: es) [] pos) (tCall sp dvs E t) := by
  refine ⟨fun pins s σ H Q I h => wpAny_Call_Name_kw (ld_glob I hg hm ?_ hdb)⟩
  exact PySem.W.callWith_K (h₀ := X.base) I.ok.mod.kin hk (thn (ha.run pos pins s σ H _ I h) fun us s1 ⟨vs, H1, I1, r, q⟩ => ⟨I1.kIn, fn_run F hr hb hd hx I1 r q⟩) he hpl
theorem pe_callG0 (F : FnOk X.prog X.w X.K X.mg X.base CX k f fd ps sp) (hr : Room k X.A) (hg : Gl X x) (hm : X.mg x = some (.ref f)) (hk : PySem.W.keepIn X.K (.ref f) = true) (hb : Binds X.K fd ps ds) (hd : Vals dvs ds)
    (hx : Passes CX X E) (hdb : (x == ("__debug__" : Str)) = false) : PE X (.Call (.Name x p) [] [] pos) (tCall sp dvs E tNil) := by
  refine ⟨fun pins s σ H Q I h => wpAny_Call_Name_kw (ld_glob I hg hm ?_ hdb)⟩
  exact PySem.W.callWith_K0 I.kIn hk (fn_run (us := []) F hr hb hd hx I .nil h)
end
end G
/-! data trees over the abstract heap: what never changes again is a tree, what changes is a cell -/
namespace G
open PySem PySem.Spec PyProof.Rows L2

inductive D where
  | non
  | bl (b : Bool)
  | int (i : Int)
  | str (l : List Nat)
  | ref (a : Addr)
  | ty (n : String)
  | cls (c : String)
  | tup (ds : List D)
  | lst (ds : List D)
  | rol (ds : List D)
  | dic (kvs : List (Key × D))
  | dct (kvs : List (List Key × D))
  | ins (c : String) (fs : List (Str × D))

/-- the classes' addresses, by name -/
abbrev Nm := String → Addr

section
variable (K : PySem.W.Frag) (cl : Nm) (F : Hp)
mutual
inductive Rep : V → D → Prop
  | non : Rep .non .non
  | bl (b : Bool) : Rep (.bl b) (.bl b)
  | int (i : Int) : Rep (.int i) (.int i)
  | str (l : List Nat) : Rep (.str ⟨l.toArray⟩) (.str l)
  | ref (a : Addr) : Rep (.ref a) (.ref a)
  | ty (n : String) : Rep (.ty n) (.ty n)
  | cls (c : String) : Rep (.ref (cl c)) (.cls c)
  | tup {a : Addr} {xs : List V} {ds : List D} : SqT K F a xs → RepL xs ds → Rep (.ref a) (.tup ds)
  | lst {a : Addr} {xs : List V} {ds : List D} : F a = some (.lst xs) → RepL xs ds → Rep (.ref a) (.lst ds)
  | rol {a : Addr} {xs : List V} {ds : List D} : SqL K F a xs → RepL xs ds → Rep (.ref a) (.rol ds)
  | dic {a : Addr} {o : Obj} {kvs : List (Key × V)} {ds : List (Key × D)} : F a = some (.frz o (.dK kvs)) → RepK kvs ds → Rep (.ref a) (.dic ds)
  | dct {a : Addr} {kvs : List (List Key × V)} {ds : List (List Key × D)} : F a = some (.dT kvs) → RepT kvs ds → Rep (.ref a) (.dct ds)
  | ins {a dx : Addr} {c : String} {fs : List (Str × V)} {ds : List (Str × D)} : F a = some (.ins (cl c) dx fs) → RepF fs ds → Rep (.ref a) (.ins c ds)
inductive RepL : List V → List D → Prop
  | nil : RepL [] []
  | cons {v : V} {d : D} {vs : List V} {ds : List D} : Rep v d → RepL vs ds → RepL (v :: vs) (d :: ds)
inductive RepK : List (Key × V) → List (Key × D) → Prop
  | nil : RepK [] []
  | cons {k : Key} {v : V} {d : D} {vs : List (Key × V)} {ds : List (Key × D)} : Rep v d → RepK vs ds → RepK ((k, v) :: vs) ((k, d) :: ds)
inductive RepT : List (List Key × V) → List (List Key × D) → Prop
  | nil : RepT [] []
  | cons {k : List Key} {v : V} {d : D} {vs : List (List Key × V)} {ds : List (List Key × D)} : Rep v d → RepT vs ds → RepT ((k, v) :: vs) ((k, d) :: ds)
inductive RepF : List (Str × V) → List (Str × D) → Prop
  | nil : RepF [] []
  | cons {k : Str} {v : V} {d : D} {vs : List (Str × V)} {ds : List (Str × D)} : Rep v d → RepF vs ds → RepF ((k, v) :: vs) ((k, d) :: ds)
end
end

theorem sqT_mono {K : PySem.W.Frag} {F F' : Hp} {a : Addr} {xs : List V} (e : Same F F') (h : SqT K F a xs) : SqT K F' a xs := by
  rcases h with (h | ⟨o, h⟩) | h
  · exact .inl (.inl (e _ _ h))
  · exact .inl (.inr ⟨o, e _ _ h⟩)
  · exact .inr h

section
variable {K : PySem.W.Frag} {cl : Nm} {F F' : Hp}
mutual
theorem Rep.mono (s : Same F F') : ∀ {v : V} {d : D}, Rep K cl F v d → Rep K cl F' v d
  | _, _, .non => .non
  | _, _, .bl b => .bl b
  | _, _, .int i => .int i
  | _, _, .str x => .str x
  | _, _, .ref a => .ref a
  | _, _, .ty n => .ty n
  | _, _, .cls c => .cls c
  | _, _, .tup h r => .tup (sqT_mono s h) (RepL.mono s r)
  | _, _, .lst h r => .lst (s _ _ h) (RepL.mono s r)
  | _, _, .rol h r => .rol (s.seq h) (RepL.mono s r)
  | _, _, .dic h r => .dic (s _ _ h) (RepK.mono s r)
  | _, _, .dct h r => .dct (s _ _ h) (RepT.mono s r)
  | _, _, .ins h r => .ins (s _ _ h) (RepF.mono s r)
theorem RepL.mono (s : Same F F') : ∀ {vs : List V} {ds : List D}, RepL K cl F vs ds → RepL K cl F' vs ds
  | _, _, .nil => .nil
  | _, _, .cons h r => .cons (Rep.mono s h) (RepL.mono s r)
theorem RepK.mono (s : Same F F') : ∀ {vs : List (Key × V)} {ds : List (Key × D)}, RepK K cl F vs ds → RepK K cl F' vs ds
  | _, _, .nil => .nil
  | _, _, .cons h r => .cons (Rep.mono s h) (RepK.mono s r)
theorem RepT.mono (s : Same F F') : ∀ {vs : List (List Key × V)} {ds : List (List Key × D)}, RepT K cl F vs ds → RepT K cl F' vs ds
  | _, _, .nil => .nil
  | _, _, .cons h r => .cons (Rep.mono s h) (RepT.mono s r)
theorem RepF.mono (s : Same F F') : ∀ {vs : List (Str × V)} {ds : List (Str × D)}, RepF K cl F vs ds → RepF K cl F' vs ds
  | _, _, .nil => .nil
  | _, _, .cons h r => .cons (Rep.mono s h) (RepF.mono s r)
end
theorem RepL.length : ∀ {vs : List V} {ds : List D}, RepL K cl F vs ds → vs.length = ds.length
  | _, _, .nil => rfl
  | _, _, .cons _ r => congrArg (· + 1) (RepL.length r)
theorem RepL.get : ∀ {vs : List V} {ds : List D} {i : Nat} {d : D}, RepL K cl F vs ds → ds[i]? = some d → ∃ v, vs[i]? = some v ∧ Rep K cl F v d
  | _, _, _, _, .nil, e => by simp at e
  | _, _, 0, _, .cons h _, e => by simp at e; subst e; exact ⟨_, rfl, h⟩
  | _, _, i + 1, d, .cons _ r, e => by
    obtain ⟨v, h1, h2⟩ := RepL.get (i := i) (d := d) r (by simpa using e)
    exact ⟨v, by simpa using h1, h2⟩
theorem RepL.append : ∀ {vs ws : List V} {ds es : List D}, RepL K cl F vs ds → RepL K cl F ws es → RepL K cl F (vs ++ ws) (ds ++ es)
  | _, _, _, _, .nil, s => s
  | _, _, _, _, .cons r t, s => .cons r (RepL.append t s)
theorem RepL.take : ∀ {vs : List V} {ds : List D} (n : Nat), RepL K cl F vs ds → RepL K cl F (vs.take n) (ds.take n)
  | _, _, 0, _ => .nil
  | _, _, _ + 1, .nil => .nil
  | _, _, n + 1, .cons r t => .cons r (RepL.take n t)
theorem RepL.drop : ∀ {vs : List V} {ds : List D} (n : Nat), RepL K cl F vs ds → RepL K cl F (vs.drop n) (ds.drop n)
  | _, _, 0, r => r
  | _, _, _ + 1, .nil => .nil
  | _, _, n + 1, .cons _ t => RepL.drop n t
theorem RepL.set {v : V} {d : D} (h : Rep K cl F v d) : ∀ {vs : List V} {ds : List D} (i : Nat), RepL K cl F vs ds → RepL K cl F (vs.set i v) (ds.set i d)
  | _, _, _, .nil => .nil
  | _, _, 0, .cons _ t => .cons h t
  | _, _, i + 1, .cons q t => .cons q (RepL.set h i t)
theorem RepL.reverse : ∀ {vs : List V} {ds : List D}, RepL K cl F vs ds → RepL K cl F vs.reverse ds.reverse
  | _, _, .nil => .nil
  | _, _, .cons r t => by
    rw [List.reverse_cons, List.reverse_cons]
    exact (RepL.reverse t).append (.cons r .nil)
theorem RepF.get : ∀ {vs : List (Str × V)} {ds : List (Str × D)} {f : Str} {d : D}, RepF K cl F vs ds → ds.lookup f = some d → ∃ v, vs.lookup f = some v ∧ Rep K cl F v d
  | _, _, _, _, .nil, e => by simp at e
  | _, _, f, d, .cons (k := k) h r, e => by
    by_cases c : f = k
    · subst c
      rw [List.lookup_cons_self] at e
      cases e
      exact ⟨_, List.lookup_cons_self, h⟩
    · have c' : (f == k) = false := by simpa using c
      rw [List.lookup_cons, c'] at e
      obtain ⟨v, h1, h2⟩ := RepF.get r e
      exact ⟨v, by rw [List.lookup_cons, c']; exact h1, h2⟩
theorem RepF.none_of : ∀ {vs : List (Str × V)} {ds : List (Str × D)} {f : Str}, RepF K cl F vs ds → ds.lookup f = none → vs.lookup f = none
  | _, _, _, .nil, _ => rfl
  | _, _, f, .cons (k := k) h r, e => by
    by_cases c : f = k
    · subst c
      rw [List.lookup_cons_self] at e
      cases e
    · have c' : (f == k) = false := by simpa using c
      rw [List.lookup_cons, c'] at e
      rw [List.lookup_cons, c']
      exact RepF.none_of r e
end

/-! ### cells -/
inductive Cell where
  | lst (ds : List D)
  | dic (kvs : List (Key × D))
  | dct (kvs : List (List Key × D))
  | ins (c : String) (fs : List (Str × D))
  /-- a table of the code objects of lambdas of this name -/
  | tbl (q : String)
  /-- a dict that is walked: locked for the while -/
  | dil (o : Obj) (vs : List (Key × V)) (kvs : List (Key × D))
abbrev Cl := Addr → Option Cell
def updC (C : Cl) (a : Addr) (c : Cell) : Cl := fun b => if b = a then some c else C b
theorem updC_same {C : Cl} {a : Addr} {c : Cell} : updC C a c a = some c := by unfold updC; rw [if_pos rfl]
theorem updC_ne {C : Cl} {a b : Addr} {c : Cell} (h : b ≠ a) : updC C a c b = C b := by unfold updC; rw [if_neg h]
theorem updC_updC {C : Cl} {a : Addr} {c c' : Cell} : updC (updC C a c) a c' = updC C a c' := by
  funext b; unfold updC; split <;> rfl
def delC (C : Cl) (a : Addr) : Cl := fun b => if b = a then none else C b
def SubC (C C' : Cl) : Prop := ∀ a c, C a = some c → C' a = some c
theorem SubC.refl (C : Cl) : SubC C C := fun _ _ h => h
theorem SubC.trans {A B C : Cl} (h : SubC A B) (k : SubC B C) : SubC A C := fun a c e => k a c (h a c e)
theorem SubC.new {C C' : Cl} {p : Addr} {c : Cell} (h : SubC C C') (e : C p = none) : SubC C (updC C' p c) := fun a x q => by
  by_cases z : a = p
  · subst z; rw [e] at q; cases q
  · rw [updC_ne z]; exact h a x q

inductive CRep (K : PySem.W.Frag) (cl : Nm) (F : Hp) : HO → Cell → Prop
  | lst {xs : List V} {ds : List D} : RepL K cl F xs ds → CRep K cl F (.lst xs) (.lst ds)
  | dic {kvs : List (Key × V)} {ds : List (Key × D)} : RepK K cl F kvs ds → CRep K cl F (.dK kvs) (.dic ds)
  | dct {kvs : List (List Key × V)} {ds : List (List Key × D)} : RepT K cl F kvs ds → CRep K cl F (.dT kvs) (.dct ds)
  | ins {c : String} {dx : Addr} {fs : List (Str × V)} {ds : List (Str × D)} : RepF K cl F fs ds → CRep K cl F (.ins (cl c) dx fs) (.ins c ds)
  | dil {o : Obj} {kvs : List (Key × V)} {ds : List (Key × D)} : RepK K cl F kvs ds → CRep K cl F (.frz o (.dK kvs)) (.dil o kvs ds)
  | tbl {ps : Array Value} {q : String} : TriplesOk ps.toList → (∀ (pos : Pos) (cv : Value), codeAmong pos ps.toList = some cv → ∃ c, cv = .ref c ∧ F c = some (LamX.CodeO c q)) → CRep K cl F (.tbl ps) (.tbl q)
theorem CRep.mono {K : PySem.W.Frag} {cl : Nm} {F F' : Hp} {o : HO} {c : Cell} (s : Same F F') : CRep K cl F o c → CRep K cl F' o c
  | .lst r => .lst (r.mono s)
  | .dic r => .dic (r.mono s)
  | .dct r => .dct (r.mono s)
  | .ins r => .ins (r.mono s)
  | .dil r => .dil (r.mono s)
  | .tbl t h => .tbl t fun pos cv e => let ⟨c, e1, e2⟩ := h pos cv e; ⟨c, e1, s _ _ e2⟩

structure RC (K : PySem.W.Frag) (cl : Nm) (C : Cl) (F H : Hp) : Prop where
  sub : Same F H
  cel : ∀ a c, C a = some c → F a = none ∧ ∃ o, H a = some o ∧ CRep K cl F o c
  tab : ∀ a q, C a = some (.tbl q) → a = cl q
section
variable {K : PySem.W.Frag} {cl : Nm} {C C' : Cl} {F F' H H' : Hp}
theorem same_upd {H : Hp} {p : Addr} {o : HO} (h : H p = none) : Same H (upd H p o) := fun b x e => by
  rw [upd_ne (ne_of_none e h)]
  exact e
theorem RC.freeF (R : RC K cl C F H) {p : Addr} (h : H p = none) : F p = none := R.sub.free h
theorem RC.freeC (R : RC K cl C F H) {p : Addr} (h : H p = none) : C p = none := by
  cases e : C p with
  | none => rfl
  | some c =>
    obtain ⟨_, o, q, _⟩ := R.cel p c e
    rw [h] at q; cases q
/-- a new tree -/
theorem RC.new (R : RC K cl C F H) {p : Addr} {o : HO} (h : H p = none) : RC K cl C (upd F p o) (upd H p o) where
  sub := fun b x e => by
    by_cases z : b = p
    · subst z; rw [upd_same] at e ⊢; exact e
    · rw [upd_ne z] at e ⊢; exact R.sub b x e
  cel := fun a c e => by
    obtain ⟨f, x, hx, r⟩ := R.cel a c e
    have z : a ≠ p := ne_of_none hx h
    exact ⟨by rw [upd_ne z]; exact f, x, by rw [upd_ne z]; exact hx, r.mono (same_upd (R.freeF h))⟩
  tab := R.tab
/-- a new thing that is not looked at again -/
theorem RC.over (R : RC K cl C F H) (s : Same H H') : RC K cl C F H' where
  sub := R.sub.trans s
  cel := fun a c e => by
    obtain ⟨f, x, hx, r⟩ := R.cel a c e
    exact ⟨f, x, s _ _ hx, r⟩
  tab := R.tab
/-- a new cell -/
theorem RC.cell (R : RC K cl C F H) {p : Addr} {o : HO} {c : Cell} (h : H p = none) (r : CRep K cl F o c) (ht : ∀ q, c = .tbl q → p = cl q := by nofun) : RC K cl (updC C p c) F (upd H p o) where
  sub := R.sub.trans (same_upd h)
  cel := fun a x e => by
    by_cases z : a = p
    · subst z
      rw [updC_same] at e; cases e
      exact ⟨R.freeF h, o, upd_same, r⟩
    · rw [updC_ne z] at e
      obtain ⟨f, x', hx, r'⟩ := R.cel a x e
      exact ⟨f, x', by rw [upd_ne z]; exact hx, r'⟩
  tab := fun a q e => by
    by_cases z : a = p
    · subst z
      rw [updC_same] at e; cases e
      exact ht q rfl
    · rw [updC_ne z] at e
      exact R.tab a q e
/-- a cell is written -/
theorem RC.put (R : RC K cl C F H) {p : Addr} {o : HO} {c c0 : Cell} (h : C p = some c0) (r : CRep K cl F o c) (ht : ∀ q, c = .tbl q → p = cl q := by nofun) : RC K cl (updC C p c) F (upd H p o) where
  sub := fun b x e => by
    have z : b ≠ p := ne_of_none e (R.cel p c0 h).1
    rw [upd_ne z]; exact R.sub b x e
  cel := fun a x e => by
    by_cases z : a = p
    · subst z
      rw [updC_same] at e; cases e
      exact ⟨(R.cel a c0 h).1, o, upd_same, r⟩
    · rw [updC_ne z] at e
      obtain ⟨f, x', hx, r'⟩ := R.cel a x e
      exact ⟨f, x', by rw [upd_ne z]; exact hx, r'⟩
  tab := fun a q e => by
    by_cases z : a = p
    · subst z
      rw [updC_same] at e; cases e
      exact ht q rfl
    · rw [updC_ne z] at e
      exact R.tab a q e
/-- cells are forgotten -/
theorem RC.drop (R : RC K cl C F H) (s : SubC C' C) : RC K cl C' F H := ⟨R.sub, fun a c e => R.cel a c (s a c e), fun a q e => R.tab a q (s a _ e)⟩
/-- a cell becomes a tree -/
theorem RC.freeze (R : RC K cl C F H) {p : Addr} {o : HO} {c : Cell} (h : C p = some c) (ho : H p = some o) : RC K cl (delC C p) (upd F p o) H ∧ Same F (upd F p o) := by
  have f := (R.cel p c h).1
  refine ⟨⟨fun b x e => ?_, fun a x e => ?_, fun a q e => ?_⟩, same_upd f⟩
  · by_cases z : b = p
    · subst z; rw [upd_same] at e; rw [← e]; exact ho
    · rw [upd_ne z] at e; exact R.sub b x e
  · unfold delC at e
    by_cases z : a = p
    · rw [if_pos z] at e; cases e
    · rw [if_neg z] at e
      obtain ⟨f', x', hx, r'⟩ := R.cel a x e
      exact ⟨by rw [upd_ne z]; exact f', x', hx, r'.mono (same_upd f)⟩
  · unfold delC at e
    by_cases z : a = p
    · rw [if_pos z] at e; cases e
    · rw [if_neg z] at e
      exact R.tab a q e
end

/-- the classes' addresses, and the trees that stood at the start -/
structure NmB where
  f : Nm
  bs : Hp
instance : Coe NmB Nm := ⟨NmB.f⟩
instance : CoeFun NmB (fun _ => String → Addr) := ⟨NmB.f⟩
abbrev nb (cl : Nm) : NmB := ⟨cl, fun _ => none⟩
/-! ### slots -/
abbrev DEnv := List (Option D)
structure RS (K : PySem.W.Frag) (cl : NmB) (ρ : DEnv) (C : Cl) (F : Hp) (σ : L2.St) (H : Hp) : Prop where
  rc : RC K cl C F H
  len : ρ.length = σ.length
  env : ∀ (i : Nat) (d : D), ρ[i]? = some (some d) → ∃ v, σ[i]? = some (some v) ∧ Rep K cl F v d
  bs : Same cl.bs F
section
variable {K : PySem.W.Frag} {cl : NmB} {C C' : Cl} {F F' H H' : Hp} {ρ : DEnv} {σ : L2.St}
theorem RS.next (R : RS K cl ρ C F σ H) (s : Same F F') (r : RC K cl C' F' H') : RS K cl ρ C' F' σ H' :=
  ⟨r, R.len, fun i d e => let ⟨v, h1, h2⟩ := R.env i d e; ⟨v, h1, h2.mono s⟩, R.bs.trans s⟩
theorem RS.set (R : RS K cl ρ C F σ H) {v : V} {d : D} (i : Nat) (h : Rep K cl F v d) : RS K cl (ρ.set i (some d)) C F (σ.set i (some v)) H where
  rc := R.rc
  bs := R.bs
  len := by rw [List.length_set, List.length_set]; exact R.len
  env := fun j e q => by
    by_cases z : i = j
    · subst z
      have hl : i < ρ.length := by
        have := (List.getElem?_eq_some_iff.mp q).1
        simpa using this
      rw [List.getElem?_set_self hl] at q
      cases q
      exact ⟨v, List.getElem?_set_self (by rw [← R.len]; exact hl), h⟩
    · rw [List.getElem?_set_ne z] at q
      obtain ⟨u, h1, h2⟩ := R.env j e q
      exact ⟨u, by rw [List.getElem?_set_ne z]; exact h1, h2⟩
theorem RS.unset (R : RS K cl ρ C F σ H) (i : Nat) {x : Option V} : RS K cl (ρ.set i none) C F (σ.set i x) H where
  rc := R.rc
  bs := R.bs
  len := by rw [List.length_set, List.length_set]; exact R.len
  env := fun j e q => by
    by_cases z : i = j
    · subst z
      by_cases hl : i < ρ.length
      · rw [List.getElem?_set_self hl] at q
        cases q
      · rw [List.getElem?_eq_none (by simpa using hl)] at q; cases q
    · rw [List.getElem?_set_ne z] at q
      obtain ⟨u, h1, h2⟩ := R.env j e q
      exact ⟨u, by rw [List.getElem?_set_ne z]; exact h1, h2⟩
end
theorem szl {n : Nat} (h : n ≤ 16000000) : n ≤ sizeLine := Nat.le_trans h (by rw [sizeLine_eq]; decide)
end G
namespace G
open PySem PySem.Spec PyProof.Rows L2

abbrev DQ := D → Cl → Prop
abbrev DE := DEnv → Cl → DQ → Prop
abbrev DT := DEnv → Cl → (Bool → Cl → Prop) → Prop
abbrev DA := DEnv → Cl → (List D → Cl → Prop) → Prop
structure DEnds where
  nx : DEnv → Cl → Prop
  rt : DQ
  bk : DEnv → Cl → Prop := fun _ _ => False
  ct : DEnv → Cl → Prop := fun _ _ => False
abbrev DS := DEnds → DEnv → Cl → Prop
/-- an exception's class, its fields -/
abbrev DX := String → List (Str × D) → Cl → Prop
abbrev DSp := List D → Cl → DQ → DX → Prop

section
variable (K : PySem.W.Frag) (cl : Nm)
def Fin (F : Hp) (Qd : DQ) (Q : VK) : Prop := ∀ v d C H F', Same F F' → RC K cl C F' H → Rep K cl F' v d → Qd d C → Q v H
end
section
variable (K : PySem.W.Frag) (cl : NmB)
def lowE (td : DE) : TE := fun σ H Q => ∃ ρ C F Qd, RS K cl ρ C F σ H ∧ td ρ C Qd ∧ Fin K cl F Qd Q
def lowT (td : DT) : TT := fun σ H Q => ∃ ρ C F Qd, RS K cl ρ C F σ H ∧ td ρ C Qd ∧ ∀ b C H F', Same F F' → RC K cl C F' H → Qd b C → Q b H
def lowA (td : DA) : TA := fun σ H Q => ∃ ρ C F Qd, RS K cl ρ C F σ H ∧ td ρ C Qd ∧ ∀ vs ds C H F', Same F F' → RC K cl C F' H → RepL K cl F' vs ds → Qd ds C → Q vs H
structure FinS (F : Hp) (Dd : DEnds) (De : Ends) : Prop where
  nx : ∀ ρ C F' σ H, Same F F' → RS K cl ρ C F' σ H → Dd.nx ρ C → De.nx σ H
  bk : ∀ ρ C F' σ H, Same F F' → RS K cl ρ C F' σ H → Dd.bk ρ C → De.bk σ H
  ct : ∀ ρ C F' σ H, Same F F' → RS K cl ρ C F' σ H → Dd.ct ρ C → De.ct σ H
  rt : ∀ v d C F' H, Same F F' → RC K cl C F' H → Rep K cl F' v d → Dd.rt d C → De.rt v H
def lowS (td : DS) : TS := fun De σ H => ∃ ρ C F Dd, RS K cl ρ C F σ H ∧ td Dd ρ C ∧ FinS K cl F Dd De
end
section
variable (K : PySem.W.Frag) (cl : Nm)
/-- an exception of a class of one's own, as it lies -/
def ExcRep (F : Hp) (c : String) (ds : List (Str × D)) (cv : Value) (d : Option Addr) (H : Hp) : Prop := cv = .ref (cl c) ∧ ∃ dd fs, d = some dd ∧ H dd = some (.xd fs) ∧ RepF K cl F fs ds
def FinX (F : Hp) (Ed : DX) (E : XK) : Prop := ∀ c ds cv d C H F', Same F F' → RC K cl C F' H → ExcRep K cl F' c ds cv d H → Ed c ds C → E cv d H
def lowSp (sp : DSp) : Sp := fun vs H Q E => ∃ ds C F Qd Ed, RC K cl C F H ∧ RepL K cl F vs ds ∧ sp ds C Qd Ed ∧ Fin K cl F Qd Q ∧ FinX K cl F Ed E
end

section
variable {K : PySem.W.Frag} {cl : Nm} {F F' : Hp}
theorem Fin.at {Qd : DQ} {Q : VK} (k : Fin K cl F Qd Q) (s : Same F F') : Fin K cl F' Qd Q := fun v d C H F2 s2 => k v d C H F2 (s.trans s2)
theorem FinX.at {Ed : DX} {E : XK} (k : FinX K cl F Ed E) (s : Same F F') : FinX K cl F' Ed E := fun c ds cv d C H F2 s2 => k c ds cv d C H F2 (s.trans s2)
theorem FinS.at {cl : NmB} {Dd : DEnds} {De : Ends} (k : FinS K cl F Dd De) (s : Same F F') : FinS K cl F' Dd De :=
  ⟨fun ρ C F2 σ H s2 => k.nx ρ C F2 σ H (s.trans s2), fun ρ C F2 σ H s2 => k.bk ρ C F2 σ H (s.trans s2), fun ρ C F2 σ H s2 => k.ct ρ C F2 σ H (s.trans s2), fun v d C F2 H s2 => k.rt v d C F2 H (s.trans s2)⟩
end

/-! ### the judgements -/
abbrev PEd (X : Cx) (cl : NmB) (e : Expr) (t : DE) : Prop := PE X e (lowE X.K cl t)
abbrev PTd (X : Cx) (cl : NmB) (e : Expr) (t : DT) : Prop := PT X e (lowT X.K cl t)
abbrev PAd (X : Cx) (cl : NmB) (es : List Expr) (t : DA) : Prop := PA X es (lowA X.K cl t)
abbrev PSd (X : Cx) (cl : NmB) (st : Stmt) (t : DS) : Prop := PS X st (lowS X.K cl t)
abbrev PSsd (X : Cx) (cl : NmB) (st : List Stmt) (t : DS) : Prop := PSs X st (lowS X.K cl t)

section
variable {X : Cx}
theorem weakE {e : Expr} {t t' : TE} (h : PE X e t) (w : ∀ σ H Q, t' σ H Q → t σ H Q) : PE X e t' := ⟨fun pins s σ H Q I q => h.run pins s σ H Q I (w σ H Q q)⟩
theorem weakT {e : Expr} {t t' : TT} (h : PT X e t) (w : ∀ σ H Q, t' σ H Q → t σ H Q) : PT X e t' := ⟨fun pins s σ H Q I q => h.run pins s σ H Q I (w σ H Q q)⟩
theorem weakW {e : Expr} {t t' : TT} (h : PW X e t) (w : ∀ σ H Q, t' σ H Q → t σ H Q) : PW X e t' := ⟨fun wh pins s σ H Q I q => h.run wh pins s σ H Q I (w σ H Q q)⟩
theorem weakA {e : List Expr} {t t' : TA} (h : PA X e t) (w : ∀ σ H Q, t' σ H Q → t σ H Q) : PA X e t' := ⟨fun p pins s σ H Q I q => h.run p pins s σ H Q I (w σ H Q q)⟩
theorem weakS {e : Stmt} {t t' : TS} (h : PS X e t) (w : ∀ D σ H, t' D σ H → t D σ H) : PS X e t' := ⟨fun pins s σ H D I q => h.run pins s σ H D I (w D σ H q)⟩
theorem weakSs {e : List Stmt} {t t' : TS} (h : PSs X e t) (w : ∀ D σ H, t' D σ H → t D σ H) : PSs X e t' := ⟨fun pins s σ H D I q => h.run pins s σ H D I (w D σ H q)⟩
end

/-! ### names, constants -/
def dVar (i : Nat) : DE := fun ρ C Q => ∃ d, ρ[i]? = some (some d) ∧ Q d C
def dC (d : D) : DE := fun _ C Q => Q d C
section
variable {X : Cx} {cl : NmB} {pos : Pos}
theorem dv (i : Nat) {x : Str} (hN : X.N[i]? = some x := by rfl) (hv : Vis X.env.scope x := by first | exact Or.inl rfl | exact Or.inr (Or.inl rfl) | exact Or.inr (Or.inr rfl)) (hd : (x == ("__debug__" : Str)) = false := by decide)
    (hcd : (x == ("__classdict__" : Str)) = false := by decide) : PEd X cl (.Name x pos) (dVar i) := by
  refine weakE (pv i hN hv hd hcd) fun σ H Q ⟨ρ, C, F, Qd, R, ⟨d, e, q⟩, k⟩ => ?_
  obtain ⟨v, ev, rv⟩ := R.env i d e
  exact ⟨v, ev, k v d C H F (Same.refl F) R.rc rv q⟩
theorem de_const {e : Expr} {v : V} {d : D} (h : PE X e (tC v)) (r : ∀ F, Rep X.K cl F v d) : PEd X cl e (dC d) :=
  weakE h fun σ H Q ⟨ρ, C, F, Qd, R, q, k⟩ => k v d C H F (Same.refl F) R.rc (r F) q
theorem de_int {i j} : PEd X cl (.Constant (.int i) j pos) (dC (.int i)) := de_const pe_int fun _ => .int i
theorem de_bl {b j} : PEd X cl (.Constant (.bool b) j pos) (dC (.bl b)) := de_const pe_bl fun _ => .bl b
theorem de_non {j} : PEd X cl (.Constant .none j pos) (dC .non) := de_const pe_non fun _ => .non
theorem de_str {x : Str} {l : List Nat} {j} (h : x = ⟨l.toArray⟩ := by decide +kernel) : PEd X cl (.Constant (.str x) j pos) (dC (.str l)) := by
  subst h
  exact de_const pe_str fun _ => .str l
theorem de_glob {x : Str} {v : V} {u : Value} {d : D} (hm : X.mg x = some u) (r : RelV v u) (h : ∀ F, Rep X.K cl F v d) (hg : Gl X x := by rfl) (hd : (x == ("__debug__" : Str)) = false := by decide) : PEd X cl (.Name x pos) (dC d) :=
  de_const (pe_glob hg hm r hd) h
theorem de_bltn {x : Str} {v : V} {u : Value} {d : D} (hm : X.mg x = none) (hv : bootBuiltins x = some u) (r : RelV v u) (h : ∀ F, Rep X.K cl F v d) (hg : Gl X x := by rfl) (hn : x ≠ "__name__" := by decide) (hd : (x == ("__debug__" : Str)) = false := by decide) : PEd X cl (.Name x pos) (dC d) :=
  de_const (pe_bltn hg hm hv r hn hd) h
end

/-! ### operators -/
abbrev RD2 := D → D → Cl → DQ → Prop
section
variable (K : PySem.W.Frag) (cl : Nm)
def lowR (rd : RD2) : R2 := fun x y H Q => ∃ dx dy C F Qd, RC K cl C F H ∧ Rep K cl F x dx ∧ Rep K cl F y dy ∧ rd dx dy C Qd ∧ Fin K cl F Qd Q
end
abbrev OpD (X : Cx) (cl : Nm) (f : Value → Value → Sem Value) (rd : RD2) : Prop := OpR X f (lowR X.K cl rd)
def dOp (rd : RD2) (ta tb : DE) : DE := fun ρ C Q => ta ρ C fun x C1 => tb ρ C1 fun y C2 => rd x y C2 Q
section
variable {X : Cx} {cl : NmB} {a b : Expr} {ta tb : DE} {pos : Pos} {K : PySem.W.Frag}
theorem low_op {rd : RD2} {σ : L2.St} {H : Hp} {Q : VK} (h : lowE K cl (dOp rd ta tb) σ H Q) : tOp (lowR K cl rd) (lowE K cl ta) (lowE K cl tb) σ H Q := by
  obtain ⟨ρ, C, F, Qd, R, h, k⟩ := h
  refine ⟨ρ, C, F, _, R, h, fun v d C1 H1 F1 s1 R1 r1 q1 => ?_⟩
  refine ⟨ρ, C1, F1, _, R.next s1 R1, q1, fun w e C2 H2 F2 s2 R2 r2 q2 => ?_⟩
  exact ⟨d, e, C2, F2, Qd, R2, r1.mono s2, r2, q2, k.at (s1.trans s2)⟩
theorem de_op {op : Operator} {rd : RD2} (ho : OpD X cl (binaryOp op) rd) (ha : PEd X cl a ta) (hb : PEd X cl b tb) : PEd X cl (.BinOp a op b pos) (dOp rd ta tb) :=
  weakE (pe_op ho ha hb) fun _ _ _ h => low_op h
theorem de_cmp {op : CmpOp} {rd : RD2} (ho : OpD X cl (compareOp op) rd) (ha : PEd X cl a ta) (hb : PEd X cl b tb) (hm : behindInMarks op b = false) : PEd X cl (.Compare a [op] [b] pos) (dOp rd ta tb) :=
  weakE (pe_cmpR ho ha hb hm) fun _ _ _ h => low_op h
/-- a value that is a truth value, as a test -/
def dTest (t : DE) : DT := fun ρ C Q => t ρ C fun x C1 => ∃ k, x = .bl k ∧ Q k C1
theorem low_test {t : DE} {σ : L2.St} {H : Hp} {Q : Bool → Hp → Prop} (h : lowT K cl (dTest t) σ H Q) : lowE K cl t σ H fun x H1 => ∃ k, x = .bl k ∧ Q k H1 := by
  obtain ⟨ρ, C, F, Qd, R, h, k⟩ := h
  refine ⟨ρ, C, F, _, R, h, fun v d C1 H1 F1 s1 R1 r1 q1 => ?_⟩
  obtain ⟨b, rfl, q⟩ := q1
  cases r1
  exact ⟨b, rfl, k b C1 H1 F1 s1 R1 q⟩
theorem low_test_op {rd : RD2} {σ : L2.St} {H : Hp} {Q : Bool → Hp → Prop} (h : lowT K cl (dTest (dOp rd ta tb)) σ H Q) : tTest (tOp (lowR K cl rd) (lowE K cl ta) (lowE K cl tb)) σ H Q := low_op (low_test h)
theorem dt_cmp {op : CmpOp} {rd : RD2} (ho : OpD X cl (compareOp op) rd) (ha : PEd X cl a ta) (hb : PEd X cl b tb) (hm : behindInMarks op b = false) : PTd X cl (.Compare a [op] [b] pos) (dTest (dOp rd ta tb)) :=
  weakT (pt_cmpR ho ha hb hm) fun _ _ _ h => low_test_op h
theorem dt_val {e : Expr} {t : DE} (h : PEd X cl e t) (he : ∀ whole, isTrue e X.env whole = (do let v ← whole; standAt e.pos; holding [v] (truthy v)) := by intro _; rfl) : PTd X cl e (dTest t) :=
  weakT (pt_val h he) fun _ _ _ h => low_test h
/-- a op b op c -/
def dChain (r r' : RD2) (ta tb tc : DE) : DE := fun ρ C Q => ta ρ C fun x C1 => tb ρ C1 fun y C2 => r x y C2 fun z C3 => ∃ k, z = .bl k ∧ if k = true then tc ρ C3 fun w C4 => r' y w C4 Q else Q (.bl false) C3
variable {c : Expr} {tc : DE}
theorem low_chain {r r' : RD2} {σ : L2.St} {H : Hp} {Q : VK} (h : lowE K cl (dChain r r' ta tb tc) σ H Q) : tChain (lowR K cl r) (lowR K cl r') (lowE K cl ta) (lowE K cl tb) (lowE K cl tc) σ H Q := by
  obtain ⟨ρ, C, F, Qd, R, h, k⟩ := h
  refine ⟨ρ, C, F, _, R, h, fun v d C1 H1 F1 s1 R1 r1 q1 => ?_⟩
  refine ⟨ρ, C1, F1, _, R.next s1 R1, q1, fun w e C2 H2 F2 s2 R2 r2 q2 => ?_⟩
  refine ⟨d, e, C2, F2, _, R2, r1.mono s2, r2, q2, fun z dz C3 H3 F3 s3 R3 r3 q3 => ?_⟩
  obtain ⟨kk, rfl, q3⟩ := q3
  cases r3
  refine ⟨kk, rfl, ?_⟩
  cases kk with
  | true =>
    rw [if_pos rfl] at q3 ⊢
    refine ⟨ρ, C3, F3, _, R.next (s1.trans (s2.trans s3)) R3, q3, fun u du C4 H4 F4 s4 R4 r4 q4 => ?_⟩
    exact ⟨e, du, C4, F4, Qd, R4, r2.mono (s3.trans s4), r4, q4, k.at (s1.trans (s2.trans (s3.trans s4)))⟩
  | false =>
    rw [if_neg Bool.false_ne_true] at q3 ⊢
    exact k (.bl false) (.bl false) C3 H3 F3 (s1.trans (s2.trans s3)) R3 (.bl false) q3
theorem dt_chain {op op' : CmpOp} {r r' : RD2} (ho : OpD X cl (compareOp op) r) (ho' : OpD X cl (compareOp op') r') (ha : PEd X cl a ta) (hb : PEd X cl b tb) (hc : PEd X cl c tc) (hm : lastMarks [op, op'] [b, c] = false := by with_unfolding_all rfl) : PTd X cl (.Compare a [op, op'] [b, c] pos) (dTest (dChain r r' ta tb tc)) :=
  weakT (pt_chain ho ho' ha hb hc hm) fun _ _ _ h => low_chain (low_test h)
/-- one-place operators -/
abbrev RD1 := D → Cl → DQ → Prop
def dUn (rd : RD1) (ta : DE) : DE := fun ρ C Q => ta ρ C fun x C1 => rd x C1 Q
end

/-! ### and, or, not, if -/
section
variable {X : Cx} {cl : NmB} {a b : Expr} {rest : List Expr} {ta tb : DE} {tA tB : DT} {pos : Pos} {K : PySem.W.Frag}
def dAnd (t u : DT) : DT := fun ρ C Q => t ρ C fun c C1 => if c = true then u ρ C1 Q else Q false C1
def dOr (t u : DT) : DT := fun ρ C Q => t ρ C fun c C1 => if c = true then Q true C1 else u ρ C1 Q
def dNot (t : DT) : DT := fun ρ C Q => t ρ C fun c C1 => Q (!c) C1
abbrev PWd (X : Cx) (cl : NmB) (e : Expr) (t : DT) : Prop := PW X e (lowT X.K cl t)
theorem dw_or1 (h : PTd X cl a tA) : PWd X cl (.BoolOp .Or [a] pos) tA := pw_or1 h
theorem dw_or (ha : PTd X cl a tA) (hb : PWd X cl (.BoolOp .Or (b :: rest) pos) tB) : PWd X cl (.BoolOp .Or (a :: b :: rest) pos) (dOr tA tB) := by
  refine weakW (pw_or ha hb) fun σ H Q ⟨ρ, C, F, Qd, R, h, k⟩ => ?_
  refine ⟨ρ, C, F, _, R, h, fun c C1 H1 F1 s1 R1 q1 => ?_⟩
  cases c with
  | true =>
    rw [if_pos rfl] at q1 ⊢
    exact k true C1 H1 F1 s1 R1 q1
  | false =>
    rw [if_neg Bool.false_ne_true] at q1 ⊢
    exact ⟨ρ, C1, F1, Qd, R.next s1 R1, q1, fun b C2 H2 F2 s2 => k b C2 H2 F2 (s1.trans s2)⟩
theorem dt_not (h : PTd X cl a tA) : PTd X cl (.UnaryOp .Not a pos) (dNot tA) := by
  refine weakT (pt_not h) fun σ H Q ⟨ρ, C, F, Qd, R, h, k⟩ => ?_
  exact ⟨ρ, C, F, _, R, h, fun c C1 H1 F1 s1 R1 q1 => k _ C1 H1 F1 s1 R1 q1⟩
/-- as values, all but the last a truth value -/
def dAndV (ta tb : DE) : DE := fun ρ C Q => ta ρ C fun x C1 => ∃ c, x = .bl c ∧ if c = true then tb ρ C1 Q else Q (.bl false) C1
def dOrV (ta tb : DE) : DE := fun ρ C Q => ta ρ C fun x C1 => ∃ c, x = .bl c ∧ if c = true then Q (.bl true) C1 else tb ρ C1 Q
def dNotV (ta : DE) : DE := fun ρ C Q => ta ρ C fun x C1 => ∃ c, x = .bl c ∧ Q (.bl (!c)) C1
theorem de_one {op : BoolOp} (h : PEd X cl a ta) : PEd X cl (.BoolOp op [a] pos) ta := pe_one h
theorem de_and (ha : PEd X cl a ta) (hb : PEd X cl (.BoolOp .And (b :: rest) pos) tb) : PEd X cl (.BoolOp .And (a :: b :: rest) pos) (dAndV ta tb) := by
  refine weakE (pe_and ha hb) fun σ H Q ⟨ρ, C, F, Qd, R, h, k⟩ => ?_
  refine ⟨ρ, C, F, _, R, h, fun v d C1 H1 F1 s1 R1 r1 q1 => ?_⟩
  obtain ⟨c, rfl, q1⟩ := q1
  cases r1
  refine ⟨c, rfl, ?_⟩
  cases c with
  | true =>
    rw [if_pos rfl] at q1 ⊢
    exact ⟨ρ, C1, F1, Qd, R.next s1 R1, q1, k.at s1⟩
  | false =>
    rw [if_neg Bool.false_ne_true] at q1 ⊢
    exact k _ _ C1 H1 F1 s1 R1 (.bl false) q1
def dIf (t : DT) (ta tb : DE) : DE := fun ρ C Q => t ρ C fun c C1 => if c = true then ta ρ C1 Q else tb ρ C1 Q
theorem de_ifExp {c : Expr} (hc : PTd X cl c tA) (ha : PEd X cl a ta) (hb : PEd X cl b tb) : PEd X cl (.IfExp c a b pos) (dIf tA ta tb) := by
  refine weakE (pe_ifExp hc ha hb) fun σ H Q ⟨ρ, C, F, Qd, R, h, k⟩ => ?_
  refine ⟨ρ, C, F, _, R, h, fun c C1 H1 F1 s1 R1 q1 => ?_⟩
  cases c with
  | true =>
    rw [if_pos rfl] at q1 ⊢
    exact ⟨ρ, C1, F1, Qd, R.next s1 R1, q1, k.at s1⟩
  | false =>
    rw [if_neg Bool.false_ne_true] at q1 ⊢
    exact ⟨ρ, C1, F1, Qd, R.next s1 R1, q1, k.at s1⟩
end

/-! ### arguments, displays -/
def dNil : DA := fun _ C Q => Q [] C
def dCons (ta : DE) (tr : DA) : DA := fun ρ C Q => ta ρ C fun x C1 => tr ρ C1 fun xs C2 => Q (x :: xs) C2
def dTup (t : DA) : DE := fun ρ C Q => t ρ C fun xs C1 => xs.length ≤ sizeLine ∧ Q (.tup xs) C1
def dLst (t : DA) : DE := fun ρ C Q => t ρ C fun xs C1 => xs.length ≤ sizeLine ∧ Q (.lst xs) C1
/-- a list that is to be changed -/
def dLstC (t : DA) : DE := fun ρ C Q => t ρ C fun xs C1 => xs.length ≤ sizeLine ∧ ∀ p, C1 p = none → Q (.ref p) (updC C1 p (.lst xs))
section
variable {X : Cx} {cl : NmB} {e : Expr} {es : List Expr} {te : DE} {t : DA} {pos : Pos} {K : PySem.W.Frag}
theorem da_nil : PAd X cl [] dNil := weakA pa_nil fun σ H Q ⟨ρ, C, F, Qd, R, h, k⟩ => k [] [] C H F (Same.refl F) R.rc .nil h
theorem low_cons {σ : L2.St} {H : Hp} {Q : List V → Hp → Prop} (h : lowA K cl (dCons te t) σ H Q) : tCons (lowE K cl te) (lowA K cl t) σ H Q := by
  obtain ⟨ρ, C, F, Qd, R, h, k⟩ := h
  refine ⟨ρ, C, F, _, R, h, fun v d C1 H1 F1 s1 R1 r1 q1 => ?_⟩
  refine ⟨ρ, C1, F1, _, R.next s1 R1, q1, fun vs ds C2 H2 F2 s2 R2 r2 q2 => ?_⟩
  exact k _ _ C2 H2 F2 (s1.trans s2) R2 (.cons (r1.mono s2) r2) q2
theorem da_cons (ha : PEd X cl e te) (hr : PAd X cl es t) (hs : starEach (e :: es) X.env = (false, eval e X.env) :: starEach es X.env := by rfl) : PAd X cl (e :: es) (dCons te t) :=
  weakA (pa_cons ha hr hs) fun _ _ _ h => low_cons h
theorem de_tup {x1} (h : PAd X cl es t) : PEd X cl (.Tuple es x1 pos) (dTup t) := by
  refine weakE (pe_tup h) fun σ H Q ⟨ρ, C, F, Qd, R, h, k⟩ => ?_
  refine ⟨ρ, C, F, _, R, h, fun vs ds C1 H1 F1 s1 R1 r1 ⟨z, q1⟩ => ⟨by rw [r1.length]; exact z, fun p np => ?_⟩⟩
  have s2 := same_upd (o := .tup vs) (R1.freeF np)
  exact k _ _ C1 _ _ (s1.trans s2) (R1.new np) (.tup (.of upd_same) (r1.mono s2)) q1
theorem de_lst (h : PAd X cl es t) : PEd X cl (.List es pos) (dLst t) := by
  refine weakE (pe_lst h) fun σ H Q ⟨ρ, C, F, Qd, R, h, k⟩ => ?_
  refine ⟨ρ, C, F, _, R, h, fun vs ds C1 H1 F1 s1 R1 r1 ⟨z, q1⟩ => ⟨by rw [r1.length]; exact z, fun p np => ?_⟩⟩
  have s2 := same_upd (o := .lst vs) (R1.freeF np)
  exact k _ _ C1 _ _ (s1.trans s2) (R1.new np) (.lst upd_same (r1.mono s2)) q1
theorem de_lstC (h : PAd X cl es t) : PEd X cl (.List es pos) (dLstC t) := by
  refine weakE (pe_lst h) fun σ H Q ⟨ρ, C, F, Qd, R, h, k⟩ => ?_
  refine ⟨ρ, C, F, _, R, h, fun vs ds C1 H1 F1 s1 R1 r1 ⟨z, q1⟩ => ⟨by rw [r1.length]; exact z, fun p np => ?_⟩⟩
  exact k _ _ _ _ _ s1 (R1.cell np (.lst r1)) (.ref p) (q1 p (R1.freeC np))
end

/-! ### ghosts: a cell becomes a tree, cells are forgotten -/
inductive Gh : D → Cl → D → Cl → Prop
  | same {d : D} {C : Cl} : Gh d C d C
  | drop {d : D} {C C' : Cl} : SubC C' C → Gh d C d C'
  | lst {a : Addr} {C : Cl} {ds : List D} : C a = some (.lst ds) → Gh (.ref a) C (.lst ds) (delC C a)
  | dct {a : Addr} {C : Cl} {ds : List (List Key × D)} : C a = some (.dct ds) → Gh (.ref a) C (.dct ds) (delC C a)
  | ins {a : Addr} {C : Cl} {c : String} {ds : List (Str × D)} : C a = some (.ins c ds) → Gh (.ref a) C (.ins c ds) (delC C a)
  | trans {d d1 d2 : D} {C C1 C2 : Cl} : Gh d C d1 C1 → Gh d1 C1 d2 C2 → Gh d C d2 C2
theorem Gh.ok {K : PySem.W.Frag} {cl : Nm} {F H : Hp} {d d' : D} {C C' : Cl} {v : V} (g : Gh d C d' C') : RC K cl C F H → Rep K cl F v d → ∃ F', Same F F' ∧ RC K cl C' F' H ∧ Rep K cl F' v d' := by
  induction g generalizing F with
  | same => exact fun R r => ⟨F, Same.refl F, R, r⟩
  | drop s => exact fun R r => ⟨F, Same.refl F, R.drop s, r⟩
  | lst h =>
    intro R r
    cases r
    obtain ⟨_, o, ho, c⟩ := R.cel _ _ h
    cases c with
    | lst rl =>
      obtain ⟨R', s⟩ := R.freeze h ho
      exact ⟨_, s, R', .lst upd_same (rl.mono s)⟩
  | dct h =>
    intro R r
    cases r
    obtain ⟨_, o, ho, c⟩ := R.cel _ _ h
    cases c with
    | dct rl =>
      obtain ⟨R', s⟩ := R.freeze h ho
      exact ⟨_, s, R', .dct upd_same (rl.mono s)⟩
  | ins h =>
    intro R r
    cases r
    obtain ⟨_, o, ho, c⟩ := R.cel _ _ h
    cases c with
    | ins rl =>
      obtain ⟨R', s⟩ := R.freeze h ho
      exact ⟨_, s, R', .ins upd_same (rl.mono s)⟩
  | trans _ _ i1 i2 =>
    intro R r
    obtain ⟨F1, s1, R1, r1⟩ := i1 R r
    obtain ⟨F2, s2, R2, r2⟩ := i2 R1 r1
    exact ⟨F2, s1.trans s2, R2, r2⟩
end G
namespace G
open PySem PySem.Spec PyProof.Rows L2

/-! ### blocks and small statements -/
def dNext : DS := fun D ρ C => D.nx ρ C
def dSeq (t u : DS) : DS := fun D ρ C => t { D with nx := u D } ρ C
def dDrop (te : DE) : DS := fun D ρ C => te ρ C fun _ C1 => D.nx ρ C1
def dRet (te : DE) : DS := fun D ρ C => te ρ C D.rt
def dIfS (c : DT) (t u : DS) : DS := fun D ρ C => c ρ C fun b C1 => if b = true then t D ρ C1 else u D ρ C1
def dNever : DS := fun _ _ _ => False
section
variable {X : Cx} {cl : NmB} {st : Stmt} {rest : List Stmt} {t u : DS} {e : Expr} {te : DE} {pos : Pos}
theorem dss_nil : PSsd X cl [] dNext := weakSs pss_nil fun De σ H ⟨ρ, C, F, Dd, R, h, k⟩ => k.nx ρ C F σ H (Same.refl F) R h
theorem dss_cons (h1 : PSd X cl st t) (h2 : PSsd X cl rest u) : PSsd X cl (st :: rest) (dSeq t u) := by
  refine weakSs (pss_cons h1 h2) fun De σ H ⟨ρ, C, F, Dd, R, h, k⟩ => ?_
  exact ⟨ρ, C, F, { Dd with nx := u Dd }, R, h, ⟨fun ρ' C' F' σ' H' s R' q => ⟨ρ', C', F', Dd, R', q, k.at s⟩, k.bk, k.ct, k.rt⟩⟩
theorem dss_one (h1 : PSd X cl st t) : PSsd X cl [st] t := pss_one h1
theorem ds_never : PSd X cl st dNever := weakS (t := tNever) ps_never fun De σ H ⟨ρ, C, F, Dd, R, h, k⟩ => h.elim
theorem ds_expr (he : PEd X cl e te) (hs : swapsWith e none pos.line X.env = pure false := by rfl) : PSd X cl (.Expr e pos) (dDrop te) := by
  refine weakS (ps_expr he hs) fun De σ H ⟨ρ, C, F, Dd, R, h, k⟩ => ?_
  exact ⟨ρ, C, F, _, R, h, fun v d C1 H1 F1 s1 R1 r1 q1 => k.nx ρ C1 F1 σ H1 s1 (R.next s1 R1) q1⟩
theorem ds_ret (he : PEd X cl e te) : PSd X cl (.Return (some e) pos) (dRet te) := by
  refine weakS (ps_ret he) fun De σ H ⟨ρ, C, F, Dd, R, h, k⟩ => ?_
  exact ⟨ρ, C, F, _, R, h, fun v d C1 H1 F1 s1 R1 r1 q1 => k.rt v d C1 F1 H1 s1 R1 r1 q1⟩
theorem ds_if {c : Expr} {a b : List Stmt} {tc : DT} (hc : PTd X cl c tc) (ha : PSsd X cl a t) (hb : PSsd X cl b u) : PSd X cl (.If c a b pos) (dIfS tc t u) := by
  refine weakS (ps_if hc ha hb) fun De σ H ⟨ρ, C, F, Dd, R, h, k⟩ => ?_
  refine ⟨ρ, C, F, _, R, h, fun d C1 H1 F1 s1 R1 q1 => ?_⟩
  cases d with
  | true =>
    rw [if_pos rfl] at q1 ⊢
    exact ⟨ρ, C1, F1, Dd, R.next s1 R1, q1, k.at s1⟩
  | false =>
    rw [if_neg Bool.false_ne_true] at q1 ⊢
    exact ⟨ρ, C1, F1, Dd, R.next s1 R1, q1, k.at s1⟩
end

/-! ### a name, seen otherwise -/
/-! ### targets -/
abbrev DG := D → DEnv → Cl → (DEnv → Cl → Prop) → Prop
abbrev DGs := List D → DEnv → Cl → (DEnv → Cl → Prop) → Prop
def lowG (K : PySem.W.Frag) (cl : NmB) (g : DG) : TG := fun v σ H Q => ∃ d ρ C F Qd, RS K cl ρ C F σ H ∧ Rep K cl F v d ∧ g d ρ C Qd ∧ ∀ ρ' C' F' σ' H', Same F F' → RS K cl ρ' C' F' σ' H' → Qd ρ' C' → Q σ' H'
def lowGs (K : PySem.W.Frag) (cl : NmB) (g : DGs) : TGs := fun v σ H Q => ∃ d ρ C F Qd, RS K cl ρ C F σ H ∧ RepL K cl F v d ∧ g d ρ C Qd ∧ ∀ ρ' C' F' σ' H', Same F F' → RS K cl ρ' C' F' σ' H' → Qd ρ' C' → Q σ' H'
abbrev PGd (X : Cx) (cl : NmB) (tg : Expr) (g : DG) : Prop := PG X tg (lowG X.K cl g)
abbrev PGsd (X : Cx) (cl : NmB) (tg : List Expr) (g : DGs) : Prop := PGs X tg (lowGs X.K cl g)
theorem weakG {X : Cx} {e : Expr} {t t' : TG} (h : PG X e t) (w : ∀ v σ H Q, t' v σ H Q → t v σ H Q) : PG X e t' := ⟨fun pins s σ H v u Q I r q => h.run pins s σ H v u Q I r (w v σ H Q q)⟩
theorem weakGs {X : Cx} {e : List Expr} {t t' : TGs} (h : PGs X e t) (w : ∀ v σ H Q, t' v σ H Q → t v σ H Q) : PGs X e t' := ⟨fun pins s σ H v u Q I r q => h.run pins s σ H v u Q I r (w v σ H Q q)⟩
def dName (i : Nat) : DG := fun d ρ C Q => Q (ρ.set i (some d)) C
def dgNil : DGs := fun ds ρ C Q => ds = [] ∧ Q ρ C
def dgCons (t : DG) (u : DGs) : DGs := fun ds ρ C Q => ∃ d r, ds = d :: r ∧ t d ρ C fun ρ' C' => u r ρ' C' Q
def dgTup (n : Nat) (t : DGs) : DG := fun d ρ C Q => ∃ ds, d = .tup ds ∧ ds.length = n ∧ t ds ρ C Q
section
variable {X : Cx} {cl : NmB} {pos : Pos}
theorem dg_name (i : Nat) {x : Str} (hN : X.N.Nodup) (hi : X.N[i]? = some x := by rfl) (hx : Loc X.env.scope x := by first | exact Or.inl rfl | exact Or.inr rfl) (hf : X.fn x = true ∨ X.env.scope.names.lookup x = some .local := by first | exact .inl rfl | exact .inr rfl | assumption) : PGd X cl (.Name x pos) (dName i) := by
  refine weakG (pg_name hN hi hx hf) fun v σ H Q ⟨d, ρ, C, F, Qd, R, r, q, k⟩ => ?_
  exact k _ C F _ H (Same.refl F) (R.set i r) q
theorem dgs_nil : PGsd X cl [] dgNil := by
  refine weakGs pgs_nil fun v σ H Q ⟨d, ρ, C, F, Qd, R, r, ⟨e, q⟩, k⟩ => ?_
  subst e
  cases r
  exact ⟨rfl, k ρ C F σ H (Same.refl F) R q⟩
theorem dgs_cons {e : Expr} {es : List Expr} {t : DG} {u : DGs} (h1 : PGd X cl e t) (h2 : PGsd X cl es u)
    (hs : (assignEach (e :: es) X.env).map (·.2) = assign e X.env :: (assignEach es X.env).map (·.2) := by rfl) : PGsd X cl (e :: es) (dgCons t u) := by
  refine weakGs (pgs_cons h1 h2 hs) fun v σ H Q ⟨ds, ρ, C, F, Qd, R, r, ⟨d, r', e, q⟩, k⟩ => ?_
  subst e
  cases r with
  | cons rd rr =>
    refine ⟨_, _, rfl, d, ρ, C, F, _, R, rd, q, fun ρ1 C1 F1 σ1 H1 s1 R1 q1 => ?_⟩
    exact ⟨r', ρ1, C1, F1, Qd, R1, rr.mono s1, q1, fun ρ2 C2 F2 σ2 H2 s2 => k ρ2 C2 F2 σ2 H2 (s1.trans s2)⟩
theorem dg_tup {es : List Expr} {j : Nat} {t : DGs} {n : Nat} (h : PGsd X cl es t) (hc : X.calm = true := by rfl)
    (hn : (assignEach es X.env).length = n := by rfl) (hst : (assignEach es X.env).findIdx? (·.1) = none := by rfl) : PGd X cl (.Tuple es j pos) (dgTup n t) := by
  refine weakG (pg_tup hc h hn hst) fun v σ H Q ⟨d, ρ, C, F, Qd, R, r, ⟨ds, e, hl, q⟩, k⟩ => ?_
  subst e
  cases r with
  | tup hq rl => exact ⟨_, _, rfl, sqT_mono R.rc.sub hq, rl.length.trans hl, ds, ρ, C, F, Qd, R, rl, q, k⟩
/-- o[i] = v -/
abbrev RSet := D → D → D → Cl → (Cl → Prop) → Prop
def lowSet (K : PySem.W.Frag) (cl : Nm) (rd : RSet) : TSet := fun o i v H Q => ∃ dO dI dV C F Qd, RC K cl C F H ∧ Rep K cl F o dO ∧ Rep K cl F i dI ∧ Rep K cl F v dV ∧ rd dO dI dV C Qd ∧ ∀ C' F' H', Same F F' → RC K cl C' F' H' → Qd C' → Q H'
abbrev SetD (X : Cx) (cl : Nm) (rd : RSet) : Prop := PSet X (lowSet X.K cl rd)
def dgSub (to ti : DE) (rd : RSet) : DG := fun d ρ C Q => to ρ C fun o C1 => ti ρ C1 fun i C2 => rd o i d C2 fun C3 => Q ρ C3
theorem dg_sub {o i : Expr} {to ti : DE} {rd : RSet} (ho : PEd X cl o to) (hi : PEd X cl i ti) (hs : SetD X cl rd)
    (ha : ∀ v, assign (.Subscript o i pos) X.env v = (do
      let ov ← holding [v] (eval o X.env)
      let iv ← holding [v, ov] (eval i X.env)
      standAt pos
      holding [v, ov, iv] (setItem ov iv v)
      release [v, ov, iv] []) := by intro _; rfl) : PGd X cl (.Subscript o i pos) (dgSub to ti rd) := by
  refine weakG (pg_sub ho hi hs ha) fun v σ H Q ⟨d, ρ, C, F, Qd, R, r, q, k⟩ => ?_
  refine ⟨ρ, C, F, _, R, q, fun vo dO C1 H1 F1 s1 R1 r1 q1 => ?_⟩
  refine ⟨ρ, C1, F1, _, R.next s1 R1, q1, fun vi dI C2 H2 F2 s2 R2 r2 q2 => ?_⟩
  refine ⟨dO, dI, d, C2, F2, _, R2, r1.mono s2, r2, r.mono (s1.trans s2), q2, fun C3 F3 H3 s3 R3 q3 => ?_⟩
  exact k ρ C3 F3 σ H3 (s1.trans (s2.trans s3)) (R.next (s1.trans (s2.trans s3)) R3) q3
/-- target = value -/
def dAsg (te : DE) (g : DG) : DS := fun D ρ C => te ρ C fun x C1 => g x ρ C1 D.nx
theorem ds_asg {tg e : Expr} {te : DE} {g : DG} (he : PEd X cl e te) (hg : PGd X cl tg g) (hs : swapsWithSole [tg] e pos.line X.env = pure false := by rfl) (hw : swappedStores [tg] e X.env = pure none := by rfl)
    (h1 : (assignEach [tg] X.env).map (·.2) = [assign tg X.env] := by rfl) : PSd X cl (.Assign [tg] e pos) (dAsg te g) := by
  refine weakS (ps_asg he hg hs hw h1) fun De σ H ⟨ρ, C, F, Dd, R, h, k⟩ => ?_
  refine ⟨ρ, C, F, _, R, h, fun v d C1 H1 F1 s1 R1 r1 q1 => ?_⟩
  exact ⟨d, ρ, C1, F1, _, R.next s1 R1, r1, q1, fun ρ2 C2 F2 σ2 H2 s2 R2 q2 => k.nx ρ2 C2 F2 σ2 H2 (s1.trans s2) R2 q2⟩
theorem ds_set (i : Nat) {x : Str} {e : Expr} {te : DE} {pos' : Pos} (hN : X.N.Nodup) (he : PEd X cl e te) (hi : X.N[i]? = some x := by rfl) (hx : Loc X.env.scope x := by first | exact Or.inl rfl | exact Or.inr rfl) (hs : swapsWith e (some (.Name x pos')) pos.line X.env = pure false := by rfl) (hf : X.fn x = true ∨ X.env.scope.names.lookup x = some .local := by first | exact .inl rfl | exact .inr rfl | assumption) :
    PSd X cl (.Assign [.Name x pos'] e pos) (dAsg te (dName i)) := by
  refine weakS (ps_set hN hi hx he hs hf) fun De σ H ⟨ρ, C, F, Dd, R, h, k⟩ => ?_
  refine ⟨ρ, C, F, _, R, h, fun v d C1 H1 F1 s1 R1 r1 q1 => ?_⟩
  exact k.nx _ C1 F1 _ H1 s1 ((R.next s1 R1).set i r1) q1
/-- a, b = x, y with plain names: stored from the right; no tuple is made -/
def dPar (i j : Nat) (t : DA) : DS := fun D ρ C => t ρ C fun ds C2 => ∃ v w, ds = [v, w] ∧ D.nx ((ρ.set i (some v)).set j (some w)) C2
theorem ds_par (i j : Nat) {x y : Str} {a b : Expr} {t : DA} {px py pt : Pos} {kt k2 pt2} (hN : X.N.Nodup) (ha : PAd X cl [a, b] t) (hij : i ≠ j := by decide) (hc : X.calm = true := by rfl) (hi : X.N[i]? = some x := by rfl) (hj : X.N[j]? = some y := by rfl)
    (hx : X.env.scope.names.lookup x = some .local := by rfl) (hy : X.env.scope.names.lookup y = some .local := by rfl)
    (hw : swappedStores [.Tuple [.Name x px, .Name y py] kt pt] (.Tuple [a, b] k2 pt2) X.env = pure (some [x, y]) := by rfl)
    (hs : swapsWithSole [.Tuple [.Name x px, .Name y py] kt pt] (.Tuple [a, b] k2 pt2) pos.line X.env = pure false := by rfl) :
    PSd X cl (.Assign [.Tuple [.Name x px, .Name y py] kt pt] (.Tuple [a, b] k2 pt2) pos) (dPar i j t) := by
  refine weakS (ps_par hc hN hi hj hij hx hy ha hw hs) fun De σ H ⟨ρ, C, F, Dd, R, h, k⟩ => ?_
  refine ⟨ρ, C, F, _, R, h, fun vs ds C1 H1 F1 s1 R1 r1 ⟨v, w, e, q1⟩ => ?_⟩
  subst e
  cases r1 with
  | cons ra rr =>
    cases rr with
    | cons rb rn =>
      cases rn
      exact ⟨_, _, rfl, k.nx _ C1 F1 _ H1 s1 (((R.next s1 R1).set i ra).set j rb) q1⟩
/-! ### loops -/
/-- J yields the items xs, one a turn -/
def Walk (K : PySem.W.Frag) (cl : Nm) (J : It) (xs : List D) (F : Hp) : Prop := ∀ i C F1 H, Same F F1 → RC K cl C F1 H →
  (∀ x, xs[i]? = some x → J.go i H ∧ ∀ v H', J.yld i H v H' → ∃ F2, Same F1 F2 ∧ RC K cl C F2 H' ∧ Rep K cl F2 v x) ∧ (xs.length = i → J.stop i H)
theorem Walk.at {K : PySem.W.Frag} {J : It} {xs : List D} {F F' : Hp} (w : Walk K cl J xs F) (s : Same F F') : Walk K cl J xs F' := fun i C F1 H s1 => w i C F1 H (s.trans s1)
abbrev DI := DEnv → Cl → (List D → Cl → Prop) → Prop
def lowI (K : PySem.W.Frag) (cl : NmB) (wi : DI) : TI := fun σ H R => ∃ ρ C F Qd, RS K cl ρ C F σ H ∧ wi ρ C Qd ∧ ∀ J xs C' H' F', Same F F' → RC K cl C' F' H' → Walk K cl J xs F' → Qd xs C' → R J H'
abbrev PId (X : Cx) (cl : NmB) (tg iter : Expr) (wi : DI) : Prop := PI X tg iter (lowI X.K cl wi)
theorem weakI {tg iter : Expr} {t t' : TI} (h : PI X tg iter t) (w : ∀ σ H Q, t' σ H Q → t σ H Q) : PI X tg iter t' := ⟨fun pins s σ H Q I q => h.run pins s σ H Q I (w σ H Q q)⟩
def dFor (wi : DI) (g : DG) (tb : DS) : DS := fun D ρ C => wi ρ C fun xs C1 => ∃ Pv : Nat → DEnv → Cl → Prop, Pv 0 ρ C1 ∧
  (∀ i x ρ C, xs[i]? = some x → Pv i ρ C → g x ρ C fun ρ2 C2 => tb { D with nx := Pv (i + 1), ct := Pv (i + 1), bk := D.nx } ρ2 C2) ∧ ∀ ρ C, Pv xs.length ρ C → D.nx ρ C
theorem ds_for {tg iter : Expr} {body : List Stmt} {wi : DI} {g : DG} {tb : DS} (hp : PassesOwn (model X.prog X.w) X.A X.env X.xe) (hi : PId X cl tg iter wi) (hg : PGd X cl tg g) (hb : PSsd X cl body tb) (hc : X.calm = true := by rfl)
    (hs : ∀ x, foldedSetIterable iter X.env x = pure x := by intro _; rfl) : PSd X cl (.For tg iter body [] pos) (dFor wi g tb) := by
  refine weakS (ps_for hp hc hi hg hb hs) fun De σ H ⟨ρ, C, F, Dd, R, h, k⟩ => ?_
  refine ⟨ρ, C, F, _, R, h, fun J xs C1 H1 F1 s1 R1 wk ⟨Pv, p0, ps, pd⟩ => ?_⟩
  refine ⟨fun i m σ H => m = xs.length - i ∧ i ≤ xs.length ∧ ∃ ρ C F', Same F1 F' ∧ RS X.K cl ρ C F' σ H ∧ Pv i ρ C, ⟨xs.length, by simp, Nat.zero_le _, ρ, C1, F1, Same.refl F1, R.next s1 R1, p0⟩, ?_⟩
  rintro i m σ2 H2 ⟨rfl, hi, ρ2, C2, F2, s2, R2, p2⟩
  obtain ⟨wy, we⟩ := wk i C2 F2 H2 s2 R2.rc
  by_cases hlt : i < xs.length
  · obtain ⟨go, yl⟩ := wy _ (List.getElem?_eq_getElem hlt)
    have again : ∀ ρ' C' F' σ' H', Same F1 F' → RS X.K cl ρ' C' F' σ' H' → Pv (i + 1) ρ' C' → ∃ ρ C F', Same F1 F' ∧ RS X.K cl ρ C F' σ' H' ∧ Pv (i + 1) ρ C := fun ρ' C' F' σ' H' s' R' p' => ⟨ρ', C', F', s', R', p'⟩
    refine .inr ⟨go, fun σ' H' => ∃ ρ C F', Same F1 F' ∧ RS X.K cl ρ C F' σ' H' ∧ Pv (i + 1) ρ C, fun σ' H' z => ⟨xs.length - (i + 1), by omega, rfl, hlt, z⟩, fun v H3 y => ?_⟩
    obtain ⟨F3, s3, R3, r3⟩ := yl v H3 y
    refine ⟨_, ρ2, C2, F3, _, R2.next s3 R3, r3, ps i _ ρ2 C2 (List.getElem?_eq_getElem hlt) p2, fun ρ4 C4 F4 σ4 H4 s4 R4 q4 => ?_⟩
    have sb : Same F1 F4 := s2.trans (s3.trans s4)
    exact ⟨ρ4, C4, F4, _, R4, q4, ⟨fun ρ' C' F' σ' H' s' => again ρ' C' F' σ' H' (sb.trans s'), fun ρ' C' F' σ' H' s' => k.nx ρ' C' F' σ' H' (s1.trans (sb.trans s')), fun ρ' C' F' σ' H' s' => again ρ' C' F' σ' H' (sb.trans s'), (k.at (s1.trans sb)).rt⟩⟩
  · have e : i = xs.length := by omega
    subst e
    exact .inl ⟨we rfl, k.nx ρ2 C2 F2 σ2 H2 (s1.trans s2) R2 (pd ρ2 C2 p2)⟩
end
end G
namespace G
open PySem PySem.Spec PyProof.Rows L2

/-! ### what is walked -/
section
variable {X : Cx} {cl : NmB} {tg e : Expr} {te : DE} {K : PySem.W.Frag}
/-- the items of a list that stands -/
def lstOf : D → Option (List D)
  | .lst ds => some ds
  | .rol ds => some ds
  | _ => none
theorem Rep.asL {F : Hp} {v : V} {d : D} {ds : List D} (r : Rep K cl F v d) (h : lstOf d = some ds) : ∃ a xs, v = .ref a ∧ SqL K F a xs ∧ RepL K cl F xs ds := by
  cases r with
  | lst h1 h2 => cases h; exact ⟨_, _, rfl, .of h1, h2⟩
  | rol h1 h2 => cases h; exact ⟨_, _, rfl, h1, h2⟩
  | _ => cases h
theorem walk_list {F : Hp} {a : Addr} {xs : List V} {ds : List D} (h : SqL K F a xs) (r : RepL K cl F xs ds) : Walk K cl (Itl K a) ds F := by
  intro i C F1 H s R
  have h1 : SqL K H a xs := R.sub.seq (s.seq h)
  refine ⟨fun x hx => ?_, fun hi => ⟨xs, h1, by rw [r.length]; exact Nat.le_of_eq hi⟩⟩
  obtain ⟨v, hv, rv⟩ := r.get hx
  refine ⟨⟨xs, v, h1, hv⟩, fun v' H' ⟨e, y⟩ => ?_⟩
  subst e
  have e2 := y xs h1
  rw [hv] at e2
  cases e2
  exact ⟨F1, Same.refl F1, R, rv.mono s⟩
def diList (te : DE) : DI := fun ρ C R => te ρ C fun x C1 => ∃ xs, lstOf x = some xs ∧ R xs C1
theorem di_list (he : PEd X cl e te) : PId X cl tg e (diList te) := by
  refine weakI (pi_list he) fun σ H R ⟨ρ, C, F, Rd, RR, h, k⟩ => ?_
  refine ⟨ρ, C, F, _, RR, h, fun v d C1 H1 F1 s1 R1 r1 ⟨xs, e, q1⟩ => ?_⟩
  obtain ⟨a, vs, rfl, hs, rl⟩ := r1.asL e
  exact ⟨a, rfl, ⟨vs, R1.sub.seq hs⟩, k _ xs C1 H1 F1 s1 R1 (walk_list hs rl) q1⟩
/-- the signs of a text -/
def signs (x : List Nat) : List D := x.map fun c => .str [c]
theorem walk_str {F : Hp} (x : List Nat) : Walk K cl (Its ⟨x.toArray⟩) (signs x) F := by
  intro i C F1 H s R
  refine ⟨fun d hd => ?_, fun hi => show x.toArray.size ≤ i from Nat.le_of_eq (by simpa [signs] using hi)⟩
  unfold signs at hd
  rw [List.getElem?_map] at hd
  cases hc : x[i]? with
  | none => rw [hc] at hd; cases hd
  | some c =>
    rw [hc] at hd
    have e : D.str [c] = d := Option.some.inj hd
    subst e
    have hc' : x.toArray[i]? = some c := by rw [List.getElem?_toArray]; exact hc
    refine ⟨(Array.getElem?_eq_some_iff.mp hc').1, fun v H' ⟨e, c', hx, ev⟩ => ?_⟩
    subst e
    rw [hc'] at hx; cases hx
    subst ev
    exact ⟨F1, Same.refl F1, R, .str [c]⟩
def diStr (te : DE) : DI := fun ρ C R => te ρ C fun x C1 => ∃ z, x = .str z ∧ R (signs z) C1
theorem di_str (he : PEd X cl e te) : PId X cl tg e (diStr te) := by
  refine weakI (pi_str he) fun σ H R ⟨ρ, C, F, Rd, RR, h, k⟩ => ?_
  refine ⟨ρ, C, F, _, RR, h, fun v d C1 H1 F1 s1 R1 r1 ⟨z, e, q1⟩ => ?_⟩
  subst e
  cases r1
  exact ⟨_, rfl, k _ _ C1 H1 F1 s1 R1 (walk_str z) q1⟩
/-- lo, lo + 1, .. -/
def ranged (lo : Int) (n : Nat) : List D := (List.range n).map fun (i : Nat) => .int (lo + (i : Int))
theorem ranged_get {lo : Int} {n i : Nat} {d : D} (h : (ranged lo n)[i]? = some d) : i < n ∧ d = .int (lo + (i : Int)) := by
  unfold ranged at h
  rw [List.getElem?_map] at h
  by_cases hi : i < n
  · rw [List.getElem?_range hi] at h
    exact ⟨hi, (Option.some.inj h).symm⟩
  · rw [List.getElem?_eq_none (by simpa using hi)] at h; cases h
theorem ranged_length (lo : Int) (n : Nat) : (ranged lo n).length = n := by unfold ranged; simp
theorem walk_range {F : Hp} (lo : Int) (n : Nat) : Walk K cl (Itr lo n) (ranged lo n) F := by
  intro i C F1 H s R
  refine ⟨fun d hd => ?_, fun hi => by rw [ranged_length] at hi; exact Nat.le_of_eq hi⟩
  obtain ⟨hi, rfl⟩ := ranged_get hd
  refine ⟨hi, fun v H' ⟨e, ev⟩ => ?_⟩
  subst e
  subst ev
  exact ⟨F1, Same.refl F1, R, .int _⟩
def diRng1 (t : DA) : DI := fun ρ C R => t ρ C fun ds C1 => ∃ j : Int, ds = [.int j] ∧ (-(2 ^ 62) ≤ j ∧ j < 2 ^ 62) ∧ R (ranged 0 j.toNat) C1
theorem di_rng1 {a : Expr} {t : DA} {p pos : Pos} (hm : X.mg "range" = none) (ha : PAd X cl [a] t) (hg : Gl X "range" := by rfl) (hs : starEach [a] X.env = [(false, eval a X.env)] := by rfl) : PId X cl tg (.Call (.Name "range" p) [a] [] pos) (diRng1 t) := by
  refine weakI (pi_range1 hg hm ha hs) fun σ H R ⟨ρ, C, F, Rd, RR, h, k⟩ => ?_
  refine ⟨ρ, C, F, _, RR, h, fun vs ds C1 H1 F1 s1 R1 r1 ⟨j, e, b, q1⟩ => ?_⟩
  subst e
  cases r1 with
  | cons r rr =>
    cases rr
    cases r
    exact ⟨j, rfl, b.1, b.2, k _ _ C1 H1 F1 s1 R1 (walk_range 0 _) q1⟩
/-- pairs of a place and an item -/
def numbered (k : Nat) : List D → List D
  | [] => []
  | d :: ds => .tup [.int (k : Int), d] :: numbered (k + 1) ds
theorem numbered_length : ∀ (k : Nat) (ds : List D), (numbered k ds).length = ds.length
  | _, [] => rfl
  | k, _ :: ds => congrArg (· + 1) (numbered_length (k + 1) ds)
theorem numbered_get : ∀ {k i : Nat} {ds : List D} {x : D}, (numbered k ds)[i]? = some x → ∃ d, ds[i]? = some d ∧ x = .tup [.int ((k + i : Nat) : Int), d]
  | _, _, [], _, h => by simp [numbered] at h
  | k, 0, d :: ds, x, h => by
    have e : D.tup [.int (k : Int), d] = x := Option.some.inj h
    exact ⟨d, rfl, e.symm⟩
  | k, i + 1, d :: ds, x, h => by
    obtain ⟨d', h1, h2⟩ := numbered_get (k := k + 1) (i := i) (ds := ds) (x := x) (by simpa [numbered] using h)
    refine ⟨d', by simpa using h1, ?_⟩
    rw [h2, show k + 1 + i = k + (i + 1) by omega]
end
end G
namespace G
open PySem PySem.Spec PyProof.Rows L2

/-! ### a comprehension's own targets -/
def wipeD (ρ : DEnv) : List Nat → DEnv
  | [] => ρ
  | v :: vs => (wipeD ρ vs).set v none
section
variable {K : PySem.W.Frag} {cl : NmB} {C : Cl} {F H : Hp} {ρ : DEnv} {σ : L2.St}
theorem RS.wipe (R : RS K cl ρ C F σ H) : ∀ vs : List Nat, RS K cl (wipeD ρ vs) C F (wipe σ vs) H
  | [] => R
  | v :: vs => (R.wipe vs).unset v
theorem wipe_set {x : Option V} {i : Nat} : ∀ {vs : List Nat}, i ∈ vs → wipe (σ.set i x) vs = wipe σ vs
  | [], h => by simp at h
  | v :: vs, h => by
    unfold L2.wipe
    by_cases e : i = v
    · subst e
      by_cases hi : i ∈ vs
      · rw [wipe_set hi]
      · rw [wipe_comm hi, List.set_set]
    · have hi : i ∈ vs := by
        rcases List.mem_cons.mp h with z | z
        · exact absurd z e
        · exact z
      rw [wipe_set hi]
where
  wipe_comm {x : Option V} {i : Nat} {σ : L2.St} : ∀ {vs : List Nat}, i ∉ vs → wipe (σ.set i x) vs = (wipe σ vs).set i x
    | [], _ => rfl
    | v :: vs, h => by
      unfold L2.wipe
      have h1 : i ≠ v := fun z => h (by simp [z])
      have h2 : i ∉ vs := fun z => h (List.mem_cons_of_mem _ z)
      rw [wipe_comm h2, List.set_comm _ _ h1]
end
def lowO (K : PySem.W.Frag) (cl : NmB) (vs : List Nat) (g : DG) : TG := fun v σ H Q => ∃ d ρ C F Qd, RS K cl ρ C F σ H ∧ Rep K cl F v d ∧ g d ρ C Qd ∧ ∀ ρ' C' F' σ' H', Same F F' → RS K cl ρ' C' F' σ' H' → wipe σ' vs = wipe σ vs → Qd ρ' C' → Q σ' H'
def lowOs (K : PySem.W.Frag) (cl : NmB) (vs : List Nat) (g : DGs) : TGs := fun v σ H Q => ∃ d ρ C F Qd, RS K cl ρ C F σ H ∧ RepL K cl F v d ∧ g d ρ C Qd ∧ ∀ ρ' C' F' σ' H', Same F F' → RS K cl ρ' C' F' σ' H' → wipe σ' vs = wipe σ vs → Qd ρ' C' → Q σ' H'
abbrev POd (X : Cx) (cl : NmB) (vs : List Nat) (tg : Expr) (g : DG) : Prop := PG X tg (lowO X.K cl vs g)
abbrev POsd (X : Cx) (cl : NmB) (vs : List Nat) (tg : List Expr) (g : DGs) : Prop := PGs X tg (lowOs X.K cl vs g)
section
variable {X : Cx} {cl : NmB} {pos : Pos} {vs : List Nat}
theorem do_name (i : Nat) {x : Str} (hN : X.N.Nodup) (hi : X.N[i]? = some x := by rfl) (hx : Loc X.env.scope x := by first | exact Or.inl rfl | exact Or.inr rfl) (hv : i ∈ vs := by decide) (hf : X.fn x = true ∨ X.env.scope.names.lookup x = some .local := by first | exact .inl rfl | exact .inr rfl | assumption) : POd X cl vs (.Name x pos) (dName i) := by
  refine weakG (pg_name hN hi hx hf) fun v σ H Q ⟨d, ρ, C, F, Qd, R, r, q, k⟩ => ?_
  exact k _ C F _ H (Same.refl F) (R.set i r) (wipe_set hv) q
theorem dos_nil : POsd X cl vs [] dgNil := by
  refine weakGs pgs_nil fun v σ H Q ⟨d, ρ, C, F, Qd, R, r, ⟨e, q⟩, k⟩ => ?_
  subst e
  cases r
  exact ⟨rfl, k ρ C F σ H (Same.refl F) R rfl q⟩
theorem dos_cons {e : Expr} {es : List Expr} {t : DG} {u : DGs} (h1 : POd X cl vs e t) (h2 : POsd X cl vs es u)
    (hs : (assignEach (e :: es) X.env).map (·.2) = assign e X.env :: (assignEach es X.env).map (·.2) := by rfl) : POsd X cl vs (e :: es) (dgCons t u) := by
  refine weakGs (pgs_cons h1 h2 hs) fun v σ H Q ⟨ds, ρ, C, F, Qd, R, r, ⟨d, r', e, q⟩, k⟩ => ?_
  subst e
  cases r with
  | cons rd rr =>
    refine ⟨_, _, rfl, d, ρ, C, F, _, R, rd, q, fun ρ1 C1 F1 σ1 H1 s1 R1 w1 q1 => ?_⟩
    exact ⟨r', ρ1, C1, F1, Qd, R1, rr.mono s1, q1, fun ρ2 C2 F2 σ2 H2 s2 R2 w2 => k ρ2 C2 F2 σ2 H2 (s1.trans s2) R2 (w2.trans w1)⟩
theorem do_tup {es : List Expr} {j : Nat} {t : DGs} {n : Nat} (h : POsd X cl vs es t) (hc : X.calm = true := by rfl)
    (hn : (assignEach es X.env).length = n := by rfl) (hst : (assignEach es X.env).findIdx? (·.1) = none := by rfl) : POd X cl vs (.Tuple es j pos) (dgTup n t) := by
  refine weakG (pg_tup hc h hn hst) fun v σ H Q ⟨d, ρ, C, F, Qd, R, r, ⟨ds, e, hl, q⟩, k⟩ => ?_
  subst e
  cases r with
  | tup hq rl => exact ⟨_, _, rfl, sqT_mono R.rc.sub hq, rl.length.trans hl, ds, ρ, C, F, Qd, R, rl, q, k⟩

/-! ### list comprehensions -/
abbrev PTsd (X : Cx) (cl : NmB) (ifs : List Expr) (t : DT) : Prop := PTs X ifs (lowT X.K cl t)
def dYes : DT := fun _ C Q => Q true C
theorem dts_nil : PTsd X cl [] dYes := ⟨fun pins s σ H Q I ⟨ρ, C, F, Qd, R, q, k⟩ => pts_nil.run pins s σ H Q I (k true C H F (Same.refl F) R.rc q)⟩
/-- the list is a cell while it grows -/
def dLc (wi : DI) (g : DG) (tt : DT) (te : DE) (vs : List Nat) : DE := fun ρ C Q => wi ρ C fun xs C1 => ∀ p, C1 p = none → ∃ Pv : Nat → Cl → Prop, Pv 0 (updC C1 p (.lst [])) ∧
  (∀ i x C, xs[i]? = some x → Pv i C → g x (wipeD ρ vs) C fun ρ2 C2 => tt ρ2 C2 fun b C3 =>
    if b = true then te ρ2 C3 fun y C4 => ∃ acc, C4 p = some (.lst acc) ∧ acc.length < sizeLine ∧ Pv (i + 1) (updC C4 p (.lst (acc ++ [y]))) else Pv (i + 1) C3) ∧
  ∀ C, Pv xs.length C → Q (.ref p) C
theorem low_lc {K : PySem.W.Frag} {wi : DI} {g : DG} {tt : DT} {te : DE} {σ : L2.St} {H : Hp} {Q : VK} (h : lowE K cl (dLc wi g tt te vs) σ H Q) :
    tLc (lowI K cl wi) (lowO K cl vs g) (lowT K cl tt) (lowE K cl te) vs σ H Q := by
  obtain ⟨ρ, C, F, Qd, R, h, k⟩ := h
  refine ⟨ρ, C, F, _, R, h, fun J xs C1 H1 F1 s1 R1 wk q1 p np => ?_⟩
  obtain ⟨Pv, p0, ps, pd⟩ := q1 p (R1.freeC np)
  refine ⟨fun i m H => m = xs.length - i ∧ i ≤ xs.length ∧ ∃ C F', Same F1 F' ∧ RC K cl C F' H ∧ Pv i C, ⟨xs.length, by simp, Nat.zero_le _, _, F1, Same.refl F1, R1.cell np (.lst .nil), p0⟩, ?_⟩
  rintro i m H2 ⟨rfl, hi, C2, F2, s2, R2, p2⟩
  obtain ⟨wy, we⟩ := wk i C2 F2 H2 s2 R2
  by_cases hlt : i < xs.length
  · obtain ⟨go, yl⟩ := wy _ (List.getElem?_eq_getElem hlt)
    refine .inr ⟨go, fun H' => ∃ C F', Same F1 F' ∧ RC K cl C F' H' ∧ Pv (i + 1) C, fun H' z => ⟨xs.length - (i + 1), by omega, rfl, hlt, z⟩, fun v H3 y => ?_⟩
    obtain ⟨F3, s3, R3, r3⟩ := yl v H3 y
    have Rw : RS K cl (wipeD ρ vs) C2 F3 (wipe σ vs) H3 := (R.wipe vs).next (s1.trans (s2.trans s3)) R3
    refine ⟨_, _, C2, F3, _, Rw, r3, ps i _ C2 (List.getElem?_eq_getElem hlt) p2, fun ρ4 C4 F4 σ4 H4 s4 R4 w4 q4 => ⟨?_, ?_⟩⟩
    · rw [w4, wipe_wipe]
    refine ⟨ρ4, C4, F4, _, R4, q4, fun b C5 H5 F5 s5 R5 q5 => ?_⟩
    have sb : Same F1 F5 := s2.trans (s3.trans (s4.trans s5))
    cases b with
    | false =>
      rw [if_neg Bool.false_ne_true] at q5
      exact iteF ⟨C5, F5, sb, R5, q5⟩
    | true =>
      rw [if_pos rfl] at q5
      refine iteT ⟨ρ4, C5, F5, _, R4.next s5 R5, q5, fun u d C6 H6 F6 s6 R6 r6 ⟨acc, ha, hl, q6⟩ => ?_⟩
      obtain ⟨_, o, ho, cr⟩ := R6.cel p _ ha
      cases cr with
      | lst rl =>
        exact ⟨_, ho, by rw [rl.length]; exact hl, _, F6, sb.trans s6, R6.put ha (.lst (rl.append (.cons r6 .nil))), q6⟩
  · have e : i = xs.length := by omega
    subst e
    exact .inl ⟨we rfl, k (.ref p) (.ref p) C2 H2 F2 (s1.trans s2) R2 (.ref p) (pd C2 p2)⟩
where
  wipe_wipe {σ : L2.St} : ∀ {vs : List Nat}, wipe (wipe σ vs) vs = wipe σ vs
    | [] => rfl
    | v :: vs => by
      have e : wipe (wipe σ (v :: vs)) (v :: vs) = wipe (wipe σ (v :: vs)) (v :: vs) := rfl
      show (wipe ((wipe σ vs).set v none) vs).set v none = (wipe σ vs).set v none
      by_cases hv : v ∈ vs
      · rw [wipe_set hv, wipe_wipe]
      · rw [wipe_set.wipe_comm hv, wipe_wipe, List.set_set]
theorem de_lc {elt tg iter : Expr} {ifs : List Expr} {scope : Scope} {own : List (Str × Nat)} {wi : DI} {g : DG} {tt : DT} {te : DE} (hN : X.N.Nodup) (hi : PId X cl tg iter wi) (ok : BlkOk X.N X.env.scope scope own)
    (hg : ∀ (s : Shared) (H : Hp) (C : Addr) (l : List (Str × Addr)) (fp : List Addr), POd (X.blk s H scope (compEnvC scope l C X.env) fp) cl vs tg g) (ht : ∀ (s : Shared) (H : Hp) (C : Addr) (l : List (Str × Addr)) (fp : List Addr), PTsd (X.blk s H scope (compEnvC scope l C X.env) fp) cl ifs tt)
    (he : ∀ (s : Shared) (H : Hp) (C : Addr) (l : List (Str × Addr)) (fp : List Addr), PEd (X.blk s H scope (compEnvC scope l C X.env) fp) cl elt te) (hv : own.map (·.2) = vs := by rfl) (hc : X.calm = true := by rfl) (hs : ∀ x, foldedSetIterable iter X.env x = pure x := by intro _; rfl) :
    PEd X cl (.ListComp elt [⟨tg, iter, ifs, 0⟩] scope pos) (dLc wi g tt te vs) := by
  subst hv
  exact weakE (pe_lc hc hN hi ok hg ht he hs) fun _ _ _ h => low_lc h
end

/-- a list that has just been made, seen as a tree -/
def dFz (t : DE) : DE := fun ρ C Q => t ρ C fun d C1 => ∃ a ds, d = .ref a ∧ C1 a = some (.lst ds) ∧ Q (.lst ds) (delC C1 a)
theorem delC_new {C : Cl} {p : Addr} {c : Cell} (h : C p = none) : delC (updC C p c) p = C := by
  funext b
  unfold delC
  by_cases e : b = p
  · rw [if_pos e, e, h]
  · rw [if_neg e, updC_ne e]
section
variable {X : Cx} {cl : NmB} {pos : Pos} {K : PySem.W.Frag}
theorem low_fz {t : DE} {σ : L2.St} {H : Hp} {Q : VK} (h : lowE K cl (dFz t) σ H Q) : lowE K cl t σ H Q := by
  obtain ⟨ρ, C, F, Qd, R, h, k⟩ := h
  refine ⟨ρ, C, F, _, R, h, fun v d C1 H1 F1 s1 R1 r1 ⟨a, ds, e, hc, q⟩ => ?_⟩
  subst e
  obtain ⟨F2, s2, R2, r2⟩ := (Gh.lst hc).ok R1 r1
  exact k v _ _ H1 F2 (s1.trans s2) R2 r2 q
theorem de_fz {e : Expr} {t : DE} (h : PEd X cl e t) : PEd X cl e (dFz t) := weakE h fun _ _ _ h => low_fz h
end
theorem ds_setLcF {X : Cx} {cl : NmB} {pos : Pos} (i : Nat) {y : Str} {py : Pos} {elt tg iter : Expr} {ifs : List Expr} {scope : Scope} {own : List (Str × Nat)} {spos : Pos} {vs : List Nat} {wi : DI} {g : DG} {tt : DT} {te : DE} (hN : X.N.Nodup) (hi : PId X cl tg iter wi) (ok : BlkOk X.N X.env.scope scope own)
    (hg : ∀ (s : Shared) (H : Hp) (C : Addr) (l : List (Str × Addr)) (fp : List Addr), POd (X.blk s H scope (compEnvC scope l C X.env) fp) cl vs tg g) (ht : ∀ (s : Shared) (H : Hp) (C : Addr) (l : List (Str × Addr)) (fp : List Addr), PTsd (X.blk s H scope (compEnvC scope l C X.env) fp) cl ifs tt)
    (he : ∀ (s : Shared) (H : Hp) (C : Addr) (l : List (Str × Addr)) (fp : List Addr), PEd (X.blk s H scope (compEnvC scope l C X.env) fp) cl elt te) (hsw : swapsWith (.ListComp elt [⟨tg, iter, ifs, 0⟩] scope pos) (some (.Name y py)) spos.line X.env = pure true) (hv : own.map (·.2) = vs := by rfl) (hc : X.calm = true := by rfl) (hy : X.N[i]? = some y := by rfl) (hyl : X.env.scope.names.lookup y = some .local := by rfl) (hs : ∀ x, foldedSetIterable iter X.env x = pure x := by intro _; rfl) :
    PSd X cl (.Assign [.Name y py] (.ListComp elt [⟨tg, iter, ifs, 0⟩] scope pos) spos) (dAsg (dFz (dLc wi g tt te vs)) (dName i)) := by
  subst hv
  refine weakS (ps_setLc (g := lowO X.K cl (own.map (·.2)) g) (tt := lowT X.K cl tt) (te := lowE X.K cl te) hc hN hy hyl hsw hi ok hg ht he hs) fun De σ H ⟨ρ, C, F, Dd, R, h, k⟩ => ?_
  exact low_lc (low_fz ⟨ρ, C, F, _, R, h, fun v d C1 H1 F1 s1 R1 r1 q1 => k.nx _ C1 F1 _ H1 s1 ((R.next s1 R1).set i r1) q1⟩)
/-- a comprehension whose elements are told one by one, each leaving the cells as they are -/
theorem lc_map {xs : List D} {C1 : Cl} {ρ : DEnv} {g : DG} {te : DE} {vs : List Nat} {Q : DQ} (f : D → D) (hl : xs.length ≤ sizeLine)
    (h : ∀ (i : Nat) (x : D) (C : Cl) (N : DQ), xs[i]? = some x → SubC C1 C → N (f x) C → g x (wipeD ρ vs) C fun ρ2 C2 => te ρ2 C2 N) (hq : Q (.lst (xs.map f)) C1) :
    ∀ p, C1 p = none → ∃ Pv : Nat → Cl → Prop, Pv 0 (updC C1 p (.lst [])) ∧
      (∀ i x C, xs[i]? = some x → Pv i C → g x (wipeD ρ vs) C fun ρ2 C2 => dYes ρ2 C2 fun b C3 =>
        if b = true then te ρ2 C3 fun y C4 => ∃ acc, C4 p = some (.lst acc) ∧ acc.length < sizeLine ∧ Pv (i + 1) (updC C4 p (.lst (acc ++ [y]))) else Pv (i + 1) C3) ∧
      ∀ C, Pv xs.length C → ∃ a ds, D.ref p = .ref a ∧ C a = some (.lst ds) ∧ Q (.lst ds) (delC C a) := by
  intro p np
  refine ⟨fun i C => C = updC C1 p (.lst ((xs.take i).map f)), by simp, fun i x C hx e => ?_, fun C e => ?_⟩
  · subst e
    refine h i x _ _ hx ((SubC.refl C1).new np) ⟨_, updC_same, ?_, ?_⟩
    · have := (List.getElem?_eq_some_iff.mp hx).1
      rw [List.length_map, List.length_take]
      omega
    · show updC (updC C1 p _) p _ = updC C1 p (.lst ((xs.take (i + 1)).map f))
      rw [updC_updC, List.take_add_one, hx, List.map_append]
      rfl
  · subst e
    refine ⟨p, _, rfl, updC_same, ?_⟩
    rw [delC_new np, List.take_length]
    exact hq
/-! ### calls -/
abbrev RDC := List D → Cl → DQ → Prop
def lowC (K : PySem.W.Frag) (cl : Nm) (rd : RDC) : List V → Hp → VK → Prop := fun xs H Q => ∃ ds C F Qd, RC K cl C F H ∧ RepL K cl F xs ds ∧ rd ds C Qd ∧ Fin K cl F Qd Q
abbrev CallD (X : Cx) (cl : Nm) (f : Value) (rd : RDC) : Prop := CallR X f (lowC X.K cl rd)
def dCB (rd : RDC) (t : DA) : DE := fun ρ C Q => t ρ C fun ds C1 => rd ds C1 Q
abbrev RDM := D → List D → Cl → DQ → Prop
def lowM (K : PySem.W.Frag) (cl : Nm) (rd : RDM) : V → List V → Hp → VK → Prop := fun x xs H Q => ∃ dx ds C F Qd, RC K cl C F H ∧ Rep K cl F x dx ∧ RepL K cl F xs ds ∧ rd dx ds C Qd ∧ Fin K cl F Qd Q
abbrev MtD (X : Cx) (cl : Nm) (id : String) (rd : RDM) : Prop := MtR X id (lowM X.K cl rd)
/-- the value is of that built-in type -/
def tyD (T : String) (d : D) (C : Cl) : Prop := match d with
  | .str _ => T = "str"
  | .int _ => T = "int"
  | .lst _ => T = "list"
  | .rol _ => T = "list"
  | .dct _ => T = "dict"
  | .ref a => (T = "list" ∧ ∃ ds, C a = some (.lst ds)) ∨ (T = "dict" ∧ ((∃ ds, C a = some (.dic ds)) ∨ ∃ ds, C a = some (.dct ds)))
  | _ => False
theorem tyD_ok {K : PySem.W.Frag} {cl : Nm} {T : String} {d : D} {v : V} {C : Cl} {F H : Hp} (R : RC K cl C F H) (r : Rep K cl F v d) (h : tyD T d C) : tyV K T v H := by
  cases r with
  | str x => exact h
  | int x => exact h
  | lst h1 _ => exact .inl ⟨h, _, .of (R.sub _ _ h1)⟩
  | rol h1 _ => exact .inl ⟨h, _, R.sub.seq h1⟩
  | dic h1 _ => exact h.elim
  | dct h1 _ => exact .inr (.inr (.inl ⟨h, .inr ⟨_, R.sub _ _ h1⟩⟩))
  | ref a =>
    rcases h with ⟨e, ds, hc⟩ | ⟨e, ⟨ds, hc⟩ | ⟨ds, hc⟩⟩
    · obtain ⟨_, o, ho, c⟩ := R.cel _ _ hc
      cases c
      exact .inl ⟨e, _, .of ho⟩
    · obtain ⟨_, o, ho, c⟩ := R.cel _ _ hc
      cases c
      exact .inr (.inr (.inl ⟨e, .inl ⟨_, ho⟩⟩))
    · obtain ⟨_, o, ho, c⟩ := R.cel _ _ hc
      cases c
      exact .inr (.inr (.inl ⟨e, .inr ⟨_, ho⟩⟩))
  | _ => exact h.elim
def dBM (T : String) (rd : RDM) (to : DE) (t : DA) : DE := fun ρ C Q => to ρ C fun x C1 => tyD T x C1 ∧ t ρ C1 fun ds C2 => rd x ds C2 Q
def dBM0 (T : String) (rd : RDM) (to : DE) : DE := fun ρ C Q => to ρ C fun x C1 => tyD T x C1 ∧ rd x [] C1 Q
def dCall (sp : DSp) (ds : List D) (t : DA) : DE := fun ρ C Q => t ρ C fun xs C1 => sp (xs ++ ds) C1 Q fun _ _ _ => False
section
variable {X : Cx} {cl : NmB} {e o : Expr} {es : List Expr} {t : DA} {to : DE} {pos cpos apos p : Pos} {K : PySem.W.Frag} {x name : Str}
theorem low_cb {rd : RDC} {σ : L2.St} {H : Hp} {Q : VK} (h : lowE K cl (dCB rd t) σ H Q) : tCB (lowC K cl rd) (lowA K cl t) σ H Q := by
  obtain ⟨ρ, C, F, Qd, R, h, k⟩ := h
  exact ⟨ρ, C, F, _, R, h, fun vs ds C1 H1 F1 s1 R1 r1 q1 => ⟨ds, C1, F1, Qd, R1, r1, q1, k.at s1⟩⟩
theorem de_callB {rd : RDC} {id : String} (hc : CallD X cl (.builtin id) rd) (hm : X.mg x = none) (hv : bootBuiltins x = some (.builtin id)) (ha : PAd X cl (e :: es) t) (hg : Gl X x := by rfl) (hn : x ≠ "__name__" := by decide) (hdb : (x == ("__debug__" : Str)) = false := by decide)
    (he : starEach (e :: es) X.env = (false, eval e X.env) :: starEach es X.env := by rfl) (hpl : (backTo pos (starEach es X.env)).any (·.1) = false := by rfl) : PEd X cl (.Call (.Name x p) (e :: es) [] pos) (dCB rd t) :=
  weakE (pe_callB hc hg hm hv ha hn hdb he hpl) fun _ _ _ h => low_cb h
theorem de_callTy {rd : RDC} {T : String} (hc : CallD X cl (.type T) rd) (hm : X.mg x = none) (hv : bootBuiltins x = some (.type T)) (ha : PAd X cl (e :: es) t) (hg : Gl X x := by rfl) (hn : x ≠ "__name__" := by decide) (hdb : (x == ("__debug__" : Str)) = false := by decide)
    (he : starEach (e :: es) X.env = (false, eval e X.env) :: starEach es X.env := by rfl) (hpl : (backTo pos (starEach es X.env)).any (·.1) = false := by rfl) : PEd X cl (.Call (.Name x p) (e :: es) [] pos) (dCB rd t) :=
  weakE (pe_callTy hc hg hm hv ha hn hdb he hpl) fun _ _ _ h => low_cb h
theorem de_bm {rd : RDM} {T id : String} (pa : PlainAttrs T) (slot : Slot T name id) (hty : typeOf (.builtin id) = pure (.type "method_descriptor")) (hm : MtD X cl id rd) (ho : PEd X cl o to) (ha : PAd X cl (e :: es) t)
    (hbase : attributeBase o name X.env (eval o X.env) = eval o X.env := by rfl)
    (hfew : ((backTo cpos (starEach (e :: es) X.env)).all (fun x => !x.1) && (backToKw cpos (keywordEach [] X.env)).all (fun x => x.1.isSome)
      && decide ((e :: es).length + ([] : List Keyword).length + (if ([] : List Keyword).isEmpty then 0 else 1) < 30)) = true := by rfl)
    (hline : (apos.endLine == cpos.line) = true := by rfl) (hs : starEach (e :: es) X.env = (false, eval e X.env) :: starEach es X.env := by rfl) (hplain : (backTo cpos (starEach es X.env)).any (·.1) = false := by rfl) : PEd X cl (.Call (.Attribute o name apos) (e :: es) [] cpos) (dBM T rd to t) := by
  refine weakE (pe_bm pa slot hty hm ho ha hbase hfew hline hs hplain) fun σ H Q ⟨ρ, C, F, Qd, R, h, k⟩ => ?_
  refine ⟨ρ, C, F, _, R, h, fun v d C1 H1 F1 s1 R1 r1 ⟨ty, q1⟩ => ⟨tyD_ok R1 r1 ty, ?_⟩⟩
  exact ⟨ρ, C1, F1, _, R.next s1 R1, q1, fun vs ds C2 H2 F2 s2 R2 r2 q2 => ⟨d, ds, C2, F2, Qd, R2, r1.mono s2, r2, q2, k.at (s1.trans s2)⟩⟩
theorem de_bm0 {rd : RDM} {T id : String} (pa : PlainAttrs T) (slot : Slot T name id) (hty : typeOf (.builtin id) = pure (.type "method_descriptor")) (hm : MtD X cl id rd) (ho : PEd X cl o to)
    (hbase : attributeBase o name X.env (eval o X.env) = eval o X.env := by rfl) (hline : (apos.endLine == cpos.line) = true := by rfl) : PEd X cl (.Call (.Attribute o name apos) [] [] cpos) (dBM0 T rd to) := by
  refine weakE (pe_bm0 pa slot hty hm ho hbase hline) fun σ H Q ⟨ρ, C, F, Qd, R, h, k⟩ => ?_
  exact ⟨ρ, C, F, _, R, h, fun v d C1 H1 F1 s1 R1 r1 ⟨ty, q1⟩ => ⟨tyD_ok R1 r1 ty, d, [], C1, F1, Qd, R1, r1, .nil, q1, k.at s1⟩⟩
variable {f : Addr} {fd : FuncData} {ps : List Str} {sp : DSp} {n : Nat}
/-- a def that lets nothing out -/
abbrev FnD (P : Program) (w : World) (K : PySem.W.Frag) (cl : Nm) (mg : Str → Option Value) (base : Heap) (n : Nat) (f : Addr) (fd : FuncData) (ps : List Str) (sp : DSp) : Prop := FnOk P w K mg base CX0 n f fd ps (lowSp K cl sp)
theorem de_call {dv : List Value} {vs : List V} {ds : List D} (FG : FnD X.prog X.w X.K cl X.mg X.base n f fd ps sp) (hr : Room n X.A) (hm : X.mg x = some (.ref f)) (hk : PySem.W.keepIn X.K (.ref f) = true) (hb : Binds X.K fd ps dv) (hd : Vals vs dv) (hv : ∀ F, RepL X.K cl F vs ds)
    (ha : PAd X cl (e :: es) t) (hg : Gl X x := by rfl) (hdb : (x == ("__debug__" : Str)) = false := by decide) (he : starEach (e :: es) X.env = (false, eval e X.env) :: starEach es X.env := by rfl) (hpl : (backTo pos (starEach es X.env)).any (·.1) = false := by rfl) :
    PEd X cl (.Call (.Name x p) (e :: es) [] pos) (dCall sp ds t) := by
  refine weakE (pe_callG (E := E0) FG hr hg hm hk hb hd pass0 ha hdb he hpl) fun σ H Q ⟨ρ, C, F, Qd, R, h, k⟩ => ?_
  refine ⟨ρ, C, F, _, R, h, fun us es C1 H1 F1 s1 R1 r1 q1 => ?_⟩
  exact ⟨es ++ ds, C1, F1, Qd, _, R1, r1.append (hv F1), q1, k.at s1, fun _ _ _ _ _ _ _ _ _ _ z => z.elim⟩
theorem de_call0 {dv : List Value} {vs : List V} {ds : List D} (FG : FnD X.prog X.w X.K cl X.mg X.base n f fd ps sp) (hr : Room n X.A) (hm : X.mg x = some (.ref f)) (hk : PySem.W.keepIn X.K (.ref f) = true) (hb : Binds X.K fd ps dv) (hd : Vals vs dv) (hv : ∀ F, RepL X.K cl F vs ds)
    (hg : Gl X x := by rfl) (hdb : (x == ("__debug__" : Str)) = false := by decide) :
    PEd X cl (.Call (.Name x p) [] [] pos) (dCall sp ds dNil) := by
  refine weakE (pe_callG0 (E := E0) FG hr hg hm hk hb hd pass0 hdb) fun σ H Q ⟨ρ, C, F, Qd, R, h, k⟩ => ?_
  exact ⟨ds, C, F, Qd, _, R.rc, hv F, h, k, fun _ _ _ _ _ _ _ _ _ _ z => z.elim⟩
end

/-! ### a def -/
def startD (N : List Str) (ds : List D) : DEnv := ds.map some ++ List.replicate (N.length - ds.length) none
/-- what a def's body is to reach -/
def endsD (Q : DQ) : DEnds := { nx := fun _ C => ∃ C', SubC C' C ∧ Q .non C', rt := fun d C => ∃ d' C', Gh d C d' C' ∧ Q d' C' }
theorem RS.startB {K : PySem.W.Frag} {cl : NmB} {C : Cl} {F H : Hp} {vs : List V} {ds : List D} (N : List Str) (R : RC K cl C F H) (r : RepL K cl F vs ds) (hb : Same cl.bs F) : RS K cl (startD N ds) C F (start N vs) H where
  rc := R
  bs := hb
  len := by unfold startD L2.start; simp [r.length]
  env := fun i d e => by
    unfold startD at e
    unfold L2.start
    by_cases h : i < ds.length
    · rw [List.getElem?_append_left (by simpa using h), List.getElem?_map] at e
      cases q : ds[i]? with
      | none => rw [q] at e; cases e
      | some d' =>
        rw [q] at e
        have e' : d' = d := Option.some.inj (Option.some.inj e)
        subst e'
        obtain ⟨v, hv, rv⟩ := r.get q
        refine ⟨v, ?_, rv⟩
        rw [List.getElem?_append_left (by simpa [r.length] using h), List.getElem?_map, hv]
        rfl
    · rw [List.getElem?_append_right (by simpa using h), List.getElem?_replicate] at e
      split at e <;> cases e
theorem RS.start {K : PySem.W.Frag} {cl : Nm} {C : Cl} {F H : Hp} {vs : List V} {ds : List D} (N : List Str) (R : RC K cl C F H) (r : RepL K cl F vs ds) : RS K (nb cl) (startD N ds) C F (start N vs) H := RS.startB N R r fun _ _ z => nomatch z
section
variable {P : Program} {w : World} {K : PySem.W.Frag} {cl : Nm} {mg : Str → Option Value} {base : Heap}
theorem fn_d {x qual : Str} {st : Stmt} {f : Addr} {fd : FuncData} {N ps : List Str} {k : Nat} {sp : DSp} {td : DS} (Fu : Fun K x qual st f fd) (S : FnScope N ps (defScope st)) (len : ∀ ds C Q E, sp ds C Q E → ds.length = ps.length)
    (pure : ∀ ds C Q E, sp ds C Q E → td (endsD Q) (startD N ds) C)
    (body : ∀ (cdv : Value) (A : Around) (outer : List Env) (s : Shared) (H : Hp) (E : XK), Room k (A.deeper (envOfC qual (defScope st) s.heap.objs.size f cdv)) → PSsd (cxOf CX0 P w K mg base N qual (defScope st) f cdv A outer s H E).nox (nb cl) (defBody st) td) :
    FnD P w K cl mg base (k + 1) f fd ps sp := by
  refine funOk Fu S (fun vs H Q E ⟨ds, C, F, Qd, Ed, R, r, h, _, _⟩ => r.length.trans (len ds C Qd Ed h)) fun cdv A outer s H vs Q E hr ⟨ds, C, F, Qd, Ed, R, r, h, kq, kx⟩ => ?_
  refine ⟨_, body cdv A outer s H E hr, startD N ds, C, F, _, RS.start N R r, pure ds C Qd Ed h, ?_⟩
  refine ⟨fun ρ C1 F1 σ H1 s1 R1 ⟨C2, sc, q⟩ => kq .non .non C2 H1 F1 s1 (R1.rc.drop sc) .non q, fun _ _ _ _ _ _ _ z => z.elim, fun _ _ _ _ _ _ _ z => z.elim, fun v d C1 F1 H1 s1 R1 r1 ⟨d', C2, g, q⟩ => ?_⟩
  obtain ⟨F2, s2, R2, r2⟩ := g.ok R1 r1
  exact kq v d' C2 H1 F2 (s1.trans s2) R2 r2 q
end
end G
namespace G
open PySem PySem.Spec PyProof.Rows L2

def szD : D → Prop
  | .str l => l.length ≤ sizeLine
  | .tup ds => ds.length ≤ sizeLine
  | .lst ds => ds.length ≤ sizeLine
  | _ => True
def rOf (f : D → D → Option D) : RD2 := fun x y C Q => ∃ z, f x y = some z ∧ szD z ∧ Q z C
theorem str_app (a b : List Nat) : ((⟨a.toArray⟩ : Str) ++ ⟨b.toArray⟩) = ⟨(a ++ b).toArray⟩ := TL.ext_tl (by rw [TL.tl_append])
theorem len_mk (a : List Nat) : (⟨a.toArray⟩ : Str).length = a.length := by rw [TL.len_tl]
/-! ### arithmetic -/
def addF : D → D → Option D
  | .int i, .int j => some (.int (i + j))
  | .int i, .bl k => some (.int (i + b2i k))
  | .str a, .str b => some (.str (a ++ b))
  | .tup a, .tup b => some (.tup (a ++ b))
  | .lst a, .lst b => some (.lst (a ++ b))
  | _, _ => none
section
variable {X : Cx} {cl : NmB}
theorem od_add : OpD X cl (binaryOp .Add) (rOf addF) := by
  intro pins s σ H x y v u Q I rx ry ⟨dx, dy, C, F, Qd, R, r1, r2, ⟨z, e, sz, q⟩, k⟩
  have ss := Same.refl F
  unfold addF at e
  split at e
  · cases e; cases r1; cases r2
    exact op_add pins s σ H _ _ v u Q I rx ry ⟨_, _, rfl, rfl, k _ _ C H F ss R (.int _) q⟩
  · cases e; cases r1; cases r2
    exact op_add_ib pins s σ H _ _ v u Q I rx ry ⟨_, _, rfl, rfl, k _ _ C H F ss R (.int _) q⟩
  · rename_i a b
    cases e; cases r1; cases r2
    refine op_add_str pins s σ H _ _ v u Q I rx ry ⟨_, _, rfl, rfl, ?_, ?_⟩
    · rw [len_mk, len_mk, ← List.length_append]; exact sz
    · rw [str_app]; exact k _ _ C H F ss R (.str _) q
  · rename_i a b
    cases e
    cases r1 with
    | tup h1 l1 =>
      cases r2 with
      | tup h2 l2 =>
        rename_i p1 xs p2 ys
        refine op_catA pins s σ H _ _ v u Q I rx ry ⟨_, _, xs, ys, rfl, rfl, sqT_mono R.sub h1, sqT_mono R.sub h2, ?_, fun e => ?_, fun _ e => ?_, fun _ _ p np => ?_⟩
        · rw [l1.length, l2.length, ← List.length_append]; exact sz
        · subst e
          cases l1
          exact k _ _ C H F ss R (.tup h2 l2) q
        · subst e
          cases l2
          rw [List.append_nil] at q
          exact k _ _ C H F ss R (.tup h1 l1) q
        · have s2 := same_upd (o := .tup (xs ++ ys)) (R.freeF np)
          exact k _ _ C _ _ s2 (R.new np) (.tup (.of upd_same) ((l1.append l2).mono s2)) q
  · rename_i a b
    cases e
    cases r1 with
    | lst h1 l1 =>
      cases r2 with
      | lst h2 l2 =>
        rename_i p1 xs p2 ys
        refine op_cat pins s σ H _ _ v u Q I rx ry ⟨_, _, xs, ys, rfl, rfl, R.sub _ _ h1, R.sub _ _ h2, ?_, fun p np => ?_⟩
        · rw [l1.length, l2.length, ← List.length_append]; exact sz
        · have s2 := same_upd (o := .lst (xs ++ ys)) (R.freeF np)
          exact k _ _ C _ _ s2 (R.new np) (.lst upd_same ((l1.append l2).mono s2)) q
  · cases e
def ioF (g : Int → Int → Int) : D → D → Option D
  | .int i, .int j => some (.int (g i j))
  | _, _ => none
theorem ioF_inv {g : Int → Int → Int} {x y z : D} (h : ioF g x y = some z) : ∃ i j, x = .int i ∧ y = .int j ∧ z = .int (g i j) := by
  unfold ioF at h
  split at h
  · exact ⟨_, _, rfl, rfl, (Option.some.inj h).symm⟩
  · cases h
theorem od_sub : OpD X cl (binaryOp .Sub) (rOf (ioF fun i j => i - j)) := by
  intro pins s σ H x y v u Q I rx ry ⟨dx, dy, C, F, Qd, R, r1, r2, ⟨z, e, sz, q⟩, k⟩
  obtain ⟨i, j, rfl, rfl, rfl⟩ := ioF_inv e
  cases r1; cases r2
  exact op_sub pins s σ H _ _ v u Q I rx ry ⟨_, _, rfl, rfl, k _ _ C H F (Same.refl F) R (.int _) q⟩
/-- ints under a condition -/
def rIC (P : Int → Int → Prop) (g : Int → Int → Int) : RD2 := fun x y C Q => ∃ i j, x = .int i ∧ y = .int j ∧ P i j ∧ Q (.int (g i j)) C
theorem od_ic {f : Value → Value → Sem Value} {P : Int → Int → Prop} {g : Int → Int → Int} (h : OpR X f (rI P fun i j => .int (g i j))) : OpD X cl f (rIC P g) := by
  intro pins s σ H x y v u Q I rx ry ⟨dx, dy, C, F, Qd, R, r1, r2, ⟨i, j, e1, e2, p, q⟩, k⟩
  subst e1 e2
  cases r1; cases r2
  exact h pins s σ H _ _ v u Q I rx ry ⟨_, _, rfl, rfl, p, k _ _ C H F (Same.refl F) R (.int _) q⟩
theorem od_fdiv : OpD X cl (binaryOp .FloorDiv) (rIC CDivW fun i j => i / j) := od_ic op_fdivW
theorem od_mod : OpD X cl (binaryOp .Mod) (rIC (fun _ j => 0 < j) fun i j => i % j) := od_ic op_mod
theorem od_pow : OpD X cl (binaryOp .Pow) (rIC CPow fun i j => i ^ j.toNat) := od_ic op_pow
/-- a text so many times -/
def repL (l : List Nat) (n : Nat) : List Nat := (List.replicate n l).flatten
def rMul : RD2 := fun x y C Q => (∃ i j, x = .int i ∧ y = .int j ∧ CMul i j ∧ Q (.int (i * j)) C) ∨ (∃ l j, x = .str l ∧ y = .int j ∧ (j ≤ 1000000 ∧ l.length ≤ 1000000 ∧ l.length * j.toNat ≤ 1000000) ∧ -1000000 ≤ j ∧ Q (.str (repL l j.toNat)) C)
theorem rep_cps (x : Str) : ∀ (n : Nat) (acc : Array Nat), ((List.replicate n x.cps).foldl (· ++ ·) acc).toList = acc.toList ++ (List.replicate n x.cps.toList).flatten
  | 0, acc => by simp
  | n + 1, acc => by
    rw [List.replicate_succ, List.foldl_cons, rep_cps x n, List.replicate_succ, List.flatten_cons, Array.toList_append, List.append_assoc]
theorem txt_mul (l : List Nat) (j : Int) : Txt.mul ⟨l.toArray⟩ j = ⟨(repL l j.toNat).toArray⟩ := by
  apply TL.ext_tl
  unfold Txt.mul repL
  by_cases h1 : j < 1
  · rw [if_pos h1, show j.toNat = 0 by omega]
    rfl
  · rw [if_neg h1]
    by_cases h2 : (j == 1 || (⟨l.toArray⟩ : Str).length == 0) = true
    · rw [if_pos h2]
      rw [Bool.or_eq_true] at h2
      rcases h2 with h2 | h2
      · have e : j = 1 := eq_of_beq h2
        subst e
        show l = ([l] : List (List Nat)).flatten
        simp
      · have e : (⟨l.toArray⟩ : Str).length = 0 := eq_of_beq h2
        rw [len_mk] at e
        have e : l = [] := List.length_eq_zero_iff.mp e
        subst e
        show ([] : List Nat) = _
        simp
    · rw [if_neg h2]
      exact rep_cps ⟨l.toArray⟩ j.toNat #[]
theorem mul_ok {l : List Nat} {j : Int} (h : j ≤ 1000000 ∧ l.length ≤ 1000000 ∧ l.length * j.toNat ≤ 1000000) (h2 : -1000000 ≤ j) : MulOk ⟨l.toArray⟩ j := by
  obtain ⟨h0, h1, h3⟩ := h
  refine ⟨?_, fun hn _ => ?_, fun hn _ => ?_⟩
  · rw [Bool.or_eq_false_iff]
    exact ⟨decide_eq_false (by omega), decide_eq_false (by omega)⟩
  · rw [len_mk]
    have e : (2 : Int) ^ 63 - 1 = 9223372036854775807 := by decide
    rw [e]
    have hj : (0 : Int) < j := by omega
    have key : (l.length : Int) ≤ 9223372036854775807 / j := by
      rw [Int.le_ediv_iff_mul_le hj]
      have e2 : (l.length : Int) * j = ((l.length * j.toNat : Nat) : Int) := by
        rw [Int.natCast_mul]
        congr 1
        omega
      rw [e2]
      omega
    omega
  · rw [len_mk]
    unfold Builtin.Str.tooLong
    exact decide_eq_false (by
      have : ∀ n : Nat, n ≤ 1000000 → ¬ n > 16777216 := fun n hn => by omega
      first
        | exact this _ h3
        | (intro hx; have := h3; simp at hx; omega))
theorem od_mul : OpD X cl (binaryOp .Mult) rMul := by
  intro pins s σ H x y v u Q I rx ry ⟨dx, dy, C, F, Qd, R, r1, r2, h, k⟩
  rcases h with ⟨i, j, e1, e2, p, q⟩ | ⟨l, j, e1, e2, p, p2, q⟩
  · subst e1 e2
    cases r1; cases r2
    exact op_mul pins s σ H _ _ v u Q I rx ry ⟨_, _, rfl, rfl, p, k _ _ C H F (Same.refl F) R (.int _) q⟩
  · subst e1 e2
    cases r1; cases r2
    obtain ⟨t, rfl⟩ := rx
    obtain ⟨t', rfl⟩ := ry
    refine SB.mul (mul_ok p p2) fun t2 k2 => ?_
    rw [txt_mul]
    exact ⟨.str _, H, I.tok _, ⟨_, rfl⟩, k _ _ C H F (Same.refl F) R (.str _) q⟩
/-! ### comparisons -/
def flatEq : D → D → Option Bool
  | .non, .non => some true
  | .int a, .int b => some (decide (a = b))
  | .bl a, .bl b => some (decide (a = b))
  | .str a, .str b => some (decide (a = b))
  | .non, .int _ => some false | .int _, .non => some false | .non, .bl _ => some false | .bl _, .non => some false | .non, .str _ => some false | .str _, .non => some false
  | .int _, .str _ => some false | .str _, .int _ => some false | .bl _, .str _ => some false | .str _, .bl _ => some false
  | _, _ => none
theorem flatEq_ok {K : PySem.W.Frag} {F : Hp} {x y : V} {dx dy : D} {b : Bool} (r1 : Rep K cl F x dx) (r2 : Rep K cl F y dy) (h : flatEq dx dy = some b) : scal x y = true ∧ decide (x = y) = b := by
  unfold flatEq at h
  split at h <;> first
    | (cases h; cases r1; cases r2; exact ⟨rfl, by first | rfl | (simp)⟩)
    | cases h
/-! #### data as a whole -/
mutual
def toPy : D → PyData
  | .bl b => .bool b
  | .int i => .int i
  | .str l => .str ⟨l.toArray⟩
  | .tup ds => .tuple (toPyL ds)
  | .lst ds => .list (toPyL ds)
  | .rol ds => .list (toPyL ds)
  | _ => .none
def toPyL : List D → List PyData
  | [] => []
  | d :: ds => toPy d :: toPyL ds
end
mutual
def plain : D → Bool
  | .non => true
  | .bl _ => true
  | .int _ => true
  | .str _ => true
  | .tup ds => plainL ds
  | .lst ds => plainL ds
  | .rol ds => plainL ds
  | _ => false
def plainL : List D → Bool
  | [] => true
  | d :: ds => plain d && plainL ds
end
mutual
theorem Rep.dp {K : PySem.W.Frag} {F H : Hp} (s : Same F H) : ∀ {v : V} {d : D}, Rep K cl F v d → plain d = true → Dp K H v (toPy d)
  | _, _, .non, _ => by unfold toPy; exact .non
  | _, _, .bl b, _ => by unfold toPy; exact .bl b
  | _, _, .int i, _ => by unfold toPy; exact .int i
  | _, _, .str l, _ => by unfold toPy; exact .str _
  | _, _, .ref a, h => by unfold plain at h; cases h
  | _, _, .ty n, h => by unfold plain at h; cases h
  | _, _, .tup h1 h2, h => by unfold plain at h; unfold toPy; exact .tup (sqT_mono s h1) (RepL.dp s h2 h)
  | _, _, .lst h1 h2, h => by unfold plain at h; unfold toPy; exact .lst (.of (s _ _ h1)) (RepL.dp s h2 h)
  | _, _, .rol h1 h2, h => by unfold plain at h; unfold toPy; exact .lst (s.seq h1) (RepL.dp s h2 h)
  | _, _, .dic h1 h2, h => by unfold plain at h; cases h
  | _, _, .dct h1 h2, h => by unfold plain at h; cases h
  | _, _, .ins h1 h2, h => by unfold plain at h; cases h
theorem RepL.dp {K : PySem.W.Frag} {F H : Hp} (s : Same F H) : ∀ {vs : List V} {ds : List D}, RepL K cl F vs ds → plainL ds = true → DpAll K H vs (toPyL ds)
  | _, _, .nil, _ => by unfold toPyL; exact .nil
  | _, _, .cons h r, e => by
    unfold plainL at e
    rw [Bool.and_eq_true] at e
    unfold toPyL
    exact .cons (Rep.dp s h e.1) (RepL.dp s r e.2)
end
/-- what == of two plain things is -/
def eqT (x y : D) : Bool := PyData.eqv (toPy x) (toPy y)
def shp (x : D) : Bool := plain x && SeqAt.shaped (toPy x)
def rEqD : RD2 := fun x y C Q => (∃ b, flatEq x y = some b ∧ Q (.bl b) C) ∨ (shp x = true ∧ shp y = true ∧ Q (.bl (eqT x y)) C)
def rNeD : RD2 := fun x y C Q => (∃ b, flatEq x y = some b ∧ Q (.bl (!b)) C) ∨ (shp x = true ∧ shp y = true ∧ Q (.bl (!eqT x y)) C)
theorem od_eq {n : Nat} (hr : Room n X.A) : OpD X cl (compareOp .Eq) rEqD := by
  intro pins s σ H x y v u Q I rx ry ⟨dx, dy, C, F, Qd, R, r1, r2, h, k⟩
  rcases h with ⟨b, e, q⟩ | ⟨h1, h2, q⟩
  · obtain ⟨hs, hd⟩ := flatEq_ok r1 r2 e
    refine op_eq pins s σ H _ _ v u Q I rx ry ⟨hs, ?_⟩
    rw [hd]
    exact k _ _ C H F (Same.refl F) R (.bl _) q
  · unfold shp at h1 h2
    rw [Bool.and_eq_true] at h1 h2
    exact op_eqD hr.units pins s σ H _ _ v u Q I rx ry ⟨_, _, r1.dp R.sub h1.1, r2.dp R.sub h2.1, h1.2, h2.2, k _ _ C H F (Same.refl F) R (.bl _) q⟩
theorem od_ne {n : Nat} (hr : Room n X.A) : OpD X cl (compareOp .NotEq) rNeD := by
  intro pins s σ H x y v u Q I rx ry ⟨dx, dy, C, F, Qd, R, r1, r2, h, k⟩
  rcases h with ⟨b, e, q⟩ | ⟨h1, h2, q⟩
  · obtain ⟨hs, hd⟩ := flatEq_ok r1 r2 e
    refine op_ne pins s σ H _ _ v u Q I rx ry ⟨hs, ?_⟩
    rw [hd]
    exact k _ _ C H F (Same.refl F) R (.bl _) q
  · unfold shp at h1 h2
    rw [Bool.and_eq_true] at h1 h2
    exact op_neD hr.units pins s σ H _ _ v u Q I rx ry ⟨_, _, r1.dp R.sub h1.1, r2.dp R.sub h2.1, h1.2, h2.2, k _ _ C H F (Same.refl F) R (.bl _) q⟩
/-- order of ints, of texts -/
def ordF (p : Int → Int → Bool) (q : List Nat → List Nat → Bool) : D → D → Option D
  | .int i, .int j => some (.bl (p i j))
  | .str a, .str b => some (.bl (q a b))
  | _, _ => none
theorem od_ord {op : CmpOp} {p : Int → Int → Bool} {q : List Nat → List Nat → Bool} (h1 : OpR X (compareOp op) (rI0 fun i j => .bl (p i j)))
    (h2 : OpR X (compareOp op) (fun x y H Q => ∃ i j, x = .str i ∧ y = .str j ∧ Q (.bl (q i.cps.toList j.cps.toList)) H)) : OpD X cl (compareOp op) (rOf (ordF p q)) := by
  intro pins s σ H x y v u Q I rx ry ⟨dx, dy, C, F, Qd, R, r1, r2, ⟨z, e, sz, qq⟩, k⟩
  unfold ordF at e
  split at e
  · cases e; cases r1; cases r2
    exact h1 pins s σ H _ _ v u Q I rx ry ⟨_, _, rfl, rfl, k _ _ C H F (Same.refl F) R (.bl _) qq⟩
  · cases e; cases r1; cases r2
    exact h2 pins s σ H _ _ v u Q I rx ry ⟨_, _, rfl, rfl, k _ _ C H F (Same.refl F) R (.bl _) qq⟩
  · cases e
abbrev ltF := ordF (fun i j => decide (i < j)) (fun a b => decide (a < b))
abbrev leF := ordF (fun i j => decide (i ≤ j)) (fun a b => !decide (b < a))
abbrev gtF := ordF (fun i j => decide (j < i)) (fun a b => decide (b < a))
abbrev geF := ordF (fun i j => decide (j ≤ i)) (fun a b => !decide (a < b))
theorem od_lt : OpD X cl (compareOp .Lt) (rOf ltF) := od_ord op_lt op_lt_str
theorem od_le : OpD X cl (compareOp .LtE) (rOf leF) := od_ord op_le op_le_str
theorem od_gt : OpD X cl (compareOp .Gt) (rOf gtF) := od_ord op_gt op_gt_str
theorem od_ge : OpD X cl (compareOp .GtE) (rOf geF) := od_ord op_ge op_ge_str
/-- is None -/
def isNonD : D → Bool
  | .non => true
  | _ => false
def rIsN : RD2 := fun x y C Q => y = .non ∧ Q (.bl (isNonD x)) C
def rNotN : RD2 := fun x y C Q => y = .non ∧ Q (.bl (!isNonD x)) C
theorem isNon_ok {K : PySem.W.Frag} {F : Hp} {x : V} {d : D} (r : Rep K cl F x d) : decide (x = .non) = isNonD d := by
  cases r <;> simp [isNonD]
theorem od_isN : OpD X cl (compareOp .Is) rIsN := by
  intro pins s σ H x y v u Q I rx ry ⟨dx, dy, C, F, Qd, R, r1, r2, ⟨e, q⟩, k⟩
  subst e
  cases r2
  refine op_isN pins s σ H _ _ v u Q I rx ry ⟨rfl, ?_⟩
  rw [isNon_ok r1]
  exact k _ _ C H F (Same.refl F) R (.bl _) q
theorem od_notN : OpD X cl (compareOp .IsNot) rNotN := by
  intro pins s σ H x y v u Q I rx ry ⟨dx, dy, C, F, Qd, R, r1, r2, ⟨e, q⟩, k⟩
  subst e
  cases r2
  refine op_notN pins s σ H _ _ v u Q I rx ry ⟨rfl, ?_⟩
  rw [isNon_ok r1]
  exact k _ _ C H F (Same.refl F) R (.bl _) q
end
end G
namespace G
open PySem PySem.Spec PyProof.Rows L2

/-! ### texts as lists of signs -/
/-- a stands in z -/
def subIn (a z : List Nat) : Bool := (List.range (z.length + 1)).any fun i => (z.drop i).take a.length == a
theorem subIn_ok (a z : List Nat) : (!(Builtin.Str.occurrences (⟨z.toArray⟩ : Str) ⟨a.toArray⟩ 0 (⟨z.toArray⟩ : Str).length 1).isEmpty) = subIn a z := by
  have key := StrLaws.found_iff (⟨z.toArray⟩ : Str) ⟨a.toArray⟩
  rw [Bool.eq_iff_iff, key]
  unfold subIn
  rw [List.any_eq_true]
  constructor
  · rintro ⟨i, h1, h2⟩
    rw [StrLaws.subAt_eq, len_mk] at h2
    rw [len_mk, len_mk] at h1
    exact ⟨i, List.mem_range.mpr (by omega), h2⟩
  · rintro ⟨i, h1, h2⟩
    have h1 := List.mem_range.mp h1
    have e : (z.drop i).take a.length = a := eq_of_beq h2
    have e1 := congrArg List.length e
    rw [List.length_take, List.length_drop] at e1
    refine ⟨i, by rw [len_mk, len_mk]; omega, ?_⟩
    rw [StrLaws.subAt_eq, len_mk]
    exact h2
theorem drop_takeWhile (g : Nat → Bool) : ∀ l : List Nat, l.drop (l.takeWhile g).length = l.dropWhile g
  | [] => rfl
  | c :: l => by
    cases h : g c with
    | true =>
      rw [List.takeWhile_cons_of_pos h, List.dropWhile_cons_of_pos h]
      exact drop_takeWhile g l
    | false =>
      rw [List.takeWhile_cons_of_neg (by rw [h]; exact Bool.false_ne_true), List.dropWhile_cons_of_neg (by rw [h]; exact Bool.false_ne_true)]
      rfl
/-- without the signs of y at the end -/
def rdrop (g : Nat → Bool) (l : List Nat) : List Nat := (l.reverse.dropWhile g).reverse
/-- a ends z -/
def ends (a z : List Nat) : Bool := decide (a.length ≤ z.length) && z.drop (z.length - a.length) == a
end G
namespace G
open PySem PySem.Spec PyProof.Rows L2

/-! ### sequences -/
def cellL (C : Cl) (a : Addr) : Option (List D) :=
  match C a with
  | some (.lst ds) => some ds
  | _ => none
theorem cellL_eq {C : Cl} {a : Addr} {ds : List D} (h : cellL C a = some ds) : C a = some (.lst ds) := by
  unfold cellL at h
  split at h
  · rename_i e; cases h; exact e
  · cases h
theorem cellL_of {C : Cl} {a : Addr} {ds : List D} (h : C a = some (.lst ds)) : cellL C a = some ds := by
  unfold cellL
  rw [h]
def seqOf (C : Cl) : D → Option (List D)
  | .tup ds => some ds
  | .lst ds => some ds
  | .rol ds => some ds
  | .ref a => cellL C a
  | _ => none
section
variable {K : PySem.W.Frag} {cl : Nm} {C : Cl} {F H : Hp} {v : V} {d : D} {ds : List D}
theorem seq_ok (R : RC K cl C F H) (r : Rep K cl F v d) (h : seqOf C d = some ds) : ∃ a xs, v = .ref a ∧ (SqL K H a xs ∨ SqT K H a xs) ∧ RepL K cl F xs ds := by
  cases r with
  | tup h1 h2 => cases h; exact ⟨_, _, rfl, .inr (sqT_mono R.sub h1), h2⟩
  | lst h1 h2 => cases h; exact ⟨_, _, rfl, .inl (.of (R.sub _ _ h1)), h2⟩
  | rol h1 h2 => cases h; exact ⟨_, _, rfl, .inl (R.sub.seq h1), h2⟩
  | ref a =>
    obtain ⟨_, o, ho, c⟩ := R.cel _ _ (cellL_eq h)
    cases c with
    | lst rl => exact ⟨_, _, rfl, .inl (.of ho), rl⟩
  | _ => cases h
end
def flatD : D → Bool
  | .non => true
  | .bl _ => true
  | .int _ => true
  | .str _ => true
  | _ => false
/-- == of flat things -/
def eqFl : D → D → Bool
  | .non, .non => true
  | .bl a, .bl b => a == b
  | .bl a, .int b => (if a then 1 else 0) == b
  | .int a, .bl b => a == (if b then 1 else 0)
  | .int a, .int b => a == b
  | .str a, .str b => a == b
  | _, _ => false
section
variable {K : PySem.W.Frag} {cl : Nm} {F : Hp}
theorem flat_ok {v : V} {d : D} (r : Rep K cl F v d) (h : flatD d = true) : flatV v = true := by
  cases r <;> first | rfl | cases h
theorem beq_mk (a b : List Nat) : ((⟨a.toArray⟩ : Str) == ⟨b.toArray⟩) = (a == b) := by
  rw [Bool.eq_iff_iff, beq_iff_eq, beq_iff_eq]
  constructor
  · intro h
    have := congrArg TL.tl h
    exact this
  · intro h
    rw [h]
theorem eqFl_ok {v u : V} {d e : D} (r : Rep K cl F v d) (q : Rep K cl F u e) (h : flatD d = true) (g : flatD e = true) : eqV v u = eqFl d e := by
  cases r <;> first
    | (cases q <;> first | rfl | exact beq_mk _ _ | cases g)
    | cases h
theorem any_ok {v : V} {d : D} (r : Rep K cl F v d) (h : flatD d = true) : ∀ {xs : List V} {ds : List D}, RepL K cl F xs ds → ds.all flatD = true → xs.all flatV = true ∧ inV v xs = ds.any fun e => eqFl e d
  | _, _, .nil, _ => ⟨rfl, rfl⟩
  | _, _, .cons r1 rr, e => by
    rw [List.all_cons, Bool.and_eq_true] at e
    obtain ⟨h1, h2⟩ := any_ok r h rr e.2
    refine ⟨by rw [List.all_cons, flat_ok r1 e.1, h1]; rfl, ?_⟩
    unfold inV at h2 ⊢
    rw [List.any_cons, List.any_cons, h2, eqFl_ok r1 r e.1 h]
end
def rIn : RD2 := fun x y C Q => (∃ c z, x = .str [c] ∧ y = .str z ∧ Q (.bl (decide (c ∈ z))) C) ∨ (∃ a z, x = .str a ∧ y = .str z ∧ Q (.bl (subIn a z)) C) ∨ (∃ ys, seqOf C y = some ys ∧ flatD x = true ∧ ys.all flatD = true ∧ Q (.bl (ys.any fun e => eqFl e x)) C)
section
variable {X : Cx} {cl : NmB}
theorem od_in : OpD X cl (compareOp .In) rIn := by
  intro pins s σ H x y v u Q I rx ry ⟨dx, dy, C, F, Qd, R, r1, r2, h, k⟩
  rcases h with ⟨c, z, e1, e2, q⟩ | ⟨a, z, e1, e2, q⟩ | ⟨ys, e, f1, f2, q⟩
  · subst e1 e2
    cases r1; cases r2
    exact op_in_sign pins s σ H _ _ v u Q I rx ry ⟨c, _, rfl, rfl, k _ _ C H F (Same.refl F) R (.bl _) q⟩
  · subst e1 e2
    cases r1; cases r2
    refine op_in_str pins s σ H _ _ v u Q I rx ry ⟨_, _, rfl, rfl, ?_⟩
    rw [subIn_ok]
    exact k _ _ C H F (Same.refl F) R (.bl _) q
  · obtain ⟨p, xs, rfl, hs, rl⟩ := seq_ok R r2 e
    obtain ⟨g1, g2⟩ := any_ok r1 f1 rl f2
    refine op_in_seq pins s σ H _ _ v u Q I rx ry ⟨p, xs, rfl, hs, flat_ok r1 f1, g1, ?_⟩
    rw [if_neg Bool.false_ne_true, g2]
    exact k _ _ C H F (Same.refl F) R (.bl _) q
/-! ### subscripts, slices -/
theorem atI_map {α β : Type} {R : α → β → Prop} {xs : List α} {ds : List β} (hl : xs.length = ds.length) (hg : ∀ (i : Nat) d, ds[i]? = some d → ∃ v, xs[i]? = some v ∧ R v d) {i : Int} {d : β} (h : atI ds i = some d) : ∃ v, atI xs i = some v ∧ R v d := by
  unfold atI at h ⊢
  rw [hl]
  cases e : ixN ds.length i with
  | none => rw [e] at h; cases h
  | some j =>
    rw [e] at h
    obtain ⟨v, h1, h2⟩ := hg j d h
    exact ⟨v, h1, h2⟩
def rIx : RD2 := fun x y C Q => ∃ i, y = .int i ∧ ((∃ l c, x = .str l ∧ l.length ≤ sizeLine ∧ atI l i = some c ∧ Q (.str [c]) C) ∨ (∃ ds d, seqOf C x = some ds ∧ atI ds i = some d ∧ Q d C))
theorem ix_ok : IxR X (lowR X.K cl rIx) := by
  intro value slice pins s σ H x y v u Q I rx ry ⟨dx, dy, C, F, Qd, R, r1, r2, ⟨i, e, h⟩, k⟩ hs
  subst e
  cases r2
  rcases h with ⟨l, c, e, hl, ha, q⟩ | ⟨ds, d, e, ha, q⟩
  · subst e
    cases r1
    refine ix_seq value slice pins s σ H _ _ v u Q I rx ry (.inr (.inr ⟨_, _, c, rfl, rfl, ?_, ha, k _ _ C H F (Same.refl F) R (.str [c]) q⟩)) hs
    rw [len_mk]; exact hl
  · obtain ⟨p, xs, rfl, hq, rl⟩ := seq_ok R r1 e
    obtain ⟨w, hw, rw'⟩ := atI_map (R := Rep X.K cl F) rl.length (fun j d hd => rl.get hd) ha
    have fin := k w d C H F (Same.refl F) R rw' q
    rcases hq with hq | hq
    · exact ix_seq value slice pins s σ H _ _ v u Q I rx ry (.inl ⟨p, xs, _, w, rfl, rfl, hq, hw, fin⟩) hs
    · exact ix_seq value slice pins s σ H _ _ v u Q I rx ry (.inr (.inl ⟨p, xs, _, w, rfl, rfl, hq, hw, fin⟩)) hs
theorem de_ix {a b : Expr} {ta tb : DE} {pos : Pos} (ha : PEd X cl a ta) (hb : PEd X cl b tb) (hs : PlainIx b := by intro _ _; rfl) : PEd X cl (.Subscript a b pos) (dOp rIx ta tb) :=
  weakE (pe_ix ix_ok ha hb hs) fun _ _ _ h => low_op h
/-- l[lo:hi] -/
def cutL {α : Type} (l : List α) (lo hi : Option Int) : List α := (l.drop (HT.sIx l.length 0 lo)).take (HT.sIx l.length l.length hi - HT.sIx l.length 0 lo)
abbrev DO := DEnv → Cl → (Option Int → Cl → Prop) → Prop
def dNoPart : DO := fun _ C Q => Q none C
def dPart (t : DE) : DO := fun ρ C Q => t ρ C fun x C1 => ∃ i, x = .int i ∧ Q (some i) C1
/-- what is cut out of x -/
def slF (C : Cl) (x : D) (lo hi : Option Int) : Option D :=
  match x with
  | .str l => some (.str (cutL l lo hi))
  | .tup ds => some (.tup (cutL ds lo hi))
  | .lst ds => some (.lst (cutL ds lo hi))
  | .rol ds => some (.lst (cutL ds lo hi))
  | .ref a => (cellL C a).map fun ds => .lst (cutL ds lo hi)
  | _ => none
def srcOk : D → Prop
  | .str l => l.length ≤ sizeLine
  | _ => True
abbrev RSl := D → Option Int → Option Int → Cl → DQ → Prop
theorem RepL.cut {K : PySem.W.Frag} {F : Hp} {xs : List V} {ds : List D} (lo hi : Option Int) (r : RepL K cl F xs ds) : RepL K cl F (cutV xs lo hi) (cutL ds lo hi) := by
  unfold cutV cutL
  rw [r.length]
  exact (r.drop _).take _
def dSl (rd : RSl) (te : DE) (tl th : DO) : DE := fun ρ C Q => te ρ C fun x C1 => tl ρ C1 fun l C2 => th ρ C2 fun u C3 => rd x l u C3 Q
/-- xs[i] = v -/
def rSetL : RSet := fun o i v C Q => ∃ a k j ds, o = .ref a ∧ i = .int k ∧ C a = some (.lst ds) ∧ ixN ds.length k = some j ∧ Q (updC C a (.lst (ds.set j v)))
theorem st_list : SetD X cl rSetL := by
  intro pins s σ H o i v ov iv u Q I r1 r2 r3 ⟨dO, dI, dV, C, F, Qd, R, p1, p2, p3, ⟨a, kk, j, ds, e1, e2, hc, hj, q⟩, k⟩
  subst e1 e2
  cases p1; cases p2
  obtain ⟨_, ob, ho, c⟩ := R.cel _ _ hc
  cases c with
  | lst rl =>
    exact set_list pins s σ H _ _ v ov iv u Q I r1 r2 r3 ⟨a, _, kk, j, rfl, rfl, ho, by rw [rl.length]; exact hj, k _ F _ (Same.refl F) (R.put hc (.lst (rl.set p3 j))) q⟩

/-! ### built-in calls -/
def lenF (C : Cl) : D → Option Nat
  | .str l => some l.length
  | .tup ds => some ds.length
  | .lst ds => some ds.length
  | .rol ds => some ds.length
  | .ref a => (cellL C a).map List.length
  | _ => none
def rLen : RDC := fun xs C Q => ∃ x n, xs = [x] ∧ lenF C x = some n ∧ srcOk x ∧ Q (.int n) C
theorem cd_len : CallD X cl (.builtin "len") rLen := by
  intro pins s σ H xs us Q I r ⟨ds, C, F, Qd, R, rl, ⟨x, n, e, hn, so, q⟩, k⟩
  subst e
  cases rl with
  | cons r1 rr =>
    cases rr
    refine call_len pins s σ H _ us Q I r ⟨_, n, rfl, ?_, k _ _ C H F (Same.refl F) R (.int _) q⟩
    cases r1 with
    | str l => cases hn; exact ⟨by rw [len_mk]; exact so, by rw [len_mk]⟩
    | tup h1 h2 => cases hn; exact .inr ⟨_, sqT_mono R.sub h1, h2.length.symm⟩
    | lst h1 h2 => cases hn; exact .inl ⟨_, .of (R.sub _ _ h1), h2.length.symm⟩
    | rol h1 h2 => cases hn; exact .inl ⟨_, R.sub.seq h1, h2.length.symm⟩
    | ref a =>
      have e' : (cellL C a).map List.length = some n := hn
      cases hh : cellL C a with
      | none => rw [hh] at e'; cases e'
      | some d' =>
        rw [hh] at e'
        cases e'
        obtain ⟨_, o, ho, c⟩ := R.cel _ _ (cellL_eq hh)
        cases c with
        | lst rl => exact .inl ⟨_, .of ho, rl.length.symm⟩
    | _ => cases hn
def rAbs : RDC := fun xs C Q => ∃ i, xs = [.int i] ∧ Q (.int (if i < 0 then -i else i)) C
theorem cd_abs : CallD X cl (.builtin "abs") rAbs := by
  intro pins s σ H xs us Q I r ⟨ds, C, F, Qd, R, rl, ⟨i, e, q⟩, k⟩
  subst e
  cases rl with
  | cons r1 rr =>
    cases rr; cases r1
    exact call_abs pins s σ H _ us Q I r ⟨i, rfl, k _ _ C H F (Same.refl F) R (.int _) q⟩
def rInt : RDC := fun xs C Q => (∃ i, xs = [.int i] ∧ Q (.int i) C) ∨ (∃ b, xs = [.bl b] ∧ Q (.int (if b then 1 else 0)) C)
theorem cd_int : CallD X cl (.type "int") rInt := by
  intro pins s σ H xs us Q I r ⟨ds, C, F, Qd, R, rl, h, k⟩
  rcases h with ⟨i, e, q⟩ | ⟨i, e, q⟩
  all_goals
    subst e
    cases rl with
    | cons r1 rr =>
      cases rr; cases r1
      first
        | exact call_int1 pins s σ H _ us Q I r (.inl ⟨i, rfl, k _ _ C H F (Same.refl F) R (.int _) q⟩)
        | exact call_int1 pins s σ H _ us Q I r (.inr ⟨i, rfl, k _ _ C H F (Same.refl F) R (.int _) q⟩)
def rMin2 : RDC := fun xs C Q => ∃ i j, xs = [.int i, .int j] ∧ Q (.int (if j < i then j else i)) C
theorem cd_min (hc : X.calm = true := by rfl) : CallD X cl (.builtin "min") rMin2 := by
  intro pins s σ H xs us Q I r ⟨ds, C, F, Qd, R, rl, ⟨i, j, e, q⟩, k⟩
  subst e
  cases rl with
  | cons r1 rr =>
    cases rr with
    | cons r2 rr =>
      cases rr; cases r1; cases r2
      exact call_min2 hc pins s σ H _ us Q I r ⟨i, j, rfl, k _ _ C H F (Same.refl F) R (.int _) q⟩
def rMax2 : RDC := fun xs C Q => ∃ i j, xs = [.int i, .int j] ∧ Q (.int (if j > i then j else i)) C
theorem cd_max (hc : X.calm = true := by rfl) : CallD X cl (.builtin "max") rMax2 := by
  intro pins s σ H xs us Q I r ⟨ds, C, F, Qd, R, rl, ⟨i, j, e, q⟩, k⟩
  subst e
  cases rl with
  | cons r1 rr =>
    cases rr with
    | cons r2 rr =>
      cases rr; cases r1; cases r2
      exact call_max2 hc pins s σ H _ us Q I r ⟨i, j, rfl, k _ _ C H F (Same.refl F) R (.int _) q⟩
/-- a list of truth values -/
def bls (bs : List Bool) : List D := bs.map D.bl
theorem rep_bls {K : PySem.W.Frag} {F : Hp} : ∀ {bs : List Bool} {xs : List V}, RepL K cl F xs (bls bs) → xs = bs.map V.bl
  | [], _, .nil => rfl
  | b :: bs, _, .cons r rr => by
    cases r
    rw [rep_bls rr]
    rfl
def rAllL : RDC := fun xs C Q => ∃ x bs, xs = [x] ∧ lstOf x = some (bls bs) ∧ Q (.bl (bs.all id)) C
theorem cd_all (hc : X.calm = true := by rfl) : CallD X cl (.builtin "all") rAllL := by
  intro pins s σ H xs us Q I r ⟨ds, C, F, Qd, R, rl, ⟨x, bs, e, hb, q⟩, k⟩
  subst e
  cases rl with
  | cons r1 rr =>
    cases rr
    obtain ⟨a, ys, rfl, hs, hl⟩ := r1.asL hb
    have e := rep_bls hl
    subst e
    exact cr_all hc pins s σ H _ us Q I r ⟨a, bs, rfl, R.sub.seq hs, k _ _ C H F (Same.refl F) R (.bl _) q⟩
/-- list(x) -/
def rList : RDC := fun xs C Q => ∃ x ds, xs = [x] ∧ seqOf C x = some ds ∧ Q (.lst ds) C
theorem cd_list : CallD X cl (.type "list") rList := by
  intro pins s σ H xs us Q I r ⟨ds, C, F, Qd, R, rl, ⟨x, es, e, hb, q⟩, k⟩
  subst e
  cases rl with
  | cons r1 rr =>
    cases rr
    obtain ⟨a, ys, rfl, hs, hl⟩ := seq_ok R r1 hb
    refine call_list_of pins s σ H _ us Q I r ⟨a, ys, rfl, hs, fun p np => ?_⟩
    have s2 := same_upd (o := .lst ys) (R.freeF np)
    exact k _ _ C _ _ s2 (R.new np) (.lst upd_same (hl.mono s2)) q
/-- tuple(x) -/
def rTuple : RDC := fun xs C Q => ∃ x ds, xs = [x] ∧ seqOf C x = some ds ∧ Q (.tup ds) C
theorem cd_tuple : CallD X cl (.type "tuple") rTuple := by
  intro pins s σ H xs us Q I r ⟨ds, C, F, Qd, R, rl, ⟨x, es, e, hb, q⟩, k⟩
  subst e
  cases rl with
  | cons r1 rr =>
    cases rr
    have r1' := r1
    obtain ⟨a, ys, rfl, hs, hl⟩ := seq_ok R r1 hb
    have onT : ∀ zs, SqT X.K F a zs → RepL X.K cl F zs es → wpAny (model X.prog X.w) X.A (call (.type "tuple") us) (EP X pins σ Q) X.xe s := fun zs h1 h2 =>
      call_tuple_of pins s σ H _ us Q I r ⟨a, zs, rfl, .inr ⟨sqT_mono R.sub h1, k _ _ C H F (Same.refl F) R (.tup h1 h2) q⟩⟩
    have onL : ∀ zs, SqL X.K H a zs → RepL X.K cl F zs es → wpAny (model X.prog X.w) X.A (call (.type "tuple") us) (EP X pins σ Q) X.xe s := fun zs h1 h2 => by
      refine call_tuple_of pins s σ H _ us Q I r ⟨a, zs, rfl, .inl ⟨h1, fun p np => ?_⟩⟩
      have s2 := same_upd (o := .tup zs) (R.freeF np)
      exact k _ _ C _ _ s2 (R.new np) (.tup (.of upd_same) (h2.mono s2)) q
    cases r1' with
    | tup h1 h2 => cases hb; exact onT _ h1 h2
    | lst h1 h2 => cases hb; exact onL _ (.of (R.sub _ _ h1)) h2
    | rol h1 h2 => cases hb; exact onL _ (R.sub.seq h1) h2
    | ref a' =>
      obtain ⟨_, o, ho, c⟩ := R.cel _ _ (cellL_eq hb)
      cases c with
      | lst rl => exact onL _ (.of ho) rl
    | _ => cases hb
end
end G
namespace G
open PySem PySem.Spec PyProof.Rows L2

section
variable {X : Cx} {cl : NmB}
/-- a text's three parts at the first sep -/
def parts3 (a b : List Nat) : List Nat × List Nat × List Nat := match TL.par b [] a with
  | some (x, y) => (x, b, y)
  | none => (a, [], [])
def txts (ls : List (List Nat)) : List D := ls.map D.str
theorem of_txts {K : PySem.W.Frag} {F : Hp} : ∀ {ls : List (List Nat)} {xs : List V}, RepL K cl F xs (txts ls) → xs = (ls.map fun l => (⟨l.toArray⟩ : Str)).map V.str
  | [], _, .nil => rfl
  | l :: ls, _, .cons r rr => by
    cases r
    rw [of_txts rr]
    rfl
/-- joined texts -/
theorem join_ok (a : List Nat) (ls : List (List Nat)) : Txt.join ⟨a.toArray⟩ (ls.map fun l => (⟨l.toArray⟩ : Str)) = ⟨(TL.joinL a ls).toArray⟩ := by
  apply TL.ext_tl
  rw [TL.join_eq, TL.tl_join, List.map_map]
  show TL.joinL a (ls.map (TL.tl ∘ fun l : List Nat => (⟨l.toArray⟩ : Str))) = TL.joinL a ls
  rw [show (TL.tl ∘ fun l : List Nat => (⟨l.toArray⟩ : Str)) = id from rfl, List.map_id]
def rJoin : RDM := fun x xs C Q => ∃ a y ls, x = .str a ∧ xs = [y] ∧ seqOf C y = some (txts ls) ∧ (ls.map List.length).sum + ls.length * a.length ≤ 16777216 ∧ Q (.str (TL.joinL a ls)) C
theorem md_join : MtD X cl "str.join" rJoin := by
  intro pins s σ H x xs v us Q I rx rs ⟨dx, ds, C, F, Qd, R, r1, rl, ⟨a, y, ls, e1, e2, hy, hl, q⟩, k⟩
  subst e1 e2
  cases r1
  cases rl with
  | cons r2 rr =>
    cases rr
    obtain ⟨p, ys, rfl, hs, hr⟩ := seq_ok R r2 hy
    have e := of_txts hr
    subst e
    refine mt_join pins s σ H _ _ v us Q I rx rs ⟨_, p, _, rfl, rfl, hs, ?_, ?_⟩
    · rw [List.map_map, List.length_map, len_mk]
      rw [show ((fun x : Str => x.length) ∘ fun l : List Nat => (⟨l.toArray⟩ : Str)) = List.length from by funext l; exact len_mk l]
      exact hl
    · rw [join_ok]
      exact k _ _ C H F (Same.refl F) R (.str _) q
/-- lists that change -/
def rAppend : RDM := fun x xs C Q => ∃ a d ds, x = .ref a ∧ xs = [d] ∧ C a = some (.lst ds) ∧ ds.length < sizeLine ∧ Q .non (updC C a (.lst (ds ++ [d])))
theorem md_append : MtD X cl "list.append" rAppend := by
  intro pins s σ H x xs v us Q I rx rs ⟨dx, es, C, F, Qd, R, r1, rl, ⟨a, d, ds, e1, e2, hc, hl, q⟩, k⟩
  subst e1 e2
  cases r1
  obtain ⟨_, o, ho, c⟩ := R.cel _ _ hc
  cases c with
  | lst rr =>
    cases rl with
    | cons r2 rn =>
      cases rn
      exact mt_append pins s σ H _ _ v us Q I rx rs ⟨a, _, _, rfl, rfl, ho, by rw [rr.length]; exact hl, k _ _ _ _ F (Same.refl F) (R.put hc (.lst (rr.append (.cons r2 .nil)))) .non q⟩
def rReverse : RDM := fun x xs C Q => ∃ a ds, x = .ref a ∧ xs = [] ∧ C a = some (.lst ds) ∧ Q .non (updC C a (.lst ds.reverse))
theorem md_reverse : MtD X cl "list.reverse" rReverse := by
  intro pins s σ H x xs v us Q I rx rs ⟨dx, es, C, F, Qd, R, r1, rl, ⟨a, ds, e1, e2, hc, q⟩, k⟩
  subst e1 e2
  cases r1
  obtain ⟨_, o, ho, c⟩ := R.cel _ _ hc
  cases c with
  | lst rr =>
    cases rl
    exact mt_reverse pins s σ H _ _ v us Q I rx rs ⟨a, _, rfl, rfl, ho, k _ _ _ _ F (Same.refl F) (R.put hc (.lst rr.reverse)) .non q⟩

/-! ### isinstance of a built-in class -/
def tyNm : D → Cl → Option String
  | .non, _ => some "NoneType"
  | .bl _, _ => some "bool"
  | .int _, _ => some "int"
  | .str _, _ => some "str"
  | .lst _, _ => some "list"
  | .rol _, _ => some "list"
  | .tup _, _ => some "tuple"
  | .dic _, _ => some "dict"
  | .dct _, _ => some "dict"
  | .ref a, C => match C a with
    | some (.lst _) => some "list"
    | some (.dic _) => some "dict"
    | some (.dct _) => some "dict"
    | _ => none
  | _, _ => none
theorem tyX_ok {K : PySem.W.Frag} {C : Cl} {F H : Hp} {v : V} {d : D} {n : String} (R : RC K cl C F H) (r : Rep K cl F v d) (h : tyNm d C = some n) : TyX K H v (.type n) := by
  have onT : ∀ a xs, SqT K H a xs → TyX K H (.ref a) (.type "tuple") := fun a xs h => by
    rcases h with (h | ⟨o, h⟩) | ⟨o, its, n, hk, hc, _⟩
    · exact .base (.tup h)
    · exact .fTuple h
    · exact .kTuple hk hc
  have onL : ∀ a xs, SqL K H a xs → TyX K H (.ref a) (.type "list") := fun a xs h => by
    rcases h with (h | ⟨o, h⟩) | ⟨o, its, n, hk, hc, _⟩
    · exact .base (.lst h)
    · exact .base (.frz h)
    · exact .kList hk hc
  cases r with
  | non => cases h; exact .base .non
  | bl b => cases h; exact .base (.bl b)
  | int i => cases h; exact .base (.int i)
  | str l => cases h; exact .base (.str _)
  | tup h1 h2 => cases h; exact onT _ _ (sqT_mono R.sub h1)
  | lst h1 h2 => cases h; exact onL _ _ (.of (R.sub _ _ h1))
  | rol h1 h2 => cases h; exact onL _ _ (R.sub.seq h1)
  | dic h1 h2 =>
    cases h
    exact .fDict (R.sub _ _ h1)
  | dct h1 h2 => cases h; exact .base (.dT (R.sub _ _ h1))
  | ref a =>
    cases hc : C a with
    | none => simp [tyNm, hc] at h
    | some c =>
      obtain ⟨_, o, ho, cr⟩ := R.cel _ _ hc
      cases cr with
      | lst rl =>
        simp only [tyNm, hc, Option.some.injEq] at h
        subst h
        exact onL _ _ (.of ho)
      | dic rl =>
        simp only [tyNm, hc, Option.some.injEq] at h
        subst h
        exact .base (.dK ho)
      | dct rl =>
        simp only [tyNm, hc, Option.some.injEq] at h
        subst h
        exact .base (.dT ho)
      | dil rl => simp [tyNm, hc] at h
      | ins rl => simp [tyNm, hc] at h
      | tbl _ _ => simp [tyNm, hc] at h
  | ty n => simp [tyNm] at h
  | cls c => simp [tyNm] at h
  | ins h1 h2 => simp [tyNm] at h
/-- is a thing of the built-in class n of the class m -/
def isSub (n m : String) : Bool := n == m || (n == "bool" && m == "int")
def rIsi (m : String) : RDC := fun xs C Q => ∃ x n, xs = [x, .ty m] ∧ tyNm x C = some n ∧ Q (.bl (isSub n m)) C
/-- the library's answer for the classes that are asked -/
def IsiOk (K : PySem.W.Frag) (m : String) : Prop := ∀ n ∈ (["NoneType", "bool", "int", "str", "list", "tuple", "dict"] : List String), PySem.W.kitOne K (.type n) (.type m) = some (isSub n m)
theorem cd_isi {m : String} (hk : IsiOk X.K m) : CallD X cl (.builtin "isinstance") (rIsi m) := by
  intro pins s σ H xs us Q I r ⟨ds, C, F, Qd, R, rl, ⟨x, n, e, hn, q⟩, k⟩
  subst e
  cases rl with
  | cons r1 rr =>
    cases rr with
    | cons r2 rr =>
      cases rr; cases r2
      have hm : n ∈ (["NoneType", "bool", "int", "str", "list", "tuple", "dict"] : List String) := by
        cases x <;> first
          | (simp only [tyNm, Option.some.injEq] at hn; subst hn; decide)
          | (simp only [tyNm] at hn; split at hn <;> first | (cases hn; decide) | cases hn)
          | cases hn
      exact call_isi pins s σ H _ us Q I r ⟨_, _, _, _, _, rfl, .ty m, tyX_ok R r1 hn, hk n hm, k _ _ C H F (Same.refl F) R (.bl _) q⟩
end
end G
namespace G
open PySem PySem.Spec PyProof.Rows L2

/-! ### short words for readings -/
abbrev dAdd (a b : DE) : DE := dOp (rOf addF) a b
abbrev dSub (a b : DE) : DE := dOp (rOf (ioF fun i j => i - j)) a b
abbrev dMul (a b : DE) : DE := dOp rMul a b
abbrev dFdiv (a b : DE) : DE := dOp (rIC CDivW fun i j => i / j) a b
abbrev dMod (a b : DE) : DE := dOp (rIC (fun _ j => 0 < j) fun i j => i % j) a b
abbrev dPow (a b : DE) : DE := dOp (rIC CPow fun i j => i ^ j.toNat) a b
abbrev rLtD : RD2 := rOf ltF
abbrev rLeD : RD2 := rOf leF
abbrev rGtD : RD2 := rOf gtF
abbrev rGeD : RD2 := rOf geF
theorem boot_len_ : bootBuiltins "len" = some (.builtin "len") := by decide +kernel
theorem boot_abs_ : bootBuiltins "abs" = some (.builtin "abs") := by decide +kernel
theorem boot_min_ : bootBuiltins "min" = some (.builtin "min") := by decide +kernel
theorem boot_max_ : bootBuiltins "max" = some (.builtin "max") := by decide +kernel
theorem boot_all_ : bootBuiltins "all" = some (.builtin "all") := by decide +kernel
theorem boot_isinstance_ : bootBuiltins "isinstance" = some (.builtin "isinstance") := by decide +kernel
theorem boot_int_ : bootBuiltins "int" = some (.type "int") := by decide +kernel
theorem boot_str_ : bootBuiltins "str" = some (.type "str") := by decide +kernel
theorem boot_list_ : bootBuiltins "list" = some (.type "list") := by decide +kernel
theorem boot_tuple_ : bootBuiltins "tuple" = some (.type "tuple") := by decide +kernel
theorem isi_all {K : PySem.W.Frag} {m : String} (h : PySem.W.kitOne K (.type "NoneType") (.type m) = some (isSub "NoneType" m) ∧ PySem.W.kitOne K (.type "bool") (.type m) = some (isSub "bool" m) ∧ PySem.W.kitOne K (.type "int") (.type m) = some (isSub "int" m) ∧ PySem.W.kitOne K (.type "str") (.type m) = some (isSub "str" m) ∧
    PySem.W.kitOne K (.type "list") (.type m) = some (isSub "list" m) ∧ PySem.W.kitOne K (.type "tuple") (.type m) = some (isSub "tuple" m) ∧ PySem.W.kitOne K (.type "dict") (.type m) = some (isSub "dict" m)) : IsiOk K m := by
  intro n hn
  have hn : n = "NoneType" ∨ n = "bool" ∨ n = "int" ∨ n = "str" ∨ n = "list" ∨ n = "tuple" ∨ n = "dict" := by simpa using hn
  obtain ⟨h1, h2, h3, h4, h5, h6, h7⟩ := h
  rcases hn with rfl | rfl | rfl | rfl | rfl | rfl | rfl <;> assumption
theorem isi_str {K : PySem.W.Frag} : IsiOk K "str" := isi_all ⟨rfl, rfl, rfl, rfl, rfl, rfl, rfl⟩
section
variable {X : Cx} {cl : NmB} {pos : Pos}
theorem de_gstr {x : Str} {l : List Nat} (h : ∃ t, X.mg x = some (.str ⟨l.toArray⟩ t)) (hg : Gl X x := by rfl) (hd : (x == ("__debug__" : Str)) = false := by decide) : PEd X cl (.Name x pos) (dC (.str l)) := by
  obtain ⟨t, h⟩ := h
  exact de_glob (v := .str ⟨l.toArray⟩) h ⟨t, rfl⟩ (fun _ => .str l) hg hd
end
/-- tests whose answer is a proposition's -/
theorem ite_d {p : Prop} [Decidable p] {A B : Prop} (h1 : p → A) (h2 : ¬ p → B) : if decide p = true then A else B := by
  by_cases h : p
  · rw [decide_eq_true h]; exact iteT (h1 h)
  · rw [decide_eq_false h]; exact iteF (h2 h)
theorem ite_nd {p : Prop} [Decidable p] {A B : Prop} (h1 : ¬ p → A) (h2 : p → B) : if (!decide p) = true then A else B := by
  by_cases h : p
  · rw [decide_eq_true h]; exact iteF (h2 h)
  · rw [decide_eq_false h]; exact iteT (h1 h)
/-! ### the bag of a law: three numbers in a list that changes -/
abbrev bagC (x y z : Int) : Cell := .lst [.int x, .int y, .int z]
structure Bag (x y z : Int) (n : Nat) : Prop where
  x0 : 0 ≤ x
  y0 : 0 ≤ y
  y1 : y ≤ 12000000000000000000
  z0 : 0 ≤ z
  z1 : z ≤ n
def BagAt (C : Cl) (b : Addr) (n : Nat) : Prop := ∃ x y z, C b = some (bagC x y z) ∧ Bag x y z n
/-- C' is C but for the bag at b -/
def Bagged (C : Cl) (b : Addr) (C' : Cl) (n : Nat) : Prop := ∃ x y z, C' = updC C b (bagC x y z) ∧ Bag x y z n
theorem Bag.mono {x y z : Int} {n m : Nat} (h : Bag x y z n) (l : n ≤ m) : Bag x y z m := ⟨h.x0, h.y0, h.y1, h.z0, by have := h.z1; omega⟩
theorem Bagged.at {C C' : Cl} {b : Addr} {n : Nat} (h : Bagged C b C' n) : BagAt C' b n := by
  obtain ⟨x, y, z, rfl, g⟩ := h
  exact ⟨x, y, z, updC_same, g⟩
theorem BagAt.mono {C : Cl} {b : Addr} {n m : Nat} (h : BagAt C b n) (l : n ≤ m) : BagAt C b m := by
  obtain ⟨x, y, z, e, g⟩ := h
  exact ⟨x, y, z, e, g.mono l⟩
theorem Bagged.mono {C C' : Cl} {b : Addr} {n m : Nat} (h : Bagged C b C' n) (l : n ≤ m) : Bagged C b C' m := by
  obtain ⟨x, y, z, e, g⟩ := h
  exact ⟨x, y, z, e, g.mono l⟩
theorem Bagged.trans {C C1 C2 : Cl} {b : Addr} {n m : Nat} (h : Bagged C b C1 n) (k : Bagged C1 b C2 m) : Bagged C b C2 m := by
  obtain ⟨x, y, z, rfl, g⟩ := h
  obtain ⟨x', y', z', rfl, g'⟩ := k
  exact ⟨x', y', z', updC_updC, g'⟩
theorem Bagged.ne {C C' : Cl} {b : Addr} {n : Nat} (h : Bagged C b C' n) {a : Addr} (e : a ≠ b) : C' a = C a := by
  obtain ⟨x, y, z, rfl, g⟩ := h
  exact updC_ne e
theorem updC_self {C : Cl} {a : Addr} {c : Cell} (h : C a = some c) : updC C a c = C := by
  funext b
  unfold updC
  by_cases e : b = a
  · rw [if_pos e, e, h]
  · rw [if_neg e]
theorem BagAt.self {C : Cl} {b : Addr} {n : Nat} (h : BagAt C b n) : Bagged C b C n := by
  obtain ⟨x, y, z, e, g⟩ := h
  exact ⟨x, y, z, (updC_self e).symm, g⟩
end G
namespace G
open PySem PySem.Spec PyProof.Rows L2
/-! ### callees with keywords; instances -/
abbrev DSp2 := List D → List D → Cl → DQ → DX → Prop
abbrev noX : DX := fun _ _ _ => False
section
variable (K : PySem.W.Frag) (cl : Nm)
def lowC2 (sp : DSp2) (vs zs : List V) (H : Hp) (Q : VK) (E : XK) : Prop := ∃ ds es C F Qd Ed, RC K cl C F H ∧ RepL K cl F vs ds ∧ RepL K cl F zs es ∧ sp ds es C Qd Ed ∧ Fin K cl F Qd Q ∧ FinX K cl F Ed E
end
/-- a def that is called with the keywords ks -/
def Cee (P : Program) (w : World) (K : PySem.W.Frag) (cl : Nm) (mg : Str → Option Value) (base : Heap) (CX : CXT) (k : Nat) (f : Addr) (ks : List Str) (sp : DSp2) : Prop :=
  ∀ (A : Around) (outer : List Env) (s : Shared) (H : Hp) (us ws : List Value) (vs zs : List V) (Q : VK) (E : XK), Room k A → Env0 P w K mg base A outer s H → Vals vs us → Vals zs ws → lowC2 K cl sp vs zs H Q E →
    codeAny (model P w) A (.call (.ref f) ⟨us, ks.zip ws⟩) (CR CX outer P w H s Q E) s
section
variable {P : Program} {w : World} {K : PySem.W.Frag} {cl : Nm} {mg : Str → Option Value} {base : Heap} {CX : CXT} {k n : Nat} {f : Addr} {fd : FuncData} {ps ks : List Str} {sp : DSp}
theorem Cee.mono {sp : DSp2} {j : Nat} (c : Cee P w K cl mg base CX j f ks sp) (h : j ≤ k) : Cee P w K cl mg base CX k f ks sp := fun A outer s H us ws vs zs Q E hr => c A outer s H us ws vs zs Q E (hr.mono h)
theorem Cee.imp {sp sp' : DSp2} (c : Cee P w K cl mg base CX k f ks sp) (h : ∀ ds es C Q E, sp' ds es C Q E → sp ds es C Q E) : Cee P w K cl mg base CX k f ks sp' :=
  fun A outer s H us ws vs zs Q E hr e0 r rz ⟨ds, es, C, F, Qd, Ed, R, r1, r2, hq, k1, k2⟩ => c A outer s H us ws vs zs Q E hr e0 r rz ⟨ds, es, C, F, Qd, Ed, R, r1, r2, h _ _ _ _ _ hq, k1, k2⟩
/-- all parameters written, but for defaults dd at the end -/
theorem Cee.pos {dv : List Value} {dw : List V} {dd : List D} (FG : FnOk P w K mg base CX k f fd ps (lowSp K cl sp)) (hb : Binds K fd ps dv) (hd : Vals dw dv) (hv : ∀ F, RepL K cl F dw dd) :
    Cee P w K cl mg base CX k f [] (fun ds es C Q E => es = [] ∧ sp (ds ++ dd) C Q E) := by
  rintro A outer s H us ws vs zs Q E hr e0 r rz ⟨ds, es, C, F, Qd, Ed, R, r1, r2, ⟨rfl, hq⟩, k1, k2⟩
  have hsp : lowSp K cl sp (vs ++ dw) H Q E := ⟨ds ++ dd, C, F, Qd, Ed, R, r1.append (hv F), hq, k1, k2⟩
  have r3 : Vals (vs ++ dw) (us ++ dv) := r.append hd
  have hl : (us ++ dv).length = ps.length := by rw [← r3.length]; exact FG.len _ _ _ _ hsp
  exact FG.run A outer s H ⟨us, []⟩ (us ++ dv) (vs ++ dw) Q E hr e0 (hb s us (e0.mod.kin.keeps fun b o e => (e0.bs b o e).1) hl) r3 hsp
/-- keywords -/
theorem Cee.kw {g : List Value → List Value → List Value} {gV : List V → List V → List V} {gD : List D → List D → List D} (FG : FnOk P w K mg base CX k f fd ps (lowSp K cl sp)) (hb : KBn K fd ps n ks g gV)
    (hg : ∀ F vs zs ds es, RepL K cl F vs ds → RepL K cl F zs es → ds.length = n → es.length = ks.length → RepL K cl F (gV vs zs) (gD ds es)) :
    Cee P w K cl mg base CX k f ks (fun ds es C Q E => ds.length = n ∧ es.length = ks.length ∧ sp (gD ds es) C Q E) := by
  rintro A outer s H us ws vs zs Q E hr e0 r rz ⟨ds, es, C, F, Qd, Ed, R, r1, r2, ⟨l1, l2, hq⟩, k1, k2⟩
  have hsp : lowSp K cl sp (gV vs zs) H Q E := ⟨gD ds es, C, F, Qd, Ed, R, hg F vs zs ds es r1 r2 l1 l2, hq, k1, k2⟩
  have n1 : us.length = n := by rw [← r.length, r1.length, l1]
  have n2 : ws.length = ks.length := by rw [← rz.length, r2.length, l2]
  exact FG.run A outer s H ⟨us, ks.zip ws⟩ (g us ws) (gV vs zs) Q E hr e0 (hb.to s us ws (e0.mod.kin.keeps fun b o e => (e0.bs b o e).1) n1 n2) (hb.rel r rz) hsp
end
section
variable {X : Cx} {cl : NmB} {CX : CXT} {k n : Nat} {f : Addr} {ks : List Str} {sp : DSp2} {E : XK} {pins : List (Addr × Obj)} {σ : L2.St} {H : Hp} {s : Shared}
theorem Cee.go {A : Around} {us ws : List Value} {vs zs : List V} {Q : VK} (c : Cee X.prog X.w X.K cl X.mg X.base CX k f ks sp) (hr : Room k A) (hf : A.frames = X.A.frames) (hx : Passes CX X E) (I : Inv X pins σ H s) (r : Vals vs us) (rz : Vals zs ws)
    (h : lowC2 X.K cl sp vs zs H Q E) : wpAny (model X.prog X.w) A (call (.ref f) us (ks.zip ws)) (EP X pins σ Q) X.xe s := by
  have e0 : Env0 X.prog X.w X.K X.mg X.base A X.stack s H := by
    have e := I.env0
    exact ⟨by rw [hf]; exact e.frames, e.mod, e.bs, e.bsz, e.funs, e.frf, e.hok, e.bare⟩
  refine wpAny_call (codeAny_mono (c A X.stack s H us ws vs zs Q E hr e0 r rz h) fun r s' hq => ?_)
  cases r with
  | error e => exact hx pins σ H s e s' I hq
  | ok fl =>
    cases fl with
    | ret u => exact I.after hq
    | next => exact False.elim hq
    | brk => exact False.elim hq
    | cont => exact False.elim hq
/-- the same as code, wanted at the reading's level, nothing let out -/
theorem Cee.code {A : Around} {us : List Value} {vs : List V} {ds : List D} {C : Cl} {F : Hp} {Qd : DQ} {Q : VK} (c : Cee X.prog X.w X.K cl X.mg X.base CX k f [] sp) (hr : Room k A) (hf : A.frames = X.A.frames) (hx : Passes CX X E0) (I : Inv X pins σ H s) (r : Vals vs us)
    (R : RC X.K cl C F H) (rl : RepL X.K cl F vs ds) (h : sp ds [] C Qd noX) (hq : Fin X.K cl F Qd Q) :
    codeAny (model X.prog X.w) A (.call (.ref f) ⟨us, []⟩) (fun res s' => match res with
      | .ok (.ret u) => EP X pins σ Q u s'
      | .ok _ => False
      | .error e => X.xe e s') s := by
  have e0 : Env0 X.prog X.w X.K X.mg X.base A X.stack s H := by
    have e := I.env0
    exact ⟨by rw [hf]; exact e.frames, e.mod, e.bs, e.bsz, e.funs, e.frf, e.hok, e.bare⟩
  refine codeAny_mono (c A X.stack s H us [] vs [] Q E0 hr e0 r .nil ⟨ds, [], C, F, Qd, noX, R, rl, .nil, h, hq, fun _ _ _ _ _ _ _ _ _ _ z => z.elim⟩) fun res s' z => ?_
  cases res with
  | error e => exact hx pins σ H s e s' I z
  | ok fl =>
    cases fl with
    | ret u => exact I.after z
    | next => exact False.elim z
    | brk => exact False.elim z
    | cont => exact False.elim z
/-- the same, wanted at the reading's level -/
theorem Cee.goD {A : Around} {us : List Value} {vs : List V} {ds : List D} {C : Cl} {F : Hp} {Qd : DQ} {Q : VK} (c : Cee X.prog X.w X.K cl X.mg X.base CX k f [] sp) (hr : Room k A) (hf : A.frames = X.A.frames) (hx : Passes CX X E0) (I : Inv X pins σ H s) (r : Vals vs us)
    (R : RC X.K cl C F H) (rl : RepL X.K cl F vs ds) (h : sp ds [] C Qd noX) (hq : Fin X.K cl F Qd Q) : wpAny (model X.prog X.w) A (call (.ref f) us) (EP X pins σ Q) X.xe s :=
  c.go (zs := []) (ws := []) hr hf hx I r .nil ⟨ds, [], C, F, Qd, noX, R, rl, .nil, h, hq, fun _ _ _ _ _ _ _ _ _ _ z => z.elim⟩
end

/-! ### instances: fields -/
def insOf (C : Cl) : D → Option (String × List (Str × D))
  | .ins c fs => some (c, fs)
  | .ref a => match C a with
    | some (.ins c fs) => some (c, fs)
    | _ => none
  | _ => none
section
variable {K : PySem.W.Frag} {cl : Nm} {C : Cl} {F H : Hp} {v : V} {d : D} {c : String} {fs : List (Str × D)}
theorem RepF.len : ∀ {vs : List (Str × V)} {ds : List (Str × D)}, RepF K cl F vs ds → vs.length = ds.length
  | _, _, .nil => rfl
  | _, _, .cons _ r => congrArg (· + 1) (RepF.len r)
theorem ins_ok (R : RC K cl C F H) (r : Rep K cl F v d) (h : insOf C d = some (c, fs)) : ∃ a dx vs, v = .ref a ∧ H a = some (.ins (cl c) dx vs) ∧ RepF K cl F vs fs := by
  cases r with
  | ins h1 h2 => cases h; exact ⟨_, _, _, rfl, R.sub _ _ h1, h2⟩
  | ref a =>
    unfold insOf at h
    dsimp only at h
    split at h
    · rename_i hc
      cases h
      obtain ⟨_, o, ho, cr⟩ := R.cel _ _ hc
      cases cr with
      | ins rf => exact ⟨_, _, _, rfl, ho, rf⟩
    · cases h
  | _ => cases h
def putD (f : Str) (v : D) : List (Str × D) → List (Str × D)
  | [] => [(f, v)]
  | (g, x) :: r => if g = f then (g, v) :: r else (g, x) :: putD f v r
theorem RepF.put {f : Str} {v : V} {d : D} (h : Rep K cl F v d) : ∀ {vs : List (Str × V)} {ds : List (Str × D)}, RepF K cl F vs ds → RepF K cl F (putF f v vs) (putD f d ds)
  | _, _, .nil => .cons h .nil
  | _, _, .cons (k := k) q r => by
    unfold putF putD
    by_cases e : k = f
    · rw [if_pos e, if_pos e]; exact .cons h r
    · rw [if_neg e, if_neg e]; exact .cons q (RepF.put h r)
end
/-- e.f of an instance of one of the classes cs -/
def dFld (cs : List String) (te : DE) (f : Str) : DE := fun ρ C Q => te ρ C fun d C1 => ∃ c fs v, c ∈ cs ∧ insOf C1 d = some (c, fs) ∧ fs.lookup f = some v ∧ Q v C1
/-- o.f = e -/
def dFldSet (cs : List String) (to te : DE) (f : Str) : DS := fun D ρ C => te ρ C fun y C1 => to ρ C1 fun x C2 => ∃ a c fs, c ∈ cs ∧ x = .ref a ∧ C2 a = some (.ins c fs) ∧ fs.length < 1000 ∧ D.nx ρ (updC C2 a (.ins c (putD f y fs)))
/-- what a class has for its field f -/
def FldOk (K : PySem.W.Frag) (cl : Nm) (f : Str) (cs : List String) : Prop := ∀ c ∈ cs, Cls K (cl c) ∧ NoAttr K (cl c) f
section
variable {K : PySem.W.Frag} {cl : Nm} {f : Str}
theorem fld_nil : FldOk K cl f [] := nofun
theorem fld_cons {c : String} {cs : List String} (h : Cls K (cl c)) (n : NoAttr K (cl c) f) (r : FldOk K cl f cs) : FldOk K cl f (c :: cs) := fun x hx => by
  rcases List.mem_cons.mp hx with e | e
  · rw [e]; exact ⟨h, n⟩
  · exact r x e
end
section
variable {X : Cx} {cl : NmB} {e o : Expr} {te to : DE} {pos pos' : Pos} {f : Str} {cs : List String}
theorem de_fld (he : PEd X cl e te) (hc : FldOk X.K cl f cs) (hb : attributeBase e f X.env (eval e X.env) = eval e X.env := by rfl) : PEd X cl (.Attribute e f pos) (dFld cs te f) := by
  refine weakE (pe_fld he hb) fun σ H Q ⟨ρ, C, F, Qd, R, h, k⟩ => ?_
  refine ⟨ρ, C, F, _, R, h, fun v d C1 H1 F1 s1 R1 r1 ⟨c, fs, x, hm, hi, hl, q1⟩ => ?_⟩
  obtain ⟨a, dx, vs, rfl, ha, rf⟩ := ins_ok R1 r1 hi
  obtain ⟨u, hu, ru⟩ := rf.get hl
  exact ⟨a, cl c, dx, vs, u, rfl, ha, (hc c hm).1, (hc c hm).2, hu, k u x C1 H1 F1 s1 R1 ru q1⟩
theorem ds_fld (ho : PEd X cl o to) (he : PEd X cl e te) (hc : FldOk X.K cl f cs) (hs : swapsWith e (some (.Attribute o f pos')) pos.line X.env = pure false := by rfl) : PSd X cl (.Assign [.Attribute o f pos'] e pos) (dFldSet cs to te f) := by
  refine weakS (ps_fld ho he hs) fun De σ H ⟨ρ, C, F, Dd, R, h, k⟩ => ?_
  refine ⟨ρ, C, F, _, R, h, fun v d C1 H1 F1 s1 R1 r1 q1 => ?_⟩
  refine ⟨ρ, C1, F1, _, R.next s1 R1, q1, fun v2 d2 C2 H2 F2 s2 R2 r2 ⟨a, c, fs, hm, e2, hc2, hl, q2⟩ => ?_⟩
  subst e2
  cases r2
  obtain ⟨_, ob, hob, cr⟩ := R2.cel _ _ hc2
  cases cr with
  | ins rf =>
    refine ⟨_, cl c, _, _, rfl, hob, (hc c hm).1, (hc c hm).2, by rw [rf.len]; exact hl, ?_⟩
    exact k.nx _ _ F2 _ _ (s1.trans s2) (R.next (s1.trans s2) (R2.put hc2 (.ins (rf.put (r1.mono s2))))) q2
end

/-! ### calls of methods, of classes, of static methods -/
abbrev PKd (X : Cx) (cl : NmB) (kws : List Keyword) (t : DA) : Prop := PK X kws (lowA X.K cl t)
def dMeth (c : String) (m : Str) (sp : DSp2) (to : DE) (t tk : DA) : DE := fun ρ C Q => to ρ C fun x C1 => ∃ fs, insOf C1 x = some (c, fs) ∧ fs.lookup m = none ∧ t ρ C1 fun xs C2 => tk ρ C2 fun zs C3 => sp (x :: xs) zs C3 Q noX
def dMake (c : String) (sp : DSp2) (t tk : DA) : DE := fun ρ C Q => t ρ C fun xs C2 => tk ρ C2 fun zs C3 => ∀ x, C3 x = none → sp (.ref x :: xs) zs (updC C3 x (.ins c [])) (fun v C4 => v = .non ∧ Q (.ref x) C4) noX
/-- C.m is a static method: its record at p, its def at g -/
structure SMet (K : PySem.W.Frag) (C : Addr) (mc : Value) (m : Str) (p g : Addr) : Prop where
  at_ : PySem.W.findCls K (.ref C) mc m = some (.get (.builtin "staticmethod.__get__") (.ref p) .none (.ref C))
  rc : ∃ rest, PySem.W.recIn K p "staticmethod" = some (.ref g :: rest)
  kp : PySem.W.keepIn K (.ref g) = true
section
variable {X : Cx} {cl : NmB} {CX : CXT} {k : Nat} {g : Addr} {ks : List Str} {sp : DSp2} {e o : Expr} {es : List Expr} {kws : List Keyword} {to : DE} {t tk : DA} {pos apos p : Pos} {x m : Str} {c : String} {te : DE}
theorem dk_nil : PKd X cl [] dNil := ⟨fun pos pins s σ H Q I ⟨ρ, C, F, Qd, R, h, k⟩ => pk_nil.run pos pins s σ H Q I (k [] [] C H F (Same.refl F) R.rc .nil h)⟩
/-- the arguments, the keywords, then the callee -/
theorem cal_args {fv : Value} {first : List Value} {pins : List (Addr × Obj)} {s : Shared} {σ : L2.St} {H : Hp} (hk : PySem.W.keepIn X.K fv = true) (I : Inv X pins σ H s) (ha : PAd X cl (e :: es) t) (hkw : PKd X cl kws tk)
    {ρ : DEnv} {C : Cl} {F : Hp} (RR : RS X.K cl ρ C F σ H) {Qd : List D → List D → Cl → Prop} (h : t ρ C fun xs C2 => tk ρ C2 fun zs C3 => Qd xs zs C3) {Q : Value → Shared → Prop}
    (hq : ∀ us ws vs zs s2 H2 F2 C2 ds es, Inv X pins σ H2 s2 → Same F F2 → RC X.K cl C2 F2 H2 → Vals vs us → Vals zs ws → RepL X.K cl F2 vs ds → RepL X.K cl F2 zs es → Qd ds es C2 → wpAny (model X.prog X.w) X.A (call fv (first ++ us) (ks.zip ws)) Q X.xe s2)
    (hall : (backToKw pos (keywordEach kws X.env)).all (·.1.isSome) = true) (hks : (backToKw pos (keywordEach kws X.env)).filterMap (·.1) = ks) (he : starEach (e :: es) X.env = (false, eval e X.env) :: starEach es X.env)
    (hpl : ((backTo pos (starEach (e :: es) X.env)).any (·.1) || (backToKw pos (keywordEach kws X.env)).any (·.1.isNone)) = false) :
    wpAny (model X.prog X.w) X.A (callWith pos fv first (backTo pos (starEach (e :: es) X.env)) (backToKw pos (keywordEach kws X.env))) Q X.xe s := by
  refine PySem.W.callWith_KW (h₀ := X.base) I.ok.mod.kin hk hall (thn (ha.run pos pins s σ H (fun vs H1 => ∃ ds C1 F1, Same F F1 ∧ RC X.K cl C1 F1 H1 ∧ RepL X.K cl F1 vs ds ∧ tk ρ C1 fun zs C3 => Qd ds zs C3) I ⟨ρ, C, F, _, RR, h, fun vs ds C1 H1 F1 s1 R1 r1 q1 => ⟨ds, C1, F1, s1, R1, r1, q1⟩⟩) fun us s1 ⟨vs, H1, I1, r, ds, C1, F1, s1', R1, r1, q1⟩ => ?_) hpl he
  refine thn (hkw.run pos pins s1 σ H1 (fun zs H2 => ∃ es C2 F2, Same F1 F2 ∧ RC X.K cl C2 F2 H2 ∧ RepL X.K cl F2 zs es ∧ Qd ds es C2) I1 ⟨ρ, C1, F1, _, RR.next s1' R1, q1, fun zs es C2 H2 F2 s2 R2 r2 q2 => ⟨es, C2, F2, s2, R2, r2, q2⟩⟩) fun ws s2 ⟨zs, H2, I2, rz, es, C2, F2, s2', R2, r2, q2⟩ => ⟨I2.kIn, ?_⟩
  rw [hks]
  exact hq us ws vs zs s2 H2 F2 C2 ds es I2 (s1'.trans s2') R2 r rz (r1.mono s2') r2 q2
theorem cal_args0 {fv : Value} {first : List Value} {pins : List (Addr × Obj)} {s : Shared} {σ : L2.St} {H : Hp} (hk : PySem.W.keepIn X.K fv = true) (I : Inv X pins σ H s) (hkw : PKd X cl kws tk)
    {ρ : DEnv} {C : Cl} {F : Hp} (RR : RS X.K cl ρ C F σ H) {Qd : List D → List D → Cl → Prop} (h : tk ρ C fun zs C3 => Qd [] zs C3) {Q : Value → Shared → Prop}
    (hq : ∀ us ws vs zs s2 H2 F2 C2 ds es, Inv X pins σ H2 s2 → Same F F2 → RC X.K cl C2 F2 H2 → Vals vs us → Vals zs ws → RepL X.K cl F2 vs ds → RepL X.K cl F2 zs es → Qd ds es C2 → wpAny (model X.prog X.w) X.A (call fv (first ++ us) (ks.zip ws)) Q X.xe s2)
    (hall : (backToKw pos (keywordEach kws X.env)).all (·.1.isSome) = true) (hks : (backToKw pos (keywordEach kws X.env)).filterMap (·.1) = ks)
    (hpl : ((backTo pos (starEach [] X.env)).any (·.1) || (backToKw pos (keywordEach kws X.env)).any (·.1.isNone)) = false) :
    wpAny (model X.prog X.w) X.A (callWith pos fv first (backTo pos (starEach [] X.env)) (backToKw pos (keywordEach kws X.env))) Q X.xe s := by
  refine PySem.W.callWith_KW0 (h₀ := X.base) I.ok.mod.kin hk hall ?_ hpl
  refine thn (hkw.run pos pins s σ H (fun zs H2 => ∃ es C2 F2, Same F F2 ∧ RC X.K cl C2 F2 H2 ∧ RepL X.K cl F2 zs es ∧ Qd [] es C2) I ⟨ρ, C, F, _, RR, h, fun zs es C2 H2 F2 s2 R2 r2 q2 => ⟨es, C2, F2, s2, R2, r2, q2⟩⟩) fun ws s2 ⟨zs, H2, I2, rz, es, C2, F2, s2', R2, r2, q2⟩ => ⟨I2.kIn, ?_⟩
  rw [hks]
  exact hq [] ws [] zs s2 H2 F2 C2 [] es I2 s2' R2 .nil rz .nil r2 q2
/-- o.m(e, .., k = v, ..) -/
theorem de_meth {pl : Sem Bool} (fc : Cee X.prog X.w X.K cl X.mg X.base CX k g ks sp) (hr : Room k X.A) (hx : Passes CX X E0) (hcl : Cls X.K (cl c)) (hm : Meth X.K (cl c) m g) (ho : PEd X cl o to) (ha : PAd X cl (e :: es) t) (hkw : PKd X cl kws tk)
    (hall : (backToKw pos (keywordEach kws X.env)).all (·.1.isSome) = true := by rfl) (hks : (backToKw pos (keywordEach kws X.env)).filterMap (·.1) = ks := by rfl)
    (he : starEach (e :: es) X.env = (false, eval e X.env) :: starEach es X.env := by rfl) (hpl : ((backTo pos (starEach (e :: es) X.env)).any (·.1) || (backToKw pos (keywordEach kws X.env)).any (·.1.isNone)) = false := by rfl)
    (ht : eval (.Call (.Attribute o m apos) (e :: es) kws pos) X.env = (do
      let ov ← eval o X.env
      standAt apos.atName
      let (f, first) ← holding [ov] (getMethod ov m pl)
      callWith pos f first (backTo pos (starEach (e :: es) X.env)) (backToKw pos (keywordEach kws X.env))) := by rfl) :
    PEd X cl (.Call (.Attribute o m apos) (e :: es) kws pos) (dMeth c m sp to t tk) := by
  refine ⟨fun pins s σ H Q I ⟨ρ, C, F, Qd, R, h, kq⟩ => ?_⟩
  refine PySem.W.methodCall_KW (pl := pl) (thn (ho.run pins s σ H (fun v H1 => ∃ d C1 F1, Same F F1 ∧ RC X.K cl C1 F1 H1 ∧ Rep X.K cl F1 v d ∧ ∃ fs, insOf C1 d = some (c, fs) ∧ fs.lookup m = none ∧ t ρ C1 fun xs C2 => tk ρ C2 fun zs C3 => sp (d :: xs) zs C3 Qd noX) I
    ⟨ρ, C, F, _, R, h, fun v d C1 H1 F1 s1 R1 r1 q1 => ⟨d, C1, F1, s1, R1, r1, q1⟩⟩) fun u s1 ⟨v, H1, I1, rv, d, C1, F1, s1', R1, r1, fs, hi, hl, q1⟩ => ?_) ht
  obtain ⟨a, dx, vs, rfl, ha1, rf⟩ := ins_ok R1 r1 hi
  obtain rfl : u = Value.ref a := rv
  refine getmeth_ok I1 ha1 hcl hm (rf.none_of hl) ?_
  refine cal_args (first := [.ref a]) hm.kp I1 ha hkw (R.next s1' R1) q1 (fun us ws vs zs s2 H2 F2 C2 ds es I2 s2' R2 r rz rl r2 q2 => ?_) hall hks he hpl
  exact fc.go (us := .ref a :: us) (vs := .ref a :: vs) hr rfl hx I2 (.cons rfl r) rz ⟨d :: ds, es, C2, F2, Qd, noX, R2, .cons (r1.mono s2') rl, r2, q2, kq.at (s1'.trans s2'), fun _ _ _ _ _ _ _ _ _ _ z => z.elim⟩
/-- o.m(k = v, ..) -/
theorem de_meth0 {pl : Sem Bool} (fc : Cee X.prog X.w X.K cl X.mg X.base CX k g ks sp) (hr : Room k X.A) (hx : Passes CX X E0) (hcl : Cls X.K (cl c)) (hm : Meth X.K (cl c) m g) (ho : PEd X cl o to) (hkw : PKd X cl kws tk)
    (hall : (backToKw pos (keywordEach kws X.env)).all (·.1.isSome) = true := by rfl) (hks : (backToKw pos (keywordEach kws X.env)).filterMap (·.1) = ks := by rfl)
    (hpl : ((backTo pos (starEach [] X.env)).any (·.1) || (backToKw pos (keywordEach kws X.env)).any (·.1.isNone)) = false := by rfl)
    (ht : eval (.Call (.Attribute o m apos) [] kws pos) X.env = (do
      let ov ← eval o X.env
      standAt apos.atName
      let (f, first) ← holding [ov] (getMethod ov m pl)
      callWith pos f first (backTo pos (starEach [] X.env)) (backToKw pos (keywordEach kws X.env))) := by rfl) :
    PEd X cl (.Call (.Attribute o m apos) [] kws pos) (dMeth c m sp to dNil tk) := by
  refine ⟨fun pins s σ H Q I ⟨ρ, C, F, Qd, R, h, kq⟩ => ?_⟩
  refine PySem.W.methodCall_KW (pl := pl) (thn (ho.run pins s σ H (fun v H1 => ∃ d C1 F1, Same F F1 ∧ RC X.K cl C1 F1 H1 ∧ Rep X.K cl F1 v d ∧ ∃ fs, insOf C1 d = some (c, fs) ∧ fs.lookup m = none ∧ tk ρ C1 fun zs C3 => sp [d] zs C3 Qd noX) I
    ⟨ρ, C, F, _, R, h, fun v d C1 H1 F1 s1 R1 r1 q1 => ⟨d, C1, F1, s1, R1, r1, q1⟩⟩) fun u s1 ⟨v, H1, I1, rv, d, C1, F1, s1', R1, r1, fs, hi, hl, q1⟩ => ?_) ht
  obtain ⟨a, dx, vs, rfl, ha1, rf⟩ := ins_ok R1 r1 hi
  obtain rfl : u = Value.ref a := rv
  refine getmeth_ok I1 ha1 hcl hm (rf.none_of hl) ?_
  refine cal_args0 (first := [.ref a]) hm.kp I1 hkw (R.next s1' R1) (Qd := fun xs zs C3 => sp (d :: xs) zs C3 Qd noX) q1 (fun us ws vs zs s2 H2 F2 C2 ds es I2 s2' R2 r rz rl r2 q2 => ?_) hall hks hpl
  exact fc.go (us := .ref a :: us) (vs := .ref a :: vs) hr rfl hx I2 (.cons rfl r) rz ⟨d :: ds, es, C2, F2, Qd, noX, R2, .cons (r1.mono s2') rl, r2, q2, kq.at (s1'.trans s2'), fun _ _ _ _ _ _ _ _ _ _ z => z.elim⟩
end
end G
namespace G
open PySem PySem.Spec PyProof.Rows L2
/-! ### a new instance; own special methods -/
section
variable {X : Cx} {cl : NmB} {CX : CXT} {k : Nat} {g : Addr} {ks : List Str} {sp : DSp2} {e o : Expr} {es : List Expr} {kws : List Keyword} {to : DE} {t tk : DA} {pos apos p : Pos} {x m : Str} {c : String} {te : DE}
theorem Cee.make {us ws : List Value} {vs zs : List V} {ds es : List D} {C : Cl} {F H : Hp} {pins : List (Addr × Obj)} {s : Shared} {σ : L2.St} {Qd : DQ} {Q : VK} (fc : Cee X.prog X.w X.K cl X.mg X.base CX k g ks sp) (M : Mk X.K (cl c) g) (hr : Room (k + 1) X.A) (hx : Passes CX X E0)
    (I : Inv X pins σ H s) (r : Vals vs us) (rz : Vals zs ws) (R : RC X.K cl C F H) (rl : RepL X.K cl F vs ds) (rs : RepL X.K cl F zs es)
    (h : ∀ x, C x = none → sp (.ref x :: ds) es (updC C x (.ins c [])) (fun v C4 => v = .non ∧ Qd (.ref x) C4) noX) (kq : Fin X.K cl F Qd Q) :
    wpAny (model X.prog X.w) X.A (call (.ref (cl c)) us (ks.zip ws)) (EP X pins σ Q) X.xe s := by
  have n1 : H (s.heap.objs.size + 1) = none := I.hok.fresh (Nat.le_succ _)
  have n2 : H s.heap.objs.size = none := I.hok.fresh (Nat.le_refl _)
  have ne : s.heap.objs.size ≠ s.heap.objs.size + 1 := Nat.ne_of_lt (Nat.lt_succ_self _)
  have I2 := Inv.made (C := cl c) I
  have R1 : RC X.K cl C F (upd H s.heap.objs.size (.own (s.heap.objs.size + 1))) := R.over (same_upd n2)
  have n3 : (upd H s.heap.objs.size (.own (s.heap.objs.size + 1))) (s.heap.objs.size + 1) = none := by rw [upd_ne (Ne.symm ne)]; exact n1
  have R2 : RC X.K cl (updC C (s.heap.objs.size + 1) (.ins c [])) F (upd (upd H s.heap.objs.size (.own (s.heap.objs.size + 1))) (s.heap.objs.size + 1) (.ins (cl c) s.heap.objs.size [])) := R1.cell n3 (.ins .nil)
  have hq := h (s.heap.objs.size + 1) (R.freeC n1)
  have low : lowC2 X.K cl sp (V.ref (s.heap.objs.size + 1) :: vs) zs (upd (upd H s.heap.objs.size (.own (s.heap.objs.size + 1))) (s.heap.objs.size + 1) (.ins (cl c) s.heap.objs.size [])) (fun v H3 => v = .non ∧ Q (.ref (s.heap.objs.size + 1)) H3) E0 :=
    ⟨.ref (s.heap.objs.size + 1) :: ds, es, _, F, _, noX, R2, .cons (.ref _) rl, rs, hq, fun v d C3 H3 F3 s3 R3 r3 ⟨e3, q3⟩ => by subst e3; cases r3; exact ⟨rfl, kq _ _ C3 H3 F3 s3 R3 (.ref _) q3⟩, fun _ _ _ _ _ _ _ _ _ _ z => z.elim⟩
  refine wpAny_call (make_map (f := g) I.kIn M.makes M.init (beq_iff_eq.mp M.fn) (codeAny_mono (fc _ X.stack _ _ (Value.ref (s.heap.objs.size + 1) :: us) ws (V.ref (s.heap.objs.size + 1) :: vs) zs _ _ (hr.make (cl c) us (ks.zip ws)) (I2.env0.make (cl c) us (ks.zip ws)) (.cons rfl r) rz low) fun rr s' hq' => ?_))
  cases rr with
  | error er => exact hx pins σ _ _ er s' I2 hq'
  | ok fl =>
    cases fl with
    | ret u =>
      obtain ⟨v, H', I3, rv, ev, q3⟩ := I2.after hq'
      subst ev
      exact ⟨rv, ⟨V.ref (s.heap.objs.size + 1), H', I3, rfl, q3⟩⟩
    | next => exact False.elim hq'
    | brk => exact False.elim hq'
    | cont => exact False.elim hq'
/-- C(e, .., k = v, ..) -/
theorem de_make (fc : Cee X.prog X.w X.K cl X.mg X.base CX k g ks sp) (M : Mk X.K (cl c) g) (hr : Room (k + 1) X.A) (hx : Passes CX X E0) (hm : X.mg x = some (.ref (cl c))) (ha : PAd X cl (e :: es) t) (hkw : PKd X cl kws tk)
    (hg : Gl X x := by rfl) (hall : (backToKw pos (keywordEach kws X.env)).all (·.1.isSome) = true := by rfl) (hks : (backToKw pos (keywordEach kws X.env)).filterMap (·.1) = ks := by rfl) (hdb : (x == ("__debug__" : Str)) = false := by decide)
    (he : starEach (e :: es) X.env = (false, eval e X.env) :: starEach es X.env := by rfl) (hpl : ((backTo pos (starEach (e :: es) X.env)).any (·.1) || (backToKw pos (keywordEach kws X.env)).any (·.1.isNone)) = false := by rfl) :
    PEd X cl (.Call (.Name x p) (e :: es) kws pos) (dMake c sp t tk) := by
  refine ⟨fun pins s σ H Q I ⟨ρ, C, F, Qd, R, h, kq⟩ => ?_⟩
  refine wpAny_Call_Name_kw (ld_glob I hg hm ?_ hdb)
  refine cal_args (first := []) M.kp I ha hkw R h (fun us ws vs zs s2 H2 F2 C2 ds es I2 s2' R2 r rz r1 r2 q2 => ?_) hall hks he hpl
  exact fc.make M hr hx I2 r rz R2 r1 r2 q2 (kq.at s2')
/-- the instance as the library sees it -/
theorem inst_at {pins : List (Addr × Obj)} {s : Shared} {σ : L2.St} {H : Hp} {a dx : Addr} {vs : List (Str × V)} (I : Inv X pins σ H s) (h : H a = some (.ins (cl c) dx vs)) : ∃ ox od, PySem.W.InstAt s.heap a ox (cl c) (some od) := by
  obtain ⟨mA, J, _⟩ := ins_get I.hok h
  obtain ⟨od, J, _⟩ := J.look
  exact ⟨_, _, J⟩
/-- an own special method m of the class c: its def at g -/
structure Spc (K : PySem.W.Frag) (cl : Nm) (c : String) (m : Str) (g : Addr) : Prop where
  at_ : PySem.W.findIn K (.ref (cl c)) m = some (some (.ref g))
  fn : PySem.W.isFn K (.ref g) = true
def rInO (c : String) (sp : DSp2) (neg : Bool) : RD2 := fun x y C Q => ∃ fs, insOf C y = some (c, fs) ∧ sp [y, x] [] C (fun d C1 => ∃ b, d = .bl b ∧ Q (.bl (neg.xor b)) C1) noX
theorem od_inO (fc : Cee X.prog X.w X.K cl X.mg X.base CX k g [] sp) (hr : Room k X.A) (hx : Passes CX X E0) (S : Spc X.K cl c "__contains__" g) : OpD X cl (compareOp .In) (rInO c sp false) := by
  intro pins s σ H x y v u Q I rx ry ⟨dx, dy, C, F, Qd, R, r1, r2, ⟨fs, hi, h⟩, kq⟩
  obtain ⟨a, ad, vs, rfl, ha, rf⟩ := ins_ok R r2 hi
  cases ry
  obtain ⟨ox, od, J⟩ := inst_at I ha
  obtain ⟨m, hF⟩ := I.fr
  refine PySem.W.in_K hF I.ok.mod.kin J S.at_ S.fn ?_
  refine thn (fc.goD (vs := [.ref a, x]) hr rfl hx I (.cons rfl (.cons rx .nil)) R (.cons r2 (.cons r1 .nil)) h (Q := fun v H1 => ∃ b, v = .bl b ∧ Q (.bl b) H1) fun w d C1 H1 F1 s1 R1 rd ⟨b, e, q⟩ => ?_) fun w s2 ⟨z, H2, I2, rz, b, ez, q⟩ => ?_
  · subst e; cases rd
    rw [Bool.false_xor] at q
    exact ⟨b, rfl, kq _ _ C1 H1 F1 s1 R1 (.bl b) q⟩
  · subst ez; cases rz
    exact wpAny_truthy_bool ⟨.bl b, H2, I2, rfl, q⟩
/-- len(o) -/
def rLenO (c : String) (sp : DSp2) : RDC := fun xs C Q => ∃ x fs, xs = [x] ∧ insOf C x = some (c, fs) ∧ sp [x] [] C (fun d C1 => ∃ n : Nat, d = .int n ∧ n < 2 ^ 62 ∧ Q (.int n) C1) noX
theorem cd_lenO (fc : Cee X.prog X.w X.K cl X.mg X.base CX k g [] sp) (hr : Room (k + 1) X.A) (hx : Passes CX X E0) (S : Spc X.K cl c "__len__" g) : CallD X cl (.builtin "len") (rLenO c sp) := by
  intro pins s σ H xs us Q I r ⟨ds, C, F, Qd, R, rl, ⟨x, fs, e, hi, h⟩, kq⟩
  subst e
  cases rl with
  | cons r1 rr =>
    cases rr
    obtain ⟨a, ad, vs, rfl, ha, rf⟩ := ins_ok R r1 hi
    cases r with
    | cons q1 q2 =>
      cases q2; cases q1
      obtain ⟨ox, od, J⟩ := inst_at I ha
      obtain ⟨m, hF⟩ := I.fr
      refine PySem.W.len_K hF I.ok.mod.kin J S.at_ S.fn ?_
      refine thn (fc.goD (A := X.A.in1) (vs := [.ref a]) hr.in1 rfl hx I (.cons rfl .nil) R (.cons r1 .nil) h (Q := fun v H1 => ∃ n : Nat, v = .int n ∧ n < 2 ^ 62 ∧ Q (.int n) H1) fun w d C1 H1 F1 s1 R1 rd ⟨n, e, hn, q⟩ => ?_) fun w s2 ⟨z, H2, I2, rz, n, ez, hn, q⟩ => ?_
      · subst e; cases rd
        exact ⟨n, rfl, hn, kq _ _ C1 H1 F1 s1 R1 (.int n) q⟩
      · subst ez
        obtain ⟨tk, rfl⟩ := (show ∃ tk, w = Value.int n tk from rz)
        exact ⟨⟨by omega, by omega⟩, .int n, H2, I2.tok _, ⟨_, rfl⟩, q⟩
/-- o[i] -/
def rIxO (c : String) (sp : DSp2) : RD2 := fun x y C Q => ∃ fs, insOf C x = some (c, fs) ∧ sp [x, y] [] C Q noX
theorem ix_okO (fc : Cee X.prog X.w X.K cl X.mg X.base CX k g [] sp) (hr : Room (k + 1) X.A) (hx : Passes CX X E0) (S : Spc X.K cl c "__getitem__" g) (hf : PySem.W.fnIn X.K g = true) {value slice : Expr}
    (hsl : ∀ x i, subscripted slice true x i = runValue (.builtin "lifetime.subscript" ⟨[x, i], []⟩)) :
    ∀ pins s σ H x y v u Q, Inv X pins σ H s → RelV x v → RelV y u → lowR X.K cl (rIxO c sp) x y H Q → wpAny (model X.prog X.w) X.A (subscriptTail value slice v u) (EP X pins σ Q) X.xe s := by
  intro pins s σ H x y v u Q I rx ry ⟨dx, dy, C, F, Qd, R, r1, r2, ⟨fs, hi, h⟩, kq⟩
  obtain ⟨a, ad, vs, rfl, ha, rf⟩ := ins_ok R r1 hi
  cases rx
  obtain ⟨ox, od, J⟩ := inst_at I ha
  obtain ⟨m, hF⟩ := I.fr
  refine PySem.W.sub_K hF I.ok.mod.kin J S.at_ hf S.fn ?_ (hsl _ _)
  exact fc.goD (A := X.A.in1) (vs := [.ref a, y]) hr.in1 rfl hx I (.cons rfl (.cons ry .nil)) R (.cons r1 (.cons r2 .nil)) h kq
end
end G
namespace G
open PySem PySem.Spec PyProof.Rows L2
/-! ### how the values written stand to the parameters -/
def pos2 (sp : DSp) (dd : List D) : DSp2 := fun ds es C Q E => es = [] ∧ sp (ds ++ dd) C Q E
section
variable {P : Program} {w : World} {K : PySem.W.Frag} {cl : Nm} {mg : Str → Option Value} {base : Heap} {CX : CXT} {k n : Nat} {f : Addr} {fd : FuncData} {ps ks : List Str} {sp : DSp}
theorem Cee.posD {dv : List Value} {dw : List V} {dd : List D} (FG : FnOk P w K mg base CX k f fd ps (lowSp K cl sp)) (hb : Binds K fd ps dv) (hd : Vals dw dv) (hv : ∀ F, RepL K cl F dw dd) : Cee P w K cl mg base CX k f [] (pos2 sp dd) := Cee.pos FG hb hd hv
end

/-! ### three names at once -/
def dPar3 (i j l : Nat) (t : DA) : DS := fun D ρ C => t ρ C fun ds C2 => ∃ u v w, ds = [u, v, w] ∧ D.nx (((ρ.set i (some u)).set j (some v)).set l (some w)) C2
theorem ds_par3 {X : Cx} {cl : NmB} (i j l : Nat) {x y z : Str} {a b c : Expr} {t : DA} {px py pz pt pos : Pos} {kt k2 pt2} (hN : X.N.Nodup) (ha : PAd X cl [a, b, c] t) (hc : X.calm = true := by rfl) (hi : X.N[i]? = some x := by rfl) (hj : X.N[j]? = some y := by rfl) (hl : X.N[l]? = some z := by rfl) (hij : i ≠ j := by decide) (hil : i ≠ l := by decide) (hjl : j ≠ l := by decide)
    (hx : X.env.scope.names.lookup x = some .local := by rfl) (hy : X.env.scope.names.lookup y = some .local := by rfl) (hz : X.env.scope.names.lookup z = some .local := by rfl)
    (hw : swappedStores [.Tuple [.Name x px, .Name y py, .Name z pz] kt pt] (.Tuple [a, b, c] k2 pt2) X.env = pure (some [x, y, z]) := by rfl)
    (hs : swapsWithSole [.Tuple [.Name x px, .Name y py, .Name z pz] kt pt] (.Tuple [a, b, c] k2 pt2) pos.line X.env = pure false := by rfl) :
    PSd X cl (.Assign [.Tuple [.Name x px, .Name y py, .Name z pz] kt pt] (.Tuple [a, b, c] k2 pt2) pos) (dPar3 i j l t) := by
  refine weakS (ps_par3 hc hN hi hj hl hij hil hjl hx hy hz ha hw hs) fun De σ H ⟨ρ, C, F, Dd, R, h, k⟩ => ?_
  refine ⟨ρ, C, F, _, R, h, fun vs ds C1 H1 F1 s1 R1 r1 ⟨u, v, w, e, q⟩ => ?_⟩
  subst e
  cases r1 with
  | cons ru rr =>
    cases rr with
    | cons rv rr =>
      cases rr with
      | cons rw' rr =>
        cases rr
        exact ⟨_, _, _, rfl, k.nx _ _ F1 _ _ s1 ((((R.next s1 R1).set i ru).set j rv).set l rw') q⟩
theorem boot_repr_ : bootBuiltins "repr" = some (.builtin "repr") := by decide +kernel
/-! ### names of classes, their constants -/
section
variable {X : Cx} {cl : NmB} {x f : Str} {c : String} {pos p : Pos}
theorem de_clsn (hm : X.mg x = some (.ref (cl c))) (hg : Gl X x := by rfl) (hd : (x == ("__debug__" : Str)) = false := by decide) : PEd X cl (.Name x pos) (dC (.cls c)) :=
  ⟨fun pins s σ H Q I ⟨ρ, C, F, Qd, R, h, k⟩ => ld_glob I hg hm ⟨.ref (cl c), H, I, rfl, k _ _ C H F (Same.refl F) R.rc (.cls c) h⟩ hd⟩
/-! ### isinstance of own classes -/
/-- what isinstance wants of an own class whose instances are asked for -/
structure OwnTy (K : PySem.W.Frag) (cl : Nm) (c : String) : Prop where
  cls : Cls K (cl c)
  ha : PySem.W.findIn K (.ref (cl c)) "__class__" = some (some (.builtin "object.__class__"))
  hn : PySem.W.specialIn K (.builtin "object.__class__") "__get__" = some (some (.builtin "getset_descriptor.__get__"))
  tk : PySem.W.takesIn K (.builtin "object.__class__") = some true
  hm : PySem.W.mroIn K (cl c) (.type "object") = some true
/-- the built-in things are no instances of c; those of cs are told -/
structure IsiOwn (K : PySem.W.Frag) (cl : Nm) (c : String) (cs : List String) : Prop where
  blt : ∀ n ∈ (["NoneType", "bool", "int", "str", "list", "tuple", "dict"] : List String), PySem.W.kitOne K (.type n) (.ref (cl c)) = some false
  own : ∀ b ∈ cs, OwnTy K cl b ∧ PySem.W.kitOne K (.ref (cl b)) (.ref (cl c)) = some (b == c)
def rIsiO (c : String) (cs : List String) : RDC := fun xs C Q => ∃ x, xs = [x, .cls c] ∧ ((∃ n, tyNm x C = some n ∧ Q (.bl false) C) ∨ (∃ b fs, insOf C x = some (b, fs) ∧ b ∈ cs ∧ Q (.bl (b == c)) C))
theorem ins_ty {K : PySem.W.Frag} {C : Cl} {F H : Hp} {v : V} {d : D} {b : String} {fs : List (Str × D)} (R : RC K cl C F H) (r : Rep K cl F v d) (h : insOf C d = some (b, fs)) (o : OwnTy K cl b) : TyX K H v (.ref (cl b)) := by
  obtain ⟨a, dx, vs, rfl, ha, _⟩ := ins_ok R r h
  exact .base (.ins ha o.cls o.ha o.hn o.tk o.hm)
theorem tyNm_mem {d : D} {C : Cl} {n : String} (hn : tyNm d C = some n) : n ∈ (["NoneType", "bool", "int", "str", "list", "tuple", "dict"] : List String) := by
  cases d <;> first
    | (simp only [tyNm, Option.some.injEq] at hn; subst hn; decide)
    | (simp only [tyNm] at hn; split at hn <;> first | (cases hn; decide) | cases hn)
    | cases hn
theorem cd_isiO {cs : List String} (hk : IsiOwn X.K cl c cs) : CallD X cl (.builtin "isinstance") (rIsiO c cs) := by
  intro pins s σ H xs us Q I r ⟨ds, C, F, Qd, R, rl, ⟨x, e, q⟩, k⟩
  subst e
  cases rl with
  | cons r1 rr =>
    cases rr with
    | cons r2 rr =>
      cases rr; cases r2
      rcases q with ⟨n, hn, q⟩ | ⟨b, fs, hi, hb, q⟩
      · exact call_isi pins s σ H _ us Q I r ⟨_, _, _, _, _, rfl, .own _, tyX_ok R r1 hn, hk.blt n (tyNm_mem hn), k _ _ C H F (Same.refl F) R (.bl _) q⟩
      · exact call_isi pins s σ H _ us Q I r ⟨_, _, _, _, _, rfl, .own _, ins_ty R r1 hi (hk.own b hb).1, (hk.own b hb).2, k _ _ C H F (Same.refl F) R (.bl _) q⟩
end

/-! ### f-strings -/
section
variable {X : Cx} {cl : NmB} {e : Expr} {te : DE} {pos : Pos} {K : PySem.W.Frag}
end
end G
namespace G
open PySem PySem.Spec PyProof.Rows L2
/-! ### new lists that are to change -/
section
variable {X : Cx} {cl : NmB}
/-- list(x), to be changed -/
def rListC : RDC := fun xs C Q => ∃ x ds, xs = [x] ∧ seqOf C x = some ds ∧ ∀ p, C p = none → Q (.ref p) (updC C p (.lst ds))
theorem cd_listC : CallD X cl (.type "list") rListC := by
  intro pins s σ H xs us Q I r ⟨ds, C, F, Qd, R, rl, ⟨x, es, e, hb, q⟩, k⟩
  subst e
  cases rl with
  | cons r1 rr =>
    cases rr
    obtain ⟨a, ys, rfl, hs, hl⟩ := seq_ok R r1 hb
    refine call_list_of pins s σ H _ us Q I r ⟨a, ys, rfl, hs, fun p np => ?_⟩
    exact k _ _ _ _ F (Same.refl F) (R.cell np (.lst hl)) (.ref p) (q p (R.freeC np))
end
end G
namespace G
open PySem PySem.Spec PyProof.Rows L2
/-! ### things that can be compared whole -/
def Sh (n : Nat) (d : D) : Prop := plain d = true ∧ (toPy d).canLay0 = true ∧ (toPy d).depth ≤ n
def ShL (n : Nat) (ds : List D) : Prop := plainL ds = true ∧ PyData.canLayAll0 (toPyL ds) = true ∧ PyData.depthAll (toPyL ds) ≤ n
theorem sh_nil {n : Nat} : ShL n [] := by
  refine ⟨by unfold plainL; rfl, by unfold toPyL PyData.canLayAll0; rfl, ?_⟩
  unfold toPyL PyData.depthAll
  exact Nat.zero_le _
theorem sh_cons {n : Nat} {d : D} {ds : List D} (h : Sh n d) (r : ShL n ds) : ShL n (d :: ds) := by
  obtain ⟨a1, a2, a3⟩ := h
  obtain ⟨b1, b2, b3⟩ := r
  refine ⟨by unfold plainL; rw [a1, b1]; rfl, by unfold toPyL PyData.canLayAll0; rw [a2, b2]; rfl, ?_⟩
  unfold toPyL PyData.depthAll
  exact Nat.max_le.mpr ⟨a3, b3⟩
theorem sh_tup {n : Nat} {ds : List D} (h : ShL n ds) : Sh (n + 1) (.tup ds) := by
  obtain ⟨a1, a2, a3⟩ := h
  refine ⟨by unfold plain; exact a1, by unfold toPy PyData.canLay0; exact a2, ?_⟩
  unfold toPy PyData.depth
  omega
theorem sh_lst {n : Nat} {ds : List D} (h : ShL n ds) : Sh (n + 1) (.lst ds) := by
  obtain ⟨a1, a2, a3⟩ := h
  refine ⟨by unfold plain; exact a1, by unfold toPy PyData.canLay0; exact a2, ?_⟩
  unfold toPy PyData.depth
  omega
theorem sh_non {n : Nat} : Sh n .non := ⟨by unfold plain; rfl, by unfold toPy PyData.canLay0; rfl, by unfold toPy PyData.depth; omega⟩
theorem sh_bl {n : Nat} {b : Bool} : Sh n (.bl b) := ⟨by unfold plain; rfl, by unfold toPy PyData.canLay0; rfl, by unfold toPy PyData.depth; omega⟩
theorem sh_int {n : Nat} {i : Int} : Sh n (.int i) := ⟨by unfold plain; rfl, by unfold toPy PyData.canLay0; rfl, by unfold toPy PyData.depth; omega⟩
def small (l : List Nat) : Bool := l.all fun c => decide (c < 1114112)
theorem sh_str {n : Nat} {l : List Nat} (h : small l = true) : Sh n (.str l) := by
  refine ⟨by unfold plain; rfl, ?_, by unfold toPy PyData.depth; omega⟩
  unfold toPy PyData.canLay0 PyData.strOk
  rw [List.all_toArray]
  exact h
theorem Sh.mono {n m : Nat} {d : D} (h : Sh n d) (e : n ≤ m) : Sh m d := ⟨h.1, h.2.1, Nat.le_trans h.2.2 e⟩
theorem Sh.shp {n : Nat} {d : D} (h : Sh n d) (e : n ≤ 64 := by decide) : shp d = true := by
  unfold G.shp SeqAt.shaped
  rw [h.1, h.2.1, decide_eq_true (Nat.le_trans h.2.2 e)]
  rfl
theorem eqT_self {n : Nat} {d : D} (h : Sh n d) : eqT d d = true := SeqAt.eqv_refl _ h.2.1
theorem ne_self {n : Nat} {d : D} {C : Cl} {Q : DQ} (h : Sh n d) (hq : Q (.bl false) C) (e : n ≤ 64 := by decide) : rNeD d d C Q := .inr ⟨h.shp e, h.shp e, by rw [eqT_self h]; exact hq⟩
theorem sh_txts {n : Nat} : ∀ {ls : List (List Nat)}, (∀ l ∈ ls, small l = true) → ShL n (txts ls)
  | [], _ => sh_nil
  | l :: ls, h => sh_cons (sh_str (h l (by simp))) (sh_txts fun z hz => h z (by simp [hz]))
end G
namespace PySem.W
open Lean Elab Tactic Meta PySem PySem.Spec PySem.Calls PyProof.Rows
section
variable {prog : Program} {w : World} {M : Model} {A : Around} {E : Value → Shared → Prop} {s : Shared} {K : Frag} {x C f L : Addr} {h₀ : Heap} {m : Str → Option Value} {ox : Obj} {od : Option Obj} {b tb : Value}
theorem gne_bound {name : Str} {id : String} {args : List Value} {Q : Option Value → Shared → Prop} (X : K.In s.heap) (I : InstAt s.heap x ox C od) (hs : findIn K (.ref C) name = some (some (.builtin id)))
    (hb : ∀ self, bindSpecial (.builtin id) self = pure (.builtin id, [self])) (h : wpAny M A (call (.builtin id) (.ref x :: args)) (fun v => Q (some v)) E s) : wpAny M A (callSpecialIfBound? (.ref x) name args) Q E s := by
  simp only [callSpecialIfBound?, bindSpecialIfBound?]
  refine wpAny_holding (wpAny_bind (wpAny_bind (wpAny_bind (I.type.here ((looks_findIn X hs).here ?_)))))
  simp only [hb]
  refine wpAny_bind (wpAny_askSetting (wpAny_ite ?_))
  have fin : wpAny M A (call (.builtin id) ([.ref x] ++ args) >>= fun v => pure (some v)) Q E s := wpAny_bind (wpAny_mono h (fun v s' h' => wpAny_pure h') fun _ _ h' => h')
  split
  · exact wpAny_bind (wpAny_pure (wpAny_pure fin))
  · exact wpAny_tryCatch (wpAny_bind (wpAny_pure (wpAny_pure fin)))
theorem gne_slot : Slot "object" "__ne__" "object.__ne__" := .of (owner := "object") (n := "__ne__") (by rw [typeLookup_type, builtinLookup_eq_fast]; kernel_rfl) (by decide +kernel) (by decide +kernel) (by decide +kernel)
    (by first | exact .inl (by decide +kernel) | exact .inr (by decide +kernel)) (by rw [isSubtype_type]; kernel_rfl)
theorem gne_call {Q : Value → Shared → Prop} (hu : A.in1.units < cLine) (X : K.In s.heap) (I : InstAt s.heap x ox C od) (hm : mroIn K C (.type "object") = some true) (hr : findIn K (.ref C) "__eq__" = some (some (.ref f))) (hf : isFn K (.ref f) = true)
    (h : wpAny (model prog w) A.in1 (call (.ref f) [.ref x, b]) (fun v s' => ∃ k, v = .bool k ∧ Q (.bool (!k)) s') E s) : wpAny (model prog w) A (call (.builtin "object.__ne__") [.ref x, b]) Q E s := by
  refine wpAny_call (codeAny_call_builtin gne_slot.plain F.cmpEntry_ne (check_slot (i := "object.__ne__") (owner := "object") (n := "__ne__") F.cmpKind_ne F.cmpSplit_ne (I.type.andThen (looks_mroIn X hm)) (F.cmpArgs_ne _ _) ?_))
  unfold Builtin.«object.__ne__»
  refine wpAny_bind (m := slotArgs "__ne__" 1 _) (wpAny_pure ?_)
  refine wpAny_bind (m := cRoomFor _ _) (wpAny_cRoomFor hu ?_)
  refine wpAny_bind (m := callSpecialIfBound? (.ref x) (Str.ofString "__eq__") _) (ifBound_K X I hr hf (wpAny_mono h (fun r s' hq => ?_) fun _ _ y => y))
  obtain ⟨k, rfl, hq⟩ := hq
  exact wpAny_bind (wpAny_truthy_bool (wpAny_pure hq))
theorem gne_K {Q : Value → Shared → Prop} (hu : A.units < cLine) (hu1 : A.in1.units < cLine) (F : Fr h₀ L s.heap m) (X₀ : K.In h₀) (I : InstAt s.heap x ox C od) (hb : Looks (model prog w) s.heap (typeOf b) tb) (hn : notFirst K C tb = true)
    (hs : findIn K (.ref C) "__ne__" = some (some (.builtin "object.__ne__"))) (hm : mroIn K C (.type "object") = some true) (hr : findIn K (.ref C) "__eq__" = some (some (.ref f))) (hf : isFn K (.ref f) = true)
    (h : wpAny (model prog w) A.in1 (call (.ref f) [.ref x, b]) (fun v s' => ∃ k, v = .bool k ∧ Q (.bool (!k)) s') E s) : wpAny (model prog w) A (richCompare .NotEq (.ref x) b) Q E s := by
  have X := X₀.keeps F.keep
  have one : wpAny (model prog w) A (tryCompare (.ref x) (cmpInfo .NotEq).2.1 b) (fun r s' => ∃ v, r = some v ∧ Q v s') E s := by
    unfold tryCompare
    refine wpAny_bind (gne_bound X I hs gne_slot.bind (gne_call hu1 X I hm hr hf (wpAny_mono h (fun v s' hv => ?_) fun _ _ e => e)))
    obtain ⟨k, rfl, hq⟩ := hv
    exact ⟨k, rfl, wpAny_pure ⟨_, rfl, hq⟩⟩
  unfold richCompare
  simp only [oneThing_ref]
  refine wpAny_holding (wpAny_bind (wpAny_cRoomFor hu ?_))
  refine wpAny_bind (I.type.here (wpAny_bind (hb.here ?_)))
  split
  · rename_i q
    have e : subIn K tb (.ref C) = some false := by
      rcases Bool.or_eq_true_iff.mp hn with e | e
      · rw [beq_iff_eq.mp e] at q; simp at q
      · exact beq_iff_eq.mp e
    refine wpAny_bind ((looks_subIn X e).here ?_)
    simp only [Bool.false_eq_true, if_false]
    refine wpAny_bind (wpAny_mono one (fun r s' z => ?_) fun _ _ e => e)
    obtain ⟨v, rfl, hq⟩ := z
    exact wpAny_pure hq
  · refine wpAny_bind (wpAny_pure ?_)
    simp only [Bool.false_eq_true, if_false]
    refine wpAny_bind (wpAny_mono one (fun r s' z => ?_) fun _ _ e => e)
    obtain ⟨v, rfl, hq⟩ := z
    exact wpAny_pure hq
end
end PySem.W
namespace G
open PySem PySem.Spec PyProof.Rows L2
/-! ### own == and != -/
/-- what != wants of a class with its own ==: object's != , == at g -/
structure NeO (K : PySem.W.Frag) (cl : Nm) (c : String) : Prop where
  ne : PySem.W.findIn K (.ref (cl c)) "__ne__" = some (some (.builtin "object.__ne__"))
  hm : PySem.W.mroIn K (cl c) (.type "object") = some true
section
variable {X : Cx} {cl : NmB} {CX : CXT} {k : Nat} {g : Addr} {sp : DSp2} {c : String}
theorem not_first {K : PySem.W.Frag} {C : Addr} {n : String} (h : n ∈ (["NoneType", "bool", "int", "str", "list", "tuple", "dict"] : List String)) : PySem.W.notFirst K C (.type n) = true := by
  simp only [List.mem_cons, List.not_mem_nil, or_false] at h
  unfold PySem.W.notFirst
  rw [Bool.or_eq_true]
  rcases h with rfl | rfl | rfl | rfl | rfl | rfl | rfl <;> exact .inr rfl
/-- y is an instance of c too, or a built-in thing -/
def rEqA (c : String) (sp : DSp2) (neg : Bool) : RD2 := fun x y C Q => (∃ fs, insOf C x = some (c, fs)) ∧ ((∃ gs, insOf C y = some (c, gs)) ∨ ∃ n, tyNm y C = some n) ∧ sp [x, y] [] C (fun d C1 => ∃ b, d = .bl b ∧ Q (.bl (neg.xor b)) C1) noX
theorem od_neA (fc : Cee X.prog X.w X.K cl X.mg X.base CX k g [] sp) (hr : Room (k + 1) X.A) (hx : Passes CX X E0) (S : Spc X.K cl c "__eq__" g) (N : NeO X.K cl c) : OpD X cl (compareOp .NotEq) (rEqA c sp true) := by
  intro pins s σ H x y v u Q I rx ry ⟨dx, dy, C, F, Qd, R, r1, r2, ⟨⟨fs, hi⟩, hj, h⟩, kq⟩
  obtain ⟨a, ad, vs, rfl, ha, rf⟩ := ins_ok R r1 hi
  cases rx
  obtain ⟨ox, od, J⟩ := inst_at I ha
  obtain ⟨m, hF⟩ := I.fr
  show wpAny (model X.prog X.w) X.A (richCompare .NotEq (.ref a) u) (EP X pins σ Q) X.xe s
  have ty : ∃ tb, PySem.W.Looks (model X.prog X.w) s.heap (typeOf u) tb ∧ PySem.W.notFirst X.K (cl c) tb = true := by
    rcases hj with ⟨gs, hj⟩ | ⟨n, hn⟩
    · obtain ⟨b, bd, us, rfl, hb, rg⟩ := ins_ok R r2 hj
      cases ry
      obtain ⟨oy, oe, J'⟩ := inst_at I hb
      exact ⟨_, J'.type, by simp [PySem.W.notFirst]⟩
    · obtain ⟨P, Z, p, _⟩ := kit_of I ry (tyX_ok R r2 hn)
      exact ⟨_, Z.ty _ _ I.kIn p, not_first (tyNm_mem hn)⟩
  obtain ⟨tb, t1, t2⟩ := ty
  refine PySem.W.gne_K hr.units0 hr.in1.units0 hF I.ok.mod.kin J t1 t2 N.ne N.hm S.at_ S.fn ?_
  refine thn (fc.goD (vs := [.ref a, y]) hr.in1 rfl hx I (.cons rfl (.cons ry .nil)) R (.cons r1 (.cons r2 .nil)) h (Q := fun v H1 => ∃ b, v = .bl b ∧ Q (.bl (!b)) H1) fun w d C1 H1 F1 s1 R1 rd ⟨b, e, q⟩ => ?_) fun w s2 ⟨z, H2, I2, rz, b, ez, q⟩ => ?_
  · subst e; cases rd
    rw [Bool.true_xor] at q
    exact ⟨b, rfl, kq _ _ C1 H1 F1 s1 R1 (.bl (!b)) q⟩
  · subst ez; cases rz
    exact ⟨b, rfl, .bl (!b), H2, I2, rfl, q⟩
end
end G
namespace G
open PySem PySem.Spec PyProof.Rows L2
/-! ### dicts -/
/-- a key -/
def keyD : D → Option Key
  | .int i => some (.inl i)
  | .str l => some (.inr ⟨l.toArray⟩)
  | _ => none
def keysD : List D → Option (List Key)
  | [] => some []
  | d :: ds => match keyD d, keysD ds with
    | some k, some ks => some (k :: ks)
    | _, _ => none
section
variable {κ : Type} [DecidableEq κ]
def valD (kvs : List (κ × D)) (k : κ) : Option D := (kvs.find? fun kv => decide (kv.1 = k)).map (·.2)
def putKD (kvs : List (κ × D)) (k : κ) (v : D) : List (κ × D) :=
  if (kvs.any fun kv => decide (kv.1 = k)) = true then kvs.map (fun kv => if kv.1 = k then (kv.1, v) else kv) else kvs ++ [(k, v)]
theorem valD_pos {p : κ × D} {r : List (κ × D)} {k : κ} (e : p.1 = k) : valD (p :: r) k = some p.2 := by
  unfold valD; rw [List.find?_cons_of_pos (by simpa using e)]; rfl
theorem valD_neg {p : κ × D} {r : List (κ × D)} {k : κ} (e : ¬ p.1 = k) : valD (p :: r) k = valD r k := by
  unfold valD; rw [List.find?_cons_of_neg (by simpa using e)]
theorem valD_cons {p : κ × D} {r : List (κ × D)} {k : κ} : valD (p :: r) k = if p.1 = k then some p.2 else valD r k := by
  split
  · rename_i e; exact valD_pos e
  · rename_i e; exact valD_neg e
theorem valD_any (k : κ) : ∀ kvs : List (κ × D), (kvs.any fun kv => decide (kv.1 = k)) = (valD kvs k).isSome
  | [] => rfl
  | p :: r => by
    rw [List.any_cons, valD_cons, valD_any k r]
    by_cases e : p.1 = k
    · simp [e]
    · simp [e]
theorem valD_mem {kvs : List (κ × D)} {k : κ} {v : D} (h : valD kvs k = some v) : (k, v) ∈ kvs := by
  induction kvs with
  | nil => cases h
  | cons p r ih =>
    rw [valD_cons] at h
    by_cases e : p.1 = k
    · rw [if_pos e] at h
      have e2 : p.2 = v := Option.some.inj h
      subst e; subst e2
      exact .head _
    · rw [if_neg e] at h; exact .tail _ (ih h)
end
section
variable {K : PySem.W.Frag} {cl : Nm} {F : Hp}
theorem repK_val (k : Key) : ∀ {vs : List (Key × V)} {ds : List (Key × D)}, RepK K cl F vs ds → (valD ds k = none → valV vs k = none) ∧ ∀ d, valD ds k = some d → ∃ v, valV vs k = some v ∧ Rep K cl F v d
  | _, _, .nil => ⟨fun _ => rfl, nofun⟩
  | _, _, .cons (k := j) (v := v) (d := d) (vs := vs) (ds := ds) r t => by
    obtain ⟨i1, i2⟩ := repK_val k t
    by_cases e : j = k
    · rw [valD_pos (p := (j, d)) e, valV_pos (p := (j, v)) e]
      exact ⟨nofun, fun d' h => by cases h; exact ⟨_, rfl, r⟩⟩
    · rw [valD_neg (p := (j, d)) e, valV_neg (p := (j, v)) e]
      exact ⟨i1, i2⟩
theorem repK_some (k : Key) {vs : List (Key × V)} {ds : List (Key × D)} (r : RepK K cl F vs ds) : (valV vs k).isSome = (valD ds k).isSome := by
  rw [← valV_any, ← valD_any]
  induction ds generalizing vs with
  | nil => cases r; rfl
  | cons p ds ih => cases r with | cons _ t => rw [List.any_cons, List.any_cons, ih t]
theorem RepK.length : ∀ {vs : List (Key × V)} {ds : List (Key × D)}, RepK K cl F vs ds → vs.length = ds.length
  | _, _, .nil => rfl
  | _, _, .cons _ t => congrArg (· + 1) (RepK.length t)
theorem RepT.length : ∀ {vs : List (List Key × V)} {ds : List (List Key × D)}, RepT K cl F vs ds → vs.length = ds.length
  | _, _, .nil => rfl
  | _, _, .cons _ t => congrArg (· + 1) (RepT.length t)
theorem repK_map {k : Key} {y : V} {x : D} (r : Rep K cl F y x) : ∀ {vs : List (Key × V)} {ds : List (Key × D)}, RepK K cl F vs ds → RepK K cl F (vs.map fun kv => if kv.1 = k then (kv.1, y) else kv) (ds.map fun kv => if kv.1 = k then (kv.1, x) else kv)
  | _, _, .nil => .nil
  | _, _, .cons (k := j) h t => by
    rw [List.map_cons, List.map_cons]
    by_cases e : j = k
    · simp only [e, if_true]; exact .cons r (repK_map r t)
    · simp only [e, if_false]; exact .cons h (repK_map r t)
theorem repK_app : ∀ {vs ws : List (Key × V)} {ds es : List (Key × D)}, RepK K cl F vs ds → RepK K cl F ws es → RepK K cl F (vs ++ ws) (ds ++ es)
  | _, _, _, _, .nil, s => s
  | _, _, _, _, .cons h t, s => .cons h (repK_app t s)
theorem repK_any (k : Key) : ∀ {vs : List (Key × V)} {ds : List (Key × D)}, RepK K cl F vs ds → (vs.any fun kv => decide (kv.1 = k)) = ds.any fun kv => decide (kv.1 = k)
  | _, _, .nil => rfl
  | _, _, .cons _ t => by rw [List.any_cons, List.any_cons, repK_any k t]
theorem repK_put {k : Key} {y : V} {x : D} (r : Rep K cl F y x) {vs : List (Key × V)} {ds : List (Key × D)} (h : RepK K cl F vs ds) : RepK K cl F (putK vs k y) (putKD ds k x) := by
  unfold putK putKD
  rw [repK_any k h]
  split
  · exact repK_map r h
  · exact repK_app h (.cons r .nil)
theorem key_rep {v : V} {d : D} {k : Key} (r : Rep K cl F v d) (h : keyD d = some k) : v = kV k := by
  cases r with
  | int i => cases h; rfl
  | str l => cases h; rfl
  | _ => cases h
end
/-- the entries of a dict that stands, or that changes -/
def dicOf (C : Cl) : D → Option (List (Key × D))
  | .dic kvs => some kvs
  | .ref a => match C a with
    | some (.dic kvs) => some kvs
    | some (.dil _ _ kvs) => some kvs
    | _ => none
  | _ => none
theorem dicOf_ref {C : Cl} {p : Addr} {kvs : List (Key × D)} (h : C p = some (.dic kvs)) : dicOf C (.ref p) = some kvs := by
  show (match C p with | some (.dic kvs) => some kvs | some (.dil _ _ kvs) => some kvs | _ => none) = _
  rw [h]
theorem dicOf_dil {C : Cl} {p : Addr} {o : Obj} {vs : List (Key × V)} {kvs : List (Key × D)} (h : C p = some (.dil o vs kvs)) : dicOf C (.ref p) = some kvs := by
  show (match C p with | some (.dic kvs) => some kvs | some (.dil _ _ kvs) => some kvs | _ => none) = _
  rw [h]
section
variable {K : PySem.W.Frag} {cl : Nm} {C : Cl} {F H : Hp} {v : V} {d : D}
theorem dic_ok {kvs : List (Key × D)} (R : RC K cl C F H) (r : Rep K cl F v d) (h : dicOf C d = some kvs) : ∃ a vs, v = .ref a ∧ Rd H a (.dK vs) ∧ RepK K cl F vs kvs := by
  cases r with
  | dic h1 h2 => cases h; exact ⟨_, _, rfl, .inr ⟨_, R.sub _ _ h1⟩, h2⟩
  | ref a =>
    unfold dicOf at h
    dsimp only at h
    split at h
    · rename_i kvs' hc
      cases h
      obtain ⟨_, o, ho, c⟩ := R.cel _ _ hc
      cases c with
      | dic rl => exact ⟨_, _, rfl, .inl ho, rl⟩
    · rename_i o vs kvs' hc
      cases h
      obtain ⟨_, o, ho, c⟩ := R.cel _ _ hc
      cases c with
      | dil rl => exact ⟨_, _, rfl, .inr ⟨_, ho⟩, rl⟩
    · cases h
  | _ => cases h
end
/-! readings -/
def rGetK : RD2 := fun x y C Q => ∃ kvs k v, dicOf C x = some kvs ∧ keyD y = some k ∧ valD kvs k = some v ∧ Q v C
def rInK : RD2 := fun y x C Q => ∃ kvs k, dicOf C x = some kvs ∧ keyD y = some k ∧ Q (.bl (valD kvs k).isSome) C
def rNotInK : RD2 := fun y x C Q => ∃ kvs k, dicOf C x = some kvs ∧ keyD y = some k ∧ Q (.bl (!(valD kvs k).isSome)) C
/-- d[k] = v -/
def dPutK (to tk tv : DE) : DS := fun D ρ C => tv ρ C fun v C1 => to ρ C1 fun x C2 => tk ρ C2 fun y C3 => ∃ a kvs k, x = .ref a ∧ C3 a = some (.dic kvs) ∧ keyD y = some k ∧ kvs.length < sizeLine ∧ D.nx ρ (updC C3 a (.dic (putKD kvs k v)))
/-- {} -/
def dNewK : DE := fun _ C Q => ∀ p, C p = none → Q (.ref p) (updC C p (.dic []))
section
variable {X : Cx} {cl : NmB} {o i e f : Expr} {es : List Expr} {to tk tv tx : DE} {t : DA} {pos pos' kpos apos cpos : Pos} {kk : Nat} {n : Nat}
theorem de_getK (hr : Room n X.A) (ho : PEd X cl o to) (hi : PEd X cl i tk) (hs : NoSl i := by intro _ _; rfl) : PEd X cl (.Subscript o i pos) (dOp rGetK to tk) := by
  refine weakE (pe_dget (hu_of hr.r) ho hi hs) fun σ H Q ⟨ρ, C, F, Qd, R, h, k⟩ => ?_
  refine ⟨ρ, C, F, _, R, h, fun x dx C1 H1 F1 s1 R1 r1 q1 => ?_⟩
  refine ⟨ρ, C1, F1, _, R.next s1 R1, q1, fun y dy C2 H2 F2 s2 R2 r2 ⟨kvs, kc, v, e1, e2, e3, q⟩ => ?_⟩
  obtain ⟨a, vs, rfl, hd, rk⟩ := dic_ok R2 (r1.mono s2) e1
  obtain ⟨u, hu, ru⟩ := (repK_val kc rk).2 v e3
  rw [key_rep r2 e2]
  exact ⟨a, u, rfl, .inl ⟨vs, kc, hd, rfl, hu.symm⟩, k u v C2 H2 F2 (s1.trans s2) R2 ru q⟩
theorem de_inK (hr : Room n X.A) (hi : PEd X cl i tk) (ho : PEd X cl o to) (hm : behindInMarks .In o = false) : PEd X cl (.Compare i [.In] [o] pos) (dOp rInK tk to) := by
  refine weakE (pe_cmp (pc_din (hu_of hr.r) hi ho) hm) fun σ H Q ⟨ρ, C, F, Qd, R, h, k⟩ => ?_
  refine ⟨ρ, C, F, _, R, h, fun y dy C1 H1 F1 s1 R1 r1 q1 => ?_⟩
  refine ⟨ρ, C1, F1, _, R.next s1 R1, q1, fun x dx C2 H2 F2 s2 R2 r2 ⟨kvs, kc, e1, e2, q⟩ => ?_⟩
  obtain ⟨a, vs, rfl, hd, rk⟩ := dic_ok R2 r2 e1
  rw [key_rep (r1.mono s2) e2]
  refine ⟨a, valV vs kc, rfl, .inl ⟨vs, kc, hd, rfl, rfl⟩, ?_⟩
  rw [repK_some kc rk]
  exact k _ _ C2 H2 F2 (s1.trans s2) R2 (.bl _) q
theorem de_newK : PEd X cl (.Dict [] [] pos) dNewK := by
  refine weakE pe_dnewK fun σ H Q ⟨ρ, C, F, Qd, R, h, k⟩ p np => ?_
  exact k _ _ _ _ _ (Same.refl F) (R.rc.cell np (.dic .nil)) (.ref p) (h p (R.rc.freeC np))
theorem cell_dic {K : PySem.W.Frag} {C : Cl} {F H : Hp} {a : Addr} {kvs : List (Key × D)} (R : RC K cl C F H) (h : C a = some (.dic kvs)) : ∃ vs, H a = some (.dK vs) ∧ RepK K cl F vs kvs := by
  obtain ⟨_, o, ho, c⟩ := R.cel _ _ h
  cases c with
  | dic rl => exact ⟨_, ho, rl⟩
theorem ds_putK {value : Expr} (hr : Room n X.A) (ho : PEd X cl o to) (hi : PEd X cl i tk) (hv : PEd X cl value tv) (hs : swapsWith value (some (.Subscript o i pos')) pos.line X.env = pure false := by rfl) : PSd X cl (.Assign [.Subscript o i pos'] value pos) (dPutK to tk tv) := by
  refine weakS (ps_dput (hu_of hr.r) ho hi hv hs) fun De σ H ⟨ρ, C, F, Dd, R, h, k⟩ => ?_
  refine ⟨ρ, C, F, _, R, h, fun v dv C1 H1 F1 s1 R1 r1 q1 => ?_⟩
  refine ⟨ρ, C1, F1, _, R.next s1 R1, q1, fun x dx C2 H2 F2 s2 R2 r2 q2 => ?_⟩
  refine ⟨ρ, C2, F2, _, R.next (s1.trans s2) R2, q2, fun y dy C3 H3 F3 s3 R3 r3 ⟨a, kvs, kc, e1, e2, e3, hl, q⟩ => ?_⟩
  subst e1
  cases r2
  obtain ⟨vs, hd, rk⟩ := cell_dic R3 e2
  rw [key_rep r3 e3]
  refine ⟨a, _, rfl, DPut.k hd (by rw [rk.length]; exact hl), ?_⟩
  have R4 := R3.put e2 (o := .dK (putK vs kc v)) (.dic (repK_put (r1.mono (s2.trans s3)) rk))
  exact k.nx ρ _ F3 σ _ (s1.trans (s2.trans s3)) (R.next (s1.trans (s2.trans s3)) R4) q
end
end G
namespace PySem.W
open Lean Elab Tactic Meta PySem PySem.Calls PyProof.Rows PyProof.V PySem.Spec
section
variable {prog : Program} {w : World} {K : Type} [DecidableEq K] {knd : HeapKind prog w K} {A : Around} {E : Value → Shared → Prop} {s : Shared}
/-- the entries of one dict, looked up in another one -/
inductive GHits {K : Type} [DecidableEq K] (A : Around) (s : Shared) (kb : List (K × Addr × Value)) : List (K × Addr × Value) → Bool → Prop
  | nil : GHits A s kb [] true
  | miss {k : K} {p : Addr × Value} {r : List (K × Addr × Value)} : atKey kb k = none → GHits A s kb ((k, p) :: r) false
  | hit {k : K} {p q : Addr × Value} {r : List (K × Addr × Value)} {e b : Bool} : atKey kb k = some q → SeqAt.EqAt A s p.2 q.2 e → GHits A s kb r b → GHits A s kb ((k, p) :: r) (e && b)
end
end PySem.W
namespace G
open PySem PySem.Spec PyProof.Rows L2
/-! ### == of a tree and itself, whatever stands in it; == of dicts -/
section
variable {X : Cx} {cl : NmB} {CX : CXT} {k n : Nat} {g : Addr} {sp : DSp2} {c : String}
/-! dicts with keys of texts and texts as values -/
end
end G
namespace G
open PySem PySem.Spec PyProof.Rows L2
/-! ### reversed, [::-1] -/
section
variable {X : Cx} {cl : NmB} {tg e : Expr} {te : DE} {K : PySem.W.Frag} {pos : Pos}
end
/-! ### own operators -/
section
variable {X : Cx} {cl : NmB} {CX : CXT} {k : Nat} {g : Addr} {sp : DSp2} {c : String}
/-- x op y of two instances of c whose own def answers with an instance -/
def rBinO (c : String) (sp : DSp2) : RD2 := fun x y C Q => (∃ fs, insOf C x = some (c, fs)) ∧ (∃ gs, insOf C y = some (c, gs)) ∧ sp [x, y] [] C (fun d C1 => (∃ b fs, insOf C1 d = some (b, fs)) ∧ Q d C1) noX
theorem od_binO {op : Operator} (fc : Cee X.prog X.w X.K cl X.mg X.base CX k g [] sp) (hr : Room k X.A) (hx : Passes CX X E0) (hc : PySem.W.selfFirst X.K (cl c) = true) (S : Spc X.K cl c (PySem.dunder op.info.2) g) : OpD X cl (binaryOp op) (rBinO c sp) := by
  intro pins s σ H x y v u Q I rx ry ⟨dx, dy, C, F, Qd, R, r1, r2, ⟨⟨fs, hi⟩, ⟨gs, hj⟩, h⟩, kq⟩
  obtain ⟨a, ad, vs, rfl, ha, rf⟩ := ins_ok R r1 hi
  obtain ⟨b, bd, us, rfl, hb, rg⟩ := ins_ok R r2 hj
  cases rx; cases ry
  obtain ⟨ox, od, J⟩ := inst_at I ha
  obtain ⟨oy, oe, J'⟩ := inst_at I hb
  obtain ⟨m, hF⟩ := I.fr
  refine PySem.W.binop_K hF I.ok.mod.kin J J'.type hc S.at_ S.fn ?_
  refine thn (fc.goD (vs := [.ref a, .ref b]) hr rfl hx I (.cons rfl (.cons rfl .nil)) R (.cons r1 (.cons r2 .nil)) h (Q := fun v H1 => (∃ p, v = .ref p) ∧ Q v H1) fun w d C1 H1 F1 s1 R1 rd ⟨⟨b', fs', e⟩, q⟩ => ?_) fun w s2 ⟨z, H2, I2, rz, ⟨p, ez⟩, q⟩ => ?_
  · obtain ⟨p, _, _, ep, _⟩ := ins_ok R1 rd e
    exact ⟨⟨p, ep⟩, kq _ _ C1 H1 F1 s1 R1 rd q⟩
  · subst ez; cases rz
    exact ⟨.ref p, H2, I2, rfl, q⟩
end
/-! ### properties, classmethods, a class in a local name -/
section
variable {X : Cx} {cl : NmB} {CX : CXT} {k : Nat} {g p : Addr} {fd : FuncData} {sp : DSp} {sp2 : DSp2} {c : String} {e o : Expr} {es : List Expr} {te to : DE} {t tk : DA} {pos apos : Pos} {f m : Str}
end
end G
namespace PySem
open Sem (wp)
open PyProof.Rows Builtin
theorem gen_meets_enumerate_newB {v : Value} {o : Obj} {H : Heap → Prop} (B : Begins v o H) :
    Meets (Builtin.«enumerate.__new__» ⟨[.type "enumerate", v], []⟩) (fun _ R s => H s.heap ∧
      R (.ok (.ret (.ref (s.heap.push o).objs.size))) { s with heap := (s.heap.push o).push { cls := .type "enumerate", data := .fields #[.none, .bool false, .ref s.heap.objs.size, rawInt 0, .none, .none] } }) :=
  .of_wp fun prog w A R s h => by
    obtain ⟨hp, g, d, tk, os⟩ := s; obtain ⟨h1, h⟩ := h
    have hsub := sub_enumerate
    have q1 : ∀ {A' : Around} {E : Value → Shared → Prop} {Q : Value → Shared → Prop}, Q (.ref hp.objs.size) ⟨hp.push o, g, d, tk, os⟩ → wpAny (model prog w) A' (pyIter v) Q E ⟨hp, g, d, tk, os⟩ :=
      fun q => B.iter prog w _ _ ⟨hp, g, d, tk, os⟩ _ h1 q
    wp_walk using q1
    refine wpAny_stack_any fun st => wpAny_pure ?_
    split
    · rename_i c _ _ _ _ _
      cases (c == Value.type "enumerate")
      · wp_walk using q1
        exact ⟨_, rfl, h⟩
      · wp_walk using q1
        exact ⟨_, rfl, h⟩
    · wp_walk using q1
      exact ⟨_, rfl, h⟩
section
variable {prog : Program} {w : World} {A : Around} {E : Value → Shared → Prop} {s : Shared}
theorem gen_enum_begins {v : Value} {o : Obj} {H : Heap → Prop} {Q : Value → Shared → Prop} (B : Begins v o H) (h1 : H s.heap)
    (h : ∀ h', IsEnum h' (s.heap.objs.size + 1) s.heap.objs.size 0 .none → h'.get? s.heap.objs.size = some o → h'.objs.size = s.heap.objs.size + 2 →
      (∀ b o, s.heap.get? b = some o → h'.get? b = some o) → Q (.ref (s.heap.objs.size + 1)) { s with heap := h' }) :
    wpAny (model prog w) A (call (.type "enumerate") [v]) Q E s := by
  refine callType_new F.called_enumerate (by decide) (F.typeCall_enumerate_1 _) (F.newCall_enumerate_1 _) (fun obj => F.args_object_init_2 obj _) F.entry_enumerate_new
    (gen_meets_enumerate_newB B) ⟨h1, ?_⟩
  have hz : (s.heap.push o).objs.size = s.heap.objs.size + 1 := Heap.size_push ..
  show _ ∧ _
  rw [hz]
  have he : IsEnum ((s.heap.push o).push { cls := .type "enumerate", data := .fields #[.none, .bool false, .ref s.heap.objs.size, rawInt 0, .none, .none] }) (s.heap.objs.size + 1) s.heap.objs.size 0 .none := by
    have := Heap.get?_push_size (s.heap.push o) (o := { cls := .type "enumerate", data := .fields #[.none, .bool false, .ref s.heap.objs.size, rawInt 0, .none, .none] }) rfl
    rw [hz] at this; exact this
  refine ⟨⟨_, he, rfl⟩, h _ he (Heap.get?_push_of_some _ (Heap.get?_push_size _ B.free)) (by rw [Heap.size_push, hz]) fun b o x => Heap.get?_push_of_some _ (Heap.get?_push_of_some _ x)⟩
end
end PySem
namespace G
open PySem PySem.Spec PyProof.Rows L2
/-! ### what an iterator walks: a list, a tuple, a text -/
inductive ItS where
  | lst (a : Addr)
  | tup (a : Addr)
  | txt (x : Str) (t : Tok)
def ItS.at (j : ItS) (h : Heap) (it : Addr) (i : Nat) : Prop := match j with
  | .lst a => h.IsListIter it a i
  | .tup a => h.IsTupleIter it a i
  | .txt x t => h.IsStrIter it (strIterType x) x t i
def ItS.src (K : PySem.W.Frag) (H : Hp) (j : ItS) (xs : List V) : Prop := match j with
  | .lst a => SqL K H a xs
  | .tup a => SqT K H a xs
  | .txt x _ => xs = x.cps.toList.map fun c => V.str ⟨#[c]⟩
def ItS.fp (j : ItS) (it : Addr) : List Addr := match j with
  | .lst a => [it, a]
  | .tup a => [it, a]
  | .txt _ _ => [it]
def ItS.val : ItS → Value
  | .lst a => .ref a
  | .tup a => .ref a
  | .txt x t => .str x t
/-- the cell of the thing walked is not that address -/
def ItS.off (j : ItS) (b : Addr) : Prop := match j with
  | .lst a => a ≠ b
  | .tup a => a ≠ b
  | .txt _ _ => True
theorem Vals.getV' : ∀ {xs : List V} {us : List Value} {i : Nat} {u : Value}, Vals xs us → us[i]? = some u → ∃ x, xs[i]? = some x ∧ RelV x u
  | _, _, _, _, .nil, e => by simp at e
  | _, _, 0, _, .cons r _, e => by simp at e; subst e; exact ⟨_, rfl, r⟩
  | _, _, i + 1, x, .cons _ t, e => by
    obtain ⟨u, h1, h2⟩ := Vals.getV' (i := i) (u := x) t (by simpa using e)
    exact ⟨u, by simpa using h1, h2⟩
section
variable {X : Cx} {pins : List (Addr × Obj)} {σ : L2.St} {H : Hp} {s : Shared}
theorem ItS.inj {j : ItS} (I : Inv X pins σ H s) {xs ys : List V} (h : j.src X.K H xs) (k : j.src X.K H ys) : xs = ys := by
  cases j with
  | lst a => exact I.list_inj h k
  | tup a => exact I.tuple_inj h k
  | txt x t => exact h.trans k.symm
theorem ItS.keep {j : ItS} {h h' : Heap} {it : Addr} {i : Nat} (st : j.at h it i) (k : ∀ o, h.get? it = some o → h'.get? it = some o) : j.at h' it i := by
  cases j with
  | lst a => exact Heap.IsListIter.at st k
  | tup a => exact Heap.IsTupleIter.at st k
  | txt x t => obtain ⟨o, e, c⟩ := st; exact ⟨o, k o e, c⟩
theorem ItS.obj {j : ItS} {h : Heap} {it : Addr} {i : Nat} (st : j.at h it i) : ∃ o, h.get? it = some o ∧ ∀ v, o.data ≠ .cell v := by
  cases j with
  | lst a => obtain ⟨o, e, _, d⟩ := st; exact ⟨o, e, fun v q => by rw [d] at q; cases q⟩
  | tup a => obtain ⟨o, e, _, d⟩ := st; exact ⟨o, e, fun v q => by rw [d] at q; cases q⟩
  | txt x t => obtain ⟨o, e, _, d⟩ := st; exact ⟨o, e, fun v q => by rw [d] at q; cases q⟩
theorem ItS.draw {j : ItS} {A : Around} {it : Addr} {i : Nat} {xs : List V} (I : Inv X pins σ H s) (hh : A.handled = none) (ne : j.off it) (h : j.src X.K H xs) (st : j.at s.heap it i) :
    ∃ n P St, Draws X.prog X.w A it (j.fp it) n P St ∧ n = xs.length ∧ St i s.heap ∧ (∀ x, P i x → ∃ v, xs[i]? = some v ∧ RelV v x) ∧ ∀ k h', St k h' → j.at h' it k := by
  cases j with
  | lst a =>
    obtain ⟨its, rv, p, hz⟩ := I.list h
    refine ⟨_, _, _, Draws.list hh it a ne its.toArray, ?_, ⟨st, p.isList⟩, fun x hx => ?_, fun k h' q => q.1⟩
    · simpa using rv.length.symm
    · exact Vals.getV' rv (by simpa using hx)
  | tup a =>
    obtain ⟨its, rv, p, hz⟩ := I.tuple h
    refine ⟨_, _, _, Draws.tuple hh it a ne its.toArray, ?_, ⟨st, show s.heap.IsTuple a its.toArray from p⟩, fun x hx => ?_, fun k h' q => q.1⟩
    · simpa using rv.length.symm
    · exact Vals.getV' rv (by simpa using hx)
  | txt x t =>
    refine ⟨_, _, _, Draws.text hh it x t, ?_, st, fun y ⟨c, u, hc, e⟩ => ?_, fun k h' q => q⟩
    · rw [show xs = _ from h]; simp
    · rw [show xs = _ from h]
      refine ⟨.str ⟨#[c]⟩, ?_, ⟨u, e⟩⟩
      rw [List.getElem?_map, Array.getElem?_toList, hc]; rfl
theorem ItS.lt {j : ItS} {xs : List V} (I : Inv X pins σ H s) (h : j.src X.K H xs) : ∀ b, s.heap.objs.size ≤ b → j.off b ∧ b ∉ (match j with | .lst a => [a] | .tup a => [a] | .txt _ _ => []) := by
  intro b hb
  cases j with
  | lst a =>
    obtain ⟨its, rv, p, hz⟩ := I.list h
    have : a < s.heap.objs.size := p.lt
    have ne : a ≠ b := Nat.ne_of_lt (Nat.lt_of_lt_of_le this hb)
    exact ⟨ne, fun m => ne (List.mem_singleton.mp m).symm⟩
  | tup a =>
    obtain ⟨its, rv, ⟨o, e, _⟩, hz⟩ := I.tuple h
    have : a < s.heap.objs.size := Heap.lt_size e
    have ne : a ≠ b := Nat.ne_of_lt (Nat.lt_of_lt_of_le this hb)
    exact ⟨ne, fun m => ne (List.mem_singleton.mp m).symm⟩
  | txt x t => exact ⟨trivial, by simp⟩
theorem ItS.mem_fp {j : ItS} {it b : Addr} (h : b ∈ j.fp it) : b = it ∨ b ∈ (match j with | .lst a => [a] | .tup a => [a] | .txt _ _ => ([] : List Addr)) := by
  cases j <;> simpa [ItS.fp] using h
end
def ItE (K : PySem.W.Frag) (j : ItS) : It :=
  ⟨fun i H => ∃ xs x, j.src K H xs ∧ xs[i]? = some x, fun i H v H' => ∃ T x, v = .ref T ∧ H T = none ∧ H' = upd H T (.tup [.int (i : Nat), x]) ∧ ∀ xs, j.src K H xs → xs[i]? = some x, fun i H => ∃ xs, j.src K H xs ∧ xs.length = i⟩
theorem turn_enumS {P : Program} {w : World} {K : PySem.W.Frag} {elts : List Expr} {kk : Nat} {tpos : Pos} (j : ItS) (e it : Addr) :
    Turn P w K (.Tuple elts kk tpos) (ItE K j) [e, it] e (fun i h => (∃ old, IsEnum h e it ((i : Nat) : Int) old) ∧ j.at h it i ∧ e ≠ it ∧ e ∉ j.fp it ∧ j.off it) where
  mem := by simp
  obj := fun i h st b hb => by
    obtain ⟨⟨old, he⟩, hit, _⟩ := st
    have e' : b = e ∨ b = it := by simpa using hb
    rcases e' with z | z
    · rw [z]; exact ⟨_, he, fun v q => nomatch q⟩
    · rw [z]; exact ItS.obj hit
  keep := fun i h h' st k => let ⟨⟨old, he⟩, hi, hne⟩ := st; ⟨⟨old, k e (by simp) _ he⟩, ItS.keep hi fun o q => k it (by simp) o q, hne⟩
  item := by
    intro X hP hw hK hc i pins s σ H E I hf st hg
    subst hP hw hK
    obtain ⟨⟨old, he⟩, hit, hne, hnf, hoff⟩ := st
    obtain ⟨xs, x, hq, hx⟩ := hg
    obtain ⟨n, P, St, D, hn, hst, hP, hback⟩ := ItS.draw (A := X.A.in1) I (show X.A.in1.handled = none from I.ok.hd hc) hoff hq hit
    have hel : e < s.heap.objs.size := Heap.lt_size he
    have hil : it < s.heap.objs.size := by obtain ⟨_, q, _⟩ := ItS.obj hit; exact Heap.lt_size q
    have hlt : i < n := by rw [hn]; exact (List.getElem?_eq_some_iff.mp hx).1
    refine wpAny_pyNext_enum_itemD D he hst hlt hne hnf fun u h' tk hPu ho hst' hT hsz hk => ?_
    obtain ⟨x', hx', ru⟩ := hP u hPu
    rw [hx] at hx'; cases hx'
    refine ⟨_, rfl, wpAny_letOwnedTupleGo_enum (s := { s with heap := h', toks := tk + 1 }) ho fun h'' he' sb => ?_⟩
    have hT2 : h''.get? s.heap.objs.size = some { cls := .type "tuple", data := .seq #[.int i tk, u] } := (sb.2 _ (Nat.ne_of_gt hel)).trans hT
    have new : ObjOk X.prog X.w (upd H s.heap.objs.size (.tup [.int (i : Nat), x])) h'' s.heap.objs.size (.tup [.int (i : Nat), x]) :=
      ⟨by show 2 ≤ sizeLine; decide, [.int i tk, u], .cons ⟨_, rfl⟩ (.cons ru .nil), ⟨_, hT2, rfl, _, rfl⟩⟩
    have I1 : Inv X pins σ (upd H s.heap.objs.size (.tup [.int (i : Nat), x])) { s with heap := h'', toks := tk + 1 } :=
      I.turnedNew (ch := [e, it]) (fun b ob hb q => (sb.2 b (fun z => hb (by simp [z]))).trans (hk b ob (fun z => hb (by simp [z])) (fun z => hb (by simp [z])) q)) hf (Nat.le_refl _) new
    refine ⟨.ref s.heap.objs.size, _, I1, rfl, ⟨_, x, rfl, I.hok.fresh (Nat.le_refl _), rfl, fun ys hy => by rw [ItS.inj I hy hq]; exact hx⟩, ⟨⟨u, ?_⟩, ItS.keep (hback _ _ hst') fun o q => (sb.2 it (Ne.symm hne)).trans q, hne, hnf, hoff⟩, fun b hb => ?_⟩
    · have e1 : ((i + 1 : Nat) : Int) = (i : Int) + 1 := by omega
      rw [e1]; exact he'
    · have hb' : b < s.heap.objs.size := by
        have e' : b = e ∨ b = it := by simpa using hb
        rcases e' with z | z
        · rw [z]; exact hel
        · rw [z]; exact hil
      rw [upd_ne (Nat.ne_of_lt hb')]
      exact (hf b hb).1
  done := by
    intro X hP hw hK hc i pins s σ H E I hf st hg
    subst hP hw hK
    obtain ⟨⟨old, he⟩, hit, hne, hnf, hoff⟩ := st
    obtain ⟨xs, hq, hx⟩ := hg
    obtain ⟨n, P, St, D, hn, hst, hP, hback⟩ := ItS.draw (A := X.A.in1) I (show X.A.in1.handled = none from I.ok.hd hc) hoff hq hit
    obtain ⟨f0, f1, f2, f3, f4, f5⟩ := hf it (by simp)
    rw [hn, hx] at D
    exact wpAny_pyNext_enum_endD D he hst fun h' eb => ⟨rfl, I.turned (t' := s.toks) (fun b o hb q => eb b o hb q) f0 f1 f3 f4 f5⟩
  self := fun A i s Q E st h => let ⟨⟨_, he⟩, _⟩ := st; wpAny_pyIter_enum he h
/-- a value that is walked, and what is wanted of the walk -/
def SrcR (K : PySem.W.Frag) (H : Hp) (v : V) (xs : List V) (R : ItS → Prop) : Prop := (∃ a, v = .ref a ∧ SqL K H a xs ∧ R (.lst a)) ∨ (∃ a, v = .ref a ∧ SqT K H a xs ∧ R (.tup a)) ∨ ∃ x : Str, v = .str x ∧ xs = (x.cps.toList.map fun c => V.str ⟨#[c]⟩) ∧ ∀ t, R (.txt x t)
theorem SrcR.it {X : Cx} {pins : List (Addr × Obj)} {σ : L2.St} {H : Hp} {s : Shared} {v : V} {u : Value} {xs : List V} {R : ItS → Prop} (I : Inv X pins σ H s) (h : SrcR X.K H v xs R) (r : RelV v u) :
    ∃ (j : ItS) (o : Obj) (Hd : Heap → Prop), u = j.val ∧ j.src X.K H xs ∧ Begins u o Hd ∧ Hd s.heap ∧ (∀ h it, h.get? it = some o → j.at h it 0) ∧ R j := by
  rcases h with ⟨a, rfl, h, q⟩ | ⟨a, rfl, h, q⟩ | ⟨x, rfl, rfl, q⟩
  · cases r
    obtain ⟨its, rv, p, hz⟩ := I.list h
    exact ⟨.lst a, _, _, rfl, h, begins_list a its.toArray, p.isList, fun h it e => ⟨_, e, rfl, rfl⟩, q⟩
  · cases r
    obtain ⟨its, rv, p, hz⟩ := I.tuple h
    exact ⟨.tup a, _, _, rfl, h, begins_tuple a its.toArray, show s.heap.IsTuple a its.toArray from p, fun h it e => ⟨_, e, rfl, rfl⟩, q⟩
  · obtain ⟨t, rfl⟩ := (show ∃ t, u = Value.str x t from r)
    exact ⟨.txt x t, _, _, rfl, rfl, begins_text x t, trivial, fun h it e => ⟨_, e, rfl, rfl⟩, q t⟩
def iEnumS (K : PySem.W.Frag) (ta : TA) : TI := fun σ H R => ta σ H fun vs H1 => ∃ v xs, vs = [v] ∧ SrcR K H1 v xs fun j => R (ItE K j) H1
theorem pi_enumS {X : Cx} {e : Expr} {ta : TA} {p pos tpos : Pos} {elts : List Expr} {kk : Nat} (hg : Gl X "enumerate") (hm : X.mg "enumerate" = none) (ha : PA X [e] ta) (hs : starEach [e] X.env = [(false, eval e X.env)] := by rfl) :
    PI X (.Tuple elts kk tpos) (.Call (.Name "enumerate" p) [e] [] pos) (iEnumS X.K ta) := by
  refine ⟨fun pins s σ H R I h => ?_⟩
  refine Call_ (ld_blt I hg hm boot_enumerate (PyProof.Rows.callWith_type1 (thn (ha.run pos pins s σ H _ I h) fun us s1 ⟨vs, H1, I1, r1, q1⟩ => ?_) hs rfl))
  obtain ⟨v, xs, ex, hq⟩ := q1
  subst ex
  cases r1 with
  | cons r rr =>
    rename_i u _
    cases rr
    obtain ⟨j, o, Hd, hu, hsrc, B, h1, hat, qq⟩ := hq.it I1 r
    have hoff := ItS.lt I1 hsrc
    refine gen_enum_begins B h1 fun h' he ho hsz hk => wpAny_pyIter_enum he ?_
    have I2 : Inv X pins σ H1 { s1 with heap := h' } := I1.kept (t' := s1.toks) hk
    refine ⟨s1.heap.objs.size + 1, [s1.heap.objs.size + 1, s1.heap.objs.size], _, _, H1, rfl, I2, turn_enumS j (s1.heap.objs.size + 1) s1.heap.objs.size, ⟨⟨.none, he⟩, hat _ _ ho, Nat.succ_ne_self _, fun z => ?_, (hoff _ (Nat.le_refl _)).1⟩, fun b hb => ?_, qq⟩
    · rcases ItS.mem_fp z with z | z
      · exact Nat.succ_ne_self _ z
      · exact (hoff _ (Nat.le_succ _)).2 z
    · have e' : b = s1.heap.objs.size + 1 ∨ b = s1.heap.objs.size := by simpa using hb
      have hle : s1.heap.objs.size ≤ b := by
        rcases e' with z | z
        · rw [z]; exact Nat.le_add_right _ _
        · rw [z]; exact Nat.le_refl _
      exact I1.fpOk hle (I1.hok.fresh hle)
/-! zip -/
/-! as trees -/
def srcOf : D → Option (List D)
  | .lst ds => some ds
  | .rol ds => some ds
  | .tup ds => some ds
  | .str l => some (signs l)
  | _ => none
section
variable {K : PySem.W.Frag} {cl : Nm} {F H : Hp} {v : V} {d : D} {ds : List D}
theorem rep_signs : ∀ l : List Nat, RepL K cl F (l.map fun c => V.str ⟨#[c]⟩) (signs l)
  | [] => .nil
  | c :: l => .cons (.str [c]) (rep_signs l)
theorem src_mono {j : ItS} {xs : List V} (s : Same F H) (h : j.src K F xs) : j.src K H xs := by
  cases j with
  | lst a => exact s.seq (show SqL K F a xs from h)
  | tup a => exact sqT_mono s (show SqT K F a xs from h)
  | txt x t => exact h
theorem src_ok (r : Rep K cl F v d) (h : srcOf d = some ds) : ∃ xs, RepL K cl F xs ds ∧ ∀ (H : Hp) (R : ItS → Prop), Same F H → (∀ j : ItS, j.src K F xs → R j) → SrcR K H v xs R := by
  cases r with
  | lst h1 h2 => cases h; exact ⟨_, h2, fun H R s k => .inl ⟨_, rfl, s.seq (.of h1), k (.lst _) (SqL.of h1)⟩⟩
  | rol h1 h2 => cases h; exact ⟨_, h2, fun H R s k => .inl ⟨_, rfl, s.seq h1, k (.lst _) h1⟩⟩
  | tup h1 h2 => cases h; exact ⟨_, h2, fun H R s k => .inr (.inl ⟨_, rfl, sqT_mono s h1, k (.tup _) h1⟩)⟩
  | str l => cases h; exact ⟨_, rep_signs l, fun H R s k => .inr (.inr ⟨_, rfl, rfl, fun t => k (.txt _ t) rfl⟩)⟩
  | _ => cases h
theorem walk_enumS {j : ItS} {xs : List V} (h : j.src K F xs) (r : RepL K cl F xs ds) : Walk K cl (ItE K j) (numbered 0 ds) F := by
  intro i C F1 H s R
  have h1 : j.src K H xs := src_mono (s.trans R.sub) h
  refine ⟨fun x hx => ?_, fun hi => ⟨xs, h1, by rw [r.length]; rw [numbered_length] at hi; exact hi⟩⟩
  obtain ⟨d, hd, rfl⟩ := numbered_get hx
  obtain ⟨v, hv, rv⟩ := r.get hd
  refine ⟨⟨xs, v, h1, hv⟩, fun v' H' ⟨T, x, e1, nT, e2, y⟩ => ?_⟩
  subst e1 e2
  have e2 := y xs h1
  rw [hv] at e2
  cases e2
  have s2 := same_upd (o := .tup [.int (i : Nat), v]) (R.freeF nT)
  refine ⟨_, s2, R.new nT, .tup (.of upd_same) ?_⟩
  rw [Nat.zero_add]
  exact .cons (.int _) (.cons ((rv.mono s).mono s2) .nil)
end
section
variable {X : Cx} {cl : NmB} {tg e e2 : Expr} {t : DA} {p pos tpos : Pos} {elts : List Expr} {kk : Nat}
end
end G
namespace G
open PySem PySem.Spec PyProof.Rows L2
/-! ### a comprehension over a list that is to change later -/
section
variable {X : Cx} {cl : NmB} {pos : Pos} {vs : List Nat} {K : PySem.W.Frag}
theorem cell_lst {C : Cl} {F H : Hp} {a : Addr} {ds : List D} (R : RC K cl C F H) (h : C a = some (.lst ds)) : ∃ xs, H a = some (.lst xs) ∧ RepL K cl F xs ds := by
  obtain ⟨_, o, ho, c⟩ := R.cel _ _ h
  cases c with
  | lst rl => exact ⟨_, ho, rl⟩
end
end G
set_option maxHeartbeats 1000000
namespace G
open PySem PySem.Spec PyProof.Rows L2
/-! ### walks over lists that stand, or over cells that stay as they are while they are walked -/
def WalkC (K : PySem.W.Frag) (cl : Nm) (J : It) (xs : List D) (F : Hp) (G : Cl → Prop) : Prop := ∀ i C F1 H, Same F F1 → RC K cl C F1 H → G C →
  (∀ x, xs[i]? = some x → J.go i H ∧ ∀ v H', J.yld i H v H' → ∃ F2, Same F1 F2 ∧ RC K cl C F2 H' ∧ Rep K cl F2 v x) ∧ (xs.length = i → J.stop i H)
theorem Walk.c {K : PySem.W.Frag} {cl : Nm} {J : It} {xs : List D} {F : Hp} (w : Walk K cl J xs F) (G : Cl → Prop) : WalkC K cl J xs F G := fun i C F1 H s R _ => w i C F1 H s R
abbrev DIc := DEnv → Cl → (List D → (Cl → Prop) → Cl → Prop) → Prop
def lowIc (K : PySem.W.Frag) (cl : NmB) (wi : DIc) : TI := fun σ H R => ∃ ρ C F Qd, RS K cl ρ C F σ H ∧ wi ρ C Qd ∧ ∀ J xs G C' H' F', Same F F' → RC K cl C' F' H' → WalkC K cl J xs F' G → Qd xs G C' → R J H'
abbrev PIc (X : Cx) (cl : NmB) (tg iter : Expr) (wi : DIc) : Prop := PI X tg iter (lowIc X.K cl wi)
/-- what x tells when it is walked, as long as G holds -/
def Walks (C : Cl) (x : D) (xs : List D) (G : Cl → Prop) : Prop := (lstOf x = some xs ∧ G = fun _ => True) ∨ ∃ a, x = .ref a ∧ C a = some (.lst xs) ∧ G = fun C => C a = some (.lst xs)
theorem walks_lst {C : Cl} {xs : List D} : Walks C (.lst xs) xs (fun _ => True) := .inl ⟨rfl, rfl⟩
theorem walks_ref {C : Cl} {a : Addr} {xs : List D} (h : C a = some (.lst xs)) : Walks C (.ref a) xs (fun C => C a = some (.lst xs)) := .inr ⟨a, rfl, h, rfl⟩
theorem Walks.here {C : Cl} {x : D} {xs : List D} {G : Cl → Prop} (w : Walks C x xs G) : G C := by
  rcases w with ⟨_, rfl⟩ | ⟨a, _, h, rfl⟩
  · trivial
  · exact h
theorem Walks.new {C : Cl} {x : D} {xs : List D} {G : Cl → Prop} {p : Addr} {c : Cell} (w : Walks C x xs G) (hp : C p = none) : G (updC C p c) := by
  rcases w with ⟨_, rfl⟩ | ⟨a, _, h, rfl⟩
  · trivial
  · show updC C p c a = _
    rw [updC_ne (fun z => by rw [z, hp] at h; cases h)]; exact h
theorem Walks.seq {C : Cl} {x : D} {xs : List D} {G : Cl → Prop} (w : Walks C x xs G) : seqOf C x = some xs := by
  rcases w with ⟨h, _⟩ | ⟨a, rfl, h, _⟩
  · cases x <;> first | exact h | cases h
  · show (match C a with | some (.lst ds) => some ds | _ => none) = _
    rw [h]
def dicList (te : DE) : DIc := fun ρ C R => te ρ C fun x C1 => ∃ xs G, Walks C1 x xs G ∧ R xs G C1
def dicEnum (t : DA) : DIc := fun ρ C R => t ρ C fun ds C1 => ∃ x xs G, ds = [x] ∧ Walks C1 x xs G ∧ R (numbered 0 xs) G C1
def dForC (wi : DIc) (g : DG) (tb : DS) : DS := fun D ρ C => wi ρ C fun xs G C1 => ∃ Pv : Nat → DEnv → Cl → Prop, Pv 0 ρ C1 ∧ (∀ i ρ C, Pv i ρ C → G C) ∧
  (∀ i x ρ C, xs[i]? = some x → Pv i ρ C → g x ρ C fun ρ2 C2 => tb { D with nx := Pv (i + 1), ct := Pv (i + 1), bk := D.nx } ρ2 C2) ∧ ∀ ρ C, Pv xs.length ρ C → D.nx ρ C
def dLcU (wi : DIc) (g : DG) (tt : DT) (te : DE) (vs : List Nat) : DE := fun ρ C Q => wi ρ C fun xs G C1 => ∀ p, C1 p = none → ∃ Pv : Nat → Cl → Prop, Pv 0 (updC C1 p (.lst [])) ∧ (∀ i C, Pv i C → G C) ∧
  (∀ i x C, xs[i]? = some x → Pv i C → g x (wipeD ρ vs) C fun ρ2 C2 => tt ρ2 C2 fun b C3 =>
    if b = true then te ρ2 C3 fun y C4 => ∃ acc, C4 p = some (.lst acc) ∧ acc.length < sizeLine ∧ Pv (i + 1) (updC C4 p (.lst (acc ++ [y]))) else Pv (i + 1) C3) ∧
  ∀ C, Pv xs.length C → Q (.ref p) C
section
variable {K : PySem.W.Frag} {cl : NmB} {F : Hp}
theorem walk_cell {a : Addr} {ds : List D} : WalkC K cl (Itl K a) ds F (fun C => C a = some (.lst ds)) := by
  intro i C F1 H s R hG
  obtain ⟨xs, hx, rl⟩ := cell_lst R hG
  refine ⟨fun x hx' => ?_, fun hi => ⟨xs, .of hx, by rw [rl.length]; exact Nat.le_of_eq hi⟩⟩
  obtain ⟨v, hv, rv⟩ := rl.get hx'
  refine ⟨⟨xs, v, .of hx, hv⟩, fun v' H' ⟨e, y⟩ => ?_⟩
  subst e
  have e2 := y xs (.of hx)
  rw [hv] at e2
  cases e2
  exact ⟨F1, Same.refl F1, R, rv⟩
theorem walk_enumC {a : Addr} {ds : List D} : WalkC K cl (ItE K (.lst a)) (numbered 0 ds) F (fun C => C a = some (.lst ds)) := by
  intro i C F1 H s R hG
  obtain ⟨xs, hx, rl⟩ := cell_lst R hG
  have h1 : (ItS.lst a).src K H xs := SqL.of hx
  refine ⟨fun x hx => ?_, fun hi => ⟨xs, h1, by rw [rl.length]; rw [numbered_length] at hi; exact hi⟩⟩
  obtain ⟨d, hd, rfl⟩ := numbered_get hx
  obtain ⟨v, hv, rv⟩ := rl.get hd
  refine ⟨⟨xs, v, h1, hv⟩, fun v' H' ⟨T, x, e1, nT, e2, y⟩ => ?_⟩
  subst e1 e2
  have e2 := y xs h1
  rw [hv] at e2
  cases e2
  have s2 := same_upd (o := .tup [.int (i : Nat), v]) (R.freeF nT)
  refine ⟨_, s2, R.new nT, .tup (.of upd_same) ?_⟩
  rw [Nat.zero_add]
  exact .cons (.int _) (.cons (rv.mono s2) .nil)
end
section
variable {X : Cx} {cl : NmB} {tg e : Expr} {te : DE} {t : DA} {pos p tpos : Pos} {elts : List Expr} {kk : Nat}
theorem dic_list (he : PEd X cl e te) : PIc X cl tg e (dicList te) := by
  refine weakI (pi_list he) fun σ H R ⟨ρ, C, F, Rd, RR, h, k⟩ => ?_
  refine ⟨ρ, C, F, _, RR, h, fun v d C1 H1 F1 s1 R1 r1 ⟨xs, G, w, q1⟩ => ?_⟩
  rcases w with ⟨e, rfl⟩ | ⟨a, rfl, ha, rfl⟩
  · obtain ⟨a, vs, rfl, hs, rl⟩ := r1.asL e
    exact ⟨a, rfl, ⟨vs, R1.sub.seq hs⟩, k _ xs _ C1 H1 F1 s1 R1 ((walk_list hs rl).c _) q1⟩
  · cases r1
    obtain ⟨ys, hy, rl⟩ := cell_lst R1 ha
    exact ⟨a, rfl, ⟨ys, .of hy⟩, k _ xs _ C1 H1 F1 s1 R1 walk_cell q1⟩
theorem dic_enum (hm : X.mg "enumerate" = none) (ha : PAd X cl [e] t) (hg : Gl X "enumerate" := by rfl) (hs : starEach [e] X.env = [(false, eval e X.env)] := by rfl) :
    PIc X cl (.Tuple elts kk tpos) (.Call (.Name "enumerate" p) [e] [] pos) (dicEnum t) := by
  refine weakI (pi_enumS hg hm ha hs) fun σ H R ⟨ρ, C, F, Rd, RR, h, k⟩ => ?_
  refine ⟨ρ, C, F, _, RR, h, fun vs ds C1 H1 F1 s1 R1 r1 ⟨x, xs, G, e1, w, q1⟩ => ?_⟩
  subst e1
  cases r1 with
  | cons r rr =>
    cases rr
    rcases w with ⟨e2, rfl⟩ | ⟨a, rfl, ha, rfl⟩
    · have e3 : srcOf x = some xs := by cases x <;> first | exact e2 | cases e2
      obtain ⟨ys, rl, w⟩ := src_ok r e3
      exact ⟨_, ys, rfl, w H1 _ R1.sub fun j hj => k _ _ _ C1 H1 F1 s1 R1 ((walk_enumS hj rl).c _) q1⟩
    · cases r
      obtain ⟨ys, hy, rl⟩ := cell_lst R1 ha
      exact ⟨_, ys, rfl, .inl ⟨_, rfl, .of hy, k _ _ _ C1 H1 F1 s1 R1 walk_enumC q1⟩⟩
theorem ds_forC {iter : Expr} {body : List Stmt} {wi : DIc} {g : DG} {tb : DS} (hp : PassesOwn (model X.prog X.w) X.A X.env X.xe) (hi : PIc X cl tg iter wi) (hg : PGd X cl tg g) (hb : PSsd X cl body tb) (hc : X.calm = true := by rfl)
    (hs : ∀ x, foldedSetIterable iter X.env x = pure x := by intro _; rfl) : PSd X cl (.For tg iter body [] pos) (dForC wi g tb) := by
  refine weakS (ps_for hp hc hi hg hb hs) fun De σ H ⟨ρ, C, F, Dd, R, h, k⟩ => ?_
  refine ⟨ρ, C, F, _, R, h, fun J xs G C1 H1 F1 s1 R1 wk ⟨Pv, p0, pg, ps, pd⟩ => ?_⟩
  refine ⟨fun i m σ H => m = xs.length - i ∧ i ≤ xs.length ∧ ∃ ρ C F', Same F1 F' ∧ RS X.K cl ρ C F' σ H ∧ Pv i ρ C, ⟨xs.length, by simp, Nat.zero_le _, ρ, C1, F1, Same.refl F1, R.next s1 R1, p0⟩, ?_⟩
  rintro i m σ2 H2 ⟨rfl, hi, ρ2, C2, F2, s2, R2, p2⟩
  obtain ⟨wy, we⟩ := wk i C2 F2 H2 s2 R2.rc (pg i ρ2 C2 p2)
  by_cases hlt : i < xs.length
  · obtain ⟨go, yl⟩ := wy _ (List.getElem?_eq_getElem hlt)
    have again : ∀ ρ' C' F' σ' H', Same F1 F' → RS X.K cl ρ' C' F' σ' H' → Pv (i + 1) ρ' C' → ∃ ρ C F', Same F1 F' ∧ RS X.K cl ρ C F' σ' H' ∧ Pv (i + 1) ρ C := fun ρ' C' F' σ' H' s' R' p' => ⟨ρ', C', F', s', R', p'⟩
    refine .inr ⟨go, fun σ' H' => ∃ ρ C F', Same F1 F' ∧ RS X.K cl ρ C F' σ' H' ∧ Pv (i + 1) ρ C, fun σ' H' z => ⟨xs.length - (i + 1), by omega, rfl, hlt, z⟩, fun v H3 y => ?_⟩
    obtain ⟨F3, s3, R3, r3⟩ := yl v H3 y
    refine ⟨_, ρ2, C2, F3, _, R2.next s3 R3, r3, ps i _ ρ2 C2 (List.getElem?_eq_getElem hlt) p2, fun ρ4 C4 F4 σ4 H4 s4 R4 q4 => ?_⟩
    have sb : Same F1 F4 := s2.trans (s3.trans s4)
    exact ⟨ρ4, C4, F4, _, R4, q4, ⟨fun ρ' C' F' σ' H' s' => again ρ' C' F' σ' H' (sb.trans s'), fun ρ' C' F' σ' H' s' => k.nx ρ' C' F' σ' H' (s1.trans (sb.trans s')), fun ρ' C' F' σ' H' s' => again ρ' C' F' σ' H' (sb.trans s'), (k.at (s1.trans sb)).rt⟩⟩
  · have e : i = xs.length := by omega
    subst e
    exact .inl ⟨we rfl, k.nx ρ2 C2 F2 σ2 H2 (s1.trans s2) R2 (pd ρ2 C2 p2)⟩
variable {vs : List Nat}
theorem low_lcU {K : PySem.W.Frag} {wi : DIc} {g : DG} {tt : DT} {te : DE} {σ : L2.St} {H : Hp} {Q : VK} (h : lowE K cl (dLcU wi g tt te vs) σ H Q) :
    tLc (lowIc K cl wi) (lowO K cl vs g) (lowT K cl tt) (lowE K cl te) vs σ H Q := by
  obtain ⟨ρ, C, F, Qd, R, h, k⟩ := h
  refine ⟨ρ, C, F, _, R, h, fun J xs G C1 H1 F1 s1 R1 wk q1 p np => ?_⟩
  obtain ⟨Pv, p0, pg, ps, pd⟩ := q1 p (R1.freeC np)
  refine ⟨fun i m H => m = xs.length - i ∧ i ≤ xs.length ∧ ∃ C F', Same F1 F' ∧ RC K cl C F' H ∧ Pv i C, ⟨xs.length, by simp, Nat.zero_le _, _, F1, Same.refl F1, R1.cell np (.lst .nil), p0⟩, ?_⟩
  rintro i m H2 ⟨rfl, hi, C2, F2, s2, R2, p2⟩
  obtain ⟨wy, we⟩ := wk i C2 F2 H2 s2 R2 (pg i C2 p2)
  by_cases hlt : i < xs.length
  · obtain ⟨go, yl⟩ := wy _ (List.getElem?_eq_getElem hlt)
    refine .inr ⟨go, fun H' => ∃ C F', Same F1 F' ∧ RC K cl C F' H' ∧ Pv (i + 1) C, fun H' z => ⟨xs.length - (i + 1), by omega, rfl, hlt, z⟩, fun v H3 y => ?_⟩
    obtain ⟨F3, s3, R3, r3⟩ := yl v H3 y
    have Rw : RS K cl (wipeD ρ vs) C2 F3 (wipe σ vs) H3 := (R.wipe vs).next (s1.trans (s2.trans s3)) R3
    refine ⟨_, _, C2, F3, _, Rw, r3, ps i _ C2 (List.getElem?_eq_getElem hlt) p2, fun ρ4 C4 F4 σ4 H4 s4 R4 w4 q4 => ⟨?_, ?_⟩⟩
    · rw [w4, low_lc.wipe_wipe]
    refine ⟨ρ4, C4, F4, _, R4, q4, fun b C5 H5 F5 s5 R5 q5 => ?_⟩
    have sb : Same F1 F5 := s2.trans (s3.trans (s4.trans s5))
    cases b with
    | false =>
      rw [if_neg Bool.false_ne_true] at q5
      exact iteF ⟨C5, F5, sb, R5, q5⟩
    | true =>
      rw [if_pos rfl] at q5
      refine iteT ⟨ρ4, C5, F5, _, R4.next s5 R5, q5, fun u d C6 H6 F6 s6 R6 r6 ⟨acc, ha, hl, q6⟩ => ?_⟩
      obtain ⟨_, o, ho, cr⟩ := R6.cel p _ ha
      cases cr with
      | lst rl =>
        exact ⟨_, ho, by rw [rl.length]; exact hl, _, F6, sb.trans s6, R6.put ha (.lst (rl.append (.cons r6 .nil))), q6⟩
  · have e : i = xs.length := by omega
    subst e
    exact .inl ⟨we rfl, k (.ref p) (.ref p) C2 H2 F2 (s1.trans s2) R2 (.ref p) (pd C2 p2)⟩
theorem de_lcU {elt iter : Expr} {ifs : List Expr} {scope : Scope} {own : List (Str × Nat)} {wi : DIc} {g : DG} {tt : DT} {te : DE} (hN : X.N.Nodup) (hi : PIc X cl tg iter wi) (ok : BlkOk X.N X.env.scope scope own)
    (hg : ∀ (s : Shared) (H : Hp) (C : Addr) (l : List (Str × Addr)) (fp : List Addr), POd (X.blk s H scope (compEnvC scope l C X.env) fp) cl vs tg g) (ht : ∀ (s : Shared) (H : Hp) (C : Addr) (l : List (Str × Addr)) (fp : List Addr), PTsd (X.blk s H scope (compEnvC scope l C X.env) fp) cl ifs tt)
    (he : ∀ (s : Shared) (H : Hp) (C : Addr) (l : List (Str × Addr)) (fp : List Addr), PEd (X.blk s H scope (compEnvC scope l C X.env) fp) cl elt te) (hv : own.map (·.2) = vs := by rfl) (hc : X.calm = true := by rfl) (hs : ∀ x, foldedSetIterable iter X.env x = pure x := by intro _; rfl) :
    PEd X cl (.ListComp elt [⟨tg, iter, ifs, 0⟩] scope pos) (dLcU wi g tt te vs) := by
  subst hv
  exact weakE (pe_lc hc hN hi ok hg ht he hs) fun _ _ _ h => low_lcU h
end
/-! ### steps -/
theorem v_iList {te : DE} {ρ : DEnv} {C : Cl} {R : List D → (Cl → Prop) → Cl → Prop} (h : te ρ C fun x C1 => ∃ xs G, Walks C1 x xs G ∧ R xs G C1) : dicList te ρ C R := h
theorem v_iEnum {t : DA} {ρ : DEnv} {C : Cl} {R : List D → (Cl → Prop) → Cl → Prop} (h : t ρ C fun ds C1 => ∃ x xs G, ds = [x] ∧ Walks C1 x xs G ∧ R (numbered 0 xs) G C1) : dicEnum t ρ C R := h
/-- a comprehension over what is walked, nothing changed -/
theorem v_lcmapU {α : Type} {g : DG} {te : DE} {ρ : DEnv} {C : Cl} {Q : DQ} {wi : DIc} {vs : List Nat} {as : List α} {e : α → D} {x : D} {G : Cl → Prop} (f : α → D) (hw : ∀ R : List D → (Cl → Prop) → Cl → Prop, R (as.map e) G C → wi ρ C R) (w : Walks C x (as.map e) G) (hl : as.length ≤ sizeLine)
    (hs : ∀ (i : Nat) (a : α) (C' : Cl) (N : DQ), as[i]? = some a → a ∈ as → SubC C C' → N (f a) C' → g (e a) (wipeD ρ vs) C' fun ρ2 C2 => te ρ2 C2 N) (hq : Q (.lst (as.map f)) C) : dFz (dLcU wi g dYes te vs) ρ C Q := by
  refine hw _ fun p hp => ?_
  refine ⟨fun i C' => C' = updC C p (.lst ((as.take i).map f)), rfl, ?_, ?_, ?_⟩
  · rintro i _ rfl
    exact w.new hp
  · rintro i x _ hx rfl
    rw [List.getElem?_map] at hx
    cases ha : as[i]? with
    | none => rw [ha] at hx; cases hx
    | some a =>
      rw [ha] at hx; cases hx
      have hi : i < as.length := (List.getElem?_eq_some_iff.mp ha).1
      refine hs i a _ _ ha (List.mem_of_getElem? ha) ((SubC.refl _).new hp) ⟨_, updC_same, ?_, ?_⟩
      · rw [List.length_map, List.length_take]; omega
      · show updC (updC C p _) p _ = updC C p (.lst ((as.take (i + 1)).map f))
        rw [updC_updC, List.take_add_one, ha]; simp
  · rintro _ rfl
    rw [List.length_map, List.take_length]
    exact ⟨p, _, rfl, updC_same, by rw [delC_new hp]; exact hq⟩
theorem v_loopFC {α : Type} {g : DG} {ρ : DEnv} {C : Cl} {n b c : DEnv → Cl → Prop} {r : DQ} {wi : DIc} {tb : DS} {as : List α} {e : α → D} {G : Cl → Prop} (P : Nat → DEnv → Cl → Prop) (hw : ∀ R : List D → (Cl → Prop) → Cl → Prop, R (as.map e) G C → wi ρ C R) (hG : ∀ i ρ C, P i ρ C → G C) (h0 : P 0 ρ C)
    (hs : ∀ i a ρ C, as[i]? = some a → a ∈ as → P i ρ C → g (e a) ρ C fun ρ2 C2 => tb ⟨P (i + 1), r, n, P (i + 1)⟩ ρ2 C2) (hd : ∀ ρ C, P as.length ρ C → n ρ C) : dForC wi g tb ⟨n, r, b, c⟩ ρ C := by
  refine hw _ ⟨P, h0, hG, fun i x ρ' C' hx hp => ?_, fun ρ' C' hp => hd ρ' C' (by rw [List.length_map] at hp; exact hp)⟩
  rw [List.getElem?_map] at hx
  cases ha : as[i]? with
  | none => rw [ha] at hx; cases hx
  | some a => rw [ha] at hx; cases hx; exact hs i a ρ' C' ha (List.mem_of_getElem? ha) hp
/-! ### == of lists that may be cells -/
def viewC (C : Cl) : D → D
  | .ref a => match C a with
    | some (.lst ds) => .lst ds
    | _ => .ref a
  | d => d
theorem viewC_ref {C : Cl} {a : Addr} {ds : List D} (h : C a = some (.lst ds)) : viewC C (.ref a) = .lst ds := by
  show (match C a with | some (.lst ds) => D.lst ds | _ => D.ref a) = _
  rw [h]
def rEqC : RD2 := fun x y C Q => shp (viewC C x) = true ∧ shp (viewC C y) = true ∧ Q (.bl (eqT (viewC C x) (viewC C y))) C
def rNeC : RD2 := fun x y C Q => shp (viewC C x) = true ∧ shp (viewC C y) = true ∧ Q (.bl (!eqT (viewC C x) (viewC C y))) C
section
variable {X : Cx} {cl : NmB}
theorem dp_cell {K : PySem.W.Frag} {C : Cl} {F H : Hp} {v : V} {d : D} (R : RC K cl C F H) (r : Rep K cl F v d) (h : plain (viewC C d) = true) : Dp K H v (toPy (viewC C d)) := by
  have other : viewC C d = d → Dp K H v (toPy (viewC C d)) := fun e => by
    rw [e] at h ⊢
    exact r.dp R.sub h
  cases d with
  | ref a =>
    cases hc : C a with
    | none => exact other (by show (match C a with | some (.lst ds) => D.lst ds | _ => D.ref a) = _; rw [hc])
    | some c =>
      cases c with
      | lst ds =>
        rw [viewC_ref hc] at h ⊢
        obtain ⟨xs, hx, rl⟩ := cell_lst R hc
        cases r
        unfold plain at h
        unfold toPy
        exact .lst (.of hx) (RepL.dp R.sub rl h)
      | _ => exact other (by show (match C a with | some (.lst ds) => D.lst ds | _ => D.ref a) = _; rw [hc])
  | _ => exact other rfl
theorem od_eqC {n : Nat} (hr : Room n X.A) : OpD X cl (compareOp .Eq) rEqC := by
  intro pins s σ H x y v u Q I rx ry ⟨dx, dy, C, F, Qd, R, r1, r2, ⟨h1, h2, q⟩, k⟩
  unfold shp at h1 h2
  rw [Bool.and_eq_true] at h1 h2
  exact op_eqD hr.units pins s σ H _ _ v u Q I rx ry ⟨_, _, dp_cell R r1 h1.1, dp_cell R r2 h2.1, h1.2, h2.2, k _ _ C H F (Same.refl F) R (.bl _) q⟩
theorem od_neC {n : Nat} (hr : Room n X.A) : OpD X cl (compareOp .NotEq) rNeC := by
  intro pins s σ H x y v u Q I rx ry ⟨dx, dy, C, F, Qd, R, r1, r2, ⟨h1, h2, q⟩, k⟩
  unfold shp at h1 h2
  rw [Bool.and_eq_true] at h1 h2
  exact op_neD hr.units pins s σ H _ _ v u Q I rx ry ⟨_, _, dp_cell R r1 h1.1, dp_cell R r2 h2.1, h1.2, h2.2, k _ _ C H F (Same.refl F) R (.bl _) q⟩
end
theorem neC_self {n : Nat} {a : Addr} {ds : List D} {C : Cl} {Q : DQ} (hc : C a = some (.lst ds)) (h : Sh n (.lst ds)) (hq : Q (.bl false) C) (e : n ≤ 64 := by decide) : rNeC (.ref a) (.lst ds) C Q := by
  unfold rNeC
  rw [viewC_ref hc, show viewC C (.lst ds) = .lst ds from rfl]
  exact ⟨h.shp e, h.shp e, by rw [eqT_self h]; exact hq⟩
end G
namespace G
open PySem PySem.Spec PyProof.Rows L2
/-! ### d.setdefault(k, v) -/
section
variable {X : Cx} {cl : NmB} {o e f : Expr} {to tk tx : DE} {apos cpos : Pos}
end
end G
set_option maxHeartbeats 1000000
namespace G
open PySem PySem.Spec PyProof.Rows L2
/-! ### exceptions of one's own: what may leave, calls that may raise, raise -/
/-- the readings' exception end keeps the wish W -/
def FinW (K : PySem.W.Frag) (cl : NmB) (Ex : DEnv → DX) (W : WX) : Prop :=
  ∀ (ρ : DEnv) (σ : L2.St) (c : String) (ds : List (Str × D)) (cv : Value) (d : Option Addr) (C : Cl) (F H : Hp), RS K cl ρ C F σ H → ExcRep K cl F c ds cv d H → Ex ρ c ds C → W cv d σ H
theorem finw_none {K : PySem.W.Frag} {cl : NmB} {W : WX} : FinW K cl (fun _ => noX) W := fun _ _ _ _ _ _ _ _ _ _ _ z => z.elim
theorem FinW.at {K : PySem.W.Frag} {cl : NmB} {Ex : DEnv → DX} {W : WX} (k : FinW K cl Ex W) {ρ : DEnv} {C : Cl} {F F1 : Hp} {σ : L2.St} {H : Hp} (R : RS K cl ρ C F σ H) (s : Same F F1) : FinX K cl F1 (Ex ρ) (WE W σ) :=
  fun c ds cv d C2 H2 F2 s2 R2 x h => k ρ σ c ds cv d C2 F2 H2 (R.next (s.trans s2) R2) x h

section
variable {X : Cx} {cl : NmB} {CX : CXT} {k n : Nat} {f : Addr} {ks : List Str} {sp : DSp2} {E : XK} {pins : List (Addr × Obj)} {σ : L2.St} {H : Hp} {s : Shared}
theorem Cee.goS {A : Around} {us ws : List Value} {vs zs : List V} {Q : VK} (c : Cee X.prog X.w X.K cl X.mg X.base CX k f ks sp) (hr : Room k A) (hf : A.frames = X.A.frames) (hx : PassesAt CX X σ E) (I : Inv X pins σ H s) (r : Vals vs us) (rz : Vals zs ws)
    (h : lowC2 X.K cl sp vs zs H Q E) : wpAny (model X.prog X.w) A (call (.ref f) us (ks.zip ws)) (EP X pins σ Q) X.xe s := by
  have e0 : Env0 X.prog X.w X.K X.mg X.base A X.stack s H := by
    have e := I.env0
    exact ⟨by rw [hf]; exact e.frames, e.mod, e.bs, e.bsz, e.funs, e.frf, e.hok, e.bare⟩
  refine wpAny_call (codeAny_mono (c A X.stack s H us ws vs zs Q E hr e0 r rz h) fun r s' hq => ?_)
  cases r with
  | error e => exact hx pins H s e s' I hq
  | ok fl =>
    cases fl with
    | ret u => exact I.after hq
    | next => exact False.elim hq
    | brk => exact False.elim hq
    | cont => exact False.elim hq
end
section
variable {X : Cx} {cl : NmB} {k : Nat} {g : Addr} {ks : List Str} {sp : DSp2} {e o : Expr} {es : List Expr} {kws : List Keyword} {to : DE} {t tk : DA} {pos apos p : Pos} {x m : Str} {c : String} {te : DE} {Ex : DEnv → DX} {W : WX}
end

/-! ### a def that may raise -/
section
variable {P : Program} {w : World} {K : PySem.W.Frag} {cl : Nm} {mg : Str → Option Value} {base : Heap}
theorem fn_dX {x qual : Str} {st : Stmt} {f : Addr} {fd : FuncData} {N ps : List Str} {k : Nat} {sp : DSp} {td : (DEnv → DX) → DS} (Fu : Fun K x qual st f fd) (S : FnScope N ps (defScope st)) (len : ∀ ds C Q E, sp ds C Q E → ds.length = ps.length)
    (pure : ∀ ds C Q E, sp ds C Q E → td (fun _ => E) (endsD Q) (startD N ds) C)
    (body : ∀ (cdv : Value) (A : Around) (outer : List Env) (s : Shared) (H : Hp) (E : XK) (F0 : Hp) (Ex : DEnv → DX) (W : WX), Room k (A.deeper (envOfC qual (defScope st) s.heap.objs.size f cdv)) →
      Takes (cxOf (L2.CX P w) P w K mg base N qual (defScope st) f cdv A outer s H E) W → FinW K ⟨cl, F0⟩ Ex W → PSsd (cxOf (L2.CX P w) P w K mg base N qual (defScope st) f cdv A outer s H E) ⟨cl, F0⟩ (defBody st) (td Ex)) :
    FnOk P w K mg base (L2.CX P w) (k + 1) f fd ps (lowSp K cl sp) := by
  refine funOkX Fu S (fun vs H Q E ⟨ds, C, F, Qd, Ed, R, r, h, _, _⟩ => r.length.trans (len ds C Qd Ed h)) fun cdv A outer s H vs Q E hr ⟨ds, C, F, Qd, Ed, R, r, h, kq, kx⟩ => ?_
  refine ⟨_, body cdv A outer s H E F (fun _ => Ed) (fun cv d _ H => E cv d H) hr (takes_of rfl rfl rfl rfl) ?_, startD N ds, C, F, _, RS.startB (cl := ⟨cl, F⟩) N R r (Same.refl F), pure ds C Qd Ed h, ?_⟩
  · intro ρ σ c fs cv d C1 F1 H1 R1 x1 h1
    exact kx c fs cv d C1 H1 F1 R1.bs R1.rc x1 h1
  · refine ⟨fun ρ C1 F1 σ H1 s1 R1 ⟨C2, sc, q⟩ => kq .non .non C2 H1 F1 s1 (R1.rc.drop sc) .non q, fun _ _ _ _ _ _ _ z => z.elim, fun _ _ _ _ _ _ _ z => z.elim, fun v d C1 F1 H1 s1 R1 r1 ⟨d', C2, g, q⟩ => ?_⟩
    obtain ⟨F2, s2, R2, r2⟩ := g.ok R1 r1
    exact kq v d' C2 H1 F2 (s1.trans s2) R2 r2 q
end

/-! ### raise c(e, ..) -/
/-- a value whose text is short -/
def ShowD (d : PyData) : Prop := d.showable = true ∧ d.hasDict = false ∧ d.depth ≤ 60 ∧ d.shown.length ≤ 1000000
/-- what a text can hold of an argument -/
def PrV (K : PySem.W.Frag) (H : Hp) (y : V) : Prop := (∃ z : Str, y = .str z ∧ z.length ≤ 1000000) ∨ (∃ i : Int, y = .int i ∧ i.natAbs.log2 < 1920) ∨ y = .non ∨ (∃ b, y = .bl b) ∨ ∃ a d, y = .ref a ∧ Dp K H y d ∧ ShowD d
def PrD (x : D) : Prop := (∃ l : List Nat, x = .str l ∧ l.length ≤ 1000000) ∨ (∃ i : Int, x = .int i ∧ i.natAbs.log2 < 1920) ∨ x = .non ∨ (∃ b, x = .bl b) ∨ (plain x = true ∧ ShowD (toPy x) ∧ ((∃ ds, x = .tup ds) ∨ (∃ ds, x = .lst ds) ∨ ∃ ds, x = .rol ds))
/-- an own exception's __init__: its fields are its arguments -/
def spXi (K : PySem.W.Frag) (C : Addr) (fs : List Str) : Sp := fun vs H Q E => ∃ a ys, vs = .ref a :: ys ∧ ys.length = fs.length ∧ OexC K C ∧ (∀ f ∈ fs, PySem.W.findIn K (.ref C) f = some none) ∧ H a = some (exo a C none) ∧ (∀ y ∈ ys, PrV K H y) ∧
  ∀ dx, H dx = none → dx ≠ a → Q .non (upd (upd H dx (exd dx (fs.zip ys).reverse)) a (exo a C (some dx)))
def dRaise (Ex : DEnv → DX) (c : String) (fs : List Str) (t : DA) : DS := fun D ρ C => t ρ C fun xs C1 => xs.length = fs.length ∧ xs.length ≤ 900 ∧ (∀ x ∈ xs, PrD x) ∧ Ex ρ c (fs.zip xs).reverse C1
theorem RepF.append {K : PySem.W.Frag} {cl : Nm} {F : Hp} : ∀ {as bs : List (Str × V)} {ds es : List (Str × D)}, RepF K cl F as ds → RepF K cl F bs es → RepF K cl F (as ++ bs) (ds ++ es)
  | _, _, _, _, .nil, s => s
  | _, _, _, _, .cons h r, s => .cons h (RepF.append r s)
theorem RepF.reverse {K : PySem.W.Frag} {cl : Nm} {F : Hp} : ∀ {as : List (Str × V)} {ds : List (Str × D)}, RepF K cl F as ds → RepF K cl F as.reverse ds.reverse
  | _, _, .nil => .nil
  | _, _, .cons h r => by rw [List.reverse_cons, List.reverse_cons]; exact (RepF.reverse r).append (.cons h .nil)
theorem RepF.zip {K : PySem.W.Frag} {cl : Nm} {F : Hp} : ∀ (fs : List Str) {vs : List V} {ds : List D}, RepL K cl F vs ds → RepF K cl F (fs.zip vs) (fs.zip ds)
  | [], _, _, _ => by rw [List.zip_nil_left, List.zip_nil_left]; exact .nil
  | _ :: _, _, _, .nil => .nil
  | _ :: fs, _, _, .cons h r => .cons h (RepF.zip fs r)
theorem prv_one {K : PySem.W.Frag} {cl : Nm} {F H : Hp} (sub : Same F H) {v : V} {d : D} (r : Rep K cl F v d) (p : PrD d) : PrV K H v := by
  rcases p with ⟨l, e1, e2⟩ | ⟨i, e1, e2⟩ | e1 | ⟨b, e1⟩ | ⟨pl, sh, k⟩
  · subst e1
    cases r
    exact .inl ⟨_, rfl, by simpa [Str.length] using e2⟩
  · subst e1
    cases r
    exact .inr (.inl ⟨_, rfl, e2⟩)
  · subst e1
    cases r
    exact .inr (.inr (.inl rfl))
  · subst e1
    cases r
    exact .inr (.inr (.inr (.inl ⟨_, rfl⟩)))
  · have q := Rep.dp (cl := nb cl) sub r pl
    rcases k with ⟨ds, e1⟩ | ⟨ds, e1⟩ | ⟨ds, e1⟩
    · subst e1
      cases r
      exact .inr (.inr (.inr (.inr ⟨_, _, rfl, q, sh⟩)))
    · subst e1
      cases r
      exact .inr (.inr (.inr (.inr ⟨_, _, rfl, q, sh⟩)))
    · subst e1
      cases r
      exact .inr (.inr (.inr (.inr ⟨_, _, rfl, q, sh⟩)))
theorem prv_of {K : PySem.W.Frag} {cl : Nm} {F H : Hp} (sub : Same F H) : ∀ {vs : List V} {ds : List D}, RepL K cl F vs ds → (∀ x ∈ ds, PrD x) → ∀ y ∈ vs, PrV K H y
  | _, _, .nil, _ => nofun
  | _, _, .cons h r, k => fun y hy => by
    rcases List.mem_cons.mp hy with e | e
    · subst e
      exact prv_one sub h (k _ List.mem_cons_self)
    · exact prv_of sub r (fun x hx => k x (List.mem_cons_of_mem _ hx)) y e
theorem exheap {H : Hp} {a dx : Addr} {o o2 u v : HO} (ha : H a = none) (hd : dx ≠ a) : upd (del (upd (upd (upd H a o) dx u) a o2) a) dx v = upd H dx v := by
  funext b
  by_cases h : b = dx
  · subst h; rw [upd_same, upd_same]
  · rw [upd_ne h, upd_ne h]
    by_cases z : b = a
    · subst z; rw [del_same, ha]
    · rw [del_ne z, upd_ne z, upd_ne h, upd_ne z]
section
variable {X : Cx} {cl : NmB} {k : Nat} {fI : Addr} {fd : FuncData} {ps fs : List Str} {c : String} {e : Expr} {es : List Expr} {t : DA} {x : Str} {p pos pos2 : Pos} {Ex : DEnv → DX} {W : WX}
/-- c(e, ..), c an own exception over ValueError; its __init__ is asked where nothing is being shown -/
theorem pmk_own {CX : CXT} {C : Addr} {sp : Sp} {ta : TA} (T : OexC X.K C) (iC : PySem.W.findIn X.K (.ref C) "__init__" = some (some (.ref fI))) (tI : PySem.W.typeIn X.K (.ref fI) = some (.type "function"))
    (F1 : FnOk X.prog X.w X.K X.mg X.base CX k fI fd ps sp) (hr : Room (k + 1) X.A) (hb : Binds X.K fd ps []) (hx : Passes CX X (fun _ _ _ => False)) (hg : Gl X x) (hm : X.mg x = some (.ref C)) (ha : PA X (e :: es) ta)
    (hdb : (x == ("__debug__" : Str)) = false) (he : starEach (e :: es) X.env = (false, eval e X.env) :: starEach es X.env) (hpl : (backTo pos (starEach es X.env)).any (·.1) = false) : PMk X (.Call (.Name x p) (e :: es) [] pos) (tMkO C sp [] ta) := by
  intro pins s σ H Q I h
  obtain ⟨nm, q, N, bs, bm, sn, sub, ab, col, dd, k0, k1, k2, k3, k5, hC, hbm⟩ := T.cls
  refine wpAny_Call_Name_kw (ld_glob I hg hm ?_ hdb)
  refine PySem.W.callWith_K (h₀ := X.base) I.ok.mod.kin T.kC (thn (ha.run pos pins s σ H _ I h) fun us s1 ⟨vs, H1, I1, r1, hz, q1⟩ => ⟨I1.kIn, ?_⟩) he hpl
  show wpAny _ _ (call (.ref C) us) _ _ _
  obtain ⟨hp, g, dr, tk, os⟩ := s1
  generalize hA : hp.objs.size + 1 = A0
  have big : hp.objs.size ≤ A0 := by omega
  have free : H1 A0 = none := I1.hok.fresh big
  have hq := q1 A0 free
  rw [List.append_nil] at hq
  generalize hh : (hp.push (PySem.W.kdv_tup us)).push (PySem.HandSPX.excO C hp.objs.size) = h2
  have keep : ∀ b o, hp.get? b = some o → h2.get? b = some o := fun b o e => by rw [← hh]; exact Heap.get?_push_of_some _ (Heap.get?_push_of_some _ e)
  have hget : h2.get? A0 = some (PySem.HandSPX.excO C hp.objs.size) := by subst hh hA; heap_get
  have I2 : Inv X pins σ (upd H1 A0 (exo A0 C none)) ⟨h2, g, dr, tk, os⟩ := I1.laid (t' := tk) (a := A0) (o := exo A0 C none) (h' := h2) keep big (exo_ok hget)
  have r2 : Vals (V.ref A0 :: vs) (Value.ref A0 :: us) := .cons rfl r1
  have hl : (Value.ref A0 :: us).length = ps.length := r2.length.symm.trans (F1.len _ _ _ _ hq)
  have hus : us.length ≤ sizeLine := by
    have := r1.length
    rw [sizeLine_eq]
    omega
  have b := hb ⟨h2, g, dr, tk, os⟩ (Value.ref A0 :: us) I2.kIn (by rw [List.append_nil]; exact hl)
  rw [List.append_nil] at b
  have run := F1.run _ X.stack _ _ ⟨Value.ref A0 :: us, []⟩ (Value.ref A0 :: us) _ _ (fun _ _ _ => False) (hr.make C us []) (I2.env0.make C us []) b r2 hq
  subst hA hh
  refine wpAny_call (PySem.HandSPX.call_own F.excBase_ValueError (fun Y => PySem.HandSPX.refsVE_contains Y bm hbm) (I1.kIn _ _ hC) (PySem.W.looks_findIn I1.kIn iC) (fun self => PySem.W.bind_fn I1.kIn self tI) hus (codeAny_mono run fun r s' hq' => ?_))
  cases r with
  | error er => exact hx pins σ _ _ er s' I2 hq'
  | ok fl =>
    cases fl with
    | ret u =>
      obtain ⟨v, H2, os2, bare2, un2, hok2, rv, ev, d, fs, ea, ed, hd1, q2⟩ := hq'
      subst ev
      obtain ⟨h3, g2, d2, t2, os'⟩ := s'
      exact ⟨rv, mk_end (raises_own T.exC T.tyC) I1 big keep un2 hok2 os2 bare2 ea ed hd1 q2⟩
    | next => exact hq'.elim
    | brk => exact hq'.elim
    | cont => exact hq'.elim
theorem ds_raise (tkX : Takes X W) (fw : FinW X.K cl Ex W) (T : OexC X.K (cl c)) (iC : PySem.W.findIn X.K (.ref (cl c)) "__init__" = some (some (.ref fI))) (tI : PySem.W.typeIn X.K (.ref fI) = some (.type "function")) (nf : ∀ f ∈ fs, PySem.W.findIn X.K (.ref (cl c)) f = some none)
    (F1 : FnOk X.prog X.w X.K X.mg X.base CX0 k fI fd ps (spXi X.K (cl c) fs)) (hr : Room (k + 1) X.A) (hb : Binds X.K fd ps []) (hm : X.mg x = some (.ref (cl c))) (ha : PAd X cl (e :: es) t) (hc : X.calm = true := by rfl) (hg : Gl X x := by rfl)
    (hdb : (x == ("__debug__" : Str)) = false := by decide) (he : starEach (e :: es) X.env = (false, eval e X.env) :: starEach es X.env := by rfl) (hpl : (backTo pos (starEach es X.env)).any (·.1) = false := by rfl) :
    PSd X cl (.Raise (some (.Call (.Name x p) (e :: es) [] pos)) none pos2) (dRaise Ex c fs t) := by
  refine weakS (ps_raise hc tkX (pmk_own T iC tI F1 hr hb pass0 hg hm ha hdb he hpl)) fun De σ H ⟨ρ, C, F, Dd, R, h, k⟩ => ?_
  refine ⟨ρ, C, F, _, R, h, fun vs ds C1 H1 F1 s1 R1 r1 ⟨l1, l2, pr, hx⟩ => ⟨by rw [r1.length]; omega, fun a na => ⟨a, vs, by rw [List.append_nil], by rw [r1.length, l1], T, nf, upd_same, prv_of (R1.sub.trans (same_upd na)) r1 pr, fun dx hd hda => ?_⟩⟩⟩
  have hd1 : H1 dx = none := by rw [upd_ne hda] at hd; exact hd
  refine ⟨rfl, dx, (fs.zip vs).reverse, upd_same, by rw [upd_ne hda, upd_same], hd1, ?_⟩
  rw [exheap na hda]
  exact fw ρ σ c _ _ _ C1 F1 _ (R.next s1 (R1.over (same_upd hd1))) ⟨rfl, dx, _, rfl, upd_same, (RepF.zip fs r1).reverse⟩ hx
end
end G
set_option maxHeartbeats 1000000
namespace G
open PySem PySem.Spec PyProof.Rows L2
/-! ### an own exception's __init__ -/
section
variable {X : Cx} {C G0 : Addr} {mc : Value} {e : Expr} {es : List Expr} {ta : TA} {x : Str} {p1 p2 pos : Pos}
/-- G.__init__(self, ..), G an own class over ValueError without an own __init__ -/
theorem pe_ginit {pl : Sem Bool} (hm : X.mg x = some (.ref G0)) (r : ClX.CRead X.K G0 mc) (vV : PySem.W.findCls X.K (.ref G0) mc "__init__" = some (.val (.builtin "ValueError.__init__"))) (ha : PA X (e :: es) ta)
    (hc : eval (.Call (.Attribute (.Name x p1) "__init__" p2) (e :: es) [] pos) X.env = (do
      let ov ← eval (.Name x p1) X.env
      standAt p2.atName
      let (f, first) ← holding [ov] (getMethod ov "__init__" pl)
      callWith pos f first (backTo pos (starEach (e :: es) X.env)) (backToKw pos (keywordEach [] X.env))) := by rfl)
    (hg : Gl X x := by rfl) (hdb : (x == ("__debug__" : Str)) = false := by decide)
    (he : starEach (e :: es) X.env = (false, eval e X.env) :: starEach es X.env := by rfl) (hpl : (backTo pos (starEach es X.env)).any (·.1) = false := by rfl) :
    PE X (.Call (.Attribute (.Name x p1) "__init__" p2) (e :: es) [] pos) (tVeI X.K ta) := by
  refine ⟨fun pins s σ H Q I h => ?_⟩
  refine PySem.W.methodCall_KW (pl := pl) (ld_glob I hg hm ?_ hdb) hc
  refine PySem.W.method_cls I.kIn r.ga (PySem.W.cls_value I.kIn r.rd vV (by decide +kernel) ?_)
  show wpAny _ _ (callWith pos (Value.builtin "ValueError.__init__") [] (backTo pos (starEach (e :: es) X.env)) []) _ _ _
  refine PyProof.Rows.callWith_method1 (thn (ha.run pos pins _ σ H _ (I.tok _) h) fun us s1 ⟨vs, H1, I1, r1, a, C, ws, ev, hl, T, ea, q⟩ => ?_) he hpl
  subst ev
  cases r1 with
  | @cons _ u0 _ ur ra rw' =>
    obtain rfl : u0 = Value.ref a := ra
    have hlen : ur.length ≤ sizeLine := by
      rw [← Paired.length rw', sizeLine_eq]
      omega
    exact oinit_ok T I1 ea hlen fun s' J => ⟨.non, H1, J, rfl, q⟩
end
/-- {x}: any such value, some short text -/
def tFmtD (K : PySem.W.Frag) (te : TE) : TE := fun σ H Q => te σ H fun x H1 => PrV K H1 x ∧ ∀ y : Str, y.length ≤ 1000000 → Q (.str y) H1
theorem pe_fmtD {X : Cx} {e : Expr} {te : TE} {pos : Pos} {k : Nat} (hr : Room k X.A) (he : PE X e te) : PE X (.FormattedValue e (-1) none pos) (tFmtD X.K te) := by
  refine ⟨fun pins s σ H Q I h => ?_⟩
  refine wpAny_FormattedValue_plain (thn (he.run pins s σ H _ I h) fun v s1 ⟨x, H1, I1, r1, pr, q⟩ => ?_)
  rcases pr with ⟨z, rfl, hz⟩ | ⟨i, rfl, hz⟩ | rfl | ⟨b, rfl⟩ | ⟨a, d, rfl, hd, s1', s2, s3, s4⟩
  · obtain ⟨t, rfl⟩ := r1
    exact wpAny_formatField_str ⟨.str z, H1, I1, ⟨t, rfl⟩, q z hz⟩ ⟨.str z, H1, I1.tok _, ⟨_, rfl⟩, q z hz⟩ (szl (by omega))
  · obtain ⟨t, rfl⟩ := r1
    exact wpAny_formatField_int hz ⟨.str (toString i), H1, I1.tok _, ⟨_, rfl⟩, q _ (Nat.le_trans (int_text_len_1921 hz) (by decide))⟩
  · obtain rfl : v = Value.none := r1
    exact wpAny_formatField_none ⟨.str "None", H1, I1.tok _, ⟨_, rfl⟩, q _ (by decide)⟩
  · obtain rfl : v = Value.bool b := r1
    refine wpAny_formatField_bool ⟨.str (if b then "True" else "False"), H1, I1.tok _, ⟨_, rfl⟩, q _ ?_⟩
    cases b <;> decide
  · obtain rfl : v = Value.ref a := r1
    obtain ⟨as, rd⟩ := Dp.reads I1 d (.ref a) (.ref a) hd rfl
    refine formatField_of_reads rd s1' (fun z => by rw [s2] at z; cases z) hr.gd (by have := hr.un; omega) (fun b o e => e) (fun h' u tk kp => ⟨.str d.shown, H1, I1.kept kp, ⟨u, rfl⟩, q _ s4⟩) (szl (by omega))
/-- a part of a short text, nothing changed -/
def Pl (σ : L2.St) (H : Hp) (t : TE) : Prop := ∀ Q : VK, (∀ y : Str, y.length ≤ 1000000 → Q (.str y) H) → t σ H Q
theorem pl_c {σ : L2.St} {H : Hp} {y : Str} (h : y.length ≤ 1000000) : Pl σ H (tC (.str y)) := fun Q k => k y h
theorem pl_fmt {K : PySem.W.Frag} {σ : L2.St} {H : Hp} {i : Nat} {y : V} (e : σ[i]? = some (some y)) (h : PrV K H y) : Pl σ H (tFmtD K (tVar i)) := fun Q k => ⟨_, e, h, k⟩
theorem js_pl {σ : L2.St} {H : Hp} {Q : Str → Hp → Prop} (hq : ∀ out, Q out H) : ∀ (ts : List TE) (acc : Str), (∀ t ∈ ts, Pl σ H t) → acc.length + ts.length * 1000000 ≤ 16000000 → tJs ts acc σ H Q
  | [], acc, _, _ => hq acc
  | t :: ts, acc, h, l => h t List.mem_cons_self _ fun y hy => by
    have e : (acc ++ y).length = acc.length + y.length := by
      show (acc ++ y).cps.size = acc.cps.size + y.cps.size
      exact Array.size_append
    rw [List.length_cons] at l
    exact ⟨y, rfl, szl (by omega), js_pl hq ts (acc ++ y) (fun x hx => h x (List.mem_cons_of_mem _ hx)) (by omega)⟩
/-- the readings of such an __init__ : the text's parts ts, then the fields -/
def tXi (K : PySem.W.Frag) (ts : List TE) (u : TS) : TS := tSeq (tDrop (tVeI K (tCons (tVar 0) (tCons (fun σ H Q => tJs ts Str.empty σ H fun out H1 => Q (.str out) H1) tNil)))) u
section
variable {P : Program} {w : World} {K : PySem.W.Frag} {mg : Str → Option Value} {base : Heap} {q : Str} {st : Stmt} {f : Addr} {fd : FuncData} {k : Nat} {C : Addr}
theorem xi_1 {N : List Str} {n f1 : Str} {ts : List TE} (Fu : Fun K "__init__" q st f fd) (S : FnScope N ["self", n] (defScope st)) (hN : N = (["self", n] : List Str)) (hts : ∀ (σ : L2.St) (H : Hp) (y : V), σ[1]? = some (some y) → PrV K H y → ∀ t ∈ ts, Pl σ H t) (hl : ts.length ≤ 16)
    (body : ∀ (cdv : Value) (A : Around) (outer : List Env) (s : Shared) (H : Hp) (E : XK), Room k (A.deeper (envOfC q (defScope st) s.heap.objs.size f cdv)) → PSs (cxOf CX0 P w K mg base N q (defScope st) f cdv A outer s H E).nox (defBody st) (tXi K ts (tSeq (tOst K f1 (tVar 0) (tVar 1)) tNext))) :
    FnOk P w K mg base CX0 (k + 1) f fd ["self", n] (spXi K C [f1]) := by
  subst hN
  refine funOk Fu S (fun vs H Q E ⟨a, ys, e, l, _⟩ => by rw [e, List.length_cons, l]; rfl) fun cdv A outer s H vs Q E hr ⟨a, ys, e, l, T, nf, ha, pr, hq⟩ => ⟨_, body cdv A outer s H E hr, ?_⟩
  subst e
  match ys, l with
  | [y], _ =>
    have h0 : (start (["self", n] : List Str) [V.ref a, y])[0]? = some (some (V.ref a)) := rfl
    have h1 : (start (["self", n] : List Str) [V.ref a, y])[1]? = some (some y) := rfl
    refine ⟨_, h0, js_pl (fun out => ?_) ts Str.empty (hts _ _ y h1 (pr y List.mem_cons_self)) (by show 0 + _ ≤ _; omega)⟩
    refine ⟨a, C, [.str out], rfl, by show (1 : Nat) ≤ 1000; decide, T, ha, ?_⟩
    exact ⟨y, h1, _, h0, a, C, rfl, T, nf f1 List.mem_cons_self, .inl ⟨ha, fun dx n1 n2 => hq dx n1 n2⟩⟩
end

/-! ### try: body, except c as n: suite -/
theorem FinS.base {K : PySem.W.Frag} {cl : NmB} {F : Hp} {Dd : DEnds} {De : Ends} (k : FinS K cl F Dd De) (hb : Same cl.bs F) {F2 : Hp} (s2 : Same F F2) (G0 : Hp) : FinS K ⟨cl.f, G0⟩ F2 Dd De :=
  ⟨fun ρ C F' σ H s R q => k.nx ρ C F' σ H (s2.trans s) ⟨R.rc, R.len, R.env, hb.trans (s2.trans s)⟩ q, fun ρ C F' σ H s R q => k.bk ρ C F' σ H (s2.trans s) ⟨R.rc, R.len, R.env, hb.trans (s2.trans s)⟩ q,
    fun ρ C F' σ H s R q => k.ct ρ C F' σ H (s2.trans s) ⟨R.rc, R.len, R.env, hb.trans (s2.trans s)⟩ q, fun v d C F' H s R r q => k.rt v d C F' H (s2.trans s) R r q⟩
/-- what a clause does with an exception; cs: the classes that may come, whether the clause takes them -/
def dCatch (cs : List (String × Bool)) (i : Nat) (ts : Addr → String → List (Str × D) → DS) (Ex : DEnv → DX) (D : DEnds) : DEnv → DX := fun ρ' c ds C' => ∃ b, cs.lookup c = some b ∧
    if b = true then ∀ a, C' a = none → ts a c ds { nx := fun ρ2 C2 => D.nx (ρ2.set i none) C2, rt := D.rt, bk := fun ρ2 C2 => D.bk (ρ2.set i none) C2, ct := fun ρ2 C2 => D.ct (ρ2.set i none) C2 } (ρ'.set i (some (.ref a))) C' else Ex ρ' c ds C'
def dTry (cs : List (String × Bool)) (i : Nat) (tb : (DEnv → DX) → DS) (ts : Addr → String → List (Str × D) → DS) (Ex : DEnv → DX) : DS := fun D ρ C => tb (dCatch cs i ts Ex D) D ρ C
def ExsOk (K : PySem.W.Frag) (cl : Nm) (cx : String) (cs : List (String × Bool)) : Prop := ∀ c b, cs.lookup c = some b → PySem.W.exmOne K (.ref (cl c)) (.ref (cl cx)) = some b
section
variable {X : Cx} {cl : NmB} {x n : Str} {cx : String} {cs : List (String × Bool)} {i : Nat} {body suite : List Stmt} {b₀ : Stmt} {np pos pos' : Pos} {tb : (DEnv → DX) → DS} {ts : Addr → String → List (Str × D) → DS} {Ex : DEnv → DX} {W : WX}
theorem ds_try (tkX : Takes X W) (fw : FinW X.K cl Ex W) (hc : Names X x (.ref (cl cx))) (hcs : ExsOk X.K cl cx cs)
    (hb : ∀ (W : WX) (pn : List (Addr × Obj)) (xe : Value → Shared → Prop) (F0 : Hp) (Ex : DEnv → DX), Same cl.bs F0 → Takes (X.tr pn xe) W → PassesOwn (model X.prog X.w) X.A X.env xe → FinW X.K ⟨cl.f, F0⟩ Ex W → PSsd (X.tr pn xe) ⟨cl.f, F0⟩ body (tb Ex))
    (hsu : ∀ (a dd : Addr) (oe : Obj) (c : String) (fs : List (Str × V)) (ds : List (Str × D)) (pn : List (Addr × Obj)) (F0 : Hp), Zc (.ref (cl c)) (some dd) oe → (∃ vs, oe.data = .fields vs) → F0 dd = some (.xd fs) → RepF X.K cl F0 fs ds → cs.lookup c = some true →
      PSsd (X.suite a ((a, oe) :: pn)) ⟨cl.f, F0⟩ (b₀ :: suite) (ts a c ds))
    (hi : X.N[i]? = some n := by rfl) (hN : X.N.Nodup := by decide) (hln : X.env.kindOf n = some .local := by rfl) (hs : X.stack = X.env :: X.outer := by rfl) (hf : X.env.frame = some X.env.locals := by rfl) :
    PSd X cl (.Try body [.ExceptHandler (some (.Name x np)) (some n) (b₀ :: suite) pos'] [] [] pos) (dTry cs i tb ts Ex) := by
  refine weakS (ps_try_as (tb := fun W De σ H => ∃ ρ C F Dd Ex, Same cl.bs F ∧ RS X.K ⟨cl.f, F⟩ ρ C F σ H ∧ tb Ex Dd ρ C ∧ FinS X.K ⟨cl.f, F⟩ F Dd De ∧ FinW X.K ⟨cl.f, F⟩ Ex W)
    (ts := fun a cv d De σ H => ∃ c dd ρ C F Dd fs ds, cv = .ref (cl c) ∧ d = some dd ∧ F dd = some (.xd fs) ∧ RepF X.K cl F fs ds ∧ cs.lookup c = some true ∧ RS X.K ⟨cl.f, F⟩ ρ C F σ H ∧ ts a c ds Dd ρ C ∧ FinS X.K ⟨cl.f, F⟩ F Dd De)
    (Wout := W) (c := .ref (cl cx)) (i := i) hs hf hN hi hln hc tkX
    (fun W pn xe tk po => ⟨fun pins s σ H De I ⟨ρ, C, F, Dd, Ex, sb, R, h, k, fw⟩ => (hb W pn xe F Ex sb tk po fw).run pins s σ H De I ⟨ρ, C, F, Dd, R, h, k⟩⟩)
    (fun a oe cv d pn hz hv => ⟨fun pins s σ H De I ⟨c, dd, ρ, C, F, Dd, fs, ds, e1, e2, fd, rf, lk, R, h, k⟩ => by
      subst e1 e2
      exact (hsu a dd oe c fs ds pn F hz hv fd rf lk).run pins s σ H De I ⟨ρ, C, F, Dd, R, h, k⟩⟩)) ?_
  intro De σ H ⟨ρ, C, F, Dd, R, h, k⟩
  refine ⟨ρ, C, F, Dd, _, R.bs, ⟨R.rc, R.len, R.env, Same.refl F⟩, h, k.base R.bs (Same.refl F) F, ?_⟩
  intro ρ1 σ1 c ds cv d C1 F1 H1 R1 ⟨e1, dd, fs, e2, hd, rf⟩ ⟨b, lk, hx⟩
  subst e1 e2
  refine ⟨b, hcs c b lk, fun hb1 a na => ?_, fun hb1 => ?_⟩
  · subst hb1
    rw [if_pos rfl] at hx
    have c0 : C1 dd = none := by
      cases q : C1 dd with
      | none => rfl
      | some cc =>
        obtain ⟨_, o, ho, cr⟩ := R1.rc.cel dd cc q
        rw [hd] at ho; cases ho
        cases cr
    have ca : C1 a = none := R1.rc.freeC na
    have s2 : Same F1 (upd F1 dd (.xd fs)) := fun b o e => by
      by_cases z : b = dd
      · subst z
        have := R1.rc.sub b o e
        rw [hd] at this; cases this
        exact upd_same
      · rw [upd_ne z]; exact e
    have rc2 : RC X.K cl C1 (upd F1 dd (.xd fs)) H1 := ⟨fun b o e => by
      by_cases z : b = dd
      · subst z; rw [upd_same] at e; cases e; exact hd
      · rw [upd_ne z] at e; exact R1.rc.sub b o e, fun b cc e => by
      obtain ⟨f0, o, ho, cr⟩ := R1.rc.cel b cc e
      have z : b ≠ dd := fun z => by rw [z, c0] at e; cases e
      exact ⟨by rw [upd_ne z]; exact f0, o, ho, cr.mono s2⟩, R1.rc.tab⟩
    have R2 : RS X.K ⟨cl.f, upd F1 dd (.xd fs)⟩ ρ1 C1 (upd F1 dd (.xd fs)) σ1 H1 := ⟨rc2, R1.len, fun j e q => let ⟨v, h1, h2⟩ := R1.env j e q; ⟨v, h1, h2.mono s2⟩, Same.refl _⟩
    refine ⟨c, dd, _, C1, _, _, fs, ds, rfl, rfl, upd_same, rf.mono s2, lk, R2.set i (.ref a), hx a ca, ?_⟩
    have sF : Same F (upd F1 dd (.xd fs)) := R1.bs.trans s2
    exact ⟨fun ρ3 C3 F3 σ3 H3 s3 R3 q => k.nx _ C3 F3 _ H3 (sF.trans s3) (RS.unset (cl := cl) ⟨R3.rc, R3.len, R3.env, R.bs.trans (sF.trans s3)⟩ i) q, fun ρ3 C3 F3 σ3 H3 s3 R3 q => k.bk _ C3 F3 _ H3 (sF.trans s3) (RS.unset (cl := cl) ⟨R3.rc, R3.len, R3.env, R.bs.trans (sF.trans s3)⟩ i) q,
      fun ρ3 C3 F3 σ3 H3 s3 R3 q => k.ct _ C3 F3 _ H3 (sF.trans s3) (RS.unset (cl := cl) ⟨R3.rc, R3.len, R3.env, R.bs.trans (sF.trans s3)⟩ i) q, fun v d C3 F3 H3 s3 R3 r3 q => k.rt v d C3 F3 H3 (sF.trans s3) R3 r3 q⟩
  · subst hb1
    rw [if_neg Bool.false_ne_true] at hx
    exact fw ρ1 σ1 c ds _ _ C1 F1 H1 ⟨R1.rc, R1.len, R1.env, R.bs.trans R1.bs⟩ ⟨rfl, dd, fs, rfl, hd, rf⟩ hx
end
/-! ### in an except suite: e.f, isinstance(e, c) -/
/-- a: the caught exception; ds: its fields -/
def dXf (a : Addr) (ds : List (Str × D)) (f : Str) (te : DE) : DE := fun ρ C Q => te ρ C fun x C1 => x = .ref a ∧ ∃ v, ds.lookup f = some v ∧ Q v C1
def dXis (a : Addr) (b : Bool) (te : DE) : DE := fun ρ C Q => te ρ C fun x C1 => x = .ref a ∧ Q (.bl b) C1
section
variable {X : Cx} {cl : NmB} {a dd : Addr} {oe : Obj} {pn : List (Addr × Obj)} {c : String} {fs : List (Str × V)} {ds : List (Str × D)} {e : Expr} {te : DE} {pos : Pos} {f : Str} {F0 : Hp}
theorem de_xf (hz : Zc (.ref (cl c)) (some dd) oe) (hv : ∃ vs, oe.data = .fields vs) (hd : F0 dd = some (.xd fs)) (rf : RepF X.K cl F0 fs ds) (T : XfC X.K (cl c)) (hno : PySem.W.findIn X.K (.ref (cl c)) f = some none)
    (he : PEd (X.suite a ((a, oe) :: pn)) ⟨cl.f, F0⟩ e te) (hb : attributeBase e f X.env (eval e X.env) = eval e X.env := by rfl) :
    PEd (X.suite a ((a, oe) :: pn)) ⟨cl.f, F0⟩ (.Attribute e f pos) (dXf a ds f te) := by
  refine weakE (pe_xf T hno hz hv he hb) fun σ H Q ⟨ρ, C, F, Qd, R, h, k⟩ => ?_
  refine ⟨ρ, C, F, _, R, h, fun v d C1 H1 F1 s1 R1 r1 ⟨e1, u, lk, q⟩ => ?_⟩
  subst e1
  cases r1
  have s0 : Same F0 F1 := R.bs.trans s1
  obtain ⟨y, ly, ry⟩ := rf.get lk
  exact ⟨rfl, rfl, dd, fs, y, rfl, R1.sub _ _ (s0 _ _ hd), ly, k y u C1 H1 F1 s1 R1 (ry.mono s0) q⟩
/-- isinstance(e, c), e the caught exception -/
theorem call_xis {X : Cx} {a dd D : Addr} {oe : Obj} {pn : List (Addr × Obj)} {b : Bool} {cv : Value} {v : V} {fs : List (Str × V)} (C : ExcC X.K D) (hcl : (PySem.W.clsIn X.K D).isSome = true) (hz : Zc (.ref D) (some dd) oe) (hf : ∃ vs, oe.data = .fields vs)
    (hcv : ∀ u, RelV v u → u = cv) (kit : PySem.W.kitOne X.K (.ref D) cv = some b) :
    CallR (X.suite a ((a, oe) :: pn)) (.builtin "isinstance") (fun xs H Q => xs = [.ref a, v] ∧ H dd = some (.xd fs) ∧ Q (.bl b) H) := by
  intro pins s σ H xs us Q I r ⟨e, hd, q⟩
  subst e
  cases r with
  | cons rx rr =>
    cases rr with
    | cons rt rr =>
      cases rr
      cases rx
      have ec := hcv _ rt
      subst ec
      obtain ⟨hget, _⟩ := I.pin (a, oe) (List.mem_append.mpr (.inl List.mem_cons_self))
      obtain ⟨vs, hv⟩ := hf
      have hx : ObjOk X.prog X.w H s.heap dd (.xd fs) := I.hok dd _ hd
      obtain ⟨mA, hns, hr⟩ := hx
      obtain ⟨od, ho, hl⟩ := lookIn_ns hns
      have J : PySem.W.InstAt s.heap a oe D (some od) := ⟨hget, hz.1, by unfold PySem.W.notCls; rw [hv] <;> rfl, by rw [hz.2]; exact ho⟩
      exact PySem.W.kia_one (PySem.W.kitx_exc hcl C.hg C.hk C.hs C.ha C.hn C.ht C.hm) I.kIn J kit (fun z => nomatch z) fun tk => ⟨.bl b, H, I.kept (t' := tk) fun _ _ z => z, rfl, q⟩
theorem de_xis {b : Bool} {cv : Value} {v : V} {e2 : Expr} {p : Pos} (hz : Zc (.ref (cl c)) (some dd) oe) (hv : ∃ vs, oe.data = .fields vs) (hd : F0 dd = some (.xd fs)) (T : ExcC X.K (cl c)) (hcl : (PySem.W.clsIn X.K (cl c)).isSome = true) (hm : X.mg "isinstance" = none)
    (he : PEd (X.suite a ((a, oe) :: pn)) ⟨cl.f, F0⟩ e te) (hc : PE (X.suite a ((a, oe) :: pn)) e2 (tC v)) (hcv : ∀ u, RelV v u → u = cv) (kit : PySem.W.kitOne X.K (.ref (cl c)) cv = some b) (hg : Gl X "isinstance" := by rfl)
    (hs : starEach [e, e2] X.env = (false, eval e X.env) :: starEach [e2] X.env := by rfl) (hs2 : starEach [e2] X.env = (false, eval e2 X.env) :: starEach [] X.env := by rfl) (hpl : (backTo pos (starEach [e2] X.env)).any (·.1) = false := by rfl) :
    PEd (X.suite a ((a, oe) :: pn)) ⟨cl.f, F0⟩ (.Call (.Name "isinstance" p) [e, e2] [] pos) (dXis a b te) := by
  refine weakE (pe_callB (X := X.suite a ((a, oe) :: pn)) (call_xis (fs := fs) T hcl hz hv hcv kit) hg hm boot_isinstance (pa_cons he (pa_cons hc pa_nil hs2) hs) (by decide) (by decide) hs hpl) fun σ H Q ⟨ρ, C, F, Qd, R, h, k⟩ => ?_
  refine ⟨ρ, C, F, _, R, h, fun v d C1 H1 F1 s1 R1 r1 ⟨e1, q⟩ => ?_⟩
  subst e1
  cases r1
  exact ⟨rfl, R1.sub _ _ ((R.bs.trans s1) _ _ hd), k _ _ C1 H1 F1 s1 R1 (.bl b) q⟩
theorem xis_own {X : Cx} {x : Str} {D : Addr} {p : Pos} (hm : X.mg x = some (.ref D)) (hg : Gl X x := by rfl) (hdb : (x == ("__debug__" : Str)) = false := by decide) : PE X (.Name x p) (tC (.ref D)) := pe_glob hg hm rfl hdb
theorem rel_ref {D : Addr} : ∀ u, RelV (.ref D) u → u = .ref D := fun _ h => h
end
end G
set_option maxHeartbeats 1000000
namespace G
open PySem PySem.Spec PyProof.Rows L2
/-! ### what the text must tell of an own exception's class -/
abbrev veTl : List Value := [.type "ValueError", .type "Exception", .type "BaseException", .type "object"]
theorem refsVE_of : ∀ l : List Value, PySem.W.excTail veTl l = true → PySem.HandSPX.refsVE l = true
  | l, e => by
    induction l with
    | nil => cases e
    | cons a r ih =>
      rcases PySem.W.excTail_cases (a :: r) e with ⟨c, r', q, h⟩ | q
      · obtain ⟨rfl, rfl⟩ := List.cons.inj q
        exact ih h
      · rw [q]; decide +kernel
theorem oexC_of {K : PySem.W.Frag} {C : Addr} (h : PySem.W.excInitIn K C veTl "ValueError.__new__" = true) (hd : PySem.W.hasDictIn K C = true) (sa : PySem.W.findIn K (.ref C) "__setattr__" = some (some (.builtin "object.__setattr__"))) (exC : PySem.W.subIn K (.ref C) (.type "BaseException") = some true)
    (tyC : PySem.W.typeIn K (.ref C) = some (.type "type")) (kC : PySem.W.keepIn K (.ref C) = true) : OexC K C := by
  refine ⟨?_, sa, exC, tyC, kC⟩
  obtain ⟨cd0, hc0, hd0⟩ := PySem.W.any_some hd
  unfold PySem.W.excInitIn at h
  split at h
  · rename_i dd cd sl ho
    split at h
    · rename_i C' bm k0 k1 k2 k3 n k5 hm hs
      simp only [Bool.and_eq_true, beq_iff_eq, Bool.not_eq_true'] at h
      obtain ⟨⟨⟨rfl, rfl⟩, hdel⟩, ht⟩ := h
      unfold PySem.W.clsIn at hc0
      rw [ho] at hc0
      have e0 := Option.some.inj hc0
      subst e0
      obtain ⟨nm, bs, mro, ns, qn, hd', sn, sub, ab, col, del⟩ := cd
      dsimp only at hm hdel hd0
      subst hm hdel hd0
      have hsl : sl = #[k0, k1, k2, k3, some (.builtin "ValueError.__new__"), k5] := by
        obtain ⟨l⟩ := sl
        simp only at hs
        rw [hs]
      subst hsl
      exact ⟨nm, qn, ns, bs, bm, sn, sub, ab, col, dd, k0, k1, k2, k3, k5, ho, refsVE_of _ ht⟩
    · cases h
  · cases h
theorem ck_of {K : PySem.W.Frag} {C : Addr} (h : PySem.W.hasDictIn K C = true) : (PySem.W.clsIn K C).isSome = true := by
  obtain ⟨cd, hc, _⟩ := PySem.W.any_some h
  rw [hc]; rfl
theorem exs_nil {K : PySem.W.Frag} {cl : Nm} {cx : String} : ExsOk K cl cx [] := fun _ _ h => nomatch h
theorem exs_cons {K : PySem.W.Frag} {cl : Nm} {cx c : String} {b : Bool} {l : List (String × Bool)} (h : PySem.W.exmOne K (.ref (cl c)) (.ref (cl cx)) = some b) (r : ExsOk K cl cx l) : ExsOk K cl cx ((c, b) :: l) := fun x d e => by
  by_cases z : x = c
  · subst z
    rw [List.lookup_cons_self] at e
    cases e
    exact h
  · have z' : (x == c) = false := by simpa using z
    rw [List.lookup_cons, z'] at e
    exact r x d e
theorem caught1 {c n : String} {l : List (String × Bool)} (h : ((n, true) :: l).lookup c = some true) (hr : l.all (fun x => !x.2) = true) : c = n := by
  by_cases z : c = n
  · exact z
  · have z' : (c == n) = false := by simpa using z
    rw [List.lookup_cons, z'] at h
    have : ∀ l : List (String × Bool), l.all (fun x => !x.2) = true → l.lookup c = some true → False := by
      intro l
      induction l with
      | nil => intro _ h; cases h
      | cons p l ih =>
        intro ha h
        obtain ⟨k, b⟩ := p
        simp only [List.all_cons, Bool.and_eq_true, Bool.not_eq_true'] at ha
        rw [List.lookup_cons] at h
        split at h
        · rw [ha.1] at h; cases h
        · exact ih ha.2 h
    exact (this l hr h).elim
theorem nf_nil {P : Str → Prop} : ∀ f ∈ ([] : List Str), P f := nofun
theorem nf_cons {P : Str → Prop} {g : Str} {l : List Str} (h : P g) (r : ∀ f ∈ l, P f) : ∀ f ∈ g :: l, P f := fun f hf => by
  rcases List.mem_cons.mp hf with e | e
  · rw [e]; exact h
  · exact r f e
/-! ### steps -/
section
variable {ρ : DEnv} {C : Cl} {Q : DQ} {te : DE} {Ex : DEnv → DX}
theorem v_try {cs : List (String × Bool)} {i : Nat} {tb : (DEnv → DX) → DS} {ts : Addr → String → List (Str × D) → DS} {Dd : DEnds} (h : tb (dCatch cs i ts Ex Dd) Dd ρ C) : dTry cs i tb ts Ex Dd ρ C := h
theorem v_raise {c : String} {fs : List Str} {t : DA} {Dd : DEnds} (h : t ρ C fun xs C1 => xs.length = fs.length ∧ xs.length ≤ 900 ∧ (∀ x ∈ xs, PrD x) ∧ Ex ρ c (fs.zip xs).reverse C1) : dRaise Ex c fs t Dd ρ C := h
theorem v_xfV {a : Addr} {ds : List (Str × D)} {f : Str} {i : Nat} {v : D} (e : ρ[i]? = some (some (.ref a))) (l : ds.lookup f = some v) (h : Q v C) : dXf a ds f (dVar i) ρ C Q := ⟨_, e, rfl, v, l, h⟩
theorem v_xisV {a : Addr} {b : Bool} {i : Nat} (e : ρ[i]? = some (some (.ref a))) (h : Q (.bl b) C) : dXis a b (dVar i) ρ C Q := ⟨_, e, rfl, h⟩
/-- the clause takes it -/
theorem v_catch {cs : List (String × Bool)} {i : Nat} {ts : Addr → String → List (Str × D) → DS} {Dd : DEnds} {c : String} {ds : List (Str × D)} (e : cs.lookup c = some true)
    (h : ∀ a, C a = none → ts a c ds { nx := fun ρ2 C2 => Dd.nx (ρ2.set i none) C2, rt := Dd.rt, bk := fun ρ2 C2 => Dd.bk (ρ2.set i none) C2, ct := fun ρ2 C2 => Dd.ct (ρ2.set i none) C2 } (ρ.set i (some (.ref a))) C) : dCatch cs i ts Ex Dd ρ c ds C :=
  ⟨true, e, by rw [if_pos rfl]; exact h⟩
end
end G
/-! own exceptions over any built-in class (LookupError): the same as over ValueError, at the library's general lemmas -/
namespace PySem
namespace OXL
open PySem.W PySem.Calls PyProof.Rows
section
open Builtin Builtin.ObjectAttr
variable {prog : Program} {w : World} {A : Around} {E : Value → Shared → Prop} {R : Result → Shared → Prop} {hp : Heap} {g : Array GenState} {d : Drawn} {t : Nat} {os : OsState} {B : String} {bmB : List Value}
end
end OXL
end PySem
namespace G
open PySem PySem.Spec PyProof.Rows L2
/-! ### own exceptions over LookupError -/
abbrev leTail : List Value := [.type "LookupError", .type "Exception", .type "BaseException", .type "object"]
/-- what the text must tell of such a class -/
structure OexL (K : PySem.W.Frag) (C : Addr) : Prop where
  q : PySem.W.excInitIn K C leTail "LookupError.__new__" = true
  ov : PySem.W.excOver K C leTail = true
  hd : PySem.W.hasDictIn K C = true
  sa : PySem.W.findIn K (.ref C) "__setattr__" = some (some (.builtin "object.__setattr__"))
  exC : PySem.W.subIn K (.ref C) (.type "BaseException") = some true
  tyC : PySem.W.typeIn K (.ref C) = some (.type "type")
  kC : PySem.W.keepIn K (.ref C) = true
section
variable {X : Cx} {pins : List (Addr × Obj)} {σ : L2.St} {H : Hp} {s : Shared} {a C dx : Addr} {f : Str} {y : V} {u : Value} {fs : List (Str × V)} {Q : Unit → Shared → Prop} {E : Value → Shared → Prop} {A : Around}
end
section
variable {X : Cx} {o e : Expr} {es : List Expr} {to te : TE} {ta : TA} {f : Str} {p p' p1 p2 pos : Pos}
end
end G
set_option maxHeartbeats 1000000
namespace G
open PySem PySem.Spec PyProof.Rows L2
section
variable {X : Cx} {cl : NmB} {k : Nat} {fI : Addr} {fd : FuncData} {ps : List Str} {f : Str} {c : String} {e : Expr} {es : List Expr} {t : DA} {x : Str} {p pos pos2 : Pos} {Ex : DEnv → DX} {W : WX}
end
section
variable {P : Program} {w : World} {K : PySem.W.Frag} {mg : Str → Option Value} {base : Heap} {q : Str} {st : Stmt} {f : Addr} {fd : FuncData} {k : Nat} {C : Addr}
end
end G
set_option maxHeartbeats 1000000
namespace G
open PySem PySem.Spec PyProof.Rows L2
/-! ### o[i] of an own class, its def may raise -/
section
variable {X : Cx} {cl : NmB} {k : Nat} {g : Addr} {sp : DSp2} {c : String} {ta tb : DE} {a b : Expr} {pos : Pos} {Ex : DEnv → DX} {W : WX}
end
end G
set_option maxHeartbeats 1000000
namespace GQ2
open PySem PySem.SeqAt
open AutoSeq1 (wpAny_loadPart')
open MeetsSeq MeetsSeq2 MeetsSeq3 SeqRoads2
section
variable {prog : Program} {w : World} {A : Around} {R : Result → Shared → Prop}
end
section
variable {prog : Program} {w : World} {A : Around} {E : Value → Shared → Prop} {s : Shared}
end
end GQ2
namespace G
open PySem PySem.Spec PyProof.Rows L2
/-! ### == of tuples of instances, alike or not -/
/-- below the running body, with room -/
structure SubG (X : Cx) (n : Nat) (A : Around) : Prop where
  room : Room n A
  fr : A.frames = X.A.frames
theorem SubG.in1 {X : Cx} {n : Nat} {A : Around} (s : SubG X (n + 1) A) : SubG X n A.in1 := ⟨s.room.in1, s.fr⟩
section
variable {X : Cx} {cl : NmB} {CX : CXT} {k : Nat} {g : Addr} {sp : DSp2} {c : String}
end
/-! ### x op y of two instances, the def may raise -/
section
variable {X : Cx} {cl : NmB} {k : Nat} {g : Addr} {sp : DSp2} {c : String} {ta tb : DE} {a b : Expr} {pos : Pos} {Ex : DEnv → DX} {W : WX} {op : Operator}
end
end G
namespace L2
open PySem PySem.Spec PyProof.Rows
/-! ### try with several clauses that name the exception alike -/
inductive HdsAs (X : Cx) (n : Str) : List ExceptHandler → List (Value × (Addr → Value → Option Addr → TS)) → Prop
  | nil : HdsAs X n [] []
  | cons {x : Str} {c : Value} {ts : Addr → Value → Option Addr → TS} {b₀ : Stmt} {suite : List Stmt} {np pos' : Pos} {hds : List ExceptHandler} {l : List (Value × (Addr → Value → Option Addr → TS))} (hc : Names X x c)
      (hsu : ∀ (a : Addr) (oe : Obj) (cls : Value) (d : Option Addr) (pn : List (Addr × Obj)), Zc cls d oe → (∃ vs, oe.data = .fields vs) → PSs (X.suite a ((a, oe) :: pn)) (b₀ :: suite) (ts a cls d)) (r : HdsAs X n hds l) :
      HdsAs X n (.ExceptHandler (some (.Name x np)) (some n) (b₀ :: suite) pos' :: hds) ((c, ts) :: l)
section
variable {X : Cx} {n : Str} {i : Nat} {body : List Stmt} {h₀ : ExceptHandler} {hds : List ExceptHandler} {l : List (Value × (Addr → Value → Option Addr → TS))} {pos : Pos} {tb : WX → TS} {Wout : WX}
end
end L2
namespace G
open PySem PySem.Spec PyProof.Rows L2
section
variable {X : Cx} {cl : NmB} {x x1 x2 n : Str} {cx cx1 cx2 : String} {cs cs1 cs2 : List (String × Bool)} {i : Nat} {body suite suite1 suite2 : List Stmt} {b₀ b1 b2 : Stmt} {np np1 np2 pos pos' pos1 pos2' : Pos} {tb : (DEnv → DX) → DS} {ts ts1 ts2 : Addr → String → List (Str × D) → DS} {Ex : DEnv → DX} {W : WX}
end
end G
set_option maxHeartbeats 1000000
namespace G
open PySem PySem.Spec PyProof.Rows L2
/-! ### a new instance whose __init__ may raise -/
section
variable {X : Cx} {cl : NmB} {k : Nat} {g : Addr} {ks : List Str} {sp : DSp2} {e : Expr} {es : List Expr} {kws : List Keyword} {t tk : DA} {pos p : Pos} {x : Str} {c : String} {Ex : DEnv → DX} {W : WX}
end
end G
set_option maxHeartbeats 1000000
namespace G
open PySem PySem.Spec PyProof.Rows L2
/-! ### repr of plain trees -/
/-- a tree of depth n whose text has at most m signs -/
def Shw (n m : Nat) (d : D) : Prop := Sh n d ∧ (toPy d).showable = true ∧ (toPy d).shown.length ≤ m
def ShwL (n m : Nat) (ds : List D) : Prop := ShL n ds ∧ PyData.showableAll (toPyL ds) = true ∧ ((PyData.shownAll (toPyL ds)).map (·.length)).sum + 2 * ds.length ≤ m
def reprD (d : D) : List Nat := (toPy d).shown.cps.toList
theorem shw_nil {n m : Nat} : ShwL n m [] := ⟨sh_nil, by unfold toPyL PyData.showableAll; rfl, by unfold toPyL PyData.shownAll; simp⟩
theorem shw_cons {n m m' : Nat} {d : D} {ds : List D} (h : Shw n m d) (r : ShwL n m' ds) : ShwL n (m + m' + 2) (d :: ds) := by
  obtain ⟨a1, a2, a3⟩ := h
  obtain ⟨b1, b2, b3⟩ := r
  refine ⟨sh_cons a1 b1, by unfold toPyL PyData.showableAll; rw [a2, b2]; rfl, ?_⟩
  unfold toPyL PyData.shownAll
  rw [List.map_cons, List.sum_cons, List.length_cons]
  omega
theorem toPyL_lenR : ∀ ds : List D, (toPyL ds).length = ds.length
  | [] => by unfold toPyL; rfl
  | d :: ds => by unfold toPyL; rw [List.length_cons, List.length_cons, toPyL_lenR ds]
theorem shw_tup {n m : Nat} {ds : List D} (h : ShwL n m ds) : Shw (n + 1) (m + 3) (.tup ds) := by
  obtain ⟨b1, b2, b3⟩ := h
  refine ⟨sh_tup b1, by unfold toPy PyData.showable; exact b2, ?_⟩
  unfold toPy PyData.shown
  have e := tupleText_len_le (PyData.shownAll (toPyL ds))
  rw [PyData.shownAll_length, toPyL_lenR] at e
  omega
theorem shw_lst {n m : Nat} {ds : List D} (h : ShwL n m ds) : Shw (n + 1) (m + 3) (.lst ds) := by
  obtain ⟨b1, b2, b3⟩ := h
  refine ⟨sh_lst b1, by unfold toPy PyData.showable; exact b2, ?_⟩
  unfold toPy PyData.shown
  have e := listText_len_le (PyData.shownAll (toPyL ds))
  rw [PyData.shownAll_length, toPyL_lenR] at e
  omega
theorem shw_non {n : Nat} : Shw n 4 .non := ⟨sh_non, by unfold toPy PyData.showable; rfl, by unfold toPy PyData.shown; decide⟩
theorem shw_bl {n : Nat} {b : Bool} : Shw n 5 (.bl b) := ⟨sh_bl, by unfold toPy PyData.showable; rfl, by unfold toPy PyData.shown; cases b <;> decide⟩
theorem shw_int {n : Nat} {i : Int} (h : i.natAbs.log2 < 1920) : Shw n 1921 (.int i) := ⟨sh_int, by unfold toPy PyData.showable; exact decide_eq_true h, by unfold toPy PyData.shown; exact int_text_len_1921 h⟩
theorem shw_str {n : Nat} {l : List Nat} (h : small l = true) : Shw n (10 * l.length + 2) (.str l) := by
  refine ⟨sh_str h, by unfold toPy PyData.showable; rfl, ?_⟩
  unfold toPy PyData.shown
  refine Nat.le_trans (StrLaws.reprText_len _ fun c hc => ?_) (by simp [Str.length])
  have := of_decide_eq_true (List.all_eq_true.mp h c (by simpa using hc))
  omega
theorem Shw.mono {n n' m m' : Nat} {d : D} (h : Shw n m d) (e : n ≤ n') (e' : m ≤ m') : Shw n' m' d := ⟨h.1.mono e, h.2.1, Nat.le_trans h.2.2 e'⟩
theorem ShwL.mono {n m m' : Nat} {ds : List D} (h : ShwL n m ds) (e' : m ≤ m') : ShwL n m' ds := ⟨h.1, h.2.1, Nat.le_trans h.2.2 e'⟩
theorem shw_all {n m : Nat} : ∀ {ds : List D}, (∀ d ∈ ds, Shw n m d) → ShwL n ((m + 2) * ds.length) ds
  | [], _ => shw_nil
  | d :: ds, h => (shw_cons (h d (by simp)) (shw_all fun x hx => h x (by simp [hx]))).mono (by rw [List.length_cons, Nat.mul_add]; omega)
theorem Shw.show {n m : Nat} {d : D} (h : Shw n m d) (hn : n ≤ 60 := by decide) (hm : m ≤ 1000000 := by omega) : ShowD (toPy d) :=
  ⟨h.2.1, PyData.hasDict_of_canLay _ h.1.2.1, Nat.le_trans h.1.2.2 hn, Nat.le_trans h.2.2 hm⟩
/-- a raise may be handed such a tree -/
theorem prd_tup {n m : Nat} {ds : List D} (h : Shw n m (.tup ds)) (hn : n ≤ 60 := by decide) (hm : m ≤ 1000000 := by omega) : PrD (.tup ds) := .inr (.inr (.inr (.inr ⟨h.1.1, h.show hn hm, .inl ⟨ds, rfl⟩⟩)))
theorem prd_lst {n m : Nat} {ds : List D} (h : Shw n m (.lst ds)) (hn : n ≤ 60 := by decide) (hm : m ≤ 1000000 := by omega) : PrD (.lst ds) := .inr (.inr (.inr (.inr ⟨h.1.1, h.show hn hm, .inr (.inl ⟨ds, rfl⟩)⟩)))
def rRepr : RDC := fun xs C Q => ∃ x n m, xs = [x] ∧ Shw n m x ∧ n ≤ 60 ∧ m ≤ 1000000 ∧ Q (.str (reprD x)) C
theorem rep_str' {K : PySem.W.Frag} {cl : Nm} {F : Hp} (z : Str) : Rep K cl F (.str z) (.str z.cps.toList) := by
  have e : z = ⟨z.cps.toList.toArray⟩ := by simp
  have := Rep.str (K := K) (cl := cl) (F := F) z.cps.toList
  rw [← e] at this
  exact this
section
variable {X : Cx} {cl : NmB} {k : Nat}
theorem cd_repr (hg : X.A.guards = some []) (hu : X.A.units + 64 < cLine) : CallD X cl (.builtin "repr") rRepr := by
  intro pins s σ H xs us Q I r ⟨ds, C, F, Qd, R, rl, ⟨x, n, m, e, sh, hn, hm, q⟩, kq⟩
  subst e
  cases rl with
  | @cons v _ _ _ r1 rr =>
    cases rr
    cases r with
    | @cons _ u _ _ ru rr =>
      cases rr
      have sd := sh.show hn hm
      have fin : ∀ s', Inv X pins σ H s' → ∀ t, EP X pins σ Q (.str (toPy x).shown t) s' := fun s' I' t => ⟨.str (toPy x).shown, H, I', ⟨t, rfl⟩, kq _ _ C H F (Same.refl F) R (rep_str' _) q⟩
      have hd := Rep.dp (cl := nb cl.f) R.sub r1 sh.1.1
      have hz : (toPy x).shown.length ≤ sizeLine := szl (by have := sd.2.2.2; omega)
      obtain ⟨as, rd⟩ := Dp.reads I _ _ _ hd ru
      have whole : ∀ a, u = Value.ref a → wpAny (model X.prog X.w) X.A (call (.builtin "repr") [u]) (EP X pins σ Q) X.xe s := fun a e => by
        subst e
        exact repr_of_reads' rd sd.1 (fun z => by rw [sd.2.1] at z; cases z) hg (by have := sd.2.2.1; omega) (fun b o e => e) (fun h' t tk kp => fin _ (I.kept kp) t) hz
      cases r1 with
      | tup h1 h2 => exact whole _ ru
      | lst h1 h2 => exact whole _ ru
      | rol h1 h2 => exact whole _ ru
      | non =>
        obtain rfl : u = Value.none := ru
        have e : (toPy .non).shown = ("None" : Str) := by unfold toPy PyData.shown; rfl
        rw [e] at fin
        exact PySem.P.repr_of_none (fin _ (I.tok _) _)
      | bl b =>
        obtain rfl : u = Value.bool b := ru
        have e : (toPy (.bl b)).shown = (if b then ("True" : Str) else ("False" : Str)) := by unfold toPy PyData.shown; rfl
        rw [e] at fin
        exact PySem.P.repr_of_bool (fin _ (I.tok _) _)
      | int i =>
        obtain ⟨t, rfl⟩ := ru
        have e : (toPy (.int i)).shown = ((toString i : String) : Str) := by unfold toPy PyData.shown; rfl
        rw [e] at fin
        have hs := sd.1
        unfold toPy PyData.showable at hs
        exact PySem.P.repr_of_int (of_decide_eq_true hs) (fin _ (I.tok _) _)
      | str l =>
        obtain ⟨t, rfl⟩ := ru
        have e : (toPy (.str l)).shown = reprText ⟨l.toArray⟩ := by unfold toPy PyData.shown; rfl
        rw [e] at fin hz
        exact PySem.P.repr_of_str (fin _ (I.tok _) _) hz
      | ref a => have z := sh.1.1; unfold plain at z; cases z
      | ty n => have z := sh.1.1; unfold plain at z; cases z
      | cls c => have z := sh.1.1; unfold plain at z; cases z
      | dic h1 h2 => have z := sh.1.1; unfold plain at z; cases z
      | dct h1 h2 => have z := sh.1.1; unfold plain at z; cases z
      | ins h1 h2 => have z := sh.1.1; unfold plain at z; cases z
end
/-! ### == of any data, only the units told (in an except suite) -/
section
variable {X : Cx} {cl : NmB}
end
section
variable {C : Cl} {Q : DQ}
theorem v_repr {x : D} {n m : Nat} (h : Shw n m x) (hn : n ≤ 60) (hm : m ≤ 1000000) (q : Q (.str (reprD x)) C) : rRepr [x] C Q := ⟨x, n, m, rfl, h, hn, hm, q⟩
end
end G
set_option maxHeartbeats 1000000
namespace G
open PySem PySem.Spec PyProof.Rows L2
/-! ### str(o), o of an own class with __str__ -/
section
variable {X : Cx} {cl : NmB} {CX : CXT} {k : Nat} {g : Addr} {sp : DSp2} {c : String}
end
/-! ### in a suite: isinstance(e, (c1, c2)) -/
section
variable {X : Cx} {cl : NmB} {a dd : Addr} {oe : Obj} {pn : List (Addr × Obj)} {c : String} {fs : List (Str × V)} {ds : List (Str × D)} {e : Expr} {te : DE} {pos : Pos} {f : Str} {F0 : Hp}
end
/-! ### str of a text -/
end G
set_option maxHeartbeats 2000000
namespace G
open PySem PySem.Spec PyProof.Rows L2
/-! ### a lambda without parameters handed to a def that calls it -/
section
variable {X : Cx} {cl : NmB} {pins : List (Addr × Obj)} {σ : L2.St} {s : Shared}
end
section
variable {X : Cx} {cl : NmB}
end
/-! ### x op y, an own order that may raise -/
section
variable {X : Cx} {cl : NmB} {k : Nat} {g : Addr} {sp : DSp2} {c : String} {ta tb : DE} {a b : Expr} {pos : Pos} {Ex : DEnv → DX} {W : WX} {op : CmpOp}
end
end G
set_option maxHeartbeats 2000000
namespace G
open PySem PySem.Spec PyProof.Rows L2
/-! ### a lambda without parameters in a local, handed to a def that calls it; static methods that may raise -/
section
variable {X : Cx} {cl : NmB} {pins : List (Addr × Obj)} {σ : L2.St} {s : Shared}
end
section
variable {X : Cx} {cl : NmB}
end
/-! ### a, b, .. = a list of that length -/
section
variable {X : Cx} {cl : NmB} {pos : Pos}
end
/-! ### def f(a, .., *v) that may raise -/
end G
set_option maxHeartbeats 2000000
namespace G
open PySem PySem.Spec PyProof.Rows L2
/-! ### dicts of texts and numbers: list(d), walks, == -/
def keyT : Key → D
  | .inl i => .int i
  | .inr s => .str s.cps.toList
theorem rep_keyT {K : PySem.W.Frag} {cl : Nm} {F : Hp} (k : Key) : Rep K cl F (kV k) (keyT k) := by
  cases k with
  | inl i => exact .int i
  | inr s => exact rep_str' s
theorem repL_keys {K : PySem.W.Frag} {cl : Nm} {F : Hp} : ∀ {vs : List (Key × V)} {ds : List (Key × D)}, RepK K cl F vs ds → RepL K cl F (vs.map fun p => kV p.1) (ds.map fun p => keyT p.1)
  | _, _, .nil => .nil
  | _, _, .cons r t => .cons (rep_keyT _) (repL_keys t)
def rListKC : RDC := fun xs C Q => ∃ x kvs, xs = [x] ∧ dicOf C x = some kvs ∧ ∀ p, C p = none → Q (.ref p) (updC C p (.lst (kvs.map fun p => keyT p.1)))
section
variable {X : Cx} {cl : NmB}
#check @pi_keys
#check @op_eq_dictA
theorem cd_listKC (hc : X.calm = true := by rfl) : CallD X cl (.type "list") rListKC := by
  intro pins s σ H xs us Q I r ⟨ds, C, F, Qd, R, rl, ⟨x, es, e, hb, q⟩, k⟩
  subst e
  cases rl with
  | cons r1 rr =>
    cases rr
    obtain ⟨a, ys, rfl, hs, hl⟩ := dic_ok R r1 hb
    refine call_listD hc pins s σ H _ us Q I r ⟨a, ys, rfl, hs, fun p np => ?_⟩
    exact k _ _ _ _ F (Same.refl F) (R.cell np (.lst (repL_keys hl))) (.ref p) (q p (R.freeC np))
end
end G
set_option maxHeartbeats 2000000
namespace G
open PySem PySem.Spec PyProof.Rows L2
/-! ### dicts of texts and numbers that stand: locked for good, walked, their values, == -/
theorem RC.lock {K : PySem.W.Frag} {cl : Nm} {C : Cl} {F H : Hp} {p : Addr} {c : Cell} {o : HO} (R : RC K cl C F H) (h : C p = some c) : RC K cl (delC C p) (upd F p o) (upd H p o) ∧ Same F (upd F p o) := by
  have f := (R.cel p c h).1
  refine ⟨⟨fun b x e => ?_, fun a x e => ?_, fun a q e => ?_⟩, same_upd f⟩
  · by_cases z : b = p
    · subst z; rw [upd_same] at e ⊢; exact e
    · rw [upd_ne z] at e ⊢; exact R.sub b x e
  · unfold delC at e
    by_cases z : a = p
    · rw [if_pos z] at e; cases e
    · rw [if_neg z] at e
      obtain ⟨f', x', hx, r'⟩ := R.cel a x e
      exact ⟨by rw [upd_ne z]; exact f', x', by rw [upd_ne z]; exact hx, r'.mono (same_upd f)⟩
  · unfold delC at e
    by_cases z : a = p
    · rw [if_pos z] at e; cases e
    · rw [if_neg z] at e
      exact R.tab a q e
/-! walks -/
def keysOf (kvs : List (Key × D)) : List D := kvs.map fun p => keyT p.1
section
variable {X : Cx} {cl : NmB} {tg e : Expr} {te : DE} {pos p apos cpos : Pos}
/-! list(d.values()) -/
theorem repL_vals {K : PySem.W.Frag} {cl : Nm} {F : Hp} : ∀ {vs : List (Key × V)} {ds : List (Key × D)}, RepK K cl F vs ds → RepL K cl F (vs.map (·.2)) (ds.map (·.2))
  | _, _, .nil => .nil
  | _, _, .cons r t => .cons r (repL_vals t)
theorem kv_vals {kvs : List (Key × V)} {vs : List (Key × Value)} (h : KV kvs vs) : Vals (kvs.map (·.2)) (vs.map (·.2)) := by
  induction h with
  | nil => exact .nil
  | cons h _ ih => exact .cons h.2 ih
def dListV (te : DE) : DE := fun ρ C Q => te ρ C fun x C1 => ∃ kvs, dicOf C1 x = some kvs ∧ Q (.lst (kvs.map (·.2))) C1
theorem de_listV (hm : X.mg "list" = none) (he : PEd X cl e te) (hc : X.calm = true := by rfl) (hg : Gl X "list" := by rfl) (hbase : attributeBase e "values" X.env (eval e X.env) = eval e X.env := by rfl) (hline : (apos.endLine == cpos.line) = true := by rfl)
    (na : starEach [.Call (.Attribute e "values" apos) [] [] cpos] X.env = (false, eval (.Call (.Attribute e "values" apos) [] [] cpos) X.env) :: starEach [] X.env := by rfl) : PEd X cl (.Call (.Name "list" p) [.Call (.Attribute e "values" apos) [] [] cpos] [] pos) (dListV te) := by
  refine ⟨fun pins s σ H Q I ⟨ρ, C, F, Qd, R, h, kq⟩ => ?_⟩
  refine Call_ (ld_blt I hg hm boot_list_ (PyProof.Rows.callWith_type1 (PyProof.Rows.args_cons ?_ rfl) rfl rfl))
  refine wpAny_Call_method (T := "dict") (id := "dict.values") hbase rfl hline PySem.F.plainAttrs_dict PySem.F.slot_dict_values PySem.F.type_dict_values (thn (he.run pins s σ H (fun v H1 => ∃ d C1 F1, Same F F1 ∧ RC X.K cl C1 F1 H1 ∧ Rep X.K cl F1 v d ∧ ∃ kvs, dicOf C1 d = some kvs ∧ Qd (.lst (kvs.map (·.2))) C1) I
    ⟨ρ, C, F, _, R, h, fun v d C1 H1 F1 s1 R1 r1 q1 => ⟨d, C1, F1, s1, R1, r1, q1⟩⟩) fun u s1 ⟨v, H1, I1, rv, d, C1, F1, s1', R1, r1, kvs, hs, q1⟩ => ?_)
  obtain ⟨a, ys, rfl, hd, rl⟩ := dic_ok R1 r1 hs
  obtain rfl : u = Value.ref a := rv
  obtain ⟨z, lo, vs, rel, dd⟩ := dk_rd I1.hok hd
  refine ⟨dd.typeIs, dd.mapOf.noDict, ?_⟩
  have I2 : Inv X pins σ H1 { s1 with heap := s1.heap.push { cls := .type "dict_values", data := .fields #[.ref a] } } := I1.kept (t' := s1.toks) fun b o q => Heap.get?_push_of_some _ q
  have fin : wpAny (model X.prog X.w) X.A (spliced (backTo pos (starEach [] X.env))) (fun vs s₂ => wpAny (model X.prog X.w) X.A (call (.type "list") (Value.ref s1.heap.objs.size :: vs)) (EP X pins σ Q) X.xe s₂) X.xe { s1 with heap := s1.heap.push { cls := .type "dict_values", data := .fields #[.ref a] } } := by
    refine PyProof.Rows.args_nil ?_
    obtain ⟨ep, hat⟩ := (dd.push (o := { cls := .type "dict_values", data := .fields #[.ref a] })).dictAt
    refine PySem.W.kdl_call (PySem.W.kdl_values (knd := mixKind X.prog X.w) (kvs := vs) (ep := ep)) (I2.ok.hd hc) ⟨⟨_, Heap.get?_push_size _ rfl, rfl, rfl⟩, hat⟩ (by rw [← rel.length]; exact z) fun h' tk acc c' hk hD hacc => ?_
    have hv : acc.toList = vs.map (·.2) := PySem.W.kdl_vals_eq _ (by rw [Array.length_toList]; exact hacc.1) fun j v e => hacc.2 j v (by rw [← Array.getElem?_toList]; exact e)
    have hV : Vals (ys.map (·.2)) acc.toList := by rw [hv]; exact kv_vals rel
    have np : H1 (s1.heap.push { cls := .type "dict_values", data := .fields #[.ref a] }).objs.size = none := I2.hok.fresh (Nat.le_refl _)
    have s2 := same_upd (o := .lst (ys.map (·.2))) (R1.freeF np)
    refine ⟨.ref _, upd H1 _ (.lst (ys.map (·.2))), I2.laid (t' := tk) hk (Nat.le_refl _)
      (show ObjOk X.prog X.w _ _ _ (.lst (ys.map (·.2))) from ⟨by rw [List.length_map]; exact z, acc.toList, c', hV, by rw [Array.toArray_toList]; exact hD⟩), rfl, ?_⟩
    exact kq _ _ C1 _ _ (s1'.trans s2) (R1.new np) (.lst upd_same ((repL_vals rl).mono s2)) q1
  show wpAny _ _ (callWith cpos (.builtin "dict.values") [.ref a] [] []) _ X.xe s1
  exact method_meetsIn PySem.F.slot_dict_values PySem.F.entry_dict_values rfl (PySem.evalArgs_none ⟨rfl, dd.typeIs, PySem.F.args_dict_values_1 _, _, meets_dict_values (mixKind X.prog X.w) a lo, ⟨vs, dd⟩, fin⟩)
theorem v_listV {ρ : DEnv} {C : Cl} {Q : DQ} (h : te ρ C fun x C1 => ∃ kvs, dicOf C1 x = some kvs ∧ Q (.lst (kvs.map (·.2))) C1) : dListV te ρ C Q := h
/-! == of dicts whose values are plain -/
def eqDic (ka kb : List (Key × D)) : Bool := ka.length == kb.length && ka.all fun p => match valD kb p.1 with
  | some v => eqT p.2 v
  | none => false
def rEqDic : RD2 := fun x y C Q => ∃ ka kb, dicOf C x = some ka ∧ dicOf C y = some kb ∧ (∀ p ∈ ka, shp p.2 = true) ∧ (∀ p ∈ kb, shp p.2 = true) ∧ Q (.bl (eqDic ka kb)) C
theorem hits_dic {pins : List (Addr × Obj)} {σ : L2.St} {F H : Hp} {s : Shared} {A : Around} (I : L2.Inv X pins σ H s) (sF : Same F H) (hu : A.units + 64 < cLine) {kb : List (Key × D)} {vb : List (Key × V)} {xb : List (Key × Value)} (rb : RepK X.K cl F vb kb) (tb : KV vb xb) (hb : ∀ p ∈ kb, shp p.2 = true) :
    ∀ {ka : List (Key × D)} {va : List (Key × V)} {xa : List (Key × Value)}, RepK X.K cl F va ka → KV va xa → (∀ p ∈ ka, shp p.2 = true) →
      PySem.W.KeqHitsP X.prog X.w A s xb xa (ka.all fun p => match valD kb p.1 with | some v => eqT p.2 v | none => false)
  | [], _, _, .nil, .nil, _ => .nil
  | (kk, d) :: ka, _, _, .cons (v := v) r t, .cons (b := (kx, w)) q tt, ha => by
    obtain ⟨e1, e3⟩ := q
    dsimp only at e1 e3
    subst e1
    have ih := hits_dic I sF hu rb tb hb (A := A) t tt fun p hp => ha p (.tail _ hp)
    have hd := ha (kk, d) (.head _)
    have hv := tb.val kk
    rw [List.all_cons]
    dsimp only
    cases e : valD kb kk with
    | none =>
      rw [(repK_val kk rb).1 e] at hv
      rw [Bool.false_and]
      exact .miss (RelO.none_of hv)
    | some d' =>
      have hd' := hb (kk, d') (valD_mem e)
      obtain ⟨v', h1, h2⟩ := (repK_val kk rb).2 _ e
      rw [h1] at hv
      obtain ⟨y, hy, ry⟩ := hv.some_of
      unfold shp at hd hd'
      rw [Bool.and_eq_true] at hd hd'
      obtain ⟨as, r1⟩ := Dp.reads I _ _ _ (r.dp sF hd.1) e3
      obtain ⟨bs, r2⟩ := Dp.reads I _ _ _ (h2.dp sF hd'.1) ry
      exact .hit hy (SeqAt.eqAt_reads _ _ A s _ _ as bs r1 r2 (SeqAt.canLay_of_shaped hd.2) (SeqAt.canLay_of_shaped hd'.2) (SeqAt.room_of_shaped hd.2 hu)).eqP ih
theorem od_eqDic {n : Nat} (hr : Room n X.A) : OpD X cl (compareOp .Eq) rEqDic := by
  intro pins s σ H x y v u Q I rx ry ⟨dx, dy, C, F, Qd, R, r1, r2, ⟨ka, kb, e1, e2, h1, h2, q⟩, kq⟩
  obtain ⟨a, va, rfl, ha, ra⟩ := dic_ok R r1 e1
  obtain ⟨b, vb, rfl, hb, rb⟩ := dic_ok R r2 e2
  cases rx; cases ry
  obtain ⟨_, ya, xa, ta, da⟩ := dk_rd I.hok ha
  obtain ⟨_, yb, xb, tb, db⟩ := dk_rd I.hok hb
  show wpAny (model X.prog X.w) X.A (richCompare .Eq (.ref a) (.ref b)) (EP X pins σ Q) X.xe s
  have la : xa.length = ka.length := by rw [← ra.length]; exact ta.length.symm
  have lb : xb.length = kb.length := by rw [← rb.length]; exact tb.length.symm
  have hu : X.A.units + 65 < cLine := by have := hr.un; have := hr.units; omega
  refine PySem.W.rcP_dicts (knd := mixKind X.prog X.w) ya yb da db (by omega) (fun _ => hits_dic I R.sub (A := X.A.in1) (by show X.A.units + 1 + 64 < cLine; omega) rb tb h2 ra ta h1) _ _ ?_
  rw [la, lb]
  exact fin_bl I (kq _ _ C H F (Same.refl F) R (.bl _) q) rfl
end
end G
set_option maxHeartbeats 2000000
namespace G
open PySem PySem.Spec PyProof.Rows L2
/-! ### == of things with lists within that may change -/
section
variable {X : Cx} {cl : NmB}
end
end G
namespace HT
open PySem PySem.Spec PyProof.Rows
section
variable {prog : Program} {w : World} {A : Around} {E : Value → Shared → Prop} {s : Shared}
end
end HT
namespace L2
open PySem PySem.Spec PyProof.Rows
variable {X : Cx}
end L2
namespace G
open PySem PySem.Spec PyProof.Rows L2
section
variable {X : Cx} {cl : NmB} {e : Expr} {te : DE} {pos : Pos}
end
end G
namespace G
open PySem PySem.Spec PyProof.Rows L2
theorem txts_lenG (ls : List (List Nat)) : (txts ls).length = ls.length := by unfold txts; simp
/-! ### steps of a reading, one lemma a head (printed by g16.py) -/
section
variable {D' : DEnds} {n b c : DEnv → Cl → Prop} {r : DQ} {ρ : DEnv} {C : Cl} {Q : DQ} {t u : DS} {te ta tb tc : DE} {g : DG} {A B : Prop}
theorem v_ends {t : DS} (h : t ⟨fun _ C => ∃ C', SubC C' C ∧ Q .non C', fun d C => ∃ d' C', Gh d C d' C' ∧ Q d' C', fun _ _ => False, fun _ _ => False⟩ ρ C) : t (endsD Q) ρ C := h
theorem v_seq (h : t ⟨u ⟨n, r, b, c⟩, r, b, c⟩ ρ C) : dSeq t u ⟨n, r, b, c⟩ ρ C := h
theorem v_next (h : n ρ C) : dNext ⟨n, r, b, c⟩ ρ C := h
theorem v_asg (h : te ρ C fun x C1 => g x ρ C1 n) : dAsg te g ⟨n, r, b, c⟩ ρ C := h
theorem v_drop (h : te ρ C fun _ C1 => n ρ C1) : dDrop te ⟨n, r, b, c⟩ ρ C := h
theorem v_ret (h : te ρ C r) : dRet te ⟨n, r, b, c⟩ ρ C := h
theorem v_ifS {ct : DT} (h : ct ρ C fun k C1 => if k = true then t ⟨n, r, b, c⟩ ρ C1 else u ⟨n, r, b, c⟩ ρ C1) : dIfS ct t u ⟨n, r, b, c⟩ ρ C := h
theorem v_isvar {i : Nat} (h : dVar i ρ C Q) : dVar i ρ C Q := h
theorem v_isname {i : Nat} {d : D} {K : DEnv → Cl → Prop} (h : dName i d ρ C K) : dName i d ρ C K := h
theorem v_const {d : D} (h : Q d C) : dC d ρ C Q := h
theorem v_op {rd : RD2} (h : ta ρ C fun x C1 => tb ρ C1 fun y C2 => rd x y C2 Q) : dOp rd ta tb ρ C Q := h
theorem v_test {K : Bool → Cl → Prop} (h : te ρ C fun x C1 => ∃ k, x = .bl k ∧ K k C1) : dTest te ρ C K := h
theorem v_bl {x : Bool} {K : Bool → Prop} (h : K x) : ∃ k, D.bl x = .bl k ∧ K k := ⟨x, rfl, h⟩
theorem v_dnot {tA : DT} {K : Bool → Cl → Prop} (h : tA ρ C fun k C1 => K (!k) C1) : dNot tA ρ C K := h
theorem v_dor {tA tB : DT} {K : Bool → Cl → Prop} (h : tA ρ C fun k C1 => if k = true then K true C1 else tB ρ C1 K) : dOr tA tB ρ C K := h
theorem v_andV (h : ta ρ C fun x C1 => ∃ k, x = .bl k ∧ if k = true then tb ρ C1 Q else Q (.bl false) C1) : dAndV ta tb ρ C Q := h
theorem v_ifE {tA : DT} (h : tA ρ C fun k C1 => if k = true then ta ρ C1 Q else tb ρ C1 Q) : dIf tA ta tb ρ C Q := h
theorem v_tt (h : A) : if true = true then A else B := h
theorem v_ff (h : B) : if false = true then A else B := h
theorem v_ntt (h : B) : if (!true) = true then A else B := h
theorem v_nff (h : A) : if (!false) = true then A else B := h
theorem v_dt {p : Prop} [Decidable p] (hp : p) (h : A) : if decide p = true then A else B := by rw [decide_eq_true hp]; exact h
theorem v_df {p : Prop} [Decidable p] (hp : ¬ p) (h : B) : if decide p = true then A else B := by rw [decide_eq_false hp]; exact h
theorem v_ndt {p : Prop} [Decidable p] (hp : p) (h : B) : if (!decide p) = true then A else B := by rw [decide_eq_true hp]; exact h
theorem v_chain {r1 r2 : RD2} (h : ta ρ C fun x C1 => tb ρ C1 fun y C2 => r1 x y C2 fun z C3 => ∃ k, z = .bl k ∧ if k = true then tc ρ C3 fun w C4 => r2 y w C4 Q else Q (.bl false) C3) : dChain r1 r2 ta tb tc ρ C Q := h
theorem v_nil {K : List D → Cl → Prop} (h : K [] C) : dNil ρ C K := h
theorem v_cons {tr : DA} {K : List D → Cl → Prop} (h : ta ρ C fun x C1 => tr ρ C1 fun xs C2 => K (x :: xs) C2) : dCons ta tr ρ C K := h
theorem v_tup {tA : DA} (h : tA ρ C fun xs C1 => xs.length ≤ sizeLine ∧ Q (.tup xs) C1) : dTup tA ρ C Q := h
theorem v_lst {tA : DA} (h : tA ρ C fun xs C1 => xs.length ≤ sizeLine ∧ Q (.lst xs) C1) : dLst tA ρ C Q := h
theorem v_cb {rd : RDC} {tA : DA} (h : tA ρ C fun ds C1 => rd ds C1 Q) : dCB rd tA ρ C Q := h
theorem v_bm {T : String} {rd : RDM} {tA : DA} (h : te ρ C fun x C1 => tyD T x C1 ∧ tA ρ C1 fun ds C2 => rd x ds C2 Q) : dBM T rd te tA ρ C Q := h
theorem v_bm0 {T : String} {rd : RDM} (h : te ρ C fun x C1 => tyD T x C1 ∧ rd x [] C1 Q) : dBM0 T rd te ρ C Q := h
theorem v_tystr {l : List Nat} (h : A) : tyD "str" (.str l) C ∧ A := ⟨rfl, h⟩
theorem v_call0 {sp : DSp} {tA : DA} (h : tA ρ C fun xs C1 => sp xs C1 Q fun _ _ _ => False) : dCall sp [] tA ρ C Q := by
  show tA ρ C fun xs C1 => sp (xs ++ []) C1 Q fun _ _ _ => False
  simp only [List.append_nil]; exact h
theorem v_par (i j : Nat) {tA : DA} (h : tA ρ C fun ds C2 => ∃ v w, ds = [v, w] ∧ n ((ρ.set i (some v)).set j (some w)) C2) : dPar i j tA ⟨n, r, b, c⟩ ρ C := h
theorem v_par2 {i j : Nat} {v w : D} (h : n ((ρ.set i (some v)).set j (some w)) C) : ∃ v' w', [v, w] = [v', w'] ∧ n ((ρ.set i (some v')).set j (some w')) C := ⟨v, w, rfl, h⟩
theorem v_par3 (i j l : Nat) {tA : DA} (h : tA ρ C fun ds C2 => ∃ u v w, ds = [u, v, w] ∧ n (((ρ.set i (some u)).set j (some v)).set l (some w)) C2) : dPar3 i j l tA ⟨n, r, b, c⟩ ρ C := h
theorem v_par33 {i j l : Nat} {u v w : D} (h : n (((ρ.set i (some u)).set j (some v)).set l (some w)) C) : ∃ u' v' w', [u, v, w] = [u', v', w'] ∧ n (((ρ.set i (some u')).set j (some v')).set l (some w')) C := ⟨u, v, w, rfl, h⟩
theorem v_fld {cs : List String} {f : Str} (h : te ρ C fun d C1 => ∃ k fs v, k ∈ cs ∧ insOf C1 d = some (k, fs) ∧ fs.lookup f = some v ∧ Q v C1) : dFld cs te f ρ C Q := h
theorem v_meth {k : String} {m : Str} {sp : DSp2} {tA tk : DA} (h : te ρ C fun x C1 => ∃ fs, insOf C1 x = some (k, fs) ∧ fs.lookup m = none ∧ tA ρ C1 fun xs C2 => tk ρ C2 fun zs C3 => sp (x :: xs) zs C3 Q noX) : dMeth k m sp te tA tk ρ C Q := h
theorem v_pos2 {sp : DSp} {dd ds : List D} {E : DX} (h : sp (ds ++ dd) C Q E) : pos2 sp dd ds [] C Q E := ⟨rfl, h⟩
/-- tuples of names -/
theorem v_gtup {k : Nat} {tG : DGs} {ds : List D} {K : DEnv → Cl → Prop} (hl : ds.length = k) (h : tG ds ρ C K) : dgTup k tG (.tup ds) ρ C K := ⟨ds, rfl, hl, h⟩
theorem v_gcons {tG : DG} {uG : DGs} {d : D} {ds : List D} {K : DEnv → Cl → Prop} (h : tG d ρ C fun ρ' C' => uG ds ρ' C' K) : dgCons tG uG (d :: ds) ρ C K := ⟨d, ds, rfl, h⟩
theorem v_gnil {K : DEnv → Cl → Prop} (h : K ρ C) : dgNil [] ρ C K := ⟨rfl, h⟩
theorem v_sameS {l : List Nat} (h : Q (.str l) C) : ∃ d' C', Gh (.str l) C d' C' ∧ Q d' C' := ⟨_, C, .same, h⟩
theorem v_sameB {x : Bool} (h : Q (.bl x) C) : ∃ d' C', Gh (.bl x) C d' C' ∧ Q d' C' := ⟨_, C, .same, h⟩
theorem v_sameI {x : Int} (h : Q (.int x) C) : ∃ d' C', Gh (.int x) C d' C' ∧ Q d' C' := ⟨_, C, .same, h⟩
theorem v_sameT {ds : List D} (h : Q (.tup ds) C) : ∃ d' C', Gh (.tup ds) C d' C' ∧ Q d' C' := ⟨_, C, .same, h⟩
theorem v_sameL {ds : List D} (h : Q (.lst ds) C) : ∃ d' C', Gh (.lst ds) C d' C' ∧ Q d' C' := ⟨_, C, .same, h⟩
/-! operators on known things -/
theorem v_eqS {x y : List Nat} (h : Q (.bl (decide (x = y))) C) : rEqD (.str x) (.str y) C Q := .inl ⟨_, rfl, h⟩
theorem v_eqI {x y : Int} (h : Q (.bl (decide (x = y))) C) : rEqD (.int x) (.int y) C Q := .inl ⟨_, rfl, h⟩
theorem v_neS {x y : List Nat} (h : Q (.bl (!decide (x = y))) C) : rNeD (.str x) (.str y) C Q := .inl ⟨_, rfl, h⟩
theorem v_neI {x y : Int} (h : Q (.bl (!decide (x = y))) C) : rNeD (.int x) (.int y) C Q := .inl ⟨_, rfl, h⟩
theorem v_lt {x y : Int} (h : Q (.bl (decide (x < y))) C) : rLtD (.int x) (.int y) C Q := ⟨_, rfl, trivial, h⟩
theorem v_le {x y : Int} (h : Q (.bl (decide (x ≤ y))) C) : rLeD (.int x) (.int y) C Q := ⟨_, rfl, trivial, h⟩
theorem v_gt {x y : Int} (h : Q (.bl (decide (y < x))) C) : rGtD (.int x) (.int y) C Q := ⟨_, rfl, trivial, h⟩
theorem v_addI {x y : Int} (h : Q (.int (x + y)) C) : rOf addF (.int x) (.int y) C Q := ⟨_, rfl, trivial, h⟩
theorem v_subI {x y : Int} (h : Q (.int (x - y)) C) : rOf (ioF fun i j => i - j) (.int x) (.int y) C Q := ⟨_, rfl, trivial, h⟩
theorem v_addS {x y : List Nat} (hl : (x ++ y).length ≤ sizeLine) (h : Q (.str (x ++ y)) C) : rOf addF (.str x) (.str y) C Q := ⟨_, rfl, hl, h⟩
theorem v_addL {x y : List D} (hl : (x ++ y).length ≤ sizeLine) (h : Q (.lst (x ++ y)) C) : rOf addF (.lst x) (.lst y) C Q := ⟨_, rfl, hl, h⟩
theorem v_isN {x : D} (h : Q (.bl (isNonD x)) C) : rIsN x .non C Q := ⟨rfl, h⟩
theorem v_notNn (h : Q (.bl false) C) : rNotN .non .non C Q := ⟨rfl, h⟩
theorem v_lenL {l : List D} (h : Q (.int (l.length : Nat)) C) : rLen [.lst l] C Q := ⟨_, _, rfl, rfl, trivial, h⟩
theorem v_listT {l : List D} (h : Q (.lst l) C) : rList [.tup l] C Q := ⟨_, _, rfl, rfl, h⟩
theorem v_tupleL {l : List D} (h : Q (.tup l) C) : rTuple [.lst l] C Q := ⟨_, _, rfl, rfl, h⟩
theorem v_ixT {l : List D} {i : Int} {d : D} (hi : atI l i = some d) (h : Q d C) : rIx (.tup l) (.int i) C Q := ⟨_, rfl, .inr ⟨_, _, rfl, hi, h⟩⟩
theorem v_ixL {l : List D} {i : Int} {d : D} (hi : atI l i = some d) (h : Q d C) : rIx (.lst l) (.int i) C Q := ⟨_, rfl, .inr ⟨_, _, rfl, hi, h⟩⟩
theorem v_isiS {l : List Nat} (h : Q (.bl true) C) : rIsi "str" [.str l, .ty "str"] C Q := ⟨_, _, rfl, rfl, h⟩
theorem v_allM {α : Type} {as : List α} {f : α → Bool} (h : Q (.bl (as.all f)) C) : rAllL [.lst (as.map fun a => .bl (f a))] C Q := by
  refine ⟨_, as.map f, rfl, ?_, ?_⟩
  · show some _ = some _; unfold bls; rw [List.map_map]; rfl
  · rw [List.all_map]; exact h
theorem v_forL {te : DE} {R : List D → Cl → Prop} (h : te ρ C fun x C1 => ∃ xs, lstOf x = some xs ∧ R xs C1) : diList te ρ C R := h
theorem v_lstO {l : List D} {R : List D → Prop} (h : R l) : ∃ xs, lstOf (.lst l) = some xs ∧ R xs := ⟨l, rfl, h⟩
theorem v_lc {wi : DI} {tt : DT} {vs : List Nat} (h : wi ρ C fun xs C1 => ∀ p, C1 p = none → ∃ Pv : Nat → Cl → Prop, Pv 0 (updC C1 p (.lst [])) ∧
  (∀ i x C, xs[i]? = some x → Pv i C → g x (wipeD ρ vs) C fun ρ2 C2 => tt ρ2 C2 fun b C3 =>
    if b = true then te ρ2 C3 fun y C4 => ∃ acc, C4 p = some (.lst acc) ∧ acc.length < sizeLine ∧ Pv (i + 1) (updC C4 p (.lst (acc ++ [y]))) else Pv (i + 1) C3) ∧
  ∀ C, Pv xs.length C → Q (.ref p) C) : dLc wi g tt te vs ρ C Q := h
theorem v_rng1 {tA : DA} {R : List D → Cl → Prop} (h : tA ρ C fun ds C1 => ∃ j : Int, ds = [.int j] ∧ (-(2 ^ 62) ≤ j ∧ j < 2 ^ 62) ∧ R (ranged 0 j.toNat) C1) : diRng1 tA ρ C R := h
theorem v_putK {to tk : DE} (h : te ρ C fun v C1 => to ρ C1 fun x C2 => tk ρ C2 fun y C3 => ∃ a kvs k, x = .ref a ∧ C3 a = some (.dic kvs) ∧ keyD y = some k ∧ kvs.length < sizeLine ∧ n ρ (updC C3 a (.dic (putKD kvs k v)))) : dPutK to tk te ⟨n, r, b, c⟩ ρ C := h
theorem v_make {k : String} {sp : DSp2} {tA tk : DA} (h : tA ρ C fun xs C2 => tk ρ C2 fun zs C3 => ∀ x, C3 x = none → sp (.ref x :: xs) zs (updC C3 x (.ins k [])) (fun v C4 => v = .non ∧ Q (.ref x) C4) noX) : dMake k sp tA tk ρ C Q := h
theorem v_fldSet {cs : List String} {to : DE} {f : Str} (h : te ρ C fun y C1 => to ρ C1 fun x C2 => ∃ a k fs, k ∈ cs ∧ x = .ref a ∧ C2 a = some (.ins k fs) ∧ fs.length < 1000 ∧ n ρ (updC C2 a (.ins k (putD f y fs)))) : dFldSet cs to te f ⟨n, r, b, c⟩ ρ C := h
theorem v_var0 {d : D} {ρ : DEnv} (h : Q d C) : dVar 0 (some d :: ρ) C Q := ⟨d, rfl, h⟩
theorem v_var1 {x0 : Option D} {d : D} {ρ : DEnv} (h : Q d C) : dVar 1 (x0 :: some d :: ρ) C Q := ⟨d, rfl, h⟩
theorem v_name1 {x0 y : Option D} {d : D} {ρ : DEnv} {K : DEnv → Cl → Prop} (h : K (x0 :: some d :: ρ) C) : dName 1 d (x0 :: y :: ρ) C K := h
theorem v_var2 {x0 x1 : Option D} {d : D} {ρ : DEnv} (h : Q d C) : dVar 2 (x0 :: x1 :: some d :: ρ) C Q := ⟨d, rfl, h⟩
theorem v_wname2 {x0 x1 y : Option D} {d : D} {ρ : DEnv} {K : DEnv → Cl → Prop} (h : K (x0 :: x1 :: some d :: ρ) C) : dName 2 d (wipeD (x0 :: x1 :: y :: ρ) [2]) C K := h
theorem v_name2 {x0 x1 y : Option D} {d : D} {ρ : DEnv} {K : DEnv → Cl → Prop} (h : K (x0 :: x1 :: some d :: ρ) C) : dName 2 d (x0 :: x1 :: y :: ρ) C K := h
theorem v_var3 {x0 x1 x2 : Option D} {d : D} {ρ : DEnv} (h : Q d C) : dVar 3 (x0 :: x1 :: x2 :: some d :: ρ) C Q := ⟨d, rfl, h⟩
theorem v_wname3 {x0 x1 x2 y : Option D} {d : D} {ρ : DEnv} {K : DEnv → Cl → Prop} (h : K (x0 :: x1 :: x2 :: some d :: ρ) C) : dName 3 d (wipeD (x0 :: x1 :: x2 :: y :: ρ) [3]) C K := h
theorem v_name3 {x0 x1 x2 y : Option D} {d : D} {ρ : DEnv} {K : DEnv → Cl → Prop} (h : K (x0 :: x1 :: x2 :: some d :: ρ) C) : dName 3 d (x0 :: x1 :: x2 :: y :: ρ) C K := h
theorem v_var4 {x0 x1 x2 x3 : Option D} {d : D} {ρ : DEnv} (h : Q d C) : dVar 4 (x0 :: x1 :: x2 :: x3 :: some d :: ρ) C Q := ⟨d, rfl, h⟩
theorem v_wname4 {x0 x1 x2 x3 y : Option D} {d : D} {ρ : DEnv} {K : DEnv → Cl → Prop} (h : K (x0 :: x1 :: x2 :: x3 :: some d :: ρ) C) : dName 4 d (wipeD (x0 :: x1 :: x2 :: x3 :: y :: ρ) [4]) C K := h
theorem v_name4 {x0 x1 x2 x3 y : Option D} {d : D} {ρ : DEnv} {K : DEnv → Cl → Prop} (h : K (x0 :: x1 :: x2 :: x3 :: some d :: ρ) C) : dName 4 d (x0 :: x1 :: x2 :: x3 :: y :: ρ) C K := h
theorem v_var5 {x0 x1 x2 x3 x4 : Option D} {d : D} {ρ : DEnv} (h : Q d C) : dVar 5 (x0 :: x1 :: x2 :: x3 :: x4 :: some d :: ρ) C Q := ⟨d, rfl, h⟩
theorem v_wname5 {x0 x1 x2 x3 x4 y : Option D} {d : D} {ρ : DEnv} {K : DEnv → Cl → Prop} (h : K (x0 :: x1 :: x2 :: x3 :: x4 :: some d :: ρ) C) : dName 5 d (wipeD (x0 :: x1 :: x2 :: x3 :: x4 :: y :: ρ) [5]) C K := h
theorem v_name5 {x0 x1 x2 x3 x4 y : Option D} {d : D} {ρ : DEnv} {K : DEnv → Cl → Prop} (h : K (x0 :: x1 :: x2 :: x3 :: x4 :: some d :: ρ) C) : dName 5 d (x0 :: x1 :: x2 :: x3 :: x4 :: y :: ρ) C K := h
theorem v_var6 {x0 x1 x2 x3 x4 x5 : Option D} {d : D} {ρ : DEnv} (h : Q d C) : dVar 6 (x0 :: x1 :: x2 :: x3 :: x4 :: x5 :: some d :: ρ) C Q := ⟨d, rfl, h⟩
theorem v_name6 {x0 x1 x2 x3 x4 x5 y : Option D} {d : D} {ρ : DEnv} {K : DEnv → Cl → Prop} (h : K (x0 :: x1 :: x2 :: x3 :: x4 :: x5 :: some d :: ρ) C) : dName 6 d (x0 :: x1 :: x2 :: x3 :: x4 :: x5 :: y :: ρ) C K := h
theorem v_var7 {x0 x1 x2 x3 x4 x5 x6 : Option D} {d : D} {ρ : DEnv} (h : Q d C) : dVar 7 (x0 :: x1 :: x2 :: x3 :: x4 :: x5 :: x6 :: some d :: ρ) C Q := ⟨d, rfl, h⟩
theorem v_name7 {x0 x1 x2 x3 x4 x5 x6 y : Option D} {d : D} {ρ : DEnv} {K : DEnv → Cl → Prop} (h : K (x0 :: x1 :: x2 :: x3 :: x4 :: x5 :: x6 :: some d :: ρ) C) : dName 7 d (x0 :: x1 :: x2 :: x3 :: x4 :: x5 :: x6 :: y :: ρ) C K := h
theorem v_var8 {x0 x1 x2 x3 x4 x5 x6 x7 : Option D} {d : D} {ρ : DEnv} (h : Q d C) : dVar 8 (x0 :: x1 :: x2 :: x3 :: x4 :: x5 :: x6 :: x7 :: some d :: ρ) C Q := ⟨d, rfl, h⟩
theorem v_name8 {x0 x1 x2 x3 x4 x5 x6 x7 y : Option D} {d : D} {ρ : DEnv} {K : DEnv → Cl → Prop} (h : K (x0 :: x1 :: x2 :: x3 :: x4 :: x5 :: x6 :: x7 :: some d :: ρ) C) : dName 8 d (x0 :: x1 :: x2 :: x3 :: x4 :: x5 :: x6 :: x7 :: y :: ρ) C K := h
theorem v_var9 {x0 x1 x2 x3 x4 x5 x6 x7 x8 : Option D} {d : D} {ρ : DEnv} (h : Q d C) : dVar 9 (x0 :: x1 :: x2 :: x3 :: x4 :: x5 :: x6 :: x7 :: x8 :: some d :: ρ) C Q := ⟨d, rfl, h⟩
theorem v_name9 {x0 x1 x2 x3 x4 x5 x6 x7 x8 y : Option D} {d : D} {ρ : DEnv} {K : DEnv → Cl → Prop} (h : K (x0 :: x1 :: x2 :: x3 :: x4 :: x5 :: x6 :: x7 :: x8 :: some d :: ρ) C) : dName 9 d (x0 :: x1 :: x2 :: x3 :: x4 :: x5 :: x6 :: x7 :: x8 :: y :: ρ) C K := h
theorem v_var10 {x0 x1 x2 x3 x4 x5 x6 x7 x8 x9 : Option D} {d : D} {ρ : DEnv} (h : Q d C) : dVar 10 (x0 :: x1 :: x2 :: x3 :: x4 :: x5 :: x6 :: x7 :: x8 :: x9 :: some d :: ρ) C Q := ⟨d, rfl, h⟩
theorem v_var11 {x0 x1 x2 x3 x4 x5 x6 x7 x8 x9 x10 : Option D} {d : D} {ρ : DEnv} (h : Q d C) : dVar 11 (x0 :: x1 :: x2 :: x3 :: x4 :: x5 :: x6 :: x7 :: x8 :: x9 :: x10 :: some d :: ρ) C Q := ⟨d, rfl, h⟩
theorem v_name11 {x0 x1 x2 x3 x4 x5 x6 x7 x8 x9 x10 y : Option D} {d : D} {ρ : DEnv} {K : DEnv → Cl → Prop} (h : K (x0 :: x1 :: x2 :: x3 :: x4 :: x5 :: x6 :: x7 :: x8 :: x9 :: x10 :: some d :: ρ) C) : dName 11 d (x0 :: x1 :: x2 :: x3 :: x4 :: x5 :: x6 :: x7 :: x8 :: x9 :: x10 :: y :: ρ) C K := h
theorem v_var12 {x0 x1 x2 x3 x4 x5 x6 x7 x8 x9 x10 x11 : Option D} {d : D} {ρ : DEnv} (h : Q d C) : dVar 12 (x0 :: x1 :: x2 :: x3 :: x4 :: x5 :: x6 :: x7 :: x8 :: x9 :: x10 :: x11 :: some d :: ρ) C Q := ⟨d, rfl, h⟩
theorem v_var13 {x0 x1 x2 x3 x4 x5 x6 x7 x8 x9 x10 x11 x12 : Option D} {d : D} {ρ : DEnv} (h : Q d C) : dVar 13 (x0 :: x1 :: x2 :: x3 :: x4 :: x5 :: x6 :: x7 :: x8 :: x9 :: x10 :: x11 :: x12 :: some d :: ρ) C Q := ⟨d, rfl, h⟩
theorem v_name13 {x0 x1 x2 x3 x4 x5 x6 x7 x8 x9 x10 x11 x12 y : Option D} {d : D} {ρ : DEnv} {K : DEnv → Cl → Prop} (h : K (x0 :: x1 :: x2 :: x3 :: x4 :: x5 :: x6 :: x7 :: x8 :: x9 :: x10 :: x11 :: x12 :: some d :: ρ) C) : dName 13 d (x0 :: x1 :: x2 :: x3 :: x4 :: x5 :: x6 :: x7 :: x8 :: x9 :: x10 :: x11 :: x12 :: y :: ρ) C K := h
theorem v_wname15 {x0 x1 x2 x3 x4 x5 x6 x7 x8 x9 x10 x11 x12 x13 x14 y : Option D} {d : D} {ρ : DEnv} {K : DEnv → Cl → Prop} (h : K (x0 :: x1 :: x2 :: x3 :: x4 :: x5 :: x6 :: x7 :: x8 :: x9 :: x10 :: x11 :: x12 :: x13 :: x14 :: some d :: ρ) C) : dName 15 d (wipeD (x0 :: x1 :: x2 :: x3 :: x4 :: x5 :: x6 :: x7 :: x8 :: x9 :: x10 :: x11 :: x12 :: x13 :: x14 :: y :: ρ) [15]) C K := h
/-! comprehensions whose things are known -/
/-- the same over things that a function names -/
theorem v_lcmapF {α : Type} {wi : DI} {vs : List Nat} {as : List α} {e : α → D} (f : α → D) (hw : ∀ R : List D → Cl → Prop, R (as.map e) C → wi ρ C R) (hl : as.length ≤ sizeLine)
    (hs : ∀ (i : Nat) (a : α) (C' : Cl) (N : DQ), as[i]? = some a → a ∈ as → SubC C C' → N (f a) C' → g (e a) (wipeD ρ vs) C' fun ρ2 C2 => te ρ2 C2 N) (hq : Q (.lst (as.map f)) C) : dFz (dLc wi g dYes te vs) ρ C Q := by
  refine hw _ fun p hp => ?_
  refine ⟨fun i C' => ∃ C1, C' = updC C1 p (.lst ((as.take i).map f)) ∧ C1 = C, ⟨C, rfl, rfl⟩, ?_, ?_⟩
  · rintro i x _ hx ⟨C1, rfl, rfl⟩
    rw [List.getElem?_map] at hx
    cases ha : as[i]? with
    | none => rw [ha] at hx; cases hx
    | some a =>
      rw [ha] at hx; cases hx
      have hi : i < as.length := (List.getElem?_eq_some_iff.mp ha).1
      refine hs i a _ _ ha (List.mem_of_getElem? ha) ((SubC.refl _).new hp) ⟨_, updC_same, ?_, _, ?_, rfl⟩
      · rw [List.length_map, List.length_take]; omega
      · rw [updC_updC, List.take_add_one, ha]; simp
  · rintro _ ⟨C1, rfl, rfl⟩
    rw [List.length_map, List.take_length]
    exact ⟨p, _, rfl, updC_same, by rw [delC_new hp]; exact hq⟩
/-! loops -/
theorem v_for {wi : DI} {tb : DS} (h : wi ρ C fun xs C1 => ∃ Pv : Nat → DEnv → Cl → Prop, Pv 0 ρ C1 ∧
  (∀ i x ρ C, xs[i]? = some x → Pv i ρ C → g x ρ C fun ρ2 C2 => tb ⟨Pv (i + 1), r, n, Pv (i + 1)⟩ ρ2 C2) ∧ ∀ ρ C, Pv xs.length ρ C → n ρ C) : dFor wi g tb ⟨n, r, b, c⟩ ρ C := h
/-- over things that a function names; the slot j is the loop's -/
theorem v_loopF {α : Type} {wi : DI} {tb : DS} {as : List α} {e : α → D} (P : Nat → DEnv → Cl → Prop) (hw : ∀ R : List D → Cl → Prop, R (as.map e) C → wi ρ C R) (h0 : P 0 ρ C)
    (hs : ∀ i a ρ C, as[i]? = some a → a ∈ as → P i ρ C → g (e a) ρ C fun ρ2 C2 => tb ⟨P (i + 1), r, n, P (i + 1)⟩ ρ2 C2) (hd : ∀ ρ C, P as.length ρ C → n ρ C) : dFor wi g tb ⟨n, r, b, c⟩ ρ C := by
  refine hw _ ⟨P, h0, fun i x ρ' C' hx hp => ?_, fun ρ' C' hp => hd ρ' C' (by rw [List.length_map] at hp; exact hp)⟩
  rw [List.getElem?_map] at hx
  cases ha : as[i]? with
  | none => rw [ha] at hx; cases hx
  | some a => rw [ha] at hx; cases hx; exact hs i a ρ' C' ha (List.mem_of_getElem? ha) hp
end
end G
namespace G
open PySem PySem.Spec PyProof.Rows L2
/-! ### the helpers of every law: the bag, its draws -/
def sp_l_take : DSp := fun ds C Q _ => ∃ b m n, ds = [.ref b, .int m] ∧ 0 < m ∧ m < 2 ^ 200 ∧ BagAt C b n ∧ n < 100000000000 ∧ ∀ i C', 0 ≤ i → i < m → Bagged C b C' (n + 1) → Q (.int i) C'
def td_l_take : DS :=
  (dSeq (dIfS (dTest (dOp rGtD (dOp rIx (dVar 0) (dC (.int 0))) (dC (.int 0)))) (dSeq (dAsg (dMod (dCB rInt (dCons (dOp rIx (dVar 0) (dC (.int 0))) dNil)) (dVar 1)) (dName 2))
    (dSeq (dAsg (dFdiv (dOp rIx (dVar 0) (dC (.int 0))) (dVar 1)) (dgSub (dVar 0) (dC (.int 0)) rSetL))
    (dRet (dVar 2)))) dNext)
    (dSeq (dAsg (dAdd (dOp rIx (dVar 0) (dC (.int 2))) (dC (.int 1))) (dgSub (dVar 0) (dC (.int 2)) rSetL))
    (dSeq (dAsg (dMod (dCB rInt (dCons (dPow (dAdd (dOp rIx (dVar 0) (dC (.int 1))) (dMul (dC (.int 1000003)) (dOp rIx (dVar 0) (dC (.int 2))))) (dC (.int 3))) dNil)) (dC (.int 2305843009213693921))) (dName 3))
    (dSeq (dAsg (dMod (dCB rInt (dCons (dPow (dAdd (dVar 3) (dMul (dC (.int 15485863)) (dOp rIx (dVar 0) (dC (.int 2))))) (dC (.int 2))) dNil)) (dC (.int 2305843009213693951))) (dName 3))
    (dRet (dMod (dCB rInt (dCons (dFdiv (dVar 3) (dC (.int 4096))) dNil)) (dVar 1)))))))
theorem len_l_take (ds : List D) (C : Cl) (Q : DQ) (E : DX) (h : sp_l_take ds C Q E) : ds.length = 2 := by obtain ⟨_, _, _, rfl, _⟩ := h; rfl
theorem seq_ref {C : Cl} {a : Addr} {ds : List D} (h : C a = some (.lst ds)) : seqOf C (.ref a) = some ds := cellL_of h
theorem divw {m : Int} (h0 : 0 < m) (h : m < 2 ^ 200) : CDivW 0 m := wide_div (b := 200) h0 (by omega) (by decide) (by decide)
theorem pure_l_take (ds : List D) (C : Cl) (Q : DQ) (E : DX) (h : sp_l_take ds C Q E) : td_l_take (endsD Q) (startD ["_law_bag_here", "_law_many", "_law_digit", "_law_mixed"] ds) C := by
  obtain ⟨b, m, n, rfl, m0, m1, ⟨x, y, z, hc, g⟩, hn, hq⟩ := h
  obtain ⟨x0, y0, y1, z0, z1⟩ := g
  refine ⟨_, rfl, _, rfl, .inr ⟨_, .int x, seq_ref hc, rfl, _, rfl, trivial, _, rfl, ite_d (fun h => ?_) (fun h => ?_)⟩⟩
  · refine ⟨_, rfl, _, rfl, .inr ⟨_, .int x, seq_ref hc, rfl, .inl ⟨_, rfl, _, rfl, _, _, rfl, rfl, m0, ?_⟩⟩⟩
    refine ⟨_, rfl, _, rfl, .inr ⟨_, .int x, seq_ref hc, rfl, _, rfl, _, _, rfl, rfl, divw m0 m1, ?_⟩⟩
    refine ⟨_, rfl, _, 0, 0, _, rfl, rfl, hc, rfl, ?_⟩
    refine ⟨_, rfl, _, _, .same, hq _ _ (Int.emod_nonneg _ (by omega)) (Int.emod_lt_of_pos _ m0) ⟨x / m, y, z, rfl, Int.ediv_nonneg x0 (by omega), y0, y1, z0, by omega⟩⟩
  · refine ⟨_, rfl, _, rfl, .inr ⟨_, .int z, seq_ref hc, rfl, _, rfl, trivial, ?_⟩⟩
    refine ⟨_, rfl, _, 2, 2, _, rfl, rfl, hc, rfl, ?_⟩
    have hc' : (updC C b (bagC x y (z + 1))) b = some (bagC x y (z + 1)) := updC_same
    have zz : z ≤ 100000000000 := by omega
    refine ⟨_, rfl, _, rfl, .inr ⟨_, .int y, seq_ref hc', rfl, _, rfl, _, rfl, .inr ⟨_, .int (z + 1), seq_ref hc', rfl, ?_⟩⟩⟩
    refine .inl ⟨_, _, rfl, rfl, .inl ⟨by decide, by decide⟩, _, rfl, trivial, _, _, rfl, rfl, ⟨by decide, by decide, ?_⟩, .inl ⟨_, rfl, _, _, rfl, rfl, (show (0 : Int) < 2305843009213693921 by decide), ?_⟩⟩
    · (try dsimp only); omega
    have b0 := Int.emod_nonneg ((y + 1000003 * (z + 1)) ^ (3 : Int).toNat) (show (2305843009213693921 : Int) ≠ 0 by decide)
    have b1 := Int.emod_lt_of_pos ((y + 1000003 * (z + 1)) ^ (3 : Int).toNat) (show (0 : Int) < 2305843009213693921 by decide)
    dsimp only
    generalize (y + 1000003 * (z + 1)) ^ (3 : Int).toNat % 2305843009213693921 = v at *
    refine ⟨_, rfl, _, rfl, _, rfl, .inr ⟨_, .int (z + 1), seq_ref hc', rfl, ?_⟩⟩
    refine .inl ⟨_, _, rfl, rfl, .inl ⟨by decide, by decide⟩, _, rfl, trivial, _, _, rfl, rfl, ⟨by decide, by decide, ?_⟩, .inl ⟨_, rfl, _, _, rfl, rfl, (show (0 : Int) < 2305843009213693951 by decide), ?_⟩⟩
    · (try dsimp only); omega
    dsimp only
    generalize (v + 15485863 * (z + 1)) ^ (2 : Int).toNat % 2305843009213693951 = u at *
    refine ⟨_, rfl, _, _, rfl, rfl, wide_div (b := 13) (by decide) (by decide) (by decide) (by decide), .inl ⟨_, rfl, _, rfl, _, _, rfl, rfl, m0, ?_⟩⟩
    exact ⟨_, _, .same, hq _ _ (Int.emod_nonneg _ (by omega)) (Int.emod_lt_of_pos _ m0) ⟨x, y, z + 1, rfl, x0, y0, y1, by omega, by omega⟩⟩

/-- one of some things: the things stand as a sequence, or are a text's signs -/
def itemsOf (C : Cl) : D → Option (List D)
  | .str l => some (signs l)
  | d => seqOf C d
def sp_l_of : DSp := fun ds C Q _ => ∃ b s xs n, ds = [.ref b, s] ∧ itemsOf C s = some xs ∧ s ≠ .ref b ∧ xs ≠ [] ∧ xs.length ≤ 1000000 ∧ BagAt C b n ∧ n < 100000000000 ∧ ∀ d C', d ∈ xs → Bagged C b C' (n + 1) → Q d C'
def td_l_of : DS :=
  (dRet (dOp rIx (dVar 1) (dCall sp_l_take [] (dCons (dVar 0) (dCons (dCB rLen (dCons (dVar 1) dNil)) dNil)))))
theorem len_l_of (ds : List D) (C : Cl) (Q : DQ) (E : DX) (h : sp_l_of ds C Q E) : ds.length = 2 := by obtain ⟨_, _, _, _, rfl, _⟩ := h; rfl
theorem atI_mem {α : Type} {l : List α} {i : Int} (h0 : 0 ≤ i) (h1 : i < l.length) : ∃ d, atI l i = some d ∧ d ∈ l := by
  have hl : i.toNat < l.length := by omega
  refine ⟨l[i.toNat], ?_, List.getElem_mem hl⟩
  unfold atI ixN
  rw [if_pos h0, if_pos h1]
  exact List.getElem?_eq_getElem hl
theorem seqOf_ne {C C' : Cl} {s : D} {b : Addr} {xs : List D} (h : ∀ a, a ≠ b → C' a = C a) (e : s ≠ .ref b) (hs : seqOf C s = some xs) : seqOf C' s = some xs := by
  cases s with
  | ref a =>
    have : a ≠ b := fun z => e (by rw [z])
    show cellL C' a = some xs
    have hs : cellL C a = some xs := hs
    unfold cellL at hs ⊢
    rw [h a this]
    exact hs
  | _ => exact hs
theorem pure_l_of (ds : List D) (C : Cl) (Q : DQ) (E : DX) (h : sp_l_of ds C Q E) : td_l_of (endsD Q) (startD ["_law_bag_here", "_law_some"] ds) C := by
  obtain ⟨b, s, xs, n, rfl, hx, hs, hne, hl, hb, hn, hq⟩ := h
  have l0 : 0 < xs.length := List.length_pos_iff.mpr hne
  have hL : lenF C s = some xs.length ∧ srcOk s := by
    cases s with
    | str l =>
      cases hx
      rw [signs_length'] at *
      exact ⟨rfl, Nat.le_trans (by omega) (by rw [sizeLine_eq]; decide : 1000000 ≤ sizeLine)⟩
    | ref a =>
      have e : cellL C a = some xs := hx
      exact ⟨by show (cellL C a).map List.length = _; rw [e]; rfl, trivial⟩
    | tup ds => cases hx; exact ⟨rfl, trivial⟩
    | lst ds => cases hx; exact ⟨rfl, trivial⟩
    | rol ds => cases hx; exact ⟨rfl, trivial⟩
    | _ => cases hx
  refine ⟨_, rfl, _, rfl, _, rfl, _, _, rfl, hL.1, hL.2, b, (xs.length : Int), n, rfl, by omega, by omega, hb, hn, fun i C' i0 i1 hB => ?_⟩
  obtain ⟨d, hd, hm⟩ := atI_mem (l := xs) i0 i1
  refine ⟨i, rfl, ?_⟩
  have fin := hq d C' hm hB
  cases s with
  | str l =>
    cases hx
    refine .inl ⟨l, ?_⟩
    have i1' : i < l.length := by rw [signs_length'] at i1; exact i1
    obtain ⟨c, hc, hmc⟩ := atI_mem (l := l) i0 i1'
    have e : d = .str [c] := by
      unfold atI at hd hc
      rw [signs_length'] at hd
      unfold ixN at hd hc
      rw [if_pos i0, if_pos i1'] at hd hc
      have hd : (signs l)[i.toNat]? = some d := hd
      have hc : l[i.toNat]? = some c := hc
      unfold signs at hd
      rw [List.getElem?_map, hc] at hd
      exact (Option.some.inj hd).symm
    subst e
    exact ⟨c, rfl, Nat.le_trans (by rw [signs_length'] at hl; omega) (by rw [sizeLine_eq]; decide : 1000000 ≤ sizeLine), hc, _, _, .same, fin⟩
  | ref a => exact .inr ⟨xs, d, seqOf_ne (fun a e => hB.ne e) hs hx, hd, _, _, .same, fin⟩
  | tup ds => exact .inr ⟨xs, d, hx, hd, _, _, .same, fin⟩
  | lst ds => exact .inr ⟨xs, d, hx, hd, _, _, .same, fin⟩
  | rol ds => exact .inr ⟨xs, d, hx, hd, _, _, .same, fin⟩
  | _ => cases hx
where
  signs_length' {l : List Nat} : (signs l).length = l.length := by unfold signs; rw [List.length_map]
end G
namespace G
open PySem PySem.Spec PyProof.Rows L2
local macro_rules | `(tactic| walk_at "d") => `(tactic| dsimp only [dSeq, dAsg, dVar, dC, dOp, dCB, dBM, dBM0, dCons, dNil, dTest, dIf, dAnd, dOr, dNot, dAndV, dOrV, dNotV, dRet, dIfS, dNext, dName, dTup, dLst, dLstC, dCall, dSl, dPart, dNoPart, dUn, dgTup, dgCons, dgNil, dgSub, dDrop, dPar])

/-! ### texts of digits -/
def digits10 : List Nat := [48, 49, 50, 51, 52, 53, 54, 55, 56, 57]
def isDig (c : Nat) : Bool := decide (c ∈ digits10)
def digs (l : List Nat) : Bool := decide (l ≠ []) && l.all isDig
theorem signs_get {l : List Nat} {i : Nat} {x : D} (h : (signs l)[i]? = some x) : ∃ c, l[i]? = some c ∧ x = .str [c] := by
  unfold signs at h
  rw [List.getElem?_map] at h
  cases e : l[i]? with
  | none => rw [e] at h; cases h
  | some c => rw [e] at h; exact ⟨c, rfl, (Option.some.inj h).symm⟩
theorem signs_length (l : List Nat) : (signs l).length = l.length := by unfold signs; rw [List.length_map]
/-- [test of c for c in a text] -/
theorem lc_signs {wi : DI} {l : List Nat} {C1 : Cl} {ρ : DEnv} {g : DG} {te : DE} {vs : List Nat} {Q : DQ} (p : Nat → Bool) (hw : ∀ R : List D → Cl → Prop, R (signs l) C1 → wi ρ C1 R) (hl : l.length ≤ sizeLine)
    (h : ∀ (c : Nat) (C : Cl) (N : DQ), c ∈ l → SubC C1 C → N (.bl (p c)) C → g (.str [c]) (wipeD ρ vs) C fun ρ2 C2 => te ρ2 C2 N) (hq : Q (.lst (bls (l.map p))) C1) :
    dFz (dLc wi g dYes te vs) ρ C1 Q := by
  refine hw _ (lc_map (fun d => match d with | .str [c] => .bl (p c) | _ => .non) (by rw [signs_length]; exact hl) (fun i x C N hx s hN => ?_) ?_)
  · obtain ⟨c, hc, rfl⟩ := signs_get hx
    exact h c C N (List.mem_of_getElem? hc) s hN
  · have e : (signs l).map (fun d => match d with | .str [c] => D.bl (p c) | _ => .non) = bls (l.map p) := by
      unfold signs bls
      rw [List.map_map, List.map_map]
      rfl
    rw [e]
    exact hq
theorem all_map (p : Nat → Bool) (l : List Nat) : (l.map p).all id = l.all p := by rw [List.all_map]; rfl
end G
namespace G
open PySem PySem.Spec PyProof.Rows L2

/-! ### slices with plain bounds -/
/-! ### a text at its first point -/
theorem parts_none {l : List Nat} (h : 46 ∉ l) : parts3 l [46] = (l, [], []) := by
  unfold parts3
  rw [TL.par_none1 h]
theorem parts_dot {x y : List Nat} (h : 46 ∉ x) : parts3 (x ++ 46 :: y) [46] = (x, [46], y) := by
  unfold parts3
  rw [show x ++ 46 :: y = x ++ ([46] ++ y) from rfl, TL.par_part1 (S := []) h]
  rfl
/-! ### a number text's parts -/
def sgnOf (l : List Nat) : List Nat := if l.take 1 = [43] ∨ l.take 1 = [45] then l.take 1 else []
abbrev NumParts := Option (List Nat × List Nat × Option (List Nat))
def splitN (l : List Nat) : NumParts :=
  let p := parts3 (l.drop (sgnOf l).length) [46]
  if digs p.1 = true then
    if p.2.1 = [] then some (sgnOf l, p.1, none) else if digs p.2.2 = true then some (sgnOf l, p.1, some p.2.2) else none
  else none
def optS : Option (List Nat) → D
  | none => .non
  | some l => .str l
/-- a number text put together -/
def tailN : Option (List Nat) → List Nat
  | none => []
  | some p => 46 :: p
theorem dig_dot {l : List Nat} (h : digs l = true) : 46 ∉ l := by
  intro hm
  unfold digs at h
  rw [Bool.and_eq_true] at h
  have := List.all_eq_true.mp h.2 46 hm
  revert this
  decide
theorem dig_ne {l : List Nat} (h : digs l = true) : l ≠ [] := by
  unfold digs at h
  rw [Bool.and_eq_true] at h
  exact of_decide_eq_true h.1
theorem dig_head {l : List Nat} (h : digs l = true) : ∃ c r, l = c :: r ∧ isDig c = true := by
  cases l with
  | nil => exact absurd rfl (dig_ne h)
  | cons c r =>
    unfold digs at h
    rw [Bool.and_eq_true, List.all_cons, Bool.and_eq_true] at h
    exact ⟨c, r, rfl, h.2.1⟩
theorem splitN_of {s w : List Nat} {o : Option (List Nat)} (hs : s = [] ∨ s = [43] ∨ s = [45]) (hw : digs w = true) (ho : ∀ p, o = some p → digs p = true) : splitN (s ++ w ++ tailN o) = some (s, w, o) := by
  obtain ⟨c, r, rfl, hc⟩ := dig_head hw
  have c43 : c ≠ 43 := by rintro rfl; revert hc; decide
  have c45 : c ≠ 45 := by rintro rfl; revert hc; decide
  have e1 : sgnOf (s ++ (c :: r) ++ tailN o) = s := by
    rcases hs with rfl | rfl | rfl
    · unfold sgnOf
      rw [if_neg]
      rintro (h | h)
      · exact c43 (by simpa using h)
      · exact c45 (by simpa using h)
    · rfl
    · rfl
  have e2 : (s ++ (c :: r) ++ tailN o).drop s.length = (c :: r) ++ tailN o := by
    rw [List.append_assoc, List.drop_left]
  unfold splitN
  rw [e1]
  dsimp only
  rw [e2]
  cases o with
  | none =>
    have e3 : parts3 ((c :: r) ++ tailN none) [46] = (c :: r, [], []) := by
      rw [show (c :: r) ++ tailN none = c :: r from List.append_nil _]
      exact parts_none (dig_dot hw)
    rw [e3]
    dsimp only
    rw [if_pos hw, if_pos rfl]
  | some p =>
    have e3 : parts3 ((c :: r) ++ tailN (some p)) [46] = (c :: r, [46], p) := parts_dot (dig_dot hw)
    rw [e3]
    dsimp only
    rw [if_pos hw, if_neg (by simp), if_pos (ho p rfl)]
/-! ### the law's own way to the parts -/
/-! ### the shortest text of a number -/
def isZ (c : Nat) : Bool := ([48] : List Nat).contains c
def wholeN (w : List Nat) : List Nat := if w.dropWhile isZ ≠ [] then w.dropWhile isZ else [48]
def shortN (s w p : List Nat) : List Nat :=
  let places := rdrop isZ p
  let number := if places ≠ [] then wholeN w ++ [46] ++ places else wholeN w
  if s = [45] ∧ number ≠ [48] then 45 :: number else number
def plainN (l : List Nat) : Option (List Nat) := (splitN l).map fun x => shortN x.1 x.2.1 (x.2.2.getD [])
theorem isZ_iff (c : Nat) : isZ c = true ↔ c = 48 := by unfold isZ; simp
end G
namespace G
open PySem PySem.Spec PyProof.Rows L2

/-! ### split_number -/
/-! ### shortest -/
theorem dropWhile_le (g : Nat → Bool) (l : List Nat) : (l.dropWhile g).length ≤ l.length := by
  rw [← drop_takeWhile, List.length_drop]
  omega
/-! ### plain_form -/
end G
namespace G
open PySem PySem.Spec PyProof.Rows L2
/-! ### a new bag -/
def sp_l_bag : DSp := fun ds C Q _ => ∃ (ns : List Int) (k : Nat), ds = [.rol (ns.map D.int), .int k] ∧ k ≤ 1000 ∧ ∀ b C', C b = none → Bagged C b C' 0 → Q (.ref b) C'
def td_l_bag : DS :=
  (dSeq (dAsg (dIf (dTest (dOp rLtD (dVar 1) (dCB rLen (dCons (dVar 0) dNil)))) (dOp rIx (dVar 0) (dVar 1)) (dC (.int 0))) (dName 2))
    (dSeq (dAsg (dIf (dTest (dOp rGeD (dCB rAbs (dCons (dVar 2) dNil)) (dPow (dC (.int 10)) (dC (.int 18))))) (dCB rAbs (dCons (dVar 2) dNil)) (dC (.int 0))) (dName 3))
    (dRet (dLstC (dCons (dVar 3) (dCons (dAdd (dAdd (dMul (dMod (dCB rInt (dCons (dVar 2) dNil)) (dC (.int 2305843009213693951))) (dC (.int 5))) (dMul (dC (.int 6571)) (dVar 1))) (dC (.int 3083))) (dCons (dC (.int 0)) dNil)))))))
theorem len_l_bag (ds : List D) (C : Cl) (Q : DQ) (E : DX) (h : sp_l_bag ds C Q E) : ds.length = 2 := by obtain ⟨_, _, rfl, _⟩ := h; rfl
theorem pure_l_bag (ds : List D) (C : Cl) (Q : DQ) (E : DX) (h : sp_l_bag ds C Q E) : td_l_bag (endsD Q) (startD ["_law_script", "_law_at", "_law_cell", "_law_row"] ds) C := by
  obtain ⟨ns, k, rfl, hk, hq⟩ := h
  have go : ∀ c : Int, (dSeq (dAsg (dIf (dTest (dOp rGeD (dCB rAbs (dCons (dVar 2) dNil)) (dPow (dC (.int 10)) (dC (.int 18))))) (dCB rAbs (dCons (dVar 2) dNil)) (dC (.int 0))) (dName 3))
    (dRet (dLstC (dCons (dVar 3) (dCons (dAdd (dAdd (dMul (dMod (dCB rInt (dCons (dVar 2) dNil)) (dC (.int 2305843009213693951))) (dC (.int 5))) (dMul (dC (.int 6571)) (dVar 1))) (dC (.int 3083))) (dCons (dC (.int 0)) dNil)))))) (endsD Q) [some (.rol (ns.map D.int)), some (.int k), some (.int c), none] C := by
    intro c
    have fin : ∀ r : Int, 0 ≤ r → dRet (dLstC (dCons (dVar 3) (dCons (dAdd (dAdd (dMul (dMod (dCB rInt (dCons (dVar 2) dNil)) (dC (.int 2305843009213693951))) (dC (.int 5))) (dMul (dC (.int 6571)) (dVar 1))) (dC (.int 3083))) (dCons (dC (.int 0)) dNil)))) (endsD Q) [some (.rol (ns.map D.int)), some (.int k), some (.int c), some (.int r)] C := by
      intro r r0
      have b0 := Int.emod_nonneg c (show (2305843009213693951 : Int) ≠ 0 by decide)
      have b1 := Int.emod_lt_of_pos c (show (0 : Int) < 2305843009213693951 by decide)
      refine ⟨_, rfl, _, rfl, .inl ⟨_, rfl, _, _, rfl, rfl, (show (0 : Int) < 2305843009213693951 by decide), .inl ⟨_, _, rfl, rfl, ?_, _, rfl, .inl ⟨_, _, rfl, rfl, ?_, _, rfl, trivial, _, rfl, trivial, szl (by simp), fun p hp => ?_⟩⟩⟩⟩
      · exact .inr ⟨by decide, by decide⟩
      · exact .inl ⟨by decide, by omega⟩
      refine ⟨_, _, .same, hq _ _ hp ⟨r, _, 0, rfl, r0, ?_, ?_, by omega, by omega⟩⟩
      · show 0 ≤ c % 2305843009213693951 * 5 + 6571 * (k : Int) + 3083; omega
      · show c % 2305843009213693951 * 5 + 6571 * (k : Int) + 3083 ≤ _; omega
    refine ⟨_, rfl, c, rfl, _, _, rfl, rfl, ⟨by decide, by decide, by decide⟩, _, rfl, trivial, _, rfl, ite_d (fun h => ?_) (fun h => ?_)⟩
    · refine ⟨_, rfl, _, rfl, fin _ ?_⟩
      split <;> omega
    · exact fin 0 (by omega)
  refine ⟨_, rfl, _, rfl, _, _, rfl, rfl, trivial, _, rfl, trivial, _, rfl, ite_d (fun h => ?_) (fun h => ?_)⟩
  · have hl : k < ns.length := by
      have : (ns.map D.int).length = ns.length := List.length_map ..
      omega
    refine ⟨_, rfl, _, rfl, _, rfl, .inr ⟨_, .int ns[k], rfl, ?_, go _⟩⟩
    unfold atI ixN
    rw [if_pos (by omega), List.length_map, if_pos (by omega)]
    show (ns.map D.int)[(k : Int).toNat]? = _
    rw [List.getElem?_map, Int.toNat_natCast, List.getElem?_eq_getElem hl]
    rfl
  · exact go 0

/-! ### drawn digits -/
def sp_l_digits : DSp := fun ds C Q _ => ∃ b lo hi n, ds = [.ref b, .int (lo : Nat), .int (hi : Nat)] ∧ lo ≤ hi ∧ hi ≤ 1000 ∧ BagAt C b n ∧ n < 10000000000 ∧ ∀ l C', l.all isDig = true → lo ≤ l.length → l.length ≤ hi → Bagged C b C' (n + 2000) → Q (.str l) C'
def td_l_digits : DS :=
  (dSeq (dAsg (dC (.str [])) (dName 3))
    (dSeq (dFor (diRng1 (dCons (dAdd (dVar 1) (dCall sp_l_take [] (dCons (dVar 0) (dCons (dAdd (dSub (dVar 2) (dVar 1)) (dC (.int 1))) dNil)))) dNil)) (dName 4)
    (dAsg (dAdd (dVar 3) (dCall sp_l_of [] (dCons (dVar 0) (dCons (dC (.str [48, 48, 48, 49, 50, 51, 52, 53, 54, 55, 56, 57])) dNil)))) (dName 3)))
    (dRet (dVar 3))))
theorem len_l_digits (ds : List D) (C : Cl) (Q : DQ) (E : DX) (h : sp_l_digits ds C Q E) : ds.length = 3 := by obtain ⟨_, _, _, _, rfl, _⟩ := h; rfl
theorem pure_l_digits (ds : List D) (C : Cl) (Q : DQ) (E : DX) (h : sp_l_digits ds C Q E) : td_l_digits (endsD Q) (startD ["_law_bag_here", "_law_least", "_law_most", "_law_found", "_law_turn"] ds) C := by
  obtain ⟨b, lo, hi, n, rfl, h1, h2, hb, hn, hq⟩ := h
  refine ⟨_, rfl, _, rfl, _, rfl, _, rfl, _, rfl, trivial, _, rfl, trivial, b, (hi : Int) - lo + 1, n, rfl, by omega, by omega, hb, by omega, fun i C1 i0 i1 hB => ?_⟩
  refine ⟨_, rfl, trivial, _, rfl, ⟨by omega, by omega⟩, fun k ρ C2 => ∃ l x, ρ = [some (.ref b), some (.int lo), some (.int hi), some (.str l), x] ∧ l.all isDig = true ∧ l.length = k ∧ Bagged C b C2 (n + 1 + k), ⟨[], none, rfl, rfl, rfl, hB⟩, ?_, ?_⟩
  · rintro k d ρ C2 hx ⟨l, x, rfl, hd, hl, hB2⟩
    obtain ⟨hk, rfl⟩ := ranged_get hx
    refine ⟨_, rfl, _, rfl, b, _, signs [48, 48, 48, 49, 50, 51, 52, 53, 54, 55, 56, 57], n + 1 + k, rfl, rfl, nofun, by decide, by decide, hB2.at, by omega, fun d C3 hm hB3 => ?_⟩
    unfold signs at hm
    obtain ⟨c, hc, rfl⟩ := List.mem_map.mp hm
    refine ⟨_, rfl, szl ?_, l ++ [c], _, rfl, ?_, ?_, ?_⟩
    · show (l ++ [c]).length ≤ _
      rw [List.length_append, List.length_singleton]; omega
    · rw [List.all_append, hd, List.all_cons, List.all_nil, Bool.and_true, Bool.true_and]
      revert hc
      simp only [List.mem_cons, List.not_mem_nil, or_false]
      rintro (rfl | rfl | rfl | rfl | rfl | rfl | rfl | rfl | rfl | rfl | rfl | rfl) <;> decide
    · rw [List.length_append, hl, List.length_singleton]
    · have := hB2.trans hB3
      exact this.mono (by omega)
  · rintro ρ C2 ⟨l, x, rfl, hd, hl, hB2⟩
    rw [ranged_length] at hl hB2
    exact ⟨_, rfl, _, _, .same, hq _ _ hd (by omega) (by omega) (hB2.mono (by omega))⟩

/-! ### a drawn number text -/
def sp_l_number : DSp := fun ds C Q _ => ∃ b m n, ds = [.ref b, .int (m : Nat)] ∧ 1 ≤ m ∧ m ≤ 1000 ∧ BagAt C b n ∧ n < 1000000000 ∧
  ∀ s w o C', (s = [] ∨ s = [45] ∨ s = [43]) → digs w = true → w.length ≤ m → (∀ p, o = some p → digs p = true ∧ p.length ≤ m) → Bagged C b C' (n + 10000) → Q (.str (s ++ w ++ tailN o)) C'
def td_l_number : DS :=
  (dSeq (dAsg (dCall sp_l_of [] (dCons (dVar 0) (dCons (dLst (dCons (dC (.str [])) (dCons (dC (.str [])) (dCons (dC (.str [])) (dCons (dC (.str [45])) (dCons (dC (.str [43])) dNil)))))) dNil))) (dName 2))
    (dSeq (dAsg (dCall sp_l_digits [] (dCons (dVar 0) (dCons (dC (.int 1)) (dCons (dVar 1) dNil)))) (dName 3))
    (dSeq (dIfS (dTest (dOp rEqD (dCall sp_l_take [] (dCons (dVar 0) (dCons (dC (.int 2)) dNil))) (dC (.int 0)))) (dRet (dAdd (dVar 2) (dVar 3))) dNext)
    (dRet (dAdd (dAdd (dAdd (dVar 2) (dVar 3)) (dC (.str [46]))) (dCall sp_l_digits [] (dCons (dVar 0) (dCons (dC (.int 1)) (dCons (dVar 1) dNil)))))))))
theorem len_l_number (ds : List D) (C : Cl) (Q : DQ) (E : DX) (h : sp_l_number ds C Q E) : ds.length = 2 := by obtain ⟨_, _, _, rfl, _⟩ := h; rfl
theorem digs_of {l : List Nat} (h : l.all isDig = true) (h1 : 1 ≤ l.length) : digs l = true := by
  unfold digs
  rw [h, Bool.and_true]
  cases l with
  | nil => exact absurd h1 (by simp)
  | cons => rfl
theorem pure_l_number (ds : List D) (C : Cl) (Q : DQ) (E : DX) (h : sp_l_number ds C Q E) : td_l_number (endsD Q) (startD ["_law_bag_here", "_law_most", "_law_sign", "_law_before"] ds) C := by
  obtain ⟨b, m, n, rfl, h1, h2, hb, hn, hq⟩ := h
  refine ⟨_, rfl, szl (by simp), b, _, _, n, rfl, rfl, nofun, by simp, by simp, hb, by omega, fun d C1 hm B1 => ?_⟩
  have : ∃ s : List Nat, d = .str s ∧ (s = [] ∨ s = [45] ∨ s = [43]) := by
    simp only [List.mem_cons, List.not_mem_nil, or_false] at hm
    rcases hm with rfl | rfl | rfl | rfl | rfl <;> exact ⟨_, rfl, by simp⟩
  obtain ⟨s, rfl, hs⟩ := this
  have hsl : s.length ≤ 1 := by rcases hs with rfl | rfl | rfl <;> simp
  refine ⟨_, rfl, _, rfl, b, 1, m, n + 1, rfl, by omega, by omega, B1.at, by omega, fun w C2 w1 w2 w3 B2 => ?_⟩
  refine ⟨_, rfl, b, 2, n + 2001, rfl, by omega, by omega, B2.at, by omega, fun i C3 i0 i1 B3 => ?_⟩
  have B3' := (B1.trans B2).trans B3
  refine .inl ⟨_, rfl, _, rfl, ite_d (fun hi => ?_) (fun hi => ?_)⟩
  · refine ⟨_, rfl, _, rfl, _, rfl, szl (by rw [List.length_append]; omega), _, _, .same, ?_⟩
    have := hq s w none C3 hs (digs_of w1 w2) w3 nofun (B3'.mono (by omega))
    rw [tailN, List.append_nil] at this
    exact this
  · refine ⟨_, rfl, _, rfl, _, rfl, szl (by rw [List.length_append]; omega), _, rfl, szl (by simp only [List.length_append, List.length_cons, List.length_nil]; omega), _, rfl, _, rfl, b, 1, m, n + 2002, rfl, by omega, by omega, B3.at, by omega, fun p C4 p1 p2 p3 B4 => ?_⟩
    refine ⟨_, rfl, szl (by simp only [List.length_append, List.length_cons, List.length_nil]; omega), _, _, .same, ?_⟩
    have := hq s w (some p) C4 hs (digs_of w1 w2) w3 (fun q e => by cases e; exact ⟨digs_of p1 p2, p3⟩) ((B3'.trans B4).mono (by omega))
    rw [tailN] at this
    rw [List.append_assoc (s ++ w)]
    exact this
end G
namespace G
open PySem PySem.Spec PyProof.Rows L2
/-! ### the law's own number split -/
local macro_rules | `(tactic| walk_at "d") => `(tactic| dsimp only [dSeq, dAsg, dVar, dC, dOp, dCB, dBM, dBM0, dCons, dNil, dTest, dIf, dAnd, dOr, dNot, dAndV, dOrV, dNotV, dRet, dIfS, dNext, dName, dTup, dLst, dLstC, dCall, dSl, dPart, dNoPart, dUn, dgTup, dgCons, dgNil, dgSub, dDrop, dPar])
theorem flat_txts (ps : List (List Nat)) : (txts ps).all flatD = true := by
  unfold txts
  rw [List.all_map]
  exact List.all_eq_true.mpr fun _ _ => rfl
theorem txts_length (ps : List (List Nat)) : (txts ps).length = ps.length := List.length_map ..
theorem join_le : ∀ (ls : List (List Nat)), (TL.joinL [] ls).length ≤ (ls.map List.length).sum
  | [] => Nat.le_refl _
  | [x] => by simp [TL.joinL]
  | x :: y :: r => by
    have := join_le (y :: r)
    show (x ++ ([] ++ TL.joinL [] (y :: r))).length ≤ _
    rw [List.nil_append, List.length_append, List.map_cons, List.sum_cons]
    omega
end G
namespace G
open PySem PySem.Spec PyProof.Rows L2
/-! ### the law's own shortest -/
theorem wholeN_cons {c : Nat} {l : List Nat} (h : c = 48) (h1 : l ≠ []) : wholeN (c :: l) = wholeN l := by
  unfold wholeN
  rw [List.dropWhile_cons_of_pos (by rw [isZ_iff]; exact h)]
theorem wholeN_one {c : Nat} : wholeN [c] = [c] := by
  unfold wholeN
  by_cases h : c = 48
  · subst h; rfl
  · rw [List.dropWhile_cons_of_neg (by rw [isZ_iff]; exact h)]
    rfl
theorem wholeN_same {c : Nat} {l : List Nat} (h : c ≠ 48) : wholeN (c :: l) = c :: l := by
  unfold wholeN
  rw [List.dropWhile_cons_of_neg (by rw [isZ_iff]; exact h)]
  rfl
theorem ends_one (l : List Nat) : ends [48] l = true ↔ ∃ r, l = r ++ [48] := by
  unfold ends
  rw [Bool.and_eq_true, decide_eq_true_iff, beq_iff_eq]
  constructor
  · rintro ⟨h1, h2⟩
    exact ⟨l.take (l.length - 1), by rw [← h2]; exact (List.take_append_drop _ l).symm⟩
  · rintro ⟨r, rfl⟩
    simp
theorem rdrop_app {r : List Nat} : rdrop isZ (r ++ [48]) = rdrop isZ r := by
  unfold rdrop
  rw [List.reverse_append]
  rfl
theorem rdrop_same {l : List Nat} (h : ends [48] l = false) : rdrop isZ l = l := by
  unfold rdrop
  cases e : l.reverse with
  | nil => rw [List.reverse_eq_nil_iff.mp e]; rfl
  | cons c r =>
    have hl : l = r.reverse ++ [c] := by rw [← List.reverse_reverse l, e, List.reverse_cons]
    have hc : c ≠ 48 := by
      rintro rfl
      have := (ends_one l).mpr ⟨_, hl⟩
      rw [h] at this
      cases this
    rw [List.dropWhile_cons_of_neg (by rw [isZ_iff]; exact hc), List.reverse_cons]
    exact hl.symm
theorem shortN_eq (s w p : List Nat) : shortN s w p = if rdrop isZ p = [] ∧ wholeN w = [48] then [48] else (if s = [45] then [45] else []) ++ wholeN w ++ (if rdrop isZ p ≠ [] then [46] else []) ++ rdrop isZ p := by
  unfold shortN
  dsimp only
  generalize rdrop isZ p = q
  generalize wholeN w = v
  by_cases h1 : q = []
  · subst h1
    rw [if_neg (show ¬ ([] : List Nat) ≠ [] from fun h => h rfl), if_neg (show ¬ ([] : List Nat) ≠ [] from fun h => h rfl)]
    by_cases h2 : v = [48]
    · subst h2
      rw [if_neg (fun h => h.2 rfl), if_pos ⟨rfl, rfl⟩]
    · rw [if_neg (fun h : _ ∧ v = [48] => h2 h.2)]
      by_cases h3 : s = [45]
      · rw [if_pos ⟨h3, h2⟩, if_pos h3, List.append_nil, List.append_nil]; rfl
      · rw [if_neg (fun h => h3 h.1), if_neg h3, List.append_nil, List.append_nil]; rfl
  · rw [if_pos h1, if_pos h1, if_neg (fun h : q = [] ∧ _ => h1 h.1)]
    have hn : v ++ [46] ++ q ≠ [48] := by
      intro h
      have : (46 : Nat) ∈ ([48] : List Nat) := by rw [← h]; simp
      simp at this
    by_cases h3 : s = [45]
    · rw [if_pos ⟨h3, hn⟩, if_pos h3]; rfl
    · rw [if_neg (fun h => h3 h.1), if_neg h3]; rfl
/-! ### the law's own plain form -/
/-! ### plain forms -/
/-- a plain form: its sign, its digits ahead and behind -/
structure Canon (s w p : List Nat) : Prop where
  sg : s = [] ∨ s = [45]
  dw : digs w = true
  ww : wholeN w = w
  dp : p.all isDig = true
  pp : rdrop isZ p = p
  nz : ¬ (s = [45] ∧ w = [48] ∧ p = [])
def canT (s w p : List Nat) : List Nat := s ++ w ++ (if p ≠ [] then 46 :: p else [])
def ptail (p : List Nat) : Option (List Nat) := if p ≠ [] then some p else none
theorem canT_tail (s w p : List Nat) : canT s w p = s ++ w ++ tailN (ptail p) := by
  unfold canT ptail
  split <;> rfl
theorem all_dropWhile {g f : Nat → Bool} {l : List Nat} (h : l.all f = true) : (l.dropWhile g).all f = true := by
  rw [List.all_eq_true] at *
  exact fun x hx => h x ((List.dropWhile_sublist g).subset hx)
theorem all_rdrop {g f : Nat → Bool} {l : List Nat} (h : l.all f = true) : (rdrop g l).all f = true := by
  unfold rdrop
  rw [List.all_reverse]
  exact all_dropWhile (by rw [List.all_reverse]; exact h)
theorem rdrop_idem (l : List Nat) : rdrop isZ (rdrop isZ l) = rdrop isZ l := by
  apply rdrop_same
  cases e : ends [48] (rdrop isZ l) with
  | false => rfl
  | true =>
    obtain ⟨r, hr⟩ := (ends_one _).mp e
    unfold rdrop at hr
    have hr := congrArg List.reverse hr
    rw [List.reverse_reverse, List.reverse_append] at hr
    have : ∀ (x t : List Nat), x.dropWhile isZ ≠ 48 :: t := by
      intro x
      induction x with
      | nil => intro t h; cases h
      | cons c x ih =>
        intro t h
        by_cases hc : isZ c = true
        · rw [List.dropWhile_cons_of_pos hc] at h; exact ih t h
        · rw [List.dropWhile_cons_of_neg hc] at h
          cases h
          exact hc rfl
    exact absurd hr (this _ _)
theorem Canon.short {s w p : List Nat} (h : Canon s w p) {z : List Nat} (hz : rdrop isZ z = p) : shortN s w z = canT s w p := by
  rw [shortN_eq, hz, h.ww]
  unfold canT
  by_cases c : p = [] ∧ w = [48]
  · rw [if_pos c]
    have : s = [] := by
      rcases h.sg with e | e
      · exact e
      · exact absurd ⟨e, c.2, c.1⟩ h.nz
    rw [this, c.1, c.2]; rfl
  · rw [if_neg c, List.append_assoc]
    congr 1
    · congr 1
      rcases h.sg with e | e <;> rw [e] <;> rfl
    · split
      · rfl
      · rename_i h1
        rw [Classical.not_not.mp h1]; rfl
theorem Canon.split {s w p : List Nat} (h : Canon s w p) : splitN (canT s w p) = some (s, w, ptail p) := by
  rw [canT_tail]
  refine splitN_of ?_ h.dw ?_
  · rcases h.sg with e | e
    · exact .inl e
    · exact .inr (.inr e)
  · intro q hq
    unfold ptail at hq
    split at hq
    · rename_i hp
      cases hq
      unfold digs
      rw [h.dp, decide_eq_true hp]; rfl
    · cases hq
theorem ptail_get (p : List Nat) : (ptail p).getD [] = p := by
  unfold ptail
  split
  · rfl
  · rename_i h; exact (Classical.not_not.mp h).symm
theorem Canon.plain {s w p : List Nat} (h : Canon s w p) : plainN (canT s w p) = some (canT s w p) := by
  unfold plainN
  rw [h.split]
  show some (shortN s w ((ptail p).getD [])) = _
  rw [ptail_get, h.short h.pp]
theorem Canon.len {s w p : List Nat} (h : Canon s w p) : (canT s w p).length ≤ w.length + p.length + 2 := by
  unfold canT
  rcases h.sg with e | e <;> rw [e] <;> split <;> simp <;> omega
end G
namespace G
open PySem PySem.Spec PyProof.Rows L2
/-! ### padding -/
structure NumT (s w q : List Nat) : Prop where
  sg : s = [] ∨ s = [45]
  dw : digs w = true
  dq : q.all isDig = true
theorem Canon.num {s w p : List Nat} (h : Canon s w p) : NumT s w p := ⟨h.sg, h.dw, h.dp⟩
section
variable {s w q : List Nat} (h : NumT s w q)
include h
theorem NumT.head : 46 ∉ s ++ w := by
  rw [List.mem_append]
  rintro (z | z)
  · rcases h.sg with e | e <;> rw [e] at z <;> simp at z
  · exact dig_dot h.dw z
theorem NumT.behind : 46 ∉ q := by
  intro z
  have := List.all_eq_true.mp h.dq 46 z
  revert this
  decide
theorem NumT.parts : parts3 (canT s w q) [46] = (s ++ w, if q ≠ [] then [46] else [], q) := by
  unfold canT
  by_cases e : q = []
  · subst e
    show parts3 (s ++ w ++ []) [46] = (s ++ w, [], [])
    rw [List.append_nil, parts_none h.head]
  · rw [if_pos e, if_pos e, parts_dot h.head]
theorem NumT.split : splitN (canT s w q) = some (s, w, ptail q) := by
  rw [canT_tail]
  refine splitN_of ?_ h.dw ?_
  · rcases h.sg with e | e
    · exact .inl e
    · exact .inr (.inr e)
  · intro z hq
    unfold ptail at hq
    split at hq
    · rename_i hp
      cases hq
      unfold digs
      rw [h.dq, decide_eq_true hp]; rfl
    · cases hq
theorem NumT.plain : plainN (canT s w q) = some (shortN s w q) := by
  unfold plainN
  rw [h.split]
  show some (shortN s w ((ptail q).getD [])) = _
  rw [ptail_get]
theorem NumT.len : (canT s w q).length ≤ w.length + q.length + 2 := by
  unfold canT
  rcases h.sg with e | e <;> rw [e] <;> split <;> simp <;> omega
end
theorem rdrop_zeros (p : List Nat) : ∀ n, rdrop isZ (p ++ List.replicate n 48) = rdrop isZ p
  | 0 => by rw [List.replicate_zero, List.append_nil]
  | n + 1 => by rw [List.replicate_succ', ← List.append_assoc, rdrop_app, rdrop_zeros p n]
end G
namespace G
open PySem PySem.Spec PyProof.Rows L2
/-! ### a law: its script, its answer -/
def sp_law : DSp := fun ds C Q _ => ∃ ns : List Int, ds = [.rol (ns.map D.int)] ∧ ns.length ≤ 63 ∧ ∀ C', Q (.bl true) C'
theorem len_law (ds : List D) (C : Cl) (Q : DQ) (E : DX) (h : sp_law ds C Q E) : ds.length = 1 := by obtain ⟨_, rfl, _⟩ := h; rfl
theorem rep_nums {K : PySem.W.Frag} {cl : Nm} {F : Hp} : ∀ ns : List Int, RepL K cl F (ns.map V.int) (ns.map D.int)
  | [] => .nil
  | n :: ns => .cons (.int n) (rep_nums ns)
theorem law_in {K : PySem.W.Frag} {cl : Nm} {H : Hp} {a : Addr} {E : XK} (ns : List Int) (hl : ns.length ≤ 63) (hS : SqL K H a (ns.map V.int)) : lowSp K cl sp_law [.ref a] H (fun v _ => v = .bl true) E :=
  ⟨[.rol (ns.map D.int)], fun _ => none, H, fun d _ => d = .bl true, fun _ _ _ => False, ⟨Same.refl H, (fun _ _ e => nomatch e), (fun _ _ e => nomatch e)⟩, .cons (.rol hS (rep_nums ns)) .nil, ⟨ns, rfl, hl, fun _ => rfl⟩,
    fun v d C H F' s R r e => by subst e; cases r; rfl, fun _ _ _ _ _ _ _ _ _ _ z => z.elim⟩
/-- range(max(1, min(m, len(script)))) -/
theorem law_rng {ns : List Int} {m : Int} {ρ : DEnv} {C : Cl} {R : List D → Cl → Prop} (h0 : ρ[0]? = some (some (.rol (ns.map D.int)))) (hl : ns.length ≤ 63) (h : ∀ k, k ≤ 63 → R (ranged 0 k) C) :
    diRng1 (dCons (dCB rMax2 (dCons (dC (.int 1)) (dCons (dCB rMin2 (dCons (dC (.int m)) (dCons (dCB rLen (dCons (dVar 0) dNil)) dNil))) dNil))) dNil) ρ C R := by
  refine ⟨_, h0, _, _, rfl, rfl, trivial, _, _, rfl, _, _, rfl, _, rfl, ?_, ?_⟩
  · have : (ns.map D.int).length = ns.length := List.length_map ..
    repeat' split
    all_goals omega
  · refine h _ ?_
    have : (ns.map D.int).length = ns.length := List.length_map ..
    repeat' split
    all_goals omega
end G
namespace G
open PySem PySem.Spec PyProof.Rows L2
/-! ### the classes' addresses -/
def nm1 (c : String) (C : Addr) (r : Nm) : Nm := fun x => if x = c then C else r x
/-- the law's own promise does not look at classes -/
theorem law_cl {K : PySem.W.Frag} {cl cl' : Nm} {vs : List V} {H : Hp} {Q : VK} {E : XK} (h : lowSp K cl sp_law vs H Q E) : lowSp K cl' sp_law vs H Q E := by
  obtain ⟨ds, C, F, Qd, Ed, R, r, ⟨ns, rfl, hl, hq⟩, kq, kx⟩ := h
  cases r with
  | cons r1 rr =>
    cases rr
    cases r1 with
    | rol hs rl =>
      refine ⟨[.rol (ns.map D.int)], fun _ => none, F, fun d _ => d = .bl true, noX, ⟨R.sub, (fun _ _ e => nomatch e), (fun _ _ e => nomatch e)⟩, .cons (.rol hs ?_) .nil, ⟨ns, rfl, hl, fun _ => rfl⟩, ?_, fun _ _ _ _ _ _ _ _ _ _ z => z.elim⟩
      · clear hl hq hs
        rename_i a xs
        generalize hd : ns.map D.int = ds at rl
        clear kq kx
        induction ns generalizing xs ds with
        | nil => subst hd; cases rl; exact .nil
        | cons n ns ih =>
          subst hd
          cases rl with
          | cons q t => cases q; exact .cons (.int n) (ih _ rfl t)
      · intro v d C2 H2 F2 s2 R2 r2 e
        subst e
        cases r2
        exact kq (.bl true) (.bl true) (fun _ => none) H2 F2 s2 ⟨R2.sub, (fun _ _ e => nomatch e), (fun _ _ e => nomatch e)⟩ (.bl true) (hq _)
end G
namespace G
open PySem PySem.Spec PyProof.Rows L2
/-! ### a law some of whose defs make lambdas: the tables stand at the start -/
end G
namespace G
open PySem PySem.Spec PyProof.Rows L2
/-! ### lists of drawn things -/
theorem updC_comm {C : Cl} {a b : Addr} {c d : Cell} (h : a ≠ b) : updC (updC C a c) b d = updC (updC C b d) a c := by
  funext x
  unfold updC
  by_cases e : x = a
  · subst e; rw [if_neg h, if_pos rfl, if_pos rfl]
  · rw [if_neg e]
    by_cases e2 : x = b
    · rw [if_pos e2, if_neg e]
    · rw [if_neg e2, if_neg e]
theorem delC_updC {C : Cl} {p : Addr} {c : Cell} (h : C p = none) : delC (updC C p c) p = C := by
  funext x
  unfold delC
  by_cases e : x = p
  · rw [if_pos e, e, h]
  · rw [if_neg e, updC_ne e]
theorem BagAt.ne {C : Cl} {b p : Addr} {n : Nat} (h : BagAt C b n) (e : C p = none) : b ≠ p := by
  rintro rfl
  obtain ⟨x, y, z, hc, _⟩ := h
  rw [e] at hc; cases hc
theorem BagAt.upd {C : Cl} {b p : Addr} {c : Cell} {n : Nat} (h : BagAt C b n) (e : b ≠ p) : BagAt (updC C p c) b n := by
  obtain ⟨x, y, z, hc, g⟩ := h
  exact ⟨x, y, z, by rw [updC_ne e]; exact hc, g⟩
theorem lc_bag {g : DG} {te : DE} {ρ : DEnv} {vs : List Nat} {C1 : Cl} {b : Addr} {n k : Nat} {xs : List D} {Q : DQ} (Y : D → Prop) (hb : BagAt C1 b n) (hl : xs.length ≤ sizeLine)
    (h : ∀ i x C (N : DQ), xs[i]? = some x → BagAt C b (n + i * k) → (∀ a, C1 a ≠ none → a ≠ b → C a = C1 a) → (∀ y C', Y y → Bagged C b C' (n + (i + 1) * k) → N y C') → g x (wipeD ρ vs) C fun ρ2 C2 => te ρ2 C2 N)
    (hq : ∀ ys C', ys.length = xs.length → (∀ y ∈ ys, Y y) → Bagged C1 b C' (n + xs.length * k) → Q (.lst ys) C') :
    ∀ p, C1 p = none → ∃ Pv : Nat → Cl → Prop, Pv 0 (updC C1 p (.lst [])) ∧
      (∀ i x C, xs[i]? = some x → Pv i C → g x (wipeD ρ vs) C fun ρ2 C2 => dYes ρ2 C2 fun b C3 =>
        if b = true then te ρ2 C3 fun y C4 => ∃ acc, C4 p = some (.lst acc) ∧ acc.length < sizeLine ∧ Pv (i + 1) (updC C4 p (.lst (acc ++ [y]))) else Pv (i + 1) C3) ∧
      ∀ C, Pv xs.length C → ∃ a ds, D.ref p = .ref a ∧ C a = some (.lst ds) ∧ Q (.lst ds) (delC C a) := by
  intro p hp
  refine ⟨fun i C => ∃ ys C', C = updC C' p (.lst ys) ∧ ys.length = i ∧ (∀ y ∈ ys, Y y) ∧ Bagged C1 b C' (n + i * k), ⟨[], C1, rfl, rfl, nofun, by rw [Nat.zero_mul]; exact hb.self⟩, ?_, ?_⟩
  · rintro i x C hx ⟨ys, C', rfl, hyl, hY, B⟩
    have bp := hb.ne hp
    have i1 : i < xs.length := (List.getElem?_eq_some_iff.mp hx).1
    refine h i x _ _ hx (B.at.upd bp) (fun a ha hab => ?_) fun y C2 hy B2 => ?_
    · have : a ≠ p := by rintro rfl; exact ha hp
      rw [updC_ne this]
      exact B.ne hab
    · obtain ⟨u1, u2, u3, rfl, G2⟩ := B2
      obtain ⟨v1, v2, v3, rfl, G1⟩ := B
      refine ⟨ys, by rw [updC_ne (Ne.symm bp), updC_same], by omega, ys ++ [y], updC C1 b (bagC u1 u2 u3), ?_, by rw [List.length_append, hyl, List.length_singleton], ?_, ⟨u1, u2, u3, rfl, G2⟩⟩
      · rw [updC_comm (C := updC C1 b (bagC v1 v2 v3)) (Ne.symm bp), updC_updC, updC_updC]
      · intro z hz
        rcases List.mem_append.mp hz with e | e
        · exact hY z e
        · rw [List.mem_singleton.mp e]; exact hy
  · rintro C ⟨ys, C', rfl, hyl, hY, B⟩
    refine ⟨p, ys, rfl, updC_same, ?_⟩
    have bp := hb.ne hp
    rw [delC_updC (by rw [B.ne (Ne.symm bp), hp])]
    exact hq ys C' hyl hY B
/-- drawn texts put together -/
theorem txts_of {P : List Nat → Prop} : ∀ {ys : List D}, (∀ y ∈ ys, ∃ l, y = .str l ∧ P l) → ∃ ls : List (List Nat), ys = txts ls ∧ ∀ l ∈ ls, P l
  | [], _ => ⟨[], rfl, nofun⟩
  | y :: ys, h => by
    obtain ⟨l, rfl, hl⟩ := h y (by simp)
    obtain ⟨ls, rfl, hs⟩ := txts_of (P := P) (ys := ys) fun z hz => h z (by simp [hz])
    exact ⟨l :: ls, rfl, fun z hz => by
      rcases List.mem_cons.mp hz with e | e
      · rw [e]; exact hl
      · exact hs z e⟩
theorem sum_le {m : Nat} : ∀ {ls : List (List Nat)}, (∀ l ∈ ls, l.length ≤ m) → (ls.map List.length).sum ≤ ls.length * m
  | [], _ => Nat.zero_le _
  | l :: ls, h => by
    have := sum_le (m := m) (ls := ls) fun z hz => h z (by simp [hz])
    have := h l (by simp)
    simp only [List.map_cons, List.sum_cons, List.length_cons, Nat.add_mul]
    omega

/-! ### any sign, any text -/
def sgns1 : List Nat := [32, 33, 34, 35, 36, 38, 39, 40, 41, 42, 43, 44, 45, 46, 47, 48, 49, 50, 51, 52, 53, 54, 55, 56, 57, 58, 59, 60, 61, 62, 63, 64, 65, 66, 67, 68, 69, 70, 71, 72, 73, 74, 75, 76, 77, 78, 79, 80, 81, 82, 83, 84, 85, 86, 87, 88, 89, 90, 91, 92, 93, 94, 95]
def sgns2 : List Nat := [96, 97, 98, 99, 100, 101, 102, 103, 104, 105, 106, 107, 108, 109, 110, 111, 112, 113, 114, 115, 116, 117, 118, 119, 120, 121, 122, 123, 124, 125, 126]
def sp_l_signs : DSp := fun ds C Q _ => ds = [] ∧ Q (.str (sgns1 ++ sgns2)) C
def td_l_signs : DS :=
  (dSeq (dAsg (dC (.str [32, 33, 34, 35, 36, 38, 39, 40, 41, 42, 43, 44, 45, 46, 47, 48, 49, 50, 51, 52, 53, 54, 55, 56, 57, 58, 59, 60, 61, 62, 63, 64, 65, 66, 67, 68, 69, 70, 71, 72, 73, 74, 75, 76, 77, 78, 79, 80, 81, 82, 83, 84, 85, 86, 87, 88, 89, 90, 91, 92, 93, 94, 95])) (dName 0))
    (dRet (dAdd (dVar 0) (dC (.str [96, 97, 98, 99, 100, 101, 102, 103, 104, 105, 106, 107, 108, 109, 110, 111, 112, 113, 114, 115, 116, 117, 118, 119, 120, 121, 122, 123, 124, 125, 126])))))
theorem len_l_signs (ds : List D) (C : Cl) (Q : DQ) (E : DX) (h : sp_l_signs ds C Q E) : ds.length = 0 := by obtain ⟨rfl, _⟩ := h; rfl
theorem pure_l_signs (ds : List D) (C : Cl) (Q : DQ) (E : DX) (h : sp_l_signs ds C Q E) : td_l_signs (endsD Q) (startD ["_law_some"] ds) C := by
  obtain ⟨rfl, hq⟩ := h
  exact ⟨_, rfl, _, rfl, szl (by simp), _, _, .same, hq⟩
theorem mem_signs {l : List Nat} {d : D} (h : d ∈ signs l) : ∃ c, d = .str [c] ∧ c ∈ l := by
  unfold signs at h
  obtain ⟨c, hc, rfl⟩ := List.mem_map.mp h
  exact ⟨c, rfl, hc⟩
/-- signs that may stand in a text -/
def okSign (c : Nat) : Bool := decide (32 ≤ c ∧ c ≤ 126) && decide (c ≠ 37)
theorem all_join {p : Nat → Bool} : ∀ {ls : List (List Nat)}, (∀ l ∈ ls, l.all p = true) → (TL.joinL [] ls).all p = true
  | [], _ => rfl
  | [x], h => h x (by simp)
  | x :: y :: r, h => by
    have := all_join (p := p) (ls := y :: r) fun z hz => h z (by simp [hz])
    show (x ++ ([] ++ TL.joinL [] (y :: r))).all p = true
    rw [List.nil_append, List.all_append, h x (by simp), this]
    rfl
theorem dig_ok {l : List Nat} (h : digs l = true) : l.all okSign = true := by
  unfold digs at h
  rw [Bool.and_eq_true] at h
  rw [List.all_eq_true] at h ⊢
  intro c hc
  have := h.2 c hc
  unfold isDig digits10 at this
  have this := of_decide_eq_true this
  simp only [List.mem_cons, List.not_mem_nil, or_false] at this
  rcases this with rfl | rfl | rfl | rfl | rfl | rfl | rfl | rfl | rfl | rfl <;> decide
/-- a text that does not end with eight q -/
def noQ (l : List Nat) : Bool := !(l.reverse.take 8 == List.replicate 8 113)
theorem noQ_of {l : List Nat} (h : l.reverse.take 8 ≠ List.replicate 8 113) : noQ l = true := by
  unfold noQ
  rw [beq_eq_false_iff_ne.mpr h]; rfl
theorem noQ_short {l : List Nat} (h : l.length < 8) : noQ l = true := noQ_of fun e => by
  have := congrArg List.length e
  rw [List.length_take, List.length_reverse, List.length_replicate] at this
  omega
theorem noQ_mem {l : List Nat} (h : 113 ∉ l) : noQ l = true := noQ_of fun e => by
  have : 113 ∈ l.reverse.take 8 := by rw [e]; decide
  exact h (List.mem_reverse.mp (List.mem_of_mem_take this))
theorem dig_noQ {l : List Nat} (h : digs l = true) : 113 ∉ l := fun hm => by
  unfold digs at h
  rw [Bool.and_eq_true] at h
  have := List.all_eq_true.mp h.2 _ hm
  exact absurd this (by decide)
/-- any text of at most thirty signs -/
def sp_l_text : DSp := fun ds C Q _ => ∃ b n, ds = [.ref b] ∧ BagAt C b n ∧ n < 500000000 ∧ ∀ l C', l.length ≤ 30 → l.all okSign = true → noQ l = true → Bagged C b C' (n + 20000) → Q (.str l) C'
def td_l_text : DS :=
  (dSeq (dAsg (dCall sp_l_take [] (dCons (dVar 0) (dCons (dC (.int 5)) dNil))) (dName 1))
    (dSeq (dIfS (dTest (dOp rEqD (dVar 1) (dC (.int 0)))) (dRet (dBM "str" rJoin (dC (.str [])) (dCons (dFz (dLc (diRng1 (dCons (dCall sp_l_take [] (dCons (dVar 0) (dCons (dC (.int 7)) dNil))) dNil)) (dName 2) dYes (dCall sp_l_of [] (dCons (dVar 0) (dCons (dCall sp_l_signs [] dNil) dNil))) [2])) dNil))) dNext)
    (dSeq (dIfS (dTest (dOp rEqD (dVar 1) (dC (.int 1)))) (dRet (dBM "str" rJoin (dC (.str [])) (dCons (dFz (dLc (diRng1 (dCons (dCall sp_l_take [] (dCons (dVar 0) (dCons (dC (.int 7)) dNil))) dNil)) (dName 2) dYes (dCall sp_l_of [] (dCons (dVar 0) (dCons (dC (.str [48, 48, 49, 57, 43, 45, 46, 32])) dNil))) [2])) dNil))) dNext)
    (dSeq (dIfS (dTest (dOp rEqD (dVar 1) (dC (.int 2)))) (dRet (dCall sp_l_of [] (dCons (dVar 0) (dCons (dLst (dCons (dC (.str [])) (dCons (dC (.str [78, 65])) (dCons (dC (.str [121, 101, 115])) (dCons (dC (.str [110, 111])) (dCons (dC (.str [120])) (dCons (dC (.str [116, 114, 117, 101])) (dCons (dC (.str [45])) (dCons (dC (.str [49])) (dCons (dC (.str [48])) (dCons (dC (.str [48, 48])) (dCons (dC (.str [48, 49])) (dCons (dC (.str [49, 46, 48])) (dCons (dC (.str [45, 48])) (dCons (dC (.str [43, 49])) dNil))))))))))))))) dNil)))) dNext)
    (dRet (dCall sp_l_number [] (dCons (dVar 0) (dCons (dC (.int 4)) dNil))))))))
theorem len_l_text (ds : List D) (C : Cl) (Q : DQ) (E : DX) (h : sp_l_text ds C Q E) : ds.length = 1 := by obtain ⟨_, _, rfl, _⟩ := h; rfl
theorem getWipe {ρ : DEnv} {i v : Nat} {d x : D} (h : ρ[i]? = some (some d)) (e : i ≠ v) : ((wipeD ρ [v]).set v (some x))[i]? = some (some d) := by
  show ((ρ.set v none).set v (some x))[i]? = _
  rw [List.getElem?_set_ne (Ne.symm e), List.getElem?_set_ne (Ne.symm e)]
  exact h
/-- [_law_of(bag, things) for turn in range(_law_take(bag, m))] -/
theorem lc_of {src : DE} {ρ : DEnv} {C : Cl} {b : Addr} {n ib iv : Nat} {m : Int} {items : List D} {sv : D} {Q : DQ} (h0 : ρ[ib]? = some (some (.ref b))) (hi : ib ≠ iv) (hb : BagAt C b n) (hn : n < 10000000000) (m0 : 0 < m) (m1 : m ≤ 1000)
    (hs : ∀ ρ' C' (N : DQ), N sv C' → src ρ' C' N) (hv : ∀ C', itemsOf C' sv = some items) (hr : sv ≠ .ref b) (he : items ≠ []) (hl : items.length ≤ 1000000)
    (hq : ∀ ys C', ys.length < m.toNat → (∀ y ∈ ys, y ∈ items) → Bagged C b C' (n + 1001) → Q (.lst ys) C') :
    dFz (dLc (diRng1 (dCons (dCall sp_l_take [] (dCons (dVar ib) (dCons (dC (.int m)) dNil))) dNil)) (dName iv) dYes (dCall sp_l_of [] (dCons (dVar ib) (dCons src dNil))) [iv]) ρ C Q := by
  refine ⟨_, h0, b, m, n, rfl, m0, by omega, hb, by omega, fun i C1 i0 i1 B1 => ?_⟩
  refine ⟨i, rfl, ⟨by omega, by omega⟩, ?_⟩
  refine lc_bag (k := 1) (fun y => y ∈ items) B1.at (by rw [ranged_length]; exact szl (by omega)) (fun i' x C2 N hx hb2 _ hN => ?_) fun ys C2 hyl hY B2 => ?_
  · have hx := (ranged_get hx).1
    refine ⟨_, getWipe h0 hi, hs _ _ _ ⟨b, sv, items, _, rfl, hv _, hr, he, hl, hb2, by omega, fun d C3 hd B3 => hN d C3 hd (B3.mono (by omega))⟩⟩
  · rw [ranged_length] at hyl B2
    exact hq ys C2 (by omega) hY ((B1.trans B2).mono (by omega))
theorem pure_l_text (ds : List D) (C : Cl) (Q : DQ) (E : DX) (h : sp_l_text ds C Q E) : td_l_text (endsD Q) (startD ["_law_bag_here", "_law_road", "_law_turn"] ds) C := by
  obtain ⟨b, n, rfl, hb, hn, hq⟩ := h
  refine ⟨_, rfl, b, 5, n, rfl, by decide, by decide, hb, by omega, fun i C1 i0 i1 B1 => ?_⟩
  have fin : ∀ (zs : List Nat), zs.all okSign = true → ∀ ys C2, (ys : List D).length < 7 → (∀ y ∈ ys, y ∈ signs zs) → Bagged C1 b C2 (n + 1 + 1001) → (fun x C2 => dNil [some (.ref b), some (.int i), none] C2 fun xs C3 => rJoin (.str []) (x :: xs) C3 (endsD Q).rt) (.lst ys) C2 := by
    intro zs zok ys C2 hyl hY B2
    obtain ⟨ls, rfl, hs⟩ := txts_of (P := fun l => l.length ≤ 1 ∧ l.all okSign = true) fun y hy => by
      obtain ⟨c, rfl, hc⟩ := mem_signs (hY y hy)
      exact ⟨[c], rfl, by simp, by rw [List.all_cons, List.all_nil, Bool.and_true]; exact List.all_eq_true.mp zok c hc⟩
    rw [txts_length] at hyl
    have h1 := sum_le fun l hl => (hs l hl).1
    have h3 := all_join fun l hl => (hs l hl).2
    have h2 := join_le ls
    exact ⟨[], _, ls, rfl, rfl, rfl, by simp only [List.length_nil, Nat.mul_zero]; omega, _, _, .same, hq _ _ (by omega) h3 (noQ_short (by omega)) ((B1.trans B2).mono (by omega))⟩
  refine ⟨_, rfl, .inl ⟨_, rfl, _, rfl, ite_d (fun h => ?_) (fun h => ?_)⟩⟩
  · exact ⟨rfl, lc_of (items := signs (sgns1 ++ sgns2)) (sv := .str (sgns1 ++ sgns2)) rfl (by decide) B1.at (by omega) (by decide) (by decide) (fun ρ' C' N h => ⟨rfl, h⟩) (fun _ => rfl) nofun (by decide) (by decide) (fin _ (by decide))⟩
  refine ⟨_, rfl, .inl ⟨_, rfl, _, rfl, ite_d (fun h => ?_) (fun h => ?_)⟩⟩
  · exact ⟨rfl, lc_of (items := signs [48, 48, 49, 57, 43, 45, 46, 32]) (sv := .str [48, 48, 49, 57, 43, 45, 46, 32]) rfl (by decide) B1.at (by omega) (by decide) (by decide) (fun ρ' C' N h => h) (fun _ => rfl) nofun (by decide) (by decide) (fin _ (by decide))⟩
  refine ⟨_, rfl, .inl ⟨_, rfl, _, rfl, ite_d (fun h => ?_) (fun h => ?_)⟩⟩
  · refine ⟨_, rfl, szl (by simp), b, _, _, n + 1, rfl, rfl, nofun, by simp, by simp, B1.at, by omega, fun d C2 hm B2 => ?_⟩
    have : ∃ l, d = .str l ∧ (l.length ≤ 30 ∧ l.all okSign = true ∧ noQ l = true) := by
      have all : ([.str [], .str [78, 65], .str [121, 101, 115], .str [110, 111], .str [120], .str [116, 114, 117, 101], .str [45], .str [49], .str [48], .str [48, 48], .str [48, 49], .str [49, 46, 48], .str [45, 48], .str [43, 49]] : List D) = txts [[], [78, 65], [121, 101, 115], [110, 111], [120], [116, 114, 117, 101], [45], [49], [48], [48, 48], [48, 49], [49, 46, 48], [45, 48], [43, 49]] := rfl
      rw [all] at hm
      obtain ⟨l, hl, rfl⟩ := List.mem_map.mp hm
      refine ⟨l, rfl, ?_⟩
      clear hm all
      revert l
      decide
    obtain ⟨l, rfl, hl⟩ := this
    exact ⟨_, _, .same, hq _ _ hl.1 hl.2.1 hl.2.2 ((B1.trans B2).mono (by omega))⟩
  · refine ⟨_, rfl, b, 4, n + 1, rfl, by decide, by decide, B1.at, by omega, fun s w o C2 hs hw hwl ho B2 => ⟨_, _, .same, hq _ _ ?_ ?_ ?_ ((B1.trans B2).mono (by omega))⟩⟩
    rotate_left
    rotate_left
    · refine noQ_mem fun hm => ?_
      simp only [List.mem_append] at hm
      rcases hm with (hm | hm) | hm
      · rcases hs with rfl | rfl | rfl <;> simp at hm
      · exact dig_noQ hw hm
      · cases o with
        | none => simp [tailN] at hm
        | some p => simp only [tailN, List.mem_cons] at hm; rcases hm with e | e; (· cases e); exact dig_noQ (ho p rfl).1 e
    rotate_left
    · rw [List.all_append, List.all_append, dig_ok hw]
      have h4 : s.all okSign = true := by rcases hs with rfl | rfl | rfl <;> decide
      have h5 : (tailN o).all okSign = true := by
        cases o with
        | none => rfl
        | some p => show (46 :: p).all okSign = true; rw [List.all_cons, dig_ok (ho p rfl).1]; decide
      rw [h4, h5]; rfl
    have : (tailN o).length ≤ 5 := by
      cases o with
      | none => simp [tailN]
      | some p => have := (ho p rfl).2; simp only [tailN, List.length_cons]; omega
    have hsl : s.length ≤ 1 := by rcases hs with rfl | rfl | rfl <;> simp
    simp only [List.length_append]
    omega
end G
namespace GS
open PySem PySem.Spec PyProof.Rows
/-! ### set(texts): how many different ones -/
section
variable {prog : Program} {w : World} {A : Around} {R : Result → Shared → Prop} {I : Addr} {fp wr : List Addr} {G : Array GenState → Array GenState → Prop} {n : Nat} {P : Nat → Value → Prop} {St : Nat → Shared → Prop}
end
section
variable {prog : Program} {w : World} {A : Around} {E : Value → Shared → Prop} {s : Shared}
set_option maxHeartbeats 3200000 in
set_option maxHeartbeats 3200000 in
end
end GS
namespace G
open PySem PySem.Spec PyProof.Rows L2
/-! ### len(set(texts)) -/
end G
namespace G
open PySem PySem.Spec PyProof.Rows L2
/-! ### kinds: words, texts -/
def letters : List Nat := [97, 98, 99, 100, 101, 102, 103, 104, 105, 106, 107, 108, 109, 110, 111, 112, 113, 114, 115, 116, 117, 118, 119, 120, 121, 122]
def isLow (c : Nat) : Bool := decide (c ∈ letters)
def isWord (l : List Nat) : Bool := decide (1 ≤ l.length ∧ l.length ≤ 8) && l.all isLow
def isText (l : List Nat) : Bool := l.all okSign
/-- a thing of a built-in type, texts not too long -/
def Known (d : D) (C : Cl) : Prop := (∃ n, tyNm d C = some n) ∧ ∀ l, d = .str l → l.length ≤ 1000000
def onStr (f : List Nat → Bool) : D → Bool
  | .str l => f l
  | _ => false
theorem strSub {d : D} {C : Cl} {n : String} (h : tyNm d C = some n) : isSub n "str" = true ↔ ∃ l, d = .str l := by
  constructor
  · intro e
    cases d with
    | str l => exact ⟨l, rfl⟩
    | ref a =>
      unfold tyNm at h
      dsimp only at h
      split at h <;> cases h <;> exact absurd e (by decide)
    | _ => cases h <;> exact absurd e (by decide)
  · rintro ⟨l, rfl⟩
    cases h
    decide
theorem onStr_no {f : List Nat → Bool} {d : D} (h : ¬ ∃ l, d = .str l) : onStr f d = false := by
  cases d with
  | str l => exact absurd ⟨l, rfl⟩ h
  | _ => rfl
def sp_is_word : DSp := fun ds C Q _ => ∃ d, ds = [d] ∧ Known d C ∧ Q (.bl (onStr isWord d)) C
def td_is_word : DS :=
  (dSeq (dIfS (dOr (dNot (dTest (dCB (rIsi "str") (dCons (dVar 0) (dCons (dC (.ty "str")) dNil))))) (dNot (dTest (dChain rLeD rLeD (dC (.int 1)) (dCB rLen (dCons (dVar 0) dNil)) (dC (.int 8)))))) (dRet (dC (.bl false))) dNext)
    (dRet (dCB rAllL (dCons (dFz (dLc (diStr (dVar 0)) (dName 1) dYes (dOp rIn (dVar 1) (dC (.str [97, 98, 99, 100, 101, 102, 103, 104, 105, 106, 107, 108, 109, 110, 111, 112, 113, 114, 115, 116, 117, 118, 119, 120, 121, 122]))) [1])) dNil))))
theorem len_is_word (ds : List D) (C : Cl) (Q : DQ) (E : DX) (h : sp_is_word ds C Q E) : ds.length = 1 := by obtain ⟨_, rfl, _⟩ := h; rfl
local macro_rules | `(tactic| walk_at "d") => `(tactic| dsimp only [dSeq, dAsg, dVar, dC, dOp, dCB, dBM, dBM0, dCons, dNil, dTest, dIf, dAnd, dOr, dNot, dAndV, dOrV, dNotV, dRet, dIfS, dNext, dName, dTup, dLst, dLstC, dCall, dSl, dPart, dNoPart, dUn, dgTup, dgCons, dgNil, dgSub, dDrop, dPar])
theorem pure_is_word (ds : List D) (C : Cl) (Q : DQ) (E : DX) (h : sp_is_word ds C Q E) : td_is_word (endsD Q) (startD ["thing", "sign"] ds) C := by
  obtain ⟨d, rfl, ⟨⟨n, hn⟩, hl⟩, hq⟩ := h
  refine ⟨_, rfl, _, _, rfl, hn, _, rfl, ?_⟩
  by_cases hs : ∃ l, d = .str l
  · have e := (strSub hn).mpr hs
    obtain ⟨l, rfl⟩ := hs
    rw [e]
    have hl := hl l rfl
    refine iteF ⟨_, rfl, _, _, rfl, rfl, szl (by omega), _, rfl, trivial, _, rfl, ite_d (fun h1 => ?_) (fun h1 => ?_)⟩
    · refine ⟨_, rfl, trivial, _, rfl, ite_nd (fun h2 => ?_) (fun h2 => ?_)⟩
      · refine ⟨_, _, .same, ?_⟩
        have e2 : onStr isWord (.str l) = false := by
          show isWord l = false
          unfold isWord
          rw [decide_eq_false (fun z => h2 (by omega))]; rfl
        rw [← e2]; exact hq
      · walk_at "d"
        refine lc_signs (l := l) isLow (fun R h => ⟨_, rfl, _, rfl, h⟩) (szl (by omega)) (fun c C' N hc s hN => ?_) ?_
        · exact ⟨_, rfl, .inl ⟨c, _, rfl, rfl, hN⟩⟩
        · refine ⟨_, _, rfl, rfl, _, _, .same, ?_⟩
          rw [all_map]
          have e2 : onStr isWord (.str l) = l.all isLow := by
            show isWord l = _
            unfold isWord
            rw [decide_eq_true (show 1 ≤ l.length ∧ l.length ≤ 8 by omega)]; rfl
          rw [← e2]; exact hq
    · refine ⟨_, rfl, iteT ⟨_, _, .same, ?_⟩⟩
      have e2 : onStr isWord (.str l) = false := by
        show isWord l = false
        unfold isWord
        rw [decide_eq_false (fun z => h1 (by omega))]; rfl
      rw [← e2]; exact hq
  · have e : isSub n "str" = false := by
      cases e : isSub n "str" with
      | false => rfl
      | true => exact absurd ((strSub hn).mp e) hs
    rw [e]
    refine iteT ⟨_, _, .same, ?_⟩
    rw [onStr_no hs] at hq
    exact hq
/-- texts in a tuple -/
def areTexts (ls : List (List Nat)) (m : Nat) : Bool := decide (1 ≤ ls.length ∧ ls.length ≤ m) && (ls.all isText && decide ls.Nodup)
end G
namespace G
open PySem PySem.Spec PyProof.Rows L2
/-! ### kinds -/
structure KindR where
  name : List Nat
  fam : List Nat
  marks : List (List Nat) := []
  yes : List (List Nat) := []
  no : List (List Nat) := []
  digits : Option Nat := none
  point : Bool := false
  signs : List Nat := [45]
  zeros : Bool := true
  keep : Option Nat := none
  shown : Nat := 0
def optN : Option Nat → D
  | none => .non
  | some n => .int n
abbrev famMissing : List Nat := [109, 105, 115, 115, 105, 110, 103]
abbrev famTruth : List Nat := [116, 114, 117, 116, 104]
abbrev famNumber : List Nat := [110, 117, 109, 98, 101, 114]
abbrev famText : List Nat := [116, 101, 120, 116]
def kindFs (k : KindR) : List (Str × D) := [("name", .str k.name), ("family", .str k.fam), ("marks", .tup (txts k.marks)), ("yes", .tup (txts k.yes)), ("no", .tup (txts k.no)), ("digits", optN k.digits), ("point", .bl k.point), ("signs", .str k.signs), ("zeros", .bl k.zeros), ("keep", optN k.keep), ("shown", .int k.shown)]
def kindD (k : KindR) : D := .ins "Kind" (kindFs k)
section
variable (k : KindR)
end
end G
namespace G
open PySem PySem.Spec PyProof.Rows L2
/-! ### kinds made -/
theorem known_str {l : List Nat} {C : Cl} (h : l.length ≤ 1000000) : Known (.str l) C := ⟨⟨"str", rfl⟩, fun l' e => by cases e; exact h⟩
theorem areTexts_len {ls : List (List Nat)} {m : Nat} (h : areTexts ls m = true) : 1 ≤ ls.length ∧ ls.length ≤ m ∧ ls.all isText = true ∧ ls.Nodup := by
  unfold areTexts at h
  rw [Bool.and_eq_true, Bool.and_eq_true, decide_eq_true_iff, decide_eq_true_iff] at h
  exact ⟨h.1.1, h.1.2, h.2.1, h.2.2⟩
/-- l in texts -/
theorem any_txts (ps : List (List Nat)) (l : List Nat) : ((txts ps).any fun e => eqFl e (.str l)) = decide (l ∈ ps) := by
  rw [Bool.eq_iff_iff, List.any_eq_true, decide_eq_true_iff]
  unfold txts
  constructor
  · rintro ⟨x, hx, hy⟩
    obtain ⟨t, ht, rfl⟩ := List.mem_map.mp hx
    have : (t == l) = true := hy
    rw [beq_iff_eq] at this
    rw [← this]; exact ht
  · intro h
    exact ⟨.str l, List.mem_map.mpr ⟨l, h, rfl⟩, beq_self_eq_true l⟩
theorem in_txts {ps : List (List Nat)} {l : List Nat} {y : D} {C : Cl} {Q : DQ} (hy : seqOf C y = some (txts ps)) (hq : Q (.bl (decide (l ∈ ps))) C) : rIn (.str l) y C Q := by
  refine .inr (.inr ⟨_, hy, rfl, flat_txts ps, ?_⟩)
  rw [any_txts]
  exact hq
local macro_rules | `(tactic| walk_at "d") => `(tactic| dsimp only [dSeq, dAsg, dVar, dC, dOp, dCB, dBM, dBM0, dCons, dNil, dTest, dIf, dAnd, dOr, dNot, dAndV, dOrV, dNotV, dRet, dIfS, dNext, dName, dTup, dLst, dLstC, dCall, dSl, dPart, dNoPart, dUn, dgTup, dgCons, dgNil, dgSub, dDrop, dPar])
/-! ### what a kind takes -/
instance (o : Option Nat) (n : Nat) : Decidable (∃ d, o = some d ∧ d < n) :=
  match o with
  | none => .isFalse fun ⟨_, h, _⟩ => nomatch h
  | some m => if h : m < n then .isTrue ⟨m, rfl, h⟩ else .isFalse fun ⟨_, e, z⟩ => by cases e; exact h z
def takesN (k : KindR) (l : List Nat) : Bool :=
  match splitN l with
  | none => false
  | some (s, w, o) =>
    if subIn s k.signs = false ∨ (o ≠ none ∧ k.point = false) then false
    else if (∃ d, k.digits = some d ∧ d < w.length) then false
    else k.zeros || (decide (w.length = 1) || decide (w.head? ≠ some 48))
end G
namespace G
open PySem PySem.Spec PyProof.Rows L2
/-- which texts a kind takes -/
def takes (k : KindR) (l : List Nat) : Bool :=
  if k.fam = famMissing then decide (l ∈ k.marks)
  else if k.fam = famTruth then decide (l ∈ k.yes) || decide (l ∈ k.no)
  else if k.fam = famText then isText l
  else takesN k l
end G
namespace G
open PySem PySem.Spec PyProof.Rows L2
/-! ### a text nearly another -/
/-- the same, told of the whole comprehension -/
theorem lc_bagW {wi : DI} {g : DG} {te : DE} {ρ : DEnv} {vs : List Nat} {C1 : Cl} {b : Addr} {n k : Nat} {xs : List D} {Q : DQ} (Y : D → Prop) (hw : ∀ R : List D → Cl → Prop, R xs C1 → wi ρ C1 R) (hb : BagAt C1 b n) (hl : xs.length ≤ sizeLine)
    (h : ∀ (i : Nat) (x : D) (C : Cl) (N : DQ), xs[i]? = some x → BagAt C b (n + i * k) → (∀ a, C1 a ≠ none → a ≠ b → C a = C1 a) → (∀ y C', Y y → Bagged C b C' (n + (i + 1) * k) → N y C') → g x (wipeD ρ vs) C fun ρ2 C2 => te ρ2 C2 N)
    (hq : ∀ ys C', ys.length = xs.length → (∀ y ∈ ys, Y y) → Bagged C1 b C' (n + xs.length * k) → Q (.lst ys) C') : dFz (dLc wi g dYes te vs) ρ C1 Q := hw _ (lc_bag Y hb hl h hq)
end G
namespace G
open PySem PySem.Spec PyProof.Rows L2
/-! ### drawn words -/
def keys7 : List Nat := [99, 103, 104, 105, 106, 108, 110]
/-- the word's sign that tells its place -/
def keyOf (side : Int) (l : List Nat) : Option Nat := if side = 0 then l.head? else l.getLast?
def sp_l_word : DSp := fun ds C Q _ => ∃ b k n, ∃ side : Int, ds = [.ref b, .int (k : Nat), .int side] ∧ k < 7 ∧ BagAt C b n ∧ n < 1000000000 ∧ ∀ l C', isWord l = true → keyOf side l = some (keys7.getD k 0) → Bagged C b C' (n + 1001) → Q (.str l) C'
def td_l_word : DS :=
  (dSeq (dAsg (dC (.str [97, 98, 99, 100, 101, 102, 103, 104, 105, 106, 107, 108, 109, 110, 111, 112, 113, 114, 115, 116, 117, 118, 119, 120, 121, 122])) (dName 3))
    (dSeq (dAsg (dBM "str" rJoin (dC (.str [])) (dCons (dFz (dLc (diRng1 (dCons (dCall sp_l_take [] (dCons (dVar 0) (dCons (dC (.int 8)) dNil))) dNil)) (dName 5) dYes (dCall sp_l_of [] (dCons (dVar 0) (dCons (dVar 3) dNil))) [5])) dNil)) (dName 4))
    (dRet (dIf (dTest (dOp rEqD (dVar 2) (dC (.int 0)))) (dAdd (dOp rIx (dC (.str [99, 103, 104, 105, 106, 108, 110])) (dVar 1)) (dVar 4)) (dAdd (dVar 4) (dOp rIx (dC (.str [99, 103, 104, 105, 106, 108, 110])) (dVar 1)))))))
theorem len_l_word (ds : List D) (C : Cl) (Q : DQ) (E : DX) (h : sp_l_word ds C Q E) : ds.length = 3 := by obtain ⟨_, _, _, _, rfl, _⟩ := h; rfl
/-- the same list comprehension where the things are in a name -/
theorem lc_of' {ρ : DEnv} {C : Cl} {b : Addr} {n ib iv is : Nat} {m : Int} {items : List D} {sv : D} {Q : DQ} (h0 : ρ[ib]? = some (some (.ref b))) (hi : ib ≠ iv) (hs : ρ[is]? = some (some sv)) (hi2 : is ≠ iv) (hb : BagAt C b n) (hn : n < 10000000000) (m0 : 0 < m) (m1 : m ≤ 1000)
    (hv : ∀ C', itemsOf C' sv = some items) (hr : sv ≠ .ref b) (he : items ≠ []) (hl : items.length ≤ 1000000)
    (hq : ∀ ys C', ys.length < m.toNat → (∀ y ∈ ys, y ∈ items) → Bagged C b C' (n + 1001) → Q (.lst ys) C') :
    dFz (dLc (diRng1 (dCons (dCall sp_l_take [] (dCons (dVar ib) (dCons (dC (.int m)) dNil))) dNil)) (dName iv) dYes (dCall sp_l_of [] (dCons (dVar ib) (dCons (dVar is) dNil))) [iv]) ρ C Q := by
  refine ⟨_, h0, b, m, n, rfl, m0, by omega, hb, by omega, fun i C1 i0 i1 B1 => ?_⟩
  refine ⟨i, rfl, ⟨by omega, by omega⟩, ?_⟩
  refine lc_bag (k := 1) (fun y => y ∈ items) B1.at (by rw [ranged_length]; exact szl (by omega)) (fun i' x C2 N hx hb2 _ hN => ?_) fun ys C2 hyl hY B2 => ?_
  · have hx := (ranged_get hx).1
    refine ⟨_, getWipe h0 hi, _, getWipe hs hi2, b, sv, items, _, rfl, hv _, hr, he, hl, hb2, by omega, fun d C3 hd B3 => hN d C3 hd (B3.mono (by omega))⟩
  · rw [ranged_length] at hyl B2
    exact hq ys C2 (by omega) hY ((B1.trans B2).mono (by omega))
theorem pure_l_word (ds : List D) (C : Cl) (Q : DQ) (E : DX) (h : sp_l_word ds C Q E) : td_l_word (endsD Q) (startD ["_law_bag_here", "_law_at", "_law_most", "_law_letters", "_law_some", "_law_turn"] ds) C := by
  obtain ⟨b, k, n, side, rfl, hk, hb, hn, hq⟩ := h
  refine ⟨rfl, lc_of' (ρ := [some (.ref b), some (.int k), some (.int side), some (.str letters), none, none]) (items := signs letters) (sv := .str letters) rfl (by decide) rfl (by decide) hb (by omega) (by decide) (by decide) (fun _ => rfl) nofun (by decide) (by decide) fun ys C1 hyl hY B1 => ?_⟩
  obtain ⟨ls, rfl, hs⟩ := txts_of (P := fun l => l.length ≤ 1 ∧ l.all isLow = true) fun y hy => by
    obtain ⟨c, rfl, hc⟩ := mem_signs (hY y hy)
    exact ⟨[c], rfl, by simp, by rw [List.all_cons, List.all_nil, Bool.and_true]; exact decide_eq_true hc⟩
  rw [txts_length] at hyl
  have h1 := sum_le fun l hl => (hs l hl).1
  have h3 := all_join fun l hl => (hs l hl).2
  have h2 := join_le ls
  have hyl : ls.length < 8 := hyl
  refine ⟨[], _, ls, rfl, rfl, rfl, by simp only [List.length_nil, Nat.mul_zero]; omega, ?_⟩
  generalize TL.joinL [] ls = t at *
  have key : atI keys7 (k : Int) = some (keys7.getD k 0) ∧ isLow (keys7.getD k 0) = true := by
    have : k = 0 ∨ k = 1 ∨ k = 2 ∨ k = 3 ∨ k = 4 ∨ k = 5 ∨ k = 6 := by omega
    rcases this with rfl | rfl | rfl | rfl | rfl | rfl | rfl <;> exact ⟨rfl, rfl⟩
  generalize keys7.getD k 0 = c at *
  refine ⟨_, rfl, .inl ⟨_, rfl, _, rfl, ite_d (fun z => ?_) (fun z => ?_)⟩⟩
  · refine ⟨_, rfl, _, rfl, .inl ⟨keys7, c, rfl, szl (by decide), key.1, _, rfl, _, rfl, szl (by simp only [List.length_append, List.length_cons, List.length_nil]; omega), _, _, .same, hq _ _ ?_ ?_ (B1.mono (by omega))⟩⟩
    · unfold isWord
      rw [List.all_append, h3, List.all_cons, List.all_nil, key.2, decide_eq_true (show 1 ≤ ([c] ++ t).length ∧ ([c] ++ t).length ≤ 8 by simp only [List.length_append, List.length_cons, List.length_nil]; omega)]
      rfl
    · unfold keyOf
      rw [if_pos z]
      rfl
  · refine ⟨_, rfl, _, rfl, _, rfl, .inl ⟨keys7, c, rfl, szl (by decide), key.1, _, rfl, szl (by simp only [List.length_append, List.length_cons, List.length_nil]; omega), _, _, .same, hq _ _ ?_ ?_ (B1.mono (by omega))⟩⟩
    · unfold isWord
      rw [List.all_append, h3, List.all_cons, List.all_nil, key.2, decide_eq_true (show 1 ≤ (t ++ [c]).length ∧ (t ++ [c]).length ≤ 8 by simp only [List.length_append, List.length_cons, List.length_nil]; omega)]
      rfl
    · unfold keyOf
      rw [if_neg z]
      simp
/-- a word has one of the seven letters that tell words apart -/
def keyed (w : List Nat) : Prop := ∃ c ∈ keys7, c ∈ w
theorem keyed_of {side : Int} {w : List Nat} {i : Nat} (hi : i < 7) (h : keyOf side w = some (keys7.getD i 0)) : keyed w := by
  refine ⟨keys7.getD i 0, ?_, ?_⟩
  · rw [List.getD_eq_getElem?_getD, List.getElem?_eq_getElem (show i < keys7.length from hi)]
    exact List.getElem_mem _
  · unfold keyOf at h
    split at h
    · exact List.mem_of_mem_head? h
    · exact List.mem_of_getLast? h
theorem keys7_inj {i j : Nat} (hi : i < 7) (hj : j < 7) (h : keys7.getD i 0 = keys7.getD j 0) : i = j := by
  have a : i = 0 ∨ i = 1 ∨ i = 2 ∨ i = 3 ∨ i = 4 ∨ i = 5 ∨ i = 6 := by omega
  have b : j = 0 ∨ j = 1 ∨ j = 2 ∨ j = 3 ∨ j = 4 ∨ j = 5 ∨ j = 6 := by omega
  rcases a with rfl | rfl | rfl | rfl | rfl | rfl | rfl <;> rcases b with rfl | rfl | rfl | rfl | rfl | rfl | rfl <;> first | rfl | exact absurd h (by decide)
/-- no word is another one with a q behind -/
def NoQs (ws : List (List Nat)) : Prop := ∀ v ∈ ws, ∀ w ∈ ws, w ≠ v ++ [113]
theorem noQs_of {side : Int} {ls : List (List Nat)} (hl : ls.length ≤ 7) (h : ∀ i l, ls[i]? = some l → keyOf side l = some (keys7.getD i 0)) : NoQs ls := by
  intro v hv w hw e
  obtain ⟨i, hi⟩ := List.mem_iff_getElem?.mp hv
  obtain ⟨j, hj⟩ := List.mem_iff_getElem?.mp hw
  have il := (List.getElem?_eq_some_iff.mp hi).1
  have jl := (List.getElem?_eq_some_iff.mp hj).1
  have a := h i v hi
  have b := h j w hj
  rw [e] at b
  unfold keyOf at a b
  by_cases z : side = 0
  · rw [if_pos z] at a b
    cases v with
    | nil => cases a
    | cons c r =>
      rw [List.cons_append, List.head?_cons] at b
      rw [List.head?_cons] at a
      have := keys7_inj (by omega) (by omega) (Option.some.inj (a.symm.trans b))
      subst this
      rw [hi] at hj
      have := congrArg List.length ((Option.some.inj hj).trans e)
      rw [List.length_append, List.length_singleton] at this
      omega
  · rw [if_neg z, List.getLast?_append] at b
    have e2 : (113 : Nat) = keys7.getD j 0 := by simpa using b
    have c : j = 0 ∨ j = 1 ∨ j = 2 ∨ j = 3 ∨ j = 4 ∨ j = 5 ∨ j = 6 := by omega
    rcases c with rfl | rfl | rfl | rfl | rfl | rfl | rfl <;> exact absurd e2 (by decide)
def sp_l_words : DSp := fun ds C Q _ => ∃ b m n, ds = [.ref b, .int (m : Nat)] ∧ m ≤ 7 ∧ BagAt C b n ∧ n < 100000000 ∧ ∀ ws C', ws.length = m → (∀ w ∈ ws, isWord w = true) → (ws.Nodup ∧ (∀ w ∈ ws, keyed w) ∧ NoQs ws) → Bagged C b C' (n + 10000) → Q (.lst (txts ws)) C'
def td_l_words : DS :=
  (dSeq (dAsg (dCall sp_l_take [] (dCons (dVar 0) (dCons (dC (.int 2)) dNil))) (dName 2))
    (dRet (dFz (dLc (diRng1 (dCons (dVar 1) dNil)) (dName 3) dYes (dCall sp_l_word [] (dCons (dVar 0) (dCons (dVar 3) (dCons (dVar 2) dNil)))) [3]))))
theorem len_l_words (ds : List D) (C : Cl) (Q : DQ) (E : DX) (h : sp_l_words ds C Q E) : ds.length = 2 := by obtain ⟨_, _, _, rfl, _⟩ := h; rfl
/-- a list of drawn things, each told by its place -/
theorem lc_bagI {g : DG} {te : DE} {ρ : DEnv} {vs : List Nat} {C1 : Cl} {b : Addr} {n k : Nat} {xs : List D} {Q : DQ} (Y : Nat → D → Prop) (hb : BagAt C1 b n) (hl : xs.length ≤ sizeLine)
    (h : ∀ i x C (N : DQ), xs[i]? = some x → BagAt C b (n + i * k) → (∀ a, C1 a ≠ none → a ≠ b → C a = C1 a) → (∀ y C', Y i y → Bagged C b C' (n + (i + 1) * k) → N y C') → g x (wipeD ρ vs) C fun ρ2 C2 => te ρ2 C2 N)
    (hq : ∀ ys C', ys.length = xs.length → (∀ i y, ys[i]? = some y → Y i y) → Bagged C1 b C' (n + xs.length * k) → Q (.lst ys) C') :
    ∀ p, C1 p = none → ∃ Pv : Nat → Cl → Prop, Pv 0 (updC C1 p (.lst [])) ∧
      (∀ i x C, xs[i]? = some x → Pv i C → g x (wipeD ρ vs) C fun ρ2 C2 => dYes ρ2 C2 fun b C3 =>
        if b = true then te ρ2 C3 fun y C4 => ∃ acc, C4 p = some (.lst acc) ∧ acc.length < sizeLine ∧ Pv (i + 1) (updC C4 p (.lst (acc ++ [y]))) else Pv (i + 1) C3) ∧
      ∀ C, Pv xs.length C → ∃ a ds, D.ref p = .ref a ∧ C a = some (.lst ds) ∧ Q (.lst ds) (delC C a) := by
  intro p hp
  refine ⟨fun i C => ∃ ys C', C = updC C' p (.lst ys) ∧ ys.length = i ∧ (∀ j y, ys[j]? = some y → Y j y) ∧ Bagged C1 b C' (n + i * k), ⟨[], C1, rfl, rfl, nofun, by rw [Nat.zero_mul]; exact hb.self⟩, ?_, ?_⟩
  · rintro i x C hx ⟨ys, C', rfl, hyl, hY, B⟩
    have bp := hb.ne hp
    have i1 : i < xs.length := (List.getElem?_eq_some_iff.mp hx).1
    refine h i x _ _ hx (B.at.upd bp) (fun a ha hab => ?_) fun y C2 hy B2 => ?_
    · have : a ≠ p := by rintro rfl; exact ha hp
      rw [updC_ne this]
      exact B.ne hab
    · obtain ⟨u1, u2, u3, rfl, G2⟩ := B2
      obtain ⟨v1, v2, v3, rfl, G1⟩ := B
      refine ⟨ys, by rw [updC_ne (Ne.symm bp), updC_same], by omega, ys ++ [y], updC C1 b (bagC u1 u2 u3), ?_, by rw [List.length_append, hyl, List.length_singleton], ?_, ⟨u1, u2, u3, rfl, G2⟩⟩
      · rw [updC_comm (C := updC C1 b (bagC v1 v2 v3)) (Ne.symm bp), updC_updC, updC_updC]
      · intro j z hz
        by_cases e : j < ys.length
        · rw [List.getElem?_append_left e] at hz; exact hY j z hz
        · rw [List.getElem?_append_right (by omega)] at hz
          have : j - ys.length = 0 := by
            have := (List.getElem?_eq_some_iff.mp hz).1
            simp at this
            omega
          rw [this] at hz
          cases hz
          rw [show j = i by omega]
          exact hy
  · rintro C ⟨ys, C', rfl, hyl, hY, B⟩
    refine ⟨p, ys, rfl, updC_same, ?_⟩
    have bp := hb.ne hp
    rw [delC_updC (by rw [B.ne (Ne.symm bp), hp])]
    exact hq ys C' hyl hY B
theorem txts_ofI {P : Nat → List Nat → Prop} {ys : List D} (h : ∀ i y, ys[i]? = some y → ∃ l, y = .str l ∧ P i l) : ∃ ls : List (List Nat), ys = txts ls ∧ ∀ i l, ls[i]? = some l → P i l := by
  induction ys generalizing P with
  | nil => exact ⟨[], rfl, nofun⟩
  | cons y ys ih =>
    obtain ⟨l, rfl, hl⟩ := h 0 y rfl
    obtain ⟨ls, rfl, hs⟩ := ih (P := fun i l => P (i + 1) l) fun i z hz => h (i + 1) z (by simpa using hz)
    refine ⟨l :: ls, rfl, fun i z hz => ?_⟩
    cases i with
    | zero => cases hz; exact hl
    | succ i => exact hs i z (by simpa using hz)
theorem pure_l_words (ds : List D) (C : Cl) (Q : DQ) (E : DX) (h : sp_l_words ds C Q E) : td_l_words (endsD Q) (startD ["_law_bag_here", "_law_many", "_law_side", "_law_at"] ds) C := by
  obtain ⟨b, m, n, rfl, hm, hb, hn, hq⟩ := h
  refine ⟨_, rfl, b, 2, n, rfl, by decide, by decide, hb, by omega, fun side C1 i0 i1 B1 => ?_⟩
  refine ⟨_, rfl, (m : Int), rfl, ⟨by omega, by omega⟩, ?_⟩
  refine lc_bagI (k := 1001) (fun i y => ∃ l, y = .str l ∧ isWord l = true ∧ keyOf side l = some (keys7.getD i 0)) B1.at (by rw [ranged_length]; exact szl (by omega)) (fun i x C2 N hx hb2 _ hN => ?_) fun ys C2 hyl hY B2 => ?_
  · obtain ⟨hi, rfl⟩ := ranged_get hx
    rw [show (0 : Int) + (i : Int) = (i : Int) by omega]
    have hi : i < m := by omega
    exact ⟨_, rfl, _, rfl, _, rfl, b, i, _, side, rfl, by omega, hb2, by omega, fun l C3 h1 h2 B3 => hN _ C3 ⟨l, rfl, h1, h2⟩ (B3.mono (by omega))⟩
  · rw [ranged_length] at hyl B2
    obtain ⟨ls, rfl, hs⟩ := txts_ofI hY
    rw [txts_length] at hyl
    have hyl : ls.length = m := by omega
    refine ⟨_, _, .same, hq ls C2 hyl (fun w hw => ?_) ⟨?_, fun w hw => ?_, noQs_of (by omega) fun i l hi => (hs i l hi).2⟩ ((B1.trans B2).mono (by omega))⟩
    · obtain ⟨i, hi⟩ := List.mem_iff_getElem?.mp hw
      exact (hs i w hi).1
    rotate_left
    · obtain ⟨i, hi⟩ := List.mem_iff_getElem?.mp hw
      have := (List.getElem?_eq_some_iff.mp hi).1
      exact keyed_of (by omega) (hs i w hi).2
    · unfold List.Nodup
      rw [List.pairwise_iff_getElem]
      intro i j hi hj hij e
      have a := (hs i _ (List.getElem?_eq_getElem hi)).2
      have b := (hs j _ (List.getElem?_eq_getElem hj)).2
      rw [e] at a
      rw [a] at b
      have := keys7_inj (by omega) (by omega) (Option.some.inj b)
      omega
end G
namespace G
open PySem PySem.Spec PyProof.Rows L2
/-! ### texts that differ -/
end G
namespace G
open PySem PySem.Spec PyProof.Rows L2
/-! ### number kinds -/
structure GoodNum (k : KindR) : Prop where
  fam : k.fam = famNumber
  marks : k.marks = []
  yes : k.yes = []
  no : k.no = []
  digits : ∀ n, k.digits = some n → 1 ≤ n ∧ n ≤ 20
  keep : ∀ n, k.keep = some n → 1 ≤ n ∧ n ≤ 20
  signs : k.signs = [] ∨ k.signs = [45] ∨ k.signs = [43, 45]
  shown : k.shown ≤ 3
  point : k.shown > 0 → k.point = true
/-! ### drawn options -/
def optD (k : KindR) : D := .tup [optN k.digits, .bl k.point, .str k.signs, .bl k.zeros, optN k.keep, .int k.shown]
end G
namespace G
open PySem PySem.Spec PyProof.Rows L2
/-! ### kinds made by what was drawn -/
/-- a kind whose attributes go with its family; its options are told by o -/
inductive GoodK (o : D) : KindR → Prop
  | missing {l : List Nat} {ms : List (List Nat)} : isWord l = true → areTexts ms 4 = true → (∀ t ∈ ms, t.length ≤ 1000000) → GoodK o { name := l, fam := famMissing, marks := ms }
  | truth {l : List Nat} {ys ns : List (List Nat)} : isWord l = true → areTexts ys 4 = true → areTexts ns 4 = true → (∀ n ∈ ns, n ∉ ys) → (∀ t ∈ ys, t.length ≤ 1000000) → (∀ t ∈ ns, t.length ≤ 1000000) → GoodK o { name := l, fam := famTruth, yes := ys, no := ns }
  | text {l : List Nat} : isWord l = true → GoodK o { name := l, fam := famText }
  | number {k : KindR} : isWord k.name = true → GoodNum k → o = optD k → GoodK o k
/-! ### the law's own way to what a kind takes -/
end G
namespace G
open PySem PySem.Spec PyProof.Rows L2
/-! ### values of kinds, written -/
inductive Va where
  | miss
  | truth (b : Bool)
  | num (s w p : List Nat)
  | text (l : List Nat)
end G
namespace G
open PySem PySem.Spec PyProof.Rows L2
/-! ### a kind, drawn -/
/-- the texts of a drawn kind: few, and none ends with eight q -/
def DrawnQ (k : KindR) : Prop := (∀ t ∈ k.marks ++ k.yes ++ k.no, noQ t = true) ∧ k.marks.length ≤ 3 ∧ k.yes.length ≤ 2 ∧ k.no.length ≤ 2
end G
namespace G
open PySem PySem.Spec PyProof.Rows L2
local macro_rules | `(tactic| sizeOf_list_dec) => `(tactic| exact szl (by first | omega | (simp only [List.length_append, List.length_cons, List.length_nil, List.length_map, List.length_reverse, List.length_singleton, txts_lenG]; omega) | (simp only [List.length_append, List.length_cons, List.length_nil, List.length_map, List.length_reverse, txts_lenG]; omega)))
local macro_rules | `(tactic| array_get_dec) => `(tactic| first | with_reducible refine v_seq ?_ | with_reducible refine v_next ?_ | with_reducible refine v_asg ?_ | (with_reducible refine v_isvar ?_; first | with_reducible refine v_var0 ?_ | with_reducible refine v_var1 ?_ | with_reducible refine v_var2 ?_ | with_reducible refine v_var3 ?_ | with_reducible refine v_var4 ?_ | with_reducible refine v_var5 ?_ | with_reducible refine v_var6 ?_ | with_reducible refine v_var7 ?_ | with_reducible refine v_var8 ?_ | with_reducible refine v_var9 ?_ | with_reducible refine v_var10 ?_ | with_reducible refine v_var11 ?_ | with_reducible refine v_var12 ?_ | with_reducible refine v_var13 ?_ | with_reducible refine v_var14 ?_ | with_reducible refine v_var15 ?_ | with_reducible refine v_var16 ?_ | with_reducible refine v_var17 ?_ | with_reducible refine v_var18 ?_ | with_reducible refine v_var19 ?_ | with_reducible refine v_var20 ?_ | with_reducible refine v_var21 ?_ | with_reducible refine v_var22 ?_ | with_reducible refine v_var23 ?_ | with_reducible refine v_var24 ?_ | with_reducible refine v_var25 ?_) | (with_reducible refine v_isname ?_; first | with_reducible refine v_name0 ?_ | with_reducible refine v_wname0 ?_ | with_reducible refine v_name1 ?_ | with_reducible refine v_wname1 ?_ | with_reducible refine v_name2 ?_ | with_reducible refine v_wname2 ?_ | with_reducible refine v_name3 ?_ | with_reducible refine v_wname3 ?_ | with_reducible refine v_name4 ?_ | with_reducible refine v_wname4 ?_ | with_reducible refine v_name5 ?_ | with_reducible refine v_wname5 ?_ | with_reducible refine v_name6 ?_ | with_reducible refine v_wname6 ?_ | with_reducible refine v_name7 ?_ | with_reducible refine v_wname7 ?_ | with_reducible refine v_name8 ?_ | with_reducible refine v_wname8 ?_ | with_reducible refine v_name9 ?_ | with_reducible refine v_wname9 ?_ | with_reducible refine v_name10 ?_ | with_reducible refine v_wname10 ?_ | with_reducible refine v_name11 ?_ | with_reducible refine v_wname11 ?_ | with_reducible refine v_name12 ?_ | with_reducible refine v_wname12 ?_ | with_reducible refine v_name13 ?_ | with_reducible refine v_wname13 ?_ | with_reducible refine v_name14 ?_ | with_reducible refine v_wname14 ?_ | with_reducible refine v_name15 ?_ | with_reducible refine v_wname15 ?_ | with_reducible refine v_name16 ?_ | with_reducible refine v_wname16 ?_ | with_reducible refine v_name17 ?_ | with_reducible refine v_wname17 ?_ | with_reducible refine v_name18 ?_ | with_reducible refine v_wname18 ?_ | with_reducible refine v_name19 ?_ | with_reducible refine v_wname19 ?_ | with_reducible refine v_name20 ?_ | with_reducible refine v_wname20 ?_ | with_reducible refine v_name21 ?_ | with_reducible refine v_wname21 ?_ | with_reducible refine v_name22 ?_ | with_reducible refine v_wname22 ?_ | with_reducible refine v_name23 ?_ | with_reducible refine v_wname23 ?_ | with_reducible refine v_name24 ?_ | with_reducible refine v_wname24 ?_ | with_reducible refine v_name25 ?_ | with_reducible refine v_wname25 ?_) | with_reducible refine v_drop ?_ | with_reducible refine v_ret ?_ | with_reducible refine v_ifS ?_ | with_reducible refine v_test ?_ | with_reducible refine v_bl ?_ | with_reducible refine v_const ?_ | with_reducible refine v_op ?_ | with_reducible refine v_cb ?_ | with_reducible refine v_nil ?_ | with_reducible refine v_cons ?_ | with_reducible refine v_fld ?_ | with_reducible refine v_meth ?_ | with_reducible refine v_cal ?_ | with_reducible refine v_call0 ?_ | with_reducible refine v_pos2 ?_ | with_reducible refine v_tt ?_ | with_reducible refine v_ff ?_ | with_reducible refine v_ntt ?_ | with_reducible refine v_nff ?_ | with_reducible refine v_dnot ?_ | with_reducible refine v_dand ?_ | with_reducible refine v_dor ?_ | with_reducible refine v_andV ?_ | with_reducible refine v_orV ?_ | with_reducible refine v_notV ?_ | with_reducible refine v_ifE ?_ | with_reducible refine v_bm0 ?_ | with_reducible refine v_eqS ?_ | with_reducible refine v_eqI ?_ | with_reducible refine v_neS ?_ | with_reducible refine v_neI ?_ | with_reducible refine v_eqB ?_ | with_reducible refine v_neB ?_ | with_reducible refine v_isNn ?_ | with_reducible refine v_isNs ?_ | with_reducible refine v_isNi ?_ | with_reducible refine v_isNt ?_ | with_reducible refine v_notNn ?_ | with_reducible refine v_notNs ?_ | with_reducible refine v_notNi ?_ | with_reducible refine v_notNt ?_ | with_reducible refine v_isN ?_ | with_reducible refine v_notN ?_ | with_reducible refine v_lt ?_ | with_reducible refine v_le ?_ | with_reducible refine v_gt ?_ | with_reducible refine v_ge ?_ | with_reducible refine v_addI ?_ | with_reducible refine v_subI ?_ | with_reducible refine v_lenT ?_ | with_reducible refine v_lenL ?_ | with_reducible refine v_chain ?_ | with_reducible refine v_un ?_ | with_reducible refine v_tup ?_ | with_reducible refine v_lst ?_ | with_reducible refine v_lstC ?_ | with_reducible refine v_gsub ?_ | with_reducible refine v_rng1 ?_ | with_reducible refine v_rng2 ?_ | with_reducible refine v_slice ?_ | with_reducible refine v_nopart ?_ | with_reducible refine v_part ?_ | with_reducible refine v_partI ?_ | with_reducible refine v_slT ?_ | with_reducible refine v_slL ?_ | with_reducible refine v_rev ?_ | with_reducible refine v_revO ?_ | with_reducible refine v_enumS ?_ | with_reducible refine v_enumL ?_ | with_reducible refine v_enumT ?_ | with_reducible refine v_zipS ?_ | with_reducible refine v_revL ?_ | with_reducible refine v_revT ?_ | with_reducible refine v_putT ?_ | with_reducible refine v_putK ?_ | with_reducible refine v_inT ?_ | with_reducible refine v_getT ?_ | with_reducible refine v_get2T ?_ | with_reducible refine v_make ?_ | with_reducible refine v_fldSet ?_ | with_reducible refine v_forL ?_ | with_reducible refine v_forT ?_ | with_reducible refine v_forS ?_ | with_reducible refine v_lstO ?_ | with_reducible refine v_rolO ?_ | with_reducible refine v_tupO ?_ | with_reducible refine v_strO ?_ | with_reducible refine v_listT ?_ | with_reducible refine v_listL ?_ | with_reducible refine v_tupleL ?_ | with_reducible refine v_tupleT ?_ | with_reducible refine v_isiS ?_ | with_reducible refine v_isiT ?_ | with_reducible refine v_isiL ?_ | with_reducible refine v_allM ?_ | with_reducible refine v_anyM ?_ | with_reducible refine v_eqNS ?_ | with_reducible refine v_neNS ?_ | with_reducible refine v_gcons ?_ | with_reducible refine v_gnil ?_ | with_reducible refine v_par2 ?_ | with_reducible refine v_par33 ?_ | with_reducible refine v_retN ?_ | with_reducible refine v_sameS ?_ | with_reducible refine v_sameB ?_ | with_reducible refine v_sameI ?_ | with_reducible refine v_sameN ?_ | with_reducible refine v_sameT ?_ | with_reducible refine v_sameL ?_ | with_reducible refine v_endN ?_ | with_reducible refine v_bm ?_ | with_reducible refine v_tystr ?_ | with_reducible refine v_break ?_ | with_reducible refine v_cont ?_ | ((with_reducible refine v_slS ?_ ?_); sizeOf_list_dec) | ((with_reducible refine v_lenS ?_ ?_); sizeOf_list_dec) | ((with_reducible refine v_addS ?_ ?_); sizeOf_list_dec) | ((with_reducible refine v_addT ?_ ?_); sizeOf_list_dec) | ((with_reducible refine v_addL ?_ ?_); sizeOf_list_dec) | (with_reducible refine v_par _ _ ?_) | (with_reducible refine v_par3 _ _ _ ?_) | ((with_reducible refine v_gtup ?_ ?_); rfl) | with_reducible refine v_ixT (by with_unfolding_all rfl) ?_ | with_reducible refine v_ixL (by with_unfolding_all rfl) ?_ | with_reducible refine v_ixR (by with_unfolding_all rfl) ?_ | ((with_reducible refine v_ixS ?_ (by with_unfolding_all rfl) ?_); sizeOf_list_dec) | ((with_reducible refine And.intro ?_ ?_); sizeOf_list_dec) | with_reducible refine v_dt (by first | assumption | with_unfolding_all rfl | omega | (simp only [List.length_map, List.length_append, List.length_cons, List.length_nil, List.length_reverse, txts_lenG]; first | done | omega)) ?_ | with_reducible refine v_ndt (by first | assumption | with_unfolding_all rfl | omega | (simp only [List.length_map, List.length_append, List.length_cons, List.length_nil, List.length_reverse, txts_lenG]; first | done | omega)) ?_ | with_reducible refine v_df (by first | assumption | omega | (with_unfolding_all decide) | (simp only [List.length_map, List.length_append, List.length_cons, List.length_nil, List.length_reverse, txts_lenG]; first | done | omega)) ?_ | with_reducible refine v_ndf (by first | assumption | omega | (with_unfolding_all decide) | (simp only [List.length_map, List.length_append, List.length_cons, List.length_nil, List.length_reverse, txts_lenG]; first | done | omega)) ?_ | decreasing_trivial_pre_omega | ((with_reducible refine v_isname ?_); dsimp only [wipeD, List.set]) | ((with_reducible refine v_isvar ?_); dsimp only [wipeD, List.set]))
local macro_rules | `(tactic| array_mem_dec) => `(tactic| repeat array_get_dec)
local macro_rules | `(tactic| bv_omega) => `(tactic| repeat' (first | array_get_dec | with_reducible refine ite_d (fun _ => ?_) (fun _ => ?_) | with_reducible refine ite_nd (fun _ => ?_) (fun _ => ?_) | with_reducible refine ite_b (fun _ => ?_) (fun _ => ?_) | with_reducible refine ite_nb (fun _ => ?_) (fun _ => ?_)))
/-! ### books: names, kinds by names, what holds what -/
section
variable {k : KindR} {C : Cl} {Q : D → Prop}
end
local macro_rules | `(tactic| decreasing_trivial_pre_omega) => `(tactic| with_reducible refine kz_name ?_)
local macro_rules | `(tactic| decreasing_trivial_pre_omega) => `(tactic| with_reducible refine kz_family ?_)
local macro_rules | `(tactic| decreasing_trivial_pre_omega) => `(tactic| with_reducible refine kz_marks ?_)
local macro_rules | `(tactic| decreasing_trivial_pre_omega) => `(tactic| with_reducible refine kz_yes ?_)
local macro_rules | `(tactic| decreasing_trivial_pre_omega) => `(tactic| with_reducible refine kz_no ?_)
local macro_rules | `(tactic| decreasing_trivial_pre_omega) => `(tactic| with_reducible refine kz_digits ?_)
local macro_rules | `(tactic| decreasing_trivial_pre_omega) => `(tactic| with_reducible refine kz_point ?_)
local macro_rules | `(tactic| decreasing_trivial_pre_omega) => `(tactic| with_reducible refine kz_keep ?_)
def bookMeths : List Str := ["names", "kind_named", "holds", "is_triple", "given_joins", "all_joins", "own_name", "kind_of", "kind_of_column", "words", "first_unlisted", "samples", "shortest_columns", "reachable", "flaw", "flaw_of_two", "flaw_of_three"]
/-- the fields of a book, as far as they are made -/
structure BFs (fs : List (Str × D)) (ks : List KindR) : Prop where
  kinds : fs.lookup ("kinds" : Str) = some (.tup (ks.map kindD))
  no : ∀ m ∈ bookMeths, fs.lookup m = none
/-- a book at C -/
def BkAt (C : Cl) (x : D) (ks : List KindR) : Prop := ∃ fs, insOf C x = some ("Book", fs) ∧ BFs fs ks
theorem insOf_sub {C C' : Cl} {x : D} {c : String} {fs : List (Str × D)} (s : SubC C C') (h : insOf C x = some (c, fs)) : insOf C' x = some (c, fs) := by
  cases x with
  | ins c' fs' => exact h
  | ref a =>
    change (match C a with | some (.ins c fs) => some (c, fs) | _ => none) = some (c, fs) at h
    show (match C' a with | some (.ins c fs) => some (c, fs) | _ => none) = some (c, fs)
    cases e : C a with
    | none => rw [e] at h; cases h
    | some o => rw [s a o e]; rw [e] at h; exact h
  | _ => cases h
theorem BkAt.sub {C C' : Cl} {x : D} {ks : List KindR} (s : SubC C C') (h : BkAt C x ks) : BkAt C' x ks := let ⟨fs, h1, h2⟩ := h; ⟨fs, insOf_sub s h1, h2⟩
def namesK (ks : List KindR) : List (List Nat) := ks.map (·.name)
def findK (ks : List KindR) (l : List Nat) : Option KindR := ks.find? fun k => decide (k.name = l)
/-- whether a column of one kind can have cells of another one -/
def holdsK (h w : KindR) : Bool :=
  if h.name = w.name ∨ w.fam = famMissing ∨ h.fam = famText then true
  else if h.fam = famMissing ∨ w.fam = famText then false
  else if w.fam = famTruth then true
  else if h.fam = famTruth ∨ (w.point = true ∧ h.point = false) then false
  else match h.digits, w.digits with
    | none, _ => true
    | some _, none => false
    | some n, some m => decide (m ≤ n)
end G
namespace G
open PySem PySem.Spec PyProof.Rows L2
local macro_rules | `(tactic| sizeOf_list_dec) => `(tactic| exact szl (by first | omega | (simp only [List.length_append, List.length_cons, List.length_nil, List.length_map, List.length_reverse, List.length_singleton, txts_lenG]; omega) | (simp only [List.length_append, List.length_cons, List.length_nil, List.length_map, List.length_reverse, txts_lenG]; omega)))
local macro_rules | `(tactic| array_get_dec) => `(tactic| first | with_reducible refine v_seq ?_ | with_reducible refine v_next ?_ | with_reducible refine v_asg ?_ | (with_reducible refine v_isvar ?_; first | with_reducible refine v_var0 ?_ | with_reducible refine v_var1 ?_ | with_reducible refine v_var2 ?_ | with_reducible refine v_var3 ?_ | with_reducible refine v_var4 ?_ | with_reducible refine v_var5 ?_ | with_reducible refine v_var6 ?_ | with_reducible refine v_var7 ?_ | with_reducible refine v_var8 ?_ | with_reducible refine v_var9 ?_ | with_reducible refine v_var10 ?_ | with_reducible refine v_var11 ?_ | with_reducible refine v_var12 ?_ | with_reducible refine v_var13 ?_ | with_reducible refine v_var14 ?_ | with_reducible refine v_var15 ?_ | with_reducible refine v_var16 ?_ | with_reducible refine v_var17 ?_ | with_reducible refine v_var18 ?_ | with_reducible refine v_var19 ?_ | with_reducible refine v_var20 ?_ | with_reducible refine v_var21 ?_ | with_reducible refine v_var22 ?_ | with_reducible refine v_var23 ?_ | with_reducible refine v_var24 ?_ | with_reducible refine v_var25 ?_) | (with_reducible refine v_isname ?_; first | with_reducible refine v_name0 ?_ | with_reducible refine v_wname0 ?_ | with_reducible refine v_name1 ?_ | with_reducible refine v_wname1 ?_ | with_reducible refine v_name2 ?_ | with_reducible refine v_wname2 ?_ | with_reducible refine v_name3 ?_ | with_reducible refine v_wname3 ?_ | with_reducible refine v_name4 ?_ | with_reducible refine v_wname4 ?_ | with_reducible refine v_name5 ?_ | with_reducible refine v_wname5 ?_ | with_reducible refine v_name6 ?_ | with_reducible refine v_wname6 ?_ | with_reducible refine v_name7 ?_ | with_reducible refine v_wname7 ?_ | with_reducible refine v_name8 ?_ | with_reducible refine v_wname8 ?_ | with_reducible refine v_name9 ?_ | with_reducible refine v_wname9 ?_ | with_reducible refine v_name10 ?_ | with_reducible refine v_wname10 ?_ | with_reducible refine v_name11 ?_ | with_reducible refine v_wname11 ?_ | with_reducible refine v_name12 ?_ | with_reducible refine v_wname12 ?_ | with_reducible refine v_name13 ?_ | with_reducible refine v_wname13 ?_ | with_reducible refine v_name14 ?_ | with_reducible refine v_wname14 ?_ | with_reducible refine v_name15 ?_ | with_reducible refine v_wname15 ?_ | with_reducible refine v_name16 ?_ | with_reducible refine v_wname16 ?_ | with_reducible refine v_name17 ?_ | with_reducible refine v_wname17 ?_ | with_reducible refine v_name18 ?_ | with_reducible refine v_wname18 ?_ | with_reducible refine v_name19 ?_ | with_reducible refine v_wname19 ?_ | with_reducible refine v_name20 ?_ | with_reducible refine v_wname20 ?_ | with_reducible refine v_name21 ?_ | with_reducible refine v_wname21 ?_ | with_reducible refine v_name22 ?_ | with_reducible refine v_wname22 ?_ | with_reducible refine v_name23 ?_ | with_reducible refine v_wname23 ?_ | with_reducible refine v_name24 ?_ | with_reducible refine v_wname24 ?_ | with_reducible refine v_name25 ?_ | with_reducible refine v_wname25 ?_) | with_reducible refine v_drop ?_ | with_reducible refine v_ret ?_ | with_reducible refine v_ifS ?_ | with_reducible refine v_test ?_ | with_reducible refine v_bl ?_ | with_reducible refine v_const ?_ | with_reducible refine v_op ?_ | with_reducible refine v_cb ?_ | with_reducible refine v_nil ?_ | with_reducible refine v_cons ?_ | with_reducible refine v_fld ?_ | with_reducible refine v_meth ?_ | with_reducible refine v_cal ?_ | with_reducible refine v_call0 ?_ | with_reducible refine v_pos2 ?_ | with_reducible refine v_tt ?_ | with_reducible refine v_ff ?_ | with_reducible refine v_ntt ?_ | with_reducible refine v_nff ?_ | with_reducible refine v_dnot ?_ | with_reducible refine v_dand ?_ | with_reducible refine v_dor ?_ | with_reducible refine v_andV ?_ | with_reducible refine v_orV ?_ | with_reducible refine v_notV ?_ | with_reducible refine v_ifE ?_ | with_reducible refine v_bm0 ?_ | with_reducible refine v_eqS ?_ | with_reducible refine v_eqI ?_ | with_reducible refine v_neS ?_ | with_reducible refine v_neI ?_ | with_reducible refine v_eqB ?_ | with_reducible refine v_neB ?_ | with_reducible refine v_isNn ?_ | with_reducible refine v_isNs ?_ | with_reducible refine v_isNi ?_ | with_reducible refine v_isNt ?_ | with_reducible refine v_notNn ?_ | with_reducible refine v_notNs ?_ | with_reducible refine v_notNi ?_ | with_reducible refine v_notNt ?_ | with_reducible refine v_isN ?_ | with_reducible refine v_notN ?_ | with_reducible refine v_lt ?_ | with_reducible refine v_le ?_ | with_reducible refine v_gt ?_ | with_reducible refine v_ge ?_ | with_reducible refine v_addI ?_ | with_reducible refine v_subI ?_ | with_reducible refine v_lenT ?_ | with_reducible refine v_lenL ?_ | with_reducible refine v_chain ?_ | with_reducible refine v_un ?_ | with_reducible refine v_tup ?_ | with_reducible refine v_lst ?_ | with_reducible refine v_lstC ?_ | with_reducible refine v_gsub ?_ | with_reducible refine v_rng1 ?_ | with_reducible refine v_rng2 ?_ | with_reducible refine v_slice ?_ | with_reducible refine v_nopart ?_ | with_reducible refine v_part ?_ | with_reducible refine v_partI ?_ | with_reducible refine v_slT ?_ | with_reducible refine v_slL ?_ | with_reducible refine v_rev ?_ | with_reducible refine v_revO ?_ | with_reducible refine v_enumS ?_ | with_reducible refine v_enumL ?_ | with_reducible refine v_enumT ?_ | with_reducible refine v_zipS ?_ | with_reducible refine v_revL ?_ | with_reducible refine v_revT ?_ | with_reducible refine v_putT ?_ | with_reducible refine v_putK ?_ | with_reducible refine v_inT ?_ | with_reducible refine v_getT ?_ | with_reducible refine v_get2T ?_ | with_reducible refine v_make ?_ | with_reducible refine v_fldSet ?_ | with_reducible refine v_forL ?_ | with_reducible refine v_forT ?_ | with_reducible refine v_forS ?_ | with_reducible refine v_lstO ?_ | with_reducible refine v_rolO ?_ | with_reducible refine v_tupO ?_ | with_reducible refine v_strO ?_ | with_reducible refine v_listT ?_ | with_reducible refine v_listL ?_ | with_reducible refine v_tupleL ?_ | with_reducible refine v_tupleT ?_ | with_reducible refine v_isiS ?_ | with_reducible refine v_isiT ?_ | with_reducible refine v_isiL ?_ | with_reducible refine v_allM ?_ | with_reducible refine v_anyM ?_ | with_reducible refine v_eqNS ?_ | with_reducible refine v_neNS ?_ | with_reducible refine v_gcons ?_ | with_reducible refine v_gnil ?_ | with_reducible refine v_par2 ?_ | with_reducible refine v_par33 ?_ | with_reducible refine v_retN ?_ | with_reducible refine v_sameS ?_ | with_reducible refine v_sameB ?_ | with_reducible refine v_sameI ?_ | with_reducible refine v_sameN ?_ | with_reducible refine v_sameT ?_ | with_reducible refine v_sameL ?_ | with_reducible refine v_endN ?_ | with_reducible refine v_bm ?_ | with_reducible refine v_tystr ?_ | with_reducible refine v_break ?_ | with_reducible refine v_cont ?_ | ((with_reducible refine v_slS ?_ ?_); sizeOf_list_dec) | ((with_reducible refine v_lenS ?_ ?_); sizeOf_list_dec) | ((with_reducible refine v_addS ?_ ?_); sizeOf_list_dec) | ((with_reducible refine v_addT ?_ ?_); sizeOf_list_dec) | ((with_reducible refine v_addL ?_ ?_); sizeOf_list_dec) | (with_reducible refine v_par _ _ ?_) | (with_reducible refine v_par3 _ _ _ ?_) | ((with_reducible refine v_gtup ?_ ?_); rfl) | with_reducible refine v_ixT (by with_unfolding_all rfl) ?_ | with_reducible refine v_ixL (by with_unfolding_all rfl) ?_ | with_reducible refine v_ixR (by with_unfolding_all rfl) ?_ | ((with_reducible refine v_ixS ?_ (by with_unfolding_all rfl) ?_); sizeOf_list_dec) | ((with_reducible refine And.intro ?_ ?_); sizeOf_list_dec) | with_reducible refine v_dt (by first | assumption | with_unfolding_all rfl | omega | (simp only [List.length_map, List.length_append, List.length_cons, List.length_nil, List.length_reverse, txts_lenG]; first | done | omega)) ?_ | with_reducible refine v_ndt (by first | assumption | with_unfolding_all rfl | omega | (simp only [List.length_map, List.length_append, List.length_cons, List.length_nil, List.length_reverse, txts_lenG]; first | done | omega)) ?_ | with_reducible refine v_df (by first | assumption | omega | (with_unfolding_all decide) | (simp only [List.length_map, List.length_append, List.length_cons, List.length_nil, List.length_reverse, txts_lenG]; first | done | omega)) ?_ | with_reducible refine v_ndf (by first | assumption | omega | (with_unfolding_all decide) | (simp only [List.length_map, List.length_append, List.length_cons, List.length_nil, List.length_reverse, txts_lenG]; first | done | omega)) ?_ | decreasing_trivial_pre_omega | ((with_reducible refine v_isname ?_); dsimp only [wipeD, List.set]) | ((with_reducible refine v_isvar ?_); dsimp only [wipeD, List.set]))
local macro_rules | `(tactic| array_mem_dec) => `(tactic| repeat array_get_dec)
local macro_rules | `(tactic| bv_omega) => `(tactic| repeat' (first | array_get_dec | with_reducible refine ite_d (fun _ => ?_) (fun _ => ?_) | with_reducible refine ite_nd (fun _ => ?_) (fun _ => ?_) | with_reducible refine ite_b (fun _ => ?_) (fun _ => ?_) | with_reducible refine ite_nb (fun _ => ?_) (fun _ => ?_)))
local macro_rules | `(tactic| decreasing_trivial_pre_omega) => `(tactic| with_reducible refine kz_name ?_)
local macro_rules | `(tactic| decreasing_trivial_pre_omega) => `(tactic| with_reducible refine kz_family ?_)
local macro_rules | `(tactic| decreasing_trivial_pre_omega) => `(tactic| with_reducible refine kz_marks ?_)
local macro_rules | `(tactic| decreasing_trivial_pre_omega) => `(tactic| with_reducible refine kz_yes ?_)
local macro_rules | `(tactic| decreasing_trivial_pre_omega) => `(tactic| with_reducible refine kz_no ?_)
local macro_rules | `(tactic| decreasing_trivial_pre_omega) => `(tactic| with_reducible refine kz_digits ?_)
local macro_rules | `(tactic| decreasing_trivial_pre_omega) => `(tactic| with_reducible refine kz_point ?_)
local macro_rules | `(tactic| decreasing_trivial_pre_omega) => `(tactic| with_reducible refine kz_keep ?_)
/-! ### books: joins -/
abbrev T3 := List Nat × List Nat × List Nat
def tripD (t : T3) : D := .tup [.str t.1, .str t.2.1, .str t.2.2]
def tk (a b : List Nat) : List Key := [.inr ⟨a.toArray⟩, .inr ⟨b.toArray⟩]
/-- a triple that the book takes -/
structure OkT (ks : List KindR) (t : T3) : Prop where
  n1 : t.1 ∈ namesK ks
  n2 : t.2.1 ∈ namesK ks
  n3 : t.2.2 ∈ namesK ks
  ne : t.1 ≠ t.2.1
  h1 : ∀ c a, findK ks t.2.2 = some c → findK ks t.1 = some a → holdsK c a = true
  h2 : ∀ c a, findK ks t.2.2 = some c → findK ks t.2.1 = some a → holdsK c a = true
/-- is it a text that names a kind -/
def inB (ks : List KindR) (d : D) : Bool := onStr (fun l => decide (l ∈ namesK ks)) d
/-- what is no triple of a book's names -/
inductive NoTrip (ks : List KindR) : D → Cl → Prop
  | other {d : D} {C : Cl} (n : String) : tyNm d C = some n → isSub n "tuple" = false → NoTrip ks d C
  | len {es : List D} {C : Cl} : es.length ≠ 3 → es.length ≤ 100 → NoTrip ks (.tup es) C
  | name {a b c : D} {C : Cl} : (∀ d ∈ [a, b, c], ∀ C', Known d C') → [a, b, c].all (inB ks) = false → NoTrip ks (.tup [a, b, c]) C
  | same {t : T3} {C : Cl} : t.1 ∈ namesK ks → t.2.1 ∈ namesK ks → t.2.2 ∈ namesK ks → t.1 = t.2.1 → NoTrip ks (tripD t) C
/-- the triples that a book is made of -/
structure OkTs (ks : List KindR) (trs : List T3) : Prop where
  ok : ∀ t ∈ trs, OkT ks t
  nd : (trs.map fun t => (t.1, t.2.1)).Nodup
  len : trs.length ≤ 1000
theorem numbered_map {α : Type} (e : α → D) : ∀ (k : Nat) (as : List α), numbered k (as.map e) = (as.zipIdx k).map fun p => .tup [.int (p.2 : Nat), e p.1]
  | _, [] => rfl
  | k, a :: as => by
    rw [List.map_cons, List.zipIdx_cons, List.map_cons, ← numbered_map e (k + 1) as]; rfl
end G
namespace G
open PySem PySem.Spec PyProof.Rows L2
local macro_rules | `(tactic| sizeOf_list_dec) => `(tactic| exact szl (by first | omega | (simp only [List.length_append, List.length_cons, List.length_nil, List.length_map, List.length_reverse, List.length_singleton, txts_lenG]; omega) | (simp only [List.length_append, List.length_cons, List.length_nil, List.length_map, List.length_reverse, txts_lenG]; omega)))
local macro_rules | `(tactic| array_get_dec) => `(tactic| first | with_reducible refine v_seq ?_ | with_reducible refine v_next ?_ | with_reducible refine v_asg ?_ | (with_reducible refine v_isvar ?_; first | with_reducible refine v_var0 ?_ | with_reducible refine v_var1 ?_ | with_reducible refine v_var2 ?_ | with_reducible refine v_var3 ?_ | with_reducible refine v_var4 ?_ | with_reducible refine v_var5 ?_ | with_reducible refine v_var6 ?_ | with_reducible refine v_var7 ?_ | with_reducible refine v_var8 ?_ | with_reducible refine v_var9 ?_ | with_reducible refine v_var10 ?_ | with_reducible refine v_var11 ?_ | with_reducible refine v_var12 ?_ | with_reducible refine v_var13 ?_ | with_reducible refine v_var14 ?_ | with_reducible refine v_var15 ?_ | with_reducible refine v_var16 ?_ | with_reducible refine v_var17 ?_ | with_reducible refine v_var18 ?_ | with_reducible refine v_var19 ?_ | with_reducible refine v_var20 ?_ | with_reducible refine v_var21 ?_ | with_reducible refine v_var22 ?_ | with_reducible refine v_var23 ?_ | with_reducible refine v_var24 ?_ | with_reducible refine v_var25 ?_) | (with_reducible refine v_isname ?_; first | with_reducible refine v_name0 ?_ | with_reducible refine v_wname0 ?_ | with_reducible refine v_name1 ?_ | with_reducible refine v_wname1 ?_ | with_reducible refine v_name2 ?_ | with_reducible refine v_wname2 ?_ | with_reducible refine v_name3 ?_ | with_reducible refine v_wname3 ?_ | with_reducible refine v_name4 ?_ | with_reducible refine v_wname4 ?_ | with_reducible refine v_name5 ?_ | with_reducible refine v_wname5 ?_ | with_reducible refine v_name6 ?_ | with_reducible refine v_wname6 ?_ | with_reducible refine v_name7 ?_ | with_reducible refine v_wname7 ?_ | with_reducible refine v_name8 ?_ | with_reducible refine v_wname8 ?_ | with_reducible refine v_name9 ?_ | with_reducible refine v_wname9 ?_ | with_reducible refine v_name10 ?_ | with_reducible refine v_wname10 ?_ | with_reducible refine v_name11 ?_ | with_reducible refine v_wname11 ?_ | with_reducible refine v_name12 ?_ | with_reducible refine v_wname12 ?_ | with_reducible refine v_name13 ?_ | with_reducible refine v_wname13 ?_ | with_reducible refine v_name14 ?_ | with_reducible refine v_wname14 ?_ | with_reducible refine v_name15 ?_ | with_reducible refine v_wname15 ?_ | with_reducible refine v_name16 ?_ | with_reducible refine v_wname16 ?_ | with_reducible refine v_name17 ?_ | with_reducible refine v_wname17 ?_ | with_reducible refine v_name18 ?_ | with_reducible refine v_wname18 ?_ | with_reducible refine v_name19 ?_ | with_reducible refine v_wname19 ?_ | with_reducible refine v_name20 ?_ | with_reducible refine v_wname20 ?_ | with_reducible refine v_name21 ?_ | with_reducible refine v_wname21 ?_ | with_reducible refine v_name22 ?_ | with_reducible refine v_wname22 ?_ | with_reducible refine v_name23 ?_ | with_reducible refine v_wname23 ?_ | with_reducible refine v_name24 ?_ | with_reducible refine v_wname24 ?_ | with_reducible refine v_name25 ?_ | with_reducible refine v_wname25 ?_) | with_reducible refine v_drop ?_ | with_reducible refine v_ret ?_ | with_reducible refine v_ifS ?_ | with_reducible refine v_test ?_ | with_reducible refine v_bl ?_ | with_reducible refine v_const ?_ | with_reducible refine v_op ?_ | with_reducible refine v_cb ?_ | with_reducible refine v_nil ?_ | with_reducible refine v_cons ?_ | with_reducible refine v_fld ?_ | with_reducible refine v_meth ?_ | with_reducible refine v_cal ?_ | with_reducible refine v_call0 ?_ | with_reducible refine v_pos2 ?_ | with_reducible refine v_tt ?_ | with_reducible refine v_ff ?_ | with_reducible refine v_ntt ?_ | with_reducible refine v_nff ?_ | with_reducible refine v_dnot ?_ | with_reducible refine v_dand ?_ | with_reducible refine v_dor ?_ | with_reducible refine v_andV ?_ | with_reducible refine v_orV ?_ | with_reducible refine v_notV ?_ | with_reducible refine v_ifE ?_ | with_reducible refine v_bm0 ?_ | with_reducible refine v_eqS ?_ | with_reducible refine v_eqI ?_ | with_reducible refine v_neS ?_ | with_reducible refine v_neI ?_ | with_reducible refine v_eqB ?_ | with_reducible refine v_neB ?_ | with_reducible refine v_isNn ?_ | with_reducible refine v_isNs ?_ | with_reducible refine v_isNi ?_ | with_reducible refine v_isNt ?_ | with_reducible refine v_notNn ?_ | with_reducible refine v_notNs ?_ | with_reducible refine v_notNi ?_ | with_reducible refine v_notNt ?_ | with_reducible refine v_isN ?_ | with_reducible refine v_notN ?_ | with_reducible refine v_lt ?_ | with_reducible refine v_le ?_ | with_reducible refine v_gt ?_ | with_reducible refine v_ge ?_ | with_reducible refine v_addI ?_ | with_reducible refine v_subI ?_ | with_reducible refine v_lenT ?_ | with_reducible refine v_lenL ?_ | with_reducible refine v_chain ?_ | with_reducible refine v_un ?_ | with_reducible refine v_tup ?_ | with_reducible refine v_lst ?_ | with_reducible refine v_lstC ?_ | with_reducible refine v_gsub ?_ | with_reducible refine v_rng1 ?_ | with_reducible refine v_rng2 ?_ | with_reducible refine v_slice ?_ | with_reducible refine v_nopart ?_ | with_reducible refine v_part ?_ | with_reducible refine v_partI ?_ | with_reducible refine v_slT ?_ | with_reducible refine v_slL ?_ | with_reducible refine v_rev ?_ | with_reducible refine v_revO ?_ | with_reducible refine v_enumS ?_ | with_reducible refine v_enumL ?_ | with_reducible refine v_enumT ?_ | with_reducible refine v_zipS ?_ | with_reducible refine v_revL ?_ | with_reducible refine v_revT ?_ | with_reducible refine v_putT ?_ | with_reducible refine v_putK ?_ | with_reducible refine v_inT ?_ | with_reducible refine v_getT ?_ | with_reducible refine v_get2T ?_ | with_reducible refine v_make ?_ | with_reducible refine v_fldSet ?_ | with_reducible refine v_forL ?_ | with_reducible refine v_forT ?_ | with_reducible refine v_forS ?_ | with_reducible refine v_lstO ?_ | with_reducible refine v_rolO ?_ | with_reducible refine v_tupO ?_ | with_reducible refine v_strO ?_ | with_reducible refine v_listT ?_ | with_reducible refine v_listL ?_ | with_reducible refine v_tupleL ?_ | with_reducible refine v_tupleT ?_ | with_reducible refine v_isiS ?_ | with_reducible refine v_isiT ?_ | with_reducible refine v_isiL ?_ | with_reducible refine v_allM ?_ | with_reducible refine v_anyM ?_ | with_reducible refine v_eqNS ?_ | with_reducible refine v_neNS ?_ | with_reducible refine v_gcons ?_ | with_reducible refine v_gnil ?_ | with_reducible refine v_par2 ?_ | with_reducible refine v_par33 ?_ | with_reducible refine v_retN ?_ | with_reducible refine v_sameS ?_ | with_reducible refine v_sameB ?_ | with_reducible refine v_sameI ?_ | with_reducible refine v_sameN ?_ | with_reducible refine v_sameT ?_ | with_reducible refine v_sameL ?_ | with_reducible refine v_endN ?_ | with_reducible refine v_bm ?_ | with_reducible refine v_tystr ?_ | with_reducible refine v_break ?_ | with_reducible refine v_cont ?_ | ((with_reducible refine v_slS ?_ ?_); sizeOf_list_dec) | ((with_reducible refine v_lenS ?_ ?_); sizeOf_list_dec) | ((with_reducible refine v_addS ?_ ?_); sizeOf_list_dec) | ((with_reducible refine v_addT ?_ ?_); sizeOf_list_dec) | ((with_reducible refine v_addL ?_ ?_); sizeOf_list_dec) | (with_reducible refine v_par _ _ ?_) | (with_reducible refine v_par3 _ _ _ ?_) | ((with_reducible refine v_gtup ?_ ?_); rfl) | with_reducible refine v_ixT (by with_unfolding_all rfl) ?_ | with_reducible refine v_ixL (by with_unfolding_all rfl) ?_ | with_reducible refine v_ixR (by with_unfolding_all rfl) ?_ | ((with_reducible refine v_ixS ?_ (by with_unfolding_all rfl) ?_); sizeOf_list_dec) | ((with_reducible refine And.intro ?_ ?_); sizeOf_list_dec) | with_reducible refine v_dt (by first | assumption | with_unfolding_all rfl | omega | (simp only [List.length_map, List.length_append, List.length_cons, List.length_nil, List.length_reverse, txts_lenG]; first | done | omega)) ?_ | with_reducible refine v_ndt (by first | assumption | with_unfolding_all rfl | omega | (simp only [List.length_map, List.length_append, List.length_cons, List.length_nil, List.length_reverse, txts_lenG]; first | done | omega)) ?_ | with_reducible refine v_df (by first | assumption | omega | (with_unfolding_all decide) | (simp only [List.length_map, List.length_append, List.length_cons, List.length_nil, List.length_reverse, txts_lenG]; first | done | omega)) ?_ | with_reducible refine v_ndf (by first | assumption | omega | (with_unfolding_all decide) | (simp only [List.length_map, List.length_append, List.length_cons, List.length_nil, List.length_reverse, txts_lenG]; first | done | omega)) ?_ | decreasing_trivial_pre_omega | ((with_reducible refine v_isname ?_); dsimp only [wipeD, List.set]) | ((with_reducible refine v_isvar ?_); dsimp only [wipeD, List.set]))
local macro_rules | `(tactic| array_mem_dec) => `(tactic| repeat array_get_dec)
local macro_rules | `(tactic| bv_omega) => `(tactic| repeat' (first | array_get_dec | with_reducible refine ite_d (fun _ => ?_) (fun _ => ?_) | with_reducible refine ite_nd (fun _ => ?_) (fun _ => ?_) | with_reducible refine ite_b (fun _ => ?_) (fun _ => ?_) | with_reducible refine ite_nb (fun _ => ?_) (fun _ => ?_)))
local macro_rules | `(tactic| decreasing_trivial_pre_omega) => `(tactic| with_reducible refine kz_name ?_)
local macro_rules | `(tactic| decreasing_trivial_pre_omega) => `(tactic| with_reducible refine kz_family ?_)
local macro_rules | `(tactic| decreasing_trivial_pre_omega) => `(tactic| with_reducible refine kz_marks ?_)
local macro_rules | `(tactic| decreasing_trivial_pre_omega) => `(tactic| with_reducible refine kz_yes ?_)
local macro_rules | `(tactic| decreasing_trivial_pre_omega) => `(tactic| with_reducible refine kz_no ?_)
local macro_rules | `(tactic| decreasing_trivial_pre_omega) => `(tactic| with_reducible refine kz_digits ?_)
local macro_rules | `(tactic| decreasing_trivial_pre_omega) => `(tactic| with_reducible refine kz_point ?_)
local macro_rules | `(tactic| decreasing_trivial_pre_omega) => `(tactic| with_reducible refine kz_keep ?_)
/-! ### books: the table of all joins, the making -/
/-- a book at C whose spare kind is known too -/
def BkSp (C : Cl) (x : D) (ks : List KindR) (s : List Nat) : Prop := ∃ fs, insOf C x = some ("Book", fs) ∧ BFs fs ks ∧ fs.lookup ("spare" : Str) = some (.str s)
theorem BkSp.bk {C : Cl} {x : D} {ks : List KindR} {s : List Nat} (h : BkSp C x ks s) : BkAt C x ks := let ⟨fs, h1, h2, _⟩ := h; ⟨fs, h1, h2⟩
theorem BkSp.sub {C C' : Cl} {x : D} {ks : List KindR} {sp : List Nat} (s : SubC C C') (h : BkSp C x ks sp) : BkSp C' x ks sp := let ⟨fs, h1, h2, h3⟩ := h; ⟨fs, insOf_sub s h1, h2, h3⟩
end G
namespace G
open PySem PySem.Spec PyProof.Rows L2
local macro_rules | `(tactic| sizeOf_list_dec) => `(tactic| exact szl (by first | omega | (simp only [List.length_append, List.length_cons, List.length_nil, List.length_map, List.length_reverse, List.length_singleton, txts_lenG]; omega) | (simp only [List.length_append, List.length_cons, List.length_nil, List.length_map, List.length_reverse, txts_lenG]; omega)))
local macro_rules | `(tactic| array_get_dec) => `(tactic| first | with_reducible refine v_seq ?_ | with_reducible refine v_next ?_ | with_reducible refine v_asg ?_ | (with_reducible refine v_isvar ?_; first | with_reducible refine v_var0 ?_ | with_reducible refine v_var1 ?_ | with_reducible refine v_var2 ?_ | with_reducible refine v_var3 ?_ | with_reducible refine v_var4 ?_ | with_reducible refine v_var5 ?_ | with_reducible refine v_var6 ?_ | with_reducible refine v_var7 ?_ | with_reducible refine v_var8 ?_ | with_reducible refine v_var9 ?_ | with_reducible refine v_var10 ?_ | with_reducible refine v_var11 ?_ | with_reducible refine v_var12 ?_ | with_reducible refine v_var13 ?_ | with_reducible refine v_var14 ?_ | with_reducible refine v_var15 ?_ | with_reducible refine v_var16 ?_ | with_reducible refine v_var17 ?_ | with_reducible refine v_var18 ?_ | with_reducible refine v_var19 ?_ | with_reducible refine v_var20 ?_ | with_reducible refine v_var21 ?_ | with_reducible refine v_var22 ?_ | with_reducible refine v_var23 ?_ | with_reducible refine v_var24 ?_ | with_reducible refine v_var25 ?_) | (with_reducible refine v_isname ?_; first | with_reducible refine v_name0 ?_ | with_reducible refine v_wname0 ?_ | with_reducible refine v_name1 ?_ | with_reducible refine v_wname1 ?_ | with_reducible refine v_name2 ?_ | with_reducible refine v_wname2 ?_ | with_reducible refine v_name3 ?_ | with_reducible refine v_wname3 ?_ | with_reducible refine v_name4 ?_ | with_reducible refine v_wname4 ?_ | with_reducible refine v_name5 ?_ | with_reducible refine v_wname5 ?_ | with_reducible refine v_name6 ?_ | with_reducible refine v_wname6 ?_ | with_reducible refine v_name7 ?_ | with_reducible refine v_wname7 ?_ | with_reducible refine v_name8 ?_ | with_reducible refine v_wname8 ?_ | with_reducible refine v_name9 ?_ | with_reducible refine v_wname9 ?_ | with_reducible refine v_name10 ?_ | with_reducible refine v_wname10 ?_ | with_reducible refine v_name11 ?_ | with_reducible refine v_wname11 ?_ | with_reducible refine v_name12 ?_ | with_reducible refine v_wname12 ?_ | with_reducible refine v_name13 ?_ | with_reducible refine v_wname13 ?_ | with_reducible refine v_name14 ?_ | with_reducible refine v_wname14 ?_ | with_reducible refine v_name15 ?_ | with_reducible refine v_wname15 ?_ | with_reducible refine v_name16 ?_ | with_reducible refine v_wname16 ?_ | with_reducible refine v_name17 ?_ | with_reducible refine v_wname17 ?_ | with_reducible refine v_name18 ?_ | with_reducible refine v_wname18 ?_ | with_reducible refine v_name19 ?_ | with_reducible refine v_wname19 ?_ | with_reducible refine v_name20 ?_ | with_reducible refine v_wname20 ?_ | with_reducible refine v_name21 ?_ | with_reducible refine v_wname21 ?_ | with_reducible refine v_name22 ?_ | with_reducible refine v_wname22 ?_ | with_reducible refine v_name23 ?_ | with_reducible refine v_wname23 ?_ | with_reducible refine v_name24 ?_ | with_reducible refine v_wname24 ?_ | with_reducible refine v_name25 ?_ | with_reducible refine v_wname25 ?_) | with_reducible refine v_drop ?_ | with_reducible refine v_ret ?_ | with_reducible refine v_ifS ?_ | with_reducible refine v_test ?_ | with_reducible refine v_bl ?_ | with_reducible refine v_const ?_ | with_reducible refine v_op ?_ | with_reducible refine v_cb ?_ | with_reducible refine v_nil ?_ | with_reducible refine v_cons ?_ | with_reducible refine v_fld ?_ | with_reducible refine v_meth ?_ | with_reducible refine v_cal ?_ | with_reducible refine v_call0 ?_ | with_reducible refine v_pos2 ?_ | with_reducible refine v_tt ?_ | with_reducible refine v_ff ?_ | with_reducible refine v_ntt ?_ | with_reducible refine v_nff ?_ | with_reducible refine v_dnot ?_ | with_reducible refine v_dand ?_ | with_reducible refine v_dor ?_ | with_reducible refine v_andV ?_ | with_reducible refine v_orV ?_ | with_reducible refine v_notV ?_ | with_reducible refine v_ifE ?_ | with_reducible refine v_bm0 ?_ | with_reducible refine v_eqS ?_ | with_reducible refine v_eqI ?_ | with_reducible refine v_neS ?_ | with_reducible refine v_neI ?_ | with_reducible refine v_eqB ?_ | with_reducible refine v_neB ?_ | with_reducible refine v_isNn ?_ | with_reducible refine v_isNs ?_ | with_reducible refine v_isNi ?_ | with_reducible refine v_isNt ?_ | with_reducible refine v_notNn ?_ | with_reducible refine v_notNs ?_ | with_reducible refine v_notNi ?_ | with_reducible refine v_notNt ?_ | with_reducible refine v_isN ?_ | with_reducible refine v_notN ?_ | with_reducible refine v_lt ?_ | with_reducible refine v_le ?_ | with_reducible refine v_gt ?_ | with_reducible refine v_ge ?_ | with_reducible refine v_addI ?_ | with_reducible refine v_subI ?_ | with_reducible refine v_lenT ?_ | with_reducible refine v_lenL ?_ | with_reducible refine v_chain ?_ | with_reducible refine v_un ?_ | with_reducible refine v_tup ?_ | with_reducible refine v_lst ?_ | with_reducible refine v_lstC ?_ | with_reducible refine v_gsub ?_ | with_reducible refine v_rng1 ?_ | with_reducible refine v_rng2 ?_ | with_reducible refine v_slice ?_ | with_reducible refine v_nopart ?_ | with_reducible refine v_part ?_ | with_reducible refine v_partI ?_ | with_reducible refine v_slT ?_ | with_reducible refine v_slL ?_ | with_reducible refine v_rev ?_ | with_reducible refine v_revO ?_ | with_reducible refine v_enumS ?_ | with_reducible refine v_enumL ?_ | with_reducible refine v_enumT ?_ | with_reducible refine v_zipS ?_ | with_reducible refine v_revL ?_ | with_reducible refine v_revT ?_ | with_reducible refine v_putT ?_ | with_reducible refine v_putK ?_ | with_reducible refine v_inT ?_ | with_reducible refine v_getT ?_ | with_reducible refine v_get2T ?_ | with_reducible refine v_make ?_ | with_reducible refine v_fldSet ?_ | with_reducible refine v_forL ?_ | with_reducible refine v_forT ?_ | with_reducible refine v_forS ?_ | with_reducible refine v_lstO ?_ | with_reducible refine v_rolO ?_ | with_reducible refine v_tupO ?_ | with_reducible refine v_strO ?_ | with_reducible refine v_listT ?_ | with_reducible refine v_listL ?_ | with_reducible refine v_tupleL ?_ | with_reducible refine v_tupleT ?_ | with_reducible refine v_isiS ?_ | with_reducible refine v_isiT ?_ | with_reducible refine v_isiL ?_ | with_reducible refine v_allM ?_ | with_reducible refine v_anyM ?_ | with_reducible refine v_eqNS ?_ | with_reducible refine v_neNS ?_ | with_reducible refine v_gcons ?_ | with_reducible refine v_gnil ?_ | with_reducible refine v_par2 ?_ | with_reducible refine v_par33 ?_ | with_reducible refine v_retN ?_ | with_reducible refine v_sameS ?_ | with_reducible refine v_sameB ?_ | with_reducible refine v_sameI ?_ | with_reducible refine v_sameN ?_ | with_reducible refine v_sameT ?_ | with_reducible refine v_sameL ?_ | with_reducible refine v_endN ?_ | with_reducible refine v_bm ?_ | with_reducible refine v_tystr ?_ | with_reducible refine v_break ?_ | with_reducible refine v_cont ?_ | ((with_reducible refine v_slS ?_ ?_); sizeOf_list_dec) | ((with_reducible refine v_lenS ?_ ?_); sizeOf_list_dec) | ((with_reducible refine v_addS ?_ ?_); sizeOf_list_dec) | ((with_reducible refine v_addT ?_ ?_); sizeOf_list_dec) | ((with_reducible refine v_addL ?_ ?_); sizeOf_list_dec) | (with_reducible refine v_par _ _ ?_) | (with_reducible refine v_par3 _ _ _ ?_) | ((with_reducible refine v_gtup ?_ ?_); rfl) | with_reducible refine v_ixT (by with_unfolding_all rfl) ?_ | with_reducible refine v_ixL (by with_unfolding_all rfl) ?_ | with_reducible refine v_ixR (by with_unfolding_all rfl) ?_ | ((with_reducible refine v_ixS ?_ (by with_unfolding_all rfl) ?_); sizeOf_list_dec) | ((with_reducible refine And.intro ?_ ?_); sizeOf_list_dec) | with_reducible refine v_dt (by first | assumption | with_unfolding_all rfl | omega | (simp only [List.length_map, List.length_append, List.length_cons, List.length_nil, List.length_reverse, txts_lenG]; first | done | omega)) ?_ | with_reducible refine v_ndt (by first | assumption | with_unfolding_all rfl | omega | (simp only [List.length_map, List.length_append, List.length_cons, List.length_nil, List.length_reverse, txts_lenG]; first | done | omega)) ?_ | with_reducible refine v_df (by first | assumption | omega | (with_unfolding_all decide) | (simp only [List.length_map, List.length_append, List.length_cons, List.length_nil, List.length_reverse, txts_lenG]; first | done | omega)) ?_ | with_reducible refine v_ndf (by first | assumption | omega | (with_unfolding_all decide) | (simp only [List.length_map, List.length_append, List.length_cons, List.length_nil, List.length_reverse, txts_lenG]; first | done | omega)) ?_ | decreasing_trivial_pre_omega | ((with_reducible refine v_isname ?_); dsimp only [wipeD, List.set]) | ((with_reducible refine v_isvar ?_); dsimp only [wipeD, List.set]))
local macro_rules | `(tactic| array_mem_dec) => `(tactic| repeat array_get_dec)
local macro_rules | `(tactic| bv_omega) => `(tactic| repeat' (first | array_get_dec | with_reducible refine ite_d (fun _ => ?_) (fun _ => ?_) | with_reducible refine ite_nd (fun _ => ?_) (fun _ => ?_) | with_reducible refine ite_b (fun _ => ?_) (fun _ => ?_) | with_reducible refine ite_nb (fun _ => ?_) (fun _ => ?_)))
local macro_rules | `(tactic| decreasing_trivial_pre_omega) => `(tactic| with_reducible refine kz_name ?_)
local macro_rules | `(tactic| decreasing_trivial_pre_omega) => `(tactic| with_reducible refine kz_family ?_)
local macro_rules | `(tactic| decreasing_trivial_pre_omega) => `(tactic| with_reducible refine kz_marks ?_)
local macro_rules | `(tactic| decreasing_trivial_pre_omega) => `(tactic| with_reducible refine kz_yes ?_)
local macro_rules | `(tactic| decreasing_trivial_pre_omega) => `(tactic| with_reducible refine kz_no ?_)
local macro_rules | `(tactic| decreasing_trivial_pre_omega) => `(tactic| with_reducible refine kz_digits ?_)
local macro_rules | `(tactic| decreasing_trivial_pre_omega) => `(tactic| with_reducible refine kz_point ?_)
local macro_rules | `(tactic| decreasing_trivial_pre_omega) => `(tactic| with_reducible refine kz_keep ?_)
/-! ### books made -/
/-- what a book is made of -/
structure OkB (ks : List KindR) (trs : List T3) : Prop where
  len1 : 1 ≤ ks.length
  len7 : ks.length ≤ 7
  nd : (namesK ks).Nodup
  nm : ∀ k ∈ ks, k.name.length ≤ 100
  txt : ∃ k ∈ ks, k.fam = famText
  mks : ∀ k ∈ ks, k.fam = famMissing → k.marks ≠ []
  js : OkTs ks trs
end G
namespace G
open PySem PySem.Spec PyProof.Rows L2
local macro_rules | `(tactic| sizeOf_list_dec) => `(tactic| exact szl (by first | omega | (simp only [List.length_append, List.length_cons, List.length_nil, List.length_map, List.length_reverse, List.length_singleton, txts_lenG]; omega) | (simp only [List.length_append, List.length_cons, List.length_nil, List.length_map, List.length_reverse, txts_lenG]; omega)))
local macro_rules | `(tactic| array_get_dec) => `(tactic| first | with_reducible refine v_seq ?_ | with_reducible refine v_next ?_ | with_reducible refine v_asg ?_ | (with_reducible refine v_isvar ?_; first | with_reducible refine v_var0 ?_ | with_reducible refine v_var1 ?_ | with_reducible refine v_var2 ?_ | with_reducible refine v_var3 ?_ | with_reducible refine v_var4 ?_ | with_reducible refine v_var5 ?_ | with_reducible refine v_var6 ?_ | with_reducible refine v_var7 ?_ | with_reducible refine v_var8 ?_ | with_reducible refine v_var9 ?_ | with_reducible refine v_var10 ?_ | with_reducible refine v_var11 ?_ | with_reducible refine v_var12 ?_ | with_reducible refine v_var13 ?_ | with_reducible refine v_var14 ?_ | with_reducible refine v_var15 ?_ | with_reducible refine v_var16 ?_ | with_reducible refine v_var17 ?_ | with_reducible refine v_var18 ?_ | with_reducible refine v_var19 ?_ | with_reducible refine v_var20 ?_ | with_reducible refine v_var21 ?_ | with_reducible refine v_var22 ?_ | with_reducible refine v_var23 ?_ | with_reducible refine v_var24 ?_ | with_reducible refine v_var25 ?_) | (with_reducible refine v_isname ?_; first | with_reducible refine v_name0 ?_ | with_reducible refine v_wname0 ?_ | with_reducible refine v_name1 ?_ | with_reducible refine v_wname1 ?_ | with_reducible refine v_name2 ?_ | with_reducible refine v_wname2 ?_ | with_reducible refine v_name3 ?_ | with_reducible refine v_wname3 ?_ | with_reducible refine v_name4 ?_ | with_reducible refine v_wname4 ?_ | with_reducible refine v_name5 ?_ | with_reducible refine v_wname5 ?_ | with_reducible refine v_name6 ?_ | with_reducible refine v_wname6 ?_ | with_reducible refine v_name7 ?_ | with_reducible refine v_wname7 ?_ | with_reducible refine v_name8 ?_ | with_reducible refine v_wname8 ?_ | with_reducible refine v_name9 ?_ | with_reducible refine v_wname9 ?_ | with_reducible refine v_name10 ?_ | with_reducible refine v_wname10 ?_ | with_reducible refine v_name11 ?_ | with_reducible refine v_wname11 ?_ | with_reducible refine v_name12 ?_ | with_reducible refine v_wname12 ?_ | with_reducible refine v_name13 ?_ | with_reducible refine v_wname13 ?_ | with_reducible refine v_name14 ?_ | with_reducible refine v_wname14 ?_ | with_reducible refine v_name15 ?_ | with_reducible refine v_wname15 ?_ | with_reducible refine v_name16 ?_ | with_reducible refine v_wname16 ?_ | with_reducible refine v_name17 ?_ | with_reducible refine v_wname17 ?_ | with_reducible refine v_name18 ?_ | with_reducible refine v_wname18 ?_ | with_reducible refine v_name19 ?_ | with_reducible refine v_wname19 ?_ | with_reducible refine v_name20 ?_ | with_reducible refine v_wname20 ?_ | with_reducible refine v_name21 ?_ | with_reducible refine v_wname21 ?_ | with_reducible refine v_name22 ?_ | with_reducible refine v_wname22 ?_ | with_reducible refine v_name23 ?_ | with_reducible refine v_wname23 ?_ | with_reducible refine v_name24 ?_ | with_reducible refine v_wname24 ?_ | with_reducible refine v_name25 ?_ | with_reducible refine v_wname25 ?_) | with_reducible refine v_drop ?_ | with_reducible refine v_ret ?_ | with_reducible refine v_ifS ?_ | with_reducible refine v_test ?_ | with_reducible refine v_bl ?_ | with_reducible refine v_const ?_ | with_reducible refine v_op ?_ | with_reducible refine v_cb ?_ | with_reducible refine v_nil ?_ | with_reducible refine v_cons ?_ | with_reducible refine v_fld ?_ | with_reducible refine v_meth ?_ | with_reducible refine v_cal ?_ | with_reducible refine v_call0 ?_ | with_reducible refine v_pos2 ?_ | with_reducible refine v_tt ?_ | with_reducible refine v_ff ?_ | with_reducible refine v_ntt ?_ | with_reducible refine v_nff ?_ | with_reducible refine v_dnot ?_ | with_reducible refine v_dand ?_ | with_reducible refine v_dor ?_ | with_reducible refine v_andV ?_ | with_reducible refine v_orV ?_ | with_reducible refine v_notV ?_ | with_reducible refine v_ifE ?_ | with_reducible refine v_bm0 ?_ | with_reducible refine v_eqS ?_ | with_reducible refine v_eqI ?_ | with_reducible refine v_neS ?_ | with_reducible refine v_neI ?_ | with_reducible refine v_eqB ?_ | with_reducible refine v_neB ?_ | with_reducible refine v_isNn ?_ | with_reducible refine v_isNs ?_ | with_reducible refine v_isNi ?_ | with_reducible refine v_isNt ?_ | with_reducible refine v_notNn ?_ | with_reducible refine v_notNs ?_ | with_reducible refine v_notNi ?_ | with_reducible refine v_notNt ?_ | with_reducible refine v_isN ?_ | with_reducible refine v_notN ?_ | with_reducible refine v_lt ?_ | with_reducible refine v_le ?_ | with_reducible refine v_gt ?_ | with_reducible refine v_ge ?_ | with_reducible refine v_addI ?_ | with_reducible refine v_subI ?_ | with_reducible refine v_lenT ?_ | with_reducible refine v_lenL ?_ | with_reducible refine v_chain ?_ | with_reducible refine v_un ?_ | with_reducible refine v_tup ?_ | with_reducible refine v_lst ?_ | with_reducible refine v_lstC ?_ | with_reducible refine v_gsub ?_ | with_reducible refine v_rng1 ?_ | with_reducible refine v_rng2 ?_ | with_reducible refine v_slice ?_ | with_reducible refine v_nopart ?_ | with_reducible refine v_part ?_ | with_reducible refine v_partI ?_ | with_reducible refine v_slT ?_ | with_reducible refine v_slL ?_ | with_reducible refine v_rev ?_ | with_reducible refine v_revO ?_ | with_reducible refine v_enumS ?_ | with_reducible refine v_enumL ?_ | with_reducible refine v_enumT ?_ | with_reducible refine v_zipS ?_ | with_reducible refine v_revL ?_ | with_reducible refine v_revT ?_ | with_reducible refine v_putT ?_ | with_reducible refine v_putK ?_ | with_reducible refine v_inT ?_ | with_reducible refine v_getT ?_ | with_reducible refine v_get2T ?_ | with_reducible refine v_make ?_ | with_reducible refine v_fldSet ?_ | with_reducible refine v_forL ?_ | with_reducible refine v_forT ?_ | with_reducible refine v_forS ?_ | with_reducible refine v_lstO ?_ | with_reducible refine v_rolO ?_ | with_reducible refine v_tupO ?_ | with_reducible refine v_strO ?_ | with_reducible refine v_listT ?_ | with_reducible refine v_listL ?_ | with_reducible refine v_tupleL ?_ | with_reducible refine v_tupleT ?_ | with_reducible refine v_isiS ?_ | with_reducible refine v_isiT ?_ | with_reducible refine v_isiL ?_ | with_reducible refine v_allM ?_ | with_reducible refine v_anyM ?_ | with_reducible refine v_eqNS ?_ | with_reducible refine v_neNS ?_ | with_reducible refine v_gcons ?_ | with_reducible refine v_gnil ?_ | with_reducible refine v_par2 ?_ | with_reducible refine v_par33 ?_ | with_reducible refine v_retN ?_ | with_reducible refine v_sameS ?_ | with_reducible refine v_sameB ?_ | with_reducible refine v_sameI ?_ | with_reducible refine v_sameN ?_ | with_reducible refine v_sameT ?_ | with_reducible refine v_sameL ?_ | with_reducible refine v_endN ?_ | with_reducible refine v_bm ?_ | with_reducible refine v_tystr ?_ | with_reducible refine v_break ?_ | with_reducible refine v_cont ?_ | ((with_reducible refine v_slS ?_ ?_); sizeOf_list_dec) | ((with_reducible refine v_lenS ?_ ?_); sizeOf_list_dec) | ((with_reducible refine v_addS ?_ ?_); sizeOf_list_dec) | ((with_reducible refine v_addT ?_ ?_); sizeOf_list_dec) | ((with_reducible refine v_addL ?_ ?_); sizeOf_list_dec) | (with_reducible refine v_par _ _ ?_) | (with_reducible refine v_par3 _ _ _ ?_) | ((with_reducible refine v_gtup ?_ ?_); rfl) | with_reducible refine v_ixT (by with_unfolding_all rfl) ?_ | with_reducible refine v_ixL (by with_unfolding_all rfl) ?_ | with_reducible refine v_ixR (by with_unfolding_all rfl) ?_ | ((with_reducible refine v_ixS ?_ (by with_unfolding_all rfl) ?_); sizeOf_list_dec) | ((with_reducible refine And.intro ?_ ?_); sizeOf_list_dec) | with_reducible refine v_dt (by first | assumption | with_unfolding_all rfl | omega | (simp only [List.length_map, List.length_append, List.length_cons, List.length_nil, List.length_reverse, txts_lenG]; first | done | omega)) ?_ | with_reducible refine v_ndt (by first | assumption | with_unfolding_all rfl | omega | (simp only [List.length_map, List.length_append, List.length_cons, List.length_nil, List.length_reverse, txts_lenG]; first | done | omega)) ?_ | with_reducible refine v_df (by first | assumption | omega | (with_unfolding_all decide) | (simp only [List.length_map, List.length_append, List.length_cons, List.length_nil, List.length_reverse, txts_lenG]; first | done | omega)) ?_ | with_reducible refine v_ndf (by first | assumption | omega | (with_unfolding_all decide) | (simp only [List.length_map, List.length_append, List.length_cons, List.length_nil, List.length_reverse, txts_lenG]; first | done | omega)) ?_ | decreasing_trivial_pre_omega | ((with_reducible refine v_isname ?_); dsimp only [wipeD, List.set]) | ((with_reducible refine v_isvar ?_); dsimp only [wipeD, List.set]))
local macro_rules | `(tactic| array_mem_dec) => `(tactic| repeat array_get_dec)
local macro_rules | `(tactic| bv_omega) => `(tactic| repeat' (first | array_get_dec | with_reducible refine ite_d (fun _ => ?_) (fun _ => ?_) | with_reducible refine ite_nd (fun _ => ?_) (fun _ => ?_) | with_reducible refine ite_b (fun _ => ?_) (fun _ => ?_) | with_reducible refine ite_nb (fun _ => ?_) (fun _ => ?_)))
local macro_rules | `(tactic| decreasing_trivial_pre_omega) => `(tactic| with_reducible refine kz_name ?_)
local macro_rules | `(tactic| decreasing_trivial_pre_omega) => `(tactic| with_reducible refine kz_family ?_)
local macro_rules | `(tactic| decreasing_trivial_pre_omega) => `(tactic| with_reducible refine kz_marks ?_)
local macro_rules | `(tactic| decreasing_trivial_pre_omega) => `(tactic| with_reducible refine kz_yes ?_)
local macro_rules | `(tactic| decreasing_trivial_pre_omega) => `(tactic| with_reducible refine kz_no ?_)
local macro_rules | `(tactic| decreasing_trivial_pre_omega) => `(tactic| with_reducible refine kz_digits ?_)
local macro_rules | `(tactic| decreasing_trivial_pre_omega) => `(tactic| with_reducible refine kz_point ?_)
local macro_rules | `(tactic| decreasing_trivial_pre_omega) => `(tactic| with_reducible refine kz_keep ?_)
/-! ### levels; kinds, books, levels compared -/
local macro_rules | `(tactic| decreasing_trivial_pre_omega) => `(tactic| with_reducible refine v_lenSet ?_)
theorem isi_yes {C : Cl} {Q : DQ} {x : D} {c : String} {cs : List String} {fs : List (Str × D)} (h : insOf C x = some (c, fs)) (hc : c ∈ cs) (q : Q (.bl true) C) : rIsiO c cs [x, .cls c] C Q :=
  ⟨x, rfl, .inr ⟨c, fs, h, hc, by rw [beq_self_eq_true]; exact q⟩⟩
/-! the parts of a kind -/
def partsD (k : KindR) : D := .tup [.str k.name, .str k.fam, .tup (txts k.marks), .tup (txts k.yes), .tup (txts k.no), optN k.digits, .bl k.point, .str k.signs, .bl k.zeros, optN k.keep, .int k.shown]
/-- texts whose signs are characters -/
structure SmK (k : KindR) : Prop where
  nm : small k.name = true
  fm : small k.fam = true
  mk' : ∀ l ∈ k.marks, small l = true
  ys : ∀ l ∈ k.yes, small l = true
  ns : ∀ l ∈ k.no, small l = true
  sg : small k.signs = true
theorem SmK.sh {k : KindR} (h : SmK k) : Sh 2 (partsD k) := by
  have sO : ∀ (n : Nat) (o : Option Nat), Sh n (optN o) := fun n o => by cases o <;> first | exact sh_non | exact sh_int
  exact sh_tup (sh_cons (sh_str h.nm) (sh_cons (sh_str h.fm) (sh_cons (sh_tup (sh_txts h.mk')) (sh_cons (sh_tup (sh_txts h.ys)) (sh_cons (sh_tup (sh_txts h.ns)) (sh_cons (sO _ _) (sh_cons sh_bl (sh_cons (sh_str h.sg) (sh_cons sh_bl (sh_cons (sO _ _) (sh_cons sh_int sh_nil)))))))))))
theorem small_ok {l : List Nat} (h : isText l = true) : small l = true := by
  unfold isText at h; unfold small
  rw [List.all_eq_true] at h ⊢
  intro c hc
  have := h c hc
  unfold okSign at this
  simp only [Bool.and_eq_true, decide_eq_true_eq] at this ⊢
  omega
local macro_rules | `(tactic| decreasing_trivial_pre_omega) => `(tactic| with_reducible refine kz_parts ?_)
/-! books compared -/
section
variable {ks : List KindR} {trs : List T3} {C : Cl} {Q : D → Prop}
end
local macro_rules | `(tactic| decreasing_trivial_pre_omega) => `(tactic| with_reducible refine bz_kinds ?_)
local macro_rules | `(tactic| decreasing_trivial_pre_omega) => `(tactic| with_reducible refine bz_spare ?_)
local macro_rules | `(tactic| decreasing_trivial_pre_omega) => `(tactic| with_reducible refine bz_joined ?_)
local macro_rules | `(tactic| decreasing_trivial_pre_omega) => `(tactic| with_reducible refine bz_mark ?_)
local macro_rules | `(tactic| decreasing_trivial_pre_omega) => `(tactic| with_reducible refine bz_meth (by decide) ?_)
/-! two kinds of one object are one kind -/
/-! levels -/
section
variable {ks : List KindR} {trs : List T3} {k : KindR} {C : Cl} {Q : D → Prop}
end
local macro_rules | `(tactic| decreasing_trivial_pre_omega) => `(tactic| with_reducible refine lz_book ?_)
local macro_rules | `(tactic| decreasing_trivial_pre_omega) => `(tactic| with_reducible refine lz_name ?_)
local macro_rules | `(tactic| decreasing_trivial_pre_omega) => `(tactic| with_reducible refine lz_kind ?_)
/-- the first kind that takes a text -/
def ownK (ks : List KindR) (l : List Nat) : Option KindR := ks.find? fun k => takes k l
end G
namespace G
open PySem PySem.Spec PyProof.Rows L2
local macro_rules | `(tactic| sizeOf_list_dec) => `(tactic| exact szl (by first | omega | (simp only [List.length_append, List.length_cons, List.length_nil, List.length_map, List.length_reverse, List.length_singleton, txts_lenG]; omega) | (simp only [List.length_append, List.length_cons, List.length_nil, List.length_map, List.length_reverse, txts_lenG]; omega)))
local macro_rules | `(tactic| array_get_dec) => `(tactic| first | with_reducible refine v_seq ?_ | with_reducible refine v_next ?_ | with_reducible refine v_asg ?_ | (with_reducible refine v_isvar ?_; first | with_reducible refine v_var0 ?_ | with_reducible refine v_var1 ?_ | with_reducible refine v_var2 ?_ | with_reducible refine v_var3 ?_ | with_reducible refine v_var4 ?_ | with_reducible refine v_var5 ?_ | with_reducible refine v_var6 ?_ | with_reducible refine v_var7 ?_ | with_reducible refine v_var8 ?_ | with_reducible refine v_var9 ?_ | with_reducible refine v_var10 ?_ | with_reducible refine v_var11 ?_ | with_reducible refine v_var12 ?_ | with_reducible refine v_var13 ?_ | with_reducible refine v_var14 ?_ | with_reducible refine v_var15 ?_ | with_reducible refine v_var16 ?_ | with_reducible refine v_var17 ?_ | with_reducible refine v_var18 ?_ | with_reducible refine v_var19 ?_ | with_reducible refine v_var20 ?_ | with_reducible refine v_var21 ?_ | with_reducible refine v_var22 ?_ | with_reducible refine v_var23 ?_ | with_reducible refine v_var24 ?_ | with_reducible refine v_var25 ?_) | (with_reducible refine v_isname ?_; first | with_reducible refine v_name0 ?_ | with_reducible refine v_wname0 ?_ | with_reducible refine v_name1 ?_ | with_reducible refine v_wname1 ?_ | with_reducible refine v_name2 ?_ | with_reducible refine v_wname2 ?_ | with_reducible refine v_name3 ?_ | with_reducible refine v_wname3 ?_ | with_reducible refine v_name4 ?_ | with_reducible refine v_wname4 ?_ | with_reducible refine v_name5 ?_ | with_reducible refine v_wname5 ?_ | with_reducible refine v_name6 ?_ | with_reducible refine v_wname6 ?_ | with_reducible refine v_name7 ?_ | with_reducible refine v_wname7 ?_ | with_reducible refine v_name8 ?_ | with_reducible refine v_wname8 ?_ | with_reducible refine v_name9 ?_ | with_reducible refine v_wname9 ?_ | with_reducible refine v_name10 ?_ | with_reducible refine v_wname10 ?_ | with_reducible refine v_name11 ?_ | with_reducible refine v_wname11 ?_ | with_reducible refine v_name12 ?_ | with_reducible refine v_wname12 ?_ | with_reducible refine v_name13 ?_ | with_reducible refine v_wname13 ?_ | with_reducible refine v_name14 ?_ | with_reducible refine v_wname14 ?_ | with_reducible refine v_name15 ?_ | with_reducible refine v_wname15 ?_ | with_reducible refine v_name16 ?_ | with_reducible refine v_wname16 ?_ | with_reducible refine v_name17 ?_ | with_reducible refine v_wname17 ?_ | with_reducible refine v_name18 ?_ | with_reducible refine v_wname18 ?_ | with_reducible refine v_name19 ?_ | with_reducible refine v_wname19 ?_ | with_reducible refine v_name20 ?_ | with_reducible refine v_wname20 ?_ | with_reducible refine v_name21 ?_ | with_reducible refine v_wname21 ?_ | with_reducible refine v_name22 ?_ | with_reducible refine v_wname22 ?_ | with_reducible refine v_name23 ?_ | with_reducible refine v_wname23 ?_ | with_reducible refine v_name24 ?_ | with_reducible refine v_wname24 ?_ | with_reducible refine v_name25 ?_ | with_reducible refine v_wname25 ?_) | with_reducible refine v_drop ?_ | with_reducible refine v_ret ?_ | with_reducible refine v_ifS ?_ | with_reducible refine v_test ?_ | with_reducible refine v_bl ?_ | with_reducible refine v_const ?_ | with_reducible refine v_op ?_ | with_reducible refine v_cb ?_ | with_reducible refine v_nil ?_ | with_reducible refine v_cons ?_ | with_reducible refine v_fld ?_ | with_reducible refine v_meth ?_ | with_reducible refine v_cal ?_ | with_reducible refine v_call0 ?_ | with_reducible refine v_pos2 ?_ | with_reducible refine v_tt ?_ | with_reducible refine v_ff ?_ | with_reducible refine v_ntt ?_ | with_reducible refine v_nff ?_ | with_reducible refine v_dnot ?_ | with_reducible refine v_dand ?_ | with_reducible refine v_dor ?_ | with_reducible refine v_andV ?_ | with_reducible refine v_orV ?_ | with_reducible refine v_notV ?_ | with_reducible refine v_ifE ?_ | with_reducible refine v_bm0 ?_ | with_reducible refine v_eqS ?_ | with_reducible refine v_eqI ?_ | with_reducible refine v_neS ?_ | with_reducible refine v_neI ?_ | with_reducible refine v_eqB ?_ | with_reducible refine v_neB ?_ | with_reducible refine v_isNn ?_ | with_reducible refine v_isNs ?_ | with_reducible refine v_isNi ?_ | with_reducible refine v_isNt ?_ | with_reducible refine v_notNn ?_ | with_reducible refine v_notNs ?_ | with_reducible refine v_notNi ?_ | with_reducible refine v_notNt ?_ | with_reducible refine v_isN ?_ | with_reducible refine v_notN ?_ | with_reducible refine v_lt ?_ | with_reducible refine v_le ?_ | with_reducible refine v_gt ?_ | with_reducible refine v_ge ?_ | with_reducible refine v_addI ?_ | with_reducible refine v_subI ?_ | with_reducible refine v_lenT ?_ | with_reducible refine v_lenL ?_ | with_reducible refine v_chain ?_ | with_reducible refine v_un ?_ | with_reducible refine v_tup ?_ | with_reducible refine v_lst ?_ | with_reducible refine v_lstC ?_ | with_reducible refine v_gsub ?_ | with_reducible refine v_rng1 ?_ | with_reducible refine v_rng2 ?_ | with_reducible refine v_slice ?_ | with_reducible refine v_nopart ?_ | with_reducible refine v_part ?_ | with_reducible refine v_partI ?_ | with_reducible refine v_slT ?_ | with_reducible refine v_slL ?_ | with_reducible refine v_rev ?_ | with_reducible refine v_revO ?_ | with_reducible refine v_enumS ?_ | with_reducible refine v_enumL ?_ | with_reducible refine v_enumT ?_ | with_reducible refine v_zipS ?_ | with_reducible refine v_revL ?_ | with_reducible refine v_revT ?_ | with_reducible refine v_putT ?_ | with_reducible refine v_putK ?_ | with_reducible refine v_inT ?_ | with_reducible refine v_getT ?_ | with_reducible refine v_get2T ?_ | with_reducible refine v_make ?_ | with_reducible refine v_fldSet ?_ | with_reducible refine v_forL ?_ | with_reducible refine v_forT ?_ | with_reducible refine v_forS ?_ | with_reducible refine v_lstO ?_ | with_reducible refine v_rolO ?_ | with_reducible refine v_tupO ?_ | with_reducible refine v_strO ?_ | with_reducible refine v_listT ?_ | with_reducible refine v_listL ?_ | with_reducible refine v_tupleL ?_ | with_reducible refine v_tupleT ?_ | with_reducible refine v_isiS ?_ | with_reducible refine v_isiT ?_ | with_reducible refine v_isiL ?_ | with_reducible refine v_allM ?_ | with_reducible refine v_anyM ?_ | with_reducible refine v_eqNS ?_ | with_reducible refine v_neNS ?_ | with_reducible refine v_gcons ?_ | with_reducible refine v_gnil ?_ | with_reducible refine v_par2 ?_ | with_reducible refine v_par33 ?_ | with_reducible refine v_retN ?_ | with_reducible refine v_sameS ?_ | with_reducible refine v_sameB ?_ | with_reducible refine v_sameI ?_ | with_reducible refine v_sameN ?_ | with_reducible refine v_sameT ?_ | with_reducible refine v_sameL ?_ | with_reducible refine v_endN ?_ | with_reducible refine v_bm ?_ | with_reducible refine v_tystr ?_ | with_reducible refine v_break ?_ | with_reducible refine v_cont ?_ | ((with_reducible refine v_slS ?_ ?_); sizeOf_list_dec) | ((with_reducible refine v_lenS ?_ ?_); sizeOf_list_dec) | ((with_reducible refine v_addS ?_ ?_); sizeOf_list_dec) | ((with_reducible refine v_addT ?_ ?_); sizeOf_list_dec) | ((with_reducible refine v_addL ?_ ?_); sizeOf_list_dec) | (with_reducible refine v_par _ _ ?_) | (with_reducible refine v_par3 _ _ _ ?_) | ((with_reducible refine v_gtup ?_ ?_); rfl) | with_reducible refine v_ixT (by with_unfolding_all rfl) ?_ | with_reducible refine v_ixL (by with_unfolding_all rfl) ?_ | with_reducible refine v_ixR (by with_unfolding_all rfl) ?_ | ((with_reducible refine v_ixS ?_ (by with_unfolding_all rfl) ?_); sizeOf_list_dec) | ((with_reducible refine And.intro ?_ ?_); sizeOf_list_dec) | with_reducible refine v_dt (by first | assumption | with_unfolding_all rfl | omega | (simp only [List.length_map, List.length_append, List.length_cons, List.length_nil, List.length_reverse, txts_lenG]; first | done | omega)) ?_ | with_reducible refine v_ndt (by first | assumption | with_unfolding_all rfl | omega | (simp only [List.length_map, List.length_append, List.length_cons, List.length_nil, List.length_reverse, txts_lenG]; first | done | omega)) ?_ | with_reducible refine v_df (by first | assumption | omega | (with_unfolding_all decide) | (simp only [List.length_map, List.length_append, List.length_cons, List.length_nil, List.length_reverse, txts_lenG]; first | done | omega)) ?_ | with_reducible refine v_ndf (by first | assumption | omega | (with_unfolding_all decide) | (simp only [List.length_map, List.length_append, List.length_cons, List.length_nil, List.length_reverse, txts_lenG]; first | done | omega)) ?_ | decreasing_trivial_pre_omega | ((with_reducible refine v_isname ?_); dsimp only [wipeD, List.set]) | ((with_reducible refine v_isvar ?_); dsimp only [wipeD, List.set]))
local macro_rules | `(tactic| array_mem_dec) => `(tactic| repeat array_get_dec)
local macro_rules | `(tactic| bv_omega) => `(tactic| repeat' (first | array_get_dec | with_reducible refine ite_d (fun _ => ?_) (fun _ => ?_) | with_reducible refine ite_nd (fun _ => ?_) (fun _ => ?_) | with_reducible refine ite_b (fun _ => ?_) (fun _ => ?_) | with_reducible refine ite_nb (fun _ => ?_) (fun _ => ?_)))
local macro_rules | `(tactic| decreasing_trivial_pre_omega) => `(tactic| with_reducible refine kz_name ?_)
local macro_rules | `(tactic| decreasing_trivial_pre_omega) => `(tactic| with_reducible refine kz_family ?_)
local macro_rules | `(tactic| decreasing_trivial_pre_omega) => `(tactic| with_reducible refine kz_marks ?_)
local macro_rules | `(tactic| decreasing_trivial_pre_omega) => `(tactic| with_reducible refine kz_yes ?_)
local macro_rules | `(tactic| decreasing_trivial_pre_omega) => `(tactic| with_reducible refine kz_no ?_)
local macro_rules | `(tactic| decreasing_trivial_pre_omega) => `(tactic| with_reducible refine kz_digits ?_)
local macro_rules | `(tactic| decreasing_trivial_pre_omega) => `(tactic| with_reducible refine kz_point ?_)
local macro_rules | `(tactic| decreasing_trivial_pre_omega) => `(tactic| with_reducible refine kz_keep ?_)
local macro_rules | `(tactic| decreasing_trivial_pre_omega) => `(tactic| with_reducible refine v_lenSet ?_)
local macro_rules | `(tactic| decreasing_trivial_pre_omega) => `(tactic| with_reducible refine kz_parts ?_)
local macro_rules | `(tactic| decreasing_trivial_pre_omega) => `(tactic| with_reducible refine bz_kinds ?_)
local macro_rules | `(tactic| decreasing_trivial_pre_omega) => `(tactic| with_reducible refine bz_spare ?_)
local macro_rules | `(tactic| decreasing_trivial_pre_omega) => `(tactic| with_reducible refine bz_joined ?_)
local macro_rules | `(tactic| decreasing_trivial_pre_omega) => `(tactic| with_reducible refine bz_mark ?_)
local macro_rules | `(tactic| decreasing_trivial_pre_omega) => `(tactic| with_reducible refine bz_meth (by decide) ?_)
local macro_rules | `(tactic| decreasing_trivial_pre_omega) => `(tactic| with_reducible refine lz_book ?_)
local macro_rules | `(tactic| decreasing_trivial_pre_omega) => `(tactic| with_reducible refine lz_name ?_)
local macro_rules | `(tactic| decreasing_trivial_pre_omega) => `(tactic| with_reducible refine lz_kind ?_)
/-! ### kinds of a book, drawn -/
structure OkS (ks : List KindR) (L : Nat) : Prop where
  good : ∀ k ∈ ks, GoodK (optD k) k
  txt : ∀ k ∈ ks, ∀ t ∈ k.marks ++ k.yes ++ k.no, isText t = true ∧ t.length ≤ 230
  nd : (namesK ks).Nodup
  has : ∃ k ∈ ks, k.fam = famText
  dg : ∀ k ∈ ks, ∀ d, k.digits = some d → d ≤ L
  key : ∀ k ∈ ks, keyed k.name
  dr : ∀ k ∈ ks, DrawnQ k
  nq : NoQs (namesK ks)
end G
namespace G
open PySem PySem.Spec PyProof.Rows L2
/-! ### own [], instances left alone -/
section
variable {X : Cx} {cl : NmB} {CX : CXT} {k : Nat} {g : Addr} {sp : DSp2} {c : String}
theorem de_ixO {a b : Expr} {ta tb : DE} {pos : Pos} (fc : Cee X.prog X.w X.K cl X.mg X.base CX k g [] sp) (hr : Room (k + 1) X.A) (hx : Passes CX X E0) (S : Spc X.K cl c "__getitem__" g) (hf : PySem.W.fnIn X.K g = true)
    (ha : PEd X cl a ta) (hb : PEd X cl b tb) (hs : ∀ x i, subscripted b true x i = runValue (.builtin "lifetime.subscript" ⟨[x, i], []⟩) := by intro _ _; rfl) : PEd X cl (.Subscript a b pos) (dOp (rIxO c sp) ta tb) :=
  weakE (t := tOp (lowR X.K cl (rIxO c sp)) (lowE X.K cl ta) (lowE X.K cl tb)) ⟨fun pins s σ H Q I h => Subscript_ (binT ha hb I h fun v u s2 x y H2 I2 rx ry q => ix_okO fc hr hx S hf hs pins s2 σ H2 x y v u Q I2 rx ry q)⟩ fun _ _ _ h => low_op h
end
/-! ### in a dict, as a test -/
section
variable {X : Cx} {cl : NmB} {o i e f : Expr} {es : List Expr} {to tk tv tx : DE} {t : DA} {pos pos' kpos apos cpos : Pos} {kk : Nat} {n : Nat}
theorem dt_inK (hr : Room n X.A) (hi : PEd X cl i tk) (ho : PEd X cl o to) (hm : behindInMarks .In o = false) : PTd X cl (.Compare i [.In] [o] pos) (dTest (dOp rInK tk to)) := by
  refine weakT (pt_cmp (pc_din (hu_of hr.r) hi ho) hm) fun σ H Q hh => ?_
  obtain ⟨ρ, C, F, Qd, R, h, k⟩ := low_test hh
  unfold tB
  refine ⟨ρ, C, F, _, R, h, fun y dy C1 H1 F1 s1 R1 r1 q1 => ?_⟩
  refine ⟨ρ, C1, F1, _, R.next s1 R1, q1, fun x dx C2 H2 F2 s2 R2 r2 ⟨kvs, kc, e1, e2, q⟩ => ?_⟩
  obtain ⟨a, vs, rfl, hd, rk⟩ := dic_ok R2 r2 e1
  rw [key_rep (r1.mono s2) e2]
  refine ⟨a, valV vs kc, rfl, .inl ⟨vs, kc, hd, rfl, rfl⟩, ?_⟩
  rw [repK_some kc rk]
  exact k _ _ C2 H2 F2 (s1.trans s2) R2 (.bl _) q
theorem dt_notinK (hr : Room n X.A) (hi : PEd X cl i tk) (ho : PEd X cl o to) (hm : behindInMarks .NotIn o = false) : PTd X cl (.Compare i [.NotIn] [o] pos) (dTest (dOp rNotInK tk to)) := by
  refine weakT (pt_cmp (pc_dnotin (hu_of hr.r) hi ho) hm) fun σ H Q hh => ?_
  obtain ⟨ρ, C, F, Qd, R, h, k⟩ := low_test hh
  unfold tB
  refine ⟨ρ, C, F, _, R, h, fun y dy C1 H1 F1 s1 R1 r1 q1 => ?_⟩
  refine ⟨ρ, C1, F1, _, R.next s1 R1, q1, fun x dx C2 H2 F2 s2 R2 r2 ⟨kvs, kc, e1, e2, q⟩ => ?_⟩
  obtain ⟨a, vs, rfl, hd, rk⟩ := dic_ok R2 r2 e1
  rw [key_rep (r1.mono s2) e2]
  refine ⟨a, valV vs kc, rfl, .inl ⟨vs, kc, hd, rfl, rfl⟩, ?_⟩
  rw [repK_some kc rk]
  exact k _ _ C2 H2 F2 (s1.trans s2) R2 (.bl _) q
end
end G
namespace G
open PySem PySem.Spec PyProof.Rows L2
local macro_rules | `(tactic| sizeOf_list_dec) => `(tactic| exact szl (by first | omega | (simp only [List.length_append, List.length_cons, List.length_nil, List.length_map, List.length_reverse, List.length_singleton, txts_lenG]; omega) | (simp only [List.length_append, List.length_cons, List.length_nil, List.length_map, List.length_reverse, txts_lenG]; omega)))
local macro_rules | `(tactic| array_get_dec) => `(tactic| first | with_reducible refine v_seq ?_ | with_reducible refine v_next ?_ | with_reducible refine v_asg ?_ | (with_reducible refine v_isvar ?_; first | with_reducible refine v_var0 ?_ | with_reducible refine v_var1 ?_ | with_reducible refine v_var2 ?_ | with_reducible refine v_var3 ?_ | with_reducible refine v_var4 ?_ | with_reducible refine v_var5 ?_ | with_reducible refine v_var6 ?_ | with_reducible refine v_var7 ?_ | with_reducible refine v_var8 ?_ | with_reducible refine v_var9 ?_ | with_reducible refine v_var10 ?_ | with_reducible refine v_var11 ?_ | with_reducible refine v_var12 ?_ | with_reducible refine v_var13 ?_ | with_reducible refine v_var14 ?_ | with_reducible refine v_var15 ?_ | with_reducible refine v_var16 ?_ | with_reducible refine v_var17 ?_ | with_reducible refine v_var18 ?_ | with_reducible refine v_var19 ?_ | with_reducible refine v_var20 ?_ | with_reducible refine v_var21 ?_ | with_reducible refine v_var22 ?_ | with_reducible refine v_var23 ?_ | with_reducible refine v_var24 ?_ | with_reducible refine v_var25 ?_) | (with_reducible refine v_isname ?_; first | with_reducible refine v_name0 ?_ | with_reducible refine v_wname0 ?_ | with_reducible refine v_name1 ?_ | with_reducible refine v_wname1 ?_ | with_reducible refine v_name2 ?_ | with_reducible refine v_wname2 ?_ | with_reducible refine v_name3 ?_ | with_reducible refine v_wname3 ?_ | with_reducible refine v_name4 ?_ | with_reducible refine v_wname4 ?_ | with_reducible refine v_name5 ?_ | with_reducible refine v_wname5 ?_ | with_reducible refine v_name6 ?_ | with_reducible refine v_wname6 ?_ | with_reducible refine v_name7 ?_ | with_reducible refine v_wname7 ?_ | with_reducible refine v_name8 ?_ | with_reducible refine v_wname8 ?_ | with_reducible refine v_name9 ?_ | with_reducible refine v_wname9 ?_ | with_reducible refine v_name10 ?_ | with_reducible refine v_wname10 ?_ | with_reducible refine v_name11 ?_ | with_reducible refine v_wname11 ?_ | with_reducible refine v_name12 ?_ | with_reducible refine v_wname12 ?_ | with_reducible refine v_name13 ?_ | with_reducible refine v_wname13 ?_ | with_reducible refine v_name14 ?_ | with_reducible refine v_wname14 ?_ | with_reducible refine v_name15 ?_ | with_reducible refine v_wname15 ?_ | with_reducible refine v_name16 ?_ | with_reducible refine v_wname16 ?_ | with_reducible refine v_name17 ?_ | with_reducible refine v_wname17 ?_ | with_reducible refine v_name18 ?_ | with_reducible refine v_wname18 ?_ | with_reducible refine v_name19 ?_ | with_reducible refine v_wname19 ?_ | with_reducible refine v_name20 ?_ | with_reducible refine v_wname20 ?_ | with_reducible refine v_name21 ?_ | with_reducible refine v_wname21 ?_ | with_reducible refine v_name22 ?_ | with_reducible refine v_wname22 ?_ | with_reducible refine v_name23 ?_ | with_reducible refine v_wname23 ?_ | with_reducible refine v_name24 ?_ | with_reducible refine v_wname24 ?_ | with_reducible refine v_name25 ?_ | with_reducible refine v_wname25 ?_) | with_reducible refine v_drop ?_ | with_reducible refine v_ret ?_ | with_reducible refine v_ifS ?_ | with_reducible refine v_test ?_ | with_reducible refine v_bl ?_ | with_reducible refine v_const ?_ | with_reducible refine v_op ?_ | with_reducible refine v_cb ?_ | with_reducible refine v_nil ?_ | with_reducible refine v_cons ?_ | with_reducible refine v_fld ?_ | with_reducible refine v_meth ?_ | with_reducible refine v_cal ?_ | with_reducible refine v_call0 ?_ | with_reducible refine v_pos2 ?_ | with_reducible refine v_tt ?_ | with_reducible refine v_ff ?_ | with_reducible refine v_ntt ?_ | with_reducible refine v_nff ?_ | with_reducible refine v_dnot ?_ | with_reducible refine v_dand ?_ | with_reducible refine v_dor ?_ | with_reducible refine v_andV ?_ | with_reducible refine v_orV ?_ | with_reducible refine v_notV ?_ | with_reducible refine v_ifE ?_ | with_reducible refine v_bm0 ?_ | with_reducible refine v_eqS ?_ | with_reducible refine v_eqI ?_ | with_reducible refine v_neS ?_ | with_reducible refine v_neI ?_ | with_reducible refine v_eqB ?_ | with_reducible refine v_neB ?_ | with_reducible refine v_isNn ?_ | with_reducible refine v_isNs ?_ | with_reducible refine v_isNi ?_ | with_reducible refine v_isNt ?_ | with_reducible refine v_notNn ?_ | with_reducible refine v_notNs ?_ | with_reducible refine v_notNi ?_ | with_reducible refine v_notNt ?_ | with_reducible refine v_isN ?_ | with_reducible refine v_notN ?_ | with_reducible refine v_lt ?_ | with_reducible refine v_le ?_ | with_reducible refine v_gt ?_ | with_reducible refine v_ge ?_ | with_reducible refine v_addI ?_ | with_reducible refine v_subI ?_ | with_reducible refine v_lenT ?_ | with_reducible refine v_lenL ?_ | with_reducible refine v_chain ?_ | with_reducible refine v_un ?_ | with_reducible refine v_tup ?_ | with_reducible refine v_lst ?_ | with_reducible refine v_lstC ?_ | with_reducible refine v_gsub ?_ | with_reducible refine v_rng1 ?_ | with_reducible refine v_rng2 ?_ | with_reducible refine v_slice ?_ | with_reducible refine v_nopart ?_ | with_reducible refine v_part ?_ | with_reducible refine v_partI ?_ | with_reducible refine v_slT ?_ | with_reducible refine v_slL ?_ | with_reducible refine v_rev ?_ | with_reducible refine v_revO ?_ | with_reducible refine v_enumS ?_ | with_reducible refine v_enumL ?_ | with_reducible refine v_enumT ?_ | with_reducible refine v_zipS ?_ | with_reducible refine v_revL ?_ | with_reducible refine v_revT ?_ | with_reducible refine v_putT ?_ | with_reducible refine v_putK ?_ | with_reducible refine v_inT ?_ | with_reducible refine v_getT ?_ | with_reducible refine v_get2T ?_ | with_reducible refine v_make ?_ | with_reducible refine v_fldSet ?_ | with_reducible refine v_forL ?_ | with_reducible refine v_forT ?_ | with_reducible refine v_forS ?_ | with_reducible refine v_lstO ?_ | with_reducible refine v_rolO ?_ | with_reducible refine v_tupO ?_ | with_reducible refine v_strO ?_ | with_reducible refine v_listT ?_ | with_reducible refine v_listL ?_ | with_reducible refine v_tupleL ?_ | with_reducible refine v_tupleT ?_ | with_reducible refine v_isiS ?_ | with_reducible refine v_isiT ?_ | with_reducible refine v_isiL ?_ | with_reducible refine v_allM ?_ | with_reducible refine v_anyM ?_ | with_reducible refine v_eqNS ?_ | with_reducible refine v_neNS ?_ | with_reducible refine v_gcons ?_ | with_reducible refine v_gnil ?_ | with_reducible refine v_par2 ?_ | with_reducible refine v_par33 ?_ | with_reducible refine v_retN ?_ | with_reducible refine v_sameS ?_ | with_reducible refine v_sameB ?_ | with_reducible refine v_sameI ?_ | with_reducible refine v_sameN ?_ | with_reducible refine v_sameT ?_ | with_reducible refine v_sameL ?_ | with_reducible refine v_endN ?_ | with_reducible refine v_bm ?_ | with_reducible refine v_tystr ?_ | with_reducible refine v_break ?_ | with_reducible refine v_cont ?_ | ((with_reducible refine v_slS ?_ ?_); sizeOf_list_dec) | ((with_reducible refine v_lenS ?_ ?_); sizeOf_list_dec) | ((with_reducible refine v_addS ?_ ?_); sizeOf_list_dec) | ((with_reducible refine v_addT ?_ ?_); sizeOf_list_dec) | ((with_reducible refine v_addL ?_ ?_); sizeOf_list_dec) | (with_reducible refine v_par _ _ ?_) | (with_reducible refine v_par3 _ _ _ ?_) | ((with_reducible refine v_gtup ?_ ?_); rfl) | with_reducible refine v_ixT (by with_unfolding_all rfl) ?_ | with_reducible refine v_ixL (by with_unfolding_all rfl) ?_ | with_reducible refine v_ixR (by with_unfolding_all rfl) ?_ | ((with_reducible refine v_ixS ?_ (by with_unfolding_all rfl) ?_); sizeOf_list_dec) | ((with_reducible refine And.intro ?_ ?_); sizeOf_list_dec) | with_reducible refine v_dt (by first | assumption | with_unfolding_all rfl | omega | (simp only [List.length_map, List.length_append, List.length_cons, List.length_nil, List.length_reverse, txts_lenG]; first | done | omega)) ?_ | with_reducible refine v_ndt (by first | assumption | with_unfolding_all rfl | omega | (simp only [List.length_map, List.length_append, List.length_cons, List.length_nil, List.length_reverse, txts_lenG]; first | done | omega)) ?_ | with_reducible refine v_df (by first | assumption | omega | (with_unfolding_all decide) | (simp only [List.length_map, List.length_append, List.length_cons, List.length_nil, List.length_reverse, txts_lenG]; first | done | omega)) ?_ | with_reducible refine v_ndf (by first | assumption | omega | (with_unfolding_all decide) | (simp only [List.length_map, List.length_append, List.length_cons, List.length_nil, List.length_reverse, txts_lenG]; first | done | omega)) ?_ | decreasing_trivial_pre_omega | ((with_reducible refine v_isname ?_); dsimp only [wipeD, List.set]) | ((with_reducible refine v_isvar ?_); dsimp only [wipeD, List.set]))
local macro_rules | `(tactic| array_mem_dec) => `(tactic| repeat array_get_dec)
local macro_rules | `(tactic| bv_omega) => `(tactic| repeat' (first | array_get_dec | with_reducible refine ite_d (fun _ => ?_) (fun _ => ?_) | with_reducible refine ite_nd (fun _ => ?_) (fun _ => ?_) | with_reducible refine ite_b (fun _ => ?_) (fun _ => ?_) | with_reducible refine ite_nb (fun _ => ?_) (fun _ => ?_)))
local macro_rules | `(tactic| decreasing_trivial_pre_omega) => `(tactic| with_reducible refine kz_name ?_)
local macro_rules | `(tactic| decreasing_trivial_pre_omega) => `(tactic| with_reducible refine kz_family ?_)
local macro_rules | `(tactic| decreasing_trivial_pre_omega) => `(tactic| with_reducible refine kz_marks ?_)
local macro_rules | `(tactic| decreasing_trivial_pre_omega) => `(tactic| with_reducible refine kz_yes ?_)
local macro_rules | `(tactic| decreasing_trivial_pre_omega) => `(tactic| with_reducible refine kz_no ?_)
local macro_rules | `(tactic| decreasing_trivial_pre_omega) => `(tactic| with_reducible refine kz_digits ?_)
local macro_rules | `(tactic| decreasing_trivial_pre_omega) => `(tactic| with_reducible refine kz_point ?_)
local macro_rules | `(tactic| decreasing_trivial_pre_omega) => `(tactic| with_reducible refine kz_keep ?_)
local macro_rules | `(tactic| decreasing_trivial_pre_omega) => `(tactic| with_reducible refine v_lenSet ?_)
local macro_rules | `(tactic| decreasing_trivial_pre_omega) => `(tactic| with_reducible refine kz_parts ?_)
local macro_rules | `(tactic| decreasing_trivial_pre_omega) => `(tactic| with_reducible refine bz_kinds ?_)
local macro_rules | `(tactic| decreasing_trivial_pre_omega) => `(tactic| with_reducible refine bz_spare ?_)
local macro_rules | `(tactic| decreasing_trivial_pre_omega) => `(tactic| with_reducible refine bz_joined ?_)
local macro_rules | `(tactic| decreasing_trivial_pre_omega) => `(tactic| with_reducible refine bz_mark ?_)
local macro_rules | `(tactic| decreasing_trivial_pre_omega) => `(tactic| with_reducible refine bz_meth (by decide) ?_)
local macro_rules | `(tactic| decreasing_trivial_pre_omega) => `(tactic| with_reducible refine lz_book ?_)
local macro_rules | `(tactic| decreasing_trivial_pre_omega) => `(tactic| with_reducible refine lz_name ?_)
local macro_rules | `(tactic| decreasing_trivial_pre_omega) => `(tactic| with_reducible refine lz_kind ?_)
/-! ### the law of a book's own kinds -/
theorem word_small {l : List Nat} (h : isWord l = true) : small l = true := by
  unfold isWord at h
  rw [Bool.and_eq_true] at h
  have h3 := h.2
  unfold small
  rw [List.all_eq_true] at h3 ⊢
  intro c hc
  have low : ∀ c ∈ letters, c < 1114112 := by decide
  exact decide_eq_true (low c (of_decide_eq_true (h3 c hc)))
theorem good_small {k : KindR} {o : D} (g : GoodK o k) : SmK k := by
  have ts : ∀ {ls : List (List Nat)} {m : Nat}, areTexts ls m = true → ∀ l ∈ ls, small l = true := fun h l hl => small_ok (List.all_eq_true.mp (areTexts_len h).2.2.1 l hl)
  cases g with
  | missing hw ha hm => exact ⟨word_small hw, show small famMissing = true by decide, ts ha, nofun, nofun, show small [45] = true by decide⟩
  | truth hw hy hn hd ly ln => exact ⟨word_small hw, show small famTruth = true by decide, nofun, ts hy, ts hn, show small [45] = true by decide⟩
  | text hw => exact ⟨word_small hw, show small famText = true by decide, nofun, nofun, nofun, show small [45] = true by decide⟩
  | number hw gn ho => exact ⟨word_small hw, by rw [gn.fam]; decide, by rw [gn.marks]; exact nofun, by rw [gn.yes]; exact nofun, by rw [gn.no]; exact nofun, by rcases gn.signs with e | e | e <;> rw [e] <;> decide⟩
theorem wd_len {l : List Nat} (h : isWord l = true) : 1 ≤ l.length ∧ l.length ≤ 8 := by
  unfold isWord at h
  rw [Bool.and_eq_true] at h
  exact of_decide_eq_true h.1
theorem OkS.sm {ks : List KindR} {L : Nat} (h : OkS ks L) : ∀ k ∈ ks, SmK k := fun k hk => good_small (h.good k hk)
/-- a text has a kind -/
theorem OkS.own {ks : List KindR} {L : Nat} (h : OkS ks L) {l : List Nat} (hl : isText l = true) : ∃ k, ownK ks l = some k := by
  unfold ownK
  rw [← Option.isSome_iff_exists, List.find?_isSome]
  obtain ⟨k, hk, e⟩ := h.has
  refine ⟨k, hk, ?_⟩
  unfold takes
  rw [e, if_neg (by decide), if_neg (by decide), if_pos rfl]
  exact hl
end G
namespace G
open PySem PySem.Spec PyProof.Rows L2
local macro_rules | `(tactic| sizeOf_list_dec) => `(tactic| exact szl (by first | omega | (simp only [List.length_append, List.length_cons, List.length_nil, List.length_map, List.length_reverse, List.length_singleton, txts_lenG]; omega) | (simp only [List.length_append, List.length_cons, List.length_nil, List.length_map, List.length_reverse, txts_lenG]; omega)))
local macro_rules | `(tactic| array_get_dec) => `(tactic| first | with_reducible refine v_seq ?_ | with_reducible refine v_next ?_ | with_reducible refine v_asg ?_ | (with_reducible refine v_isvar ?_; first | with_reducible refine v_var0 ?_ | with_reducible refine v_var1 ?_ | with_reducible refine v_var2 ?_ | with_reducible refine v_var3 ?_ | with_reducible refine v_var4 ?_ | with_reducible refine v_var5 ?_ | with_reducible refine v_var6 ?_ | with_reducible refine v_var7 ?_ | with_reducible refine v_var8 ?_ | with_reducible refine v_var9 ?_ | with_reducible refine v_var10 ?_ | with_reducible refine v_var11 ?_ | with_reducible refine v_var12 ?_ | with_reducible refine v_var13 ?_ | with_reducible refine v_var14 ?_ | with_reducible refine v_var15 ?_ | with_reducible refine v_var16 ?_ | with_reducible refine v_var17 ?_ | with_reducible refine v_var18 ?_ | with_reducible refine v_var19 ?_ | with_reducible refine v_var20 ?_ | with_reducible refine v_var21 ?_ | with_reducible refine v_var22 ?_ | with_reducible refine v_var23 ?_ | with_reducible refine v_var24 ?_ | with_reducible refine v_var25 ?_) | (with_reducible refine v_isname ?_; first | with_reducible refine v_name0 ?_ | with_reducible refine v_wname0 ?_ | with_reducible refine v_name1 ?_ | with_reducible refine v_wname1 ?_ | with_reducible refine v_name2 ?_ | with_reducible refine v_wname2 ?_ | with_reducible refine v_name3 ?_ | with_reducible refine v_wname3 ?_ | with_reducible refine v_name4 ?_ | with_reducible refine v_wname4 ?_ | with_reducible refine v_name5 ?_ | with_reducible refine v_wname5 ?_ | with_reducible refine v_name6 ?_ | with_reducible refine v_wname6 ?_ | with_reducible refine v_name7 ?_ | with_reducible refine v_wname7 ?_ | with_reducible refine v_name8 ?_ | with_reducible refine v_wname8 ?_ | with_reducible refine v_name9 ?_ | with_reducible refine v_wname9 ?_ | with_reducible refine v_name10 ?_ | with_reducible refine v_wname10 ?_ | with_reducible refine v_name11 ?_ | with_reducible refine v_wname11 ?_ | with_reducible refine v_name12 ?_ | with_reducible refine v_wname12 ?_ | with_reducible refine v_name13 ?_ | with_reducible refine v_wname13 ?_ | with_reducible refine v_name14 ?_ | with_reducible refine v_wname14 ?_ | with_reducible refine v_name15 ?_ | with_reducible refine v_wname15 ?_ | with_reducible refine v_name16 ?_ | with_reducible refine v_wname16 ?_ | with_reducible refine v_name17 ?_ | with_reducible refine v_wname17 ?_ | with_reducible refine v_name18 ?_ | with_reducible refine v_wname18 ?_ | with_reducible refine v_name19 ?_ | with_reducible refine v_wname19 ?_ | with_reducible refine v_name20 ?_ | with_reducible refine v_wname20 ?_ | with_reducible refine v_name21 ?_ | with_reducible refine v_wname21 ?_ | with_reducible refine v_name22 ?_ | with_reducible refine v_wname22 ?_ | with_reducible refine v_name23 ?_ | with_reducible refine v_wname23 ?_ | with_reducible refine v_name24 ?_ | with_reducible refine v_wname24 ?_ | with_reducible refine v_name25 ?_ | with_reducible refine v_wname25 ?_) | with_reducible refine v_drop ?_ | with_reducible refine v_ret ?_ | with_reducible refine v_ifS ?_ | with_reducible refine v_test ?_ | with_reducible refine v_bl ?_ | with_reducible refine v_const ?_ | with_reducible refine v_op ?_ | with_reducible refine v_cb ?_ | with_reducible refine v_nil ?_ | with_reducible refine v_cons ?_ | with_reducible refine v_fld ?_ | with_reducible refine v_meth ?_ | with_reducible refine v_cal ?_ | with_reducible refine v_call0 ?_ | with_reducible refine v_pos2 ?_ | with_reducible refine v_tt ?_ | with_reducible refine v_ff ?_ | with_reducible refine v_ntt ?_ | with_reducible refine v_nff ?_ | with_reducible refine v_dnot ?_ | with_reducible refine v_dand ?_ | with_reducible refine v_dor ?_ | with_reducible refine v_andV ?_ | with_reducible refine v_orV ?_ | with_reducible refine v_notV ?_ | with_reducible refine v_ifE ?_ | with_reducible refine v_bm0 ?_ | with_reducible refine v_eqS ?_ | with_reducible refine v_eqI ?_ | with_reducible refine v_neS ?_ | with_reducible refine v_neI ?_ | with_reducible refine v_eqB ?_ | with_reducible refine v_neB ?_ | with_reducible refine v_isNn ?_ | with_reducible refine v_isNs ?_ | with_reducible refine v_isNi ?_ | with_reducible refine v_isNt ?_ | with_reducible refine v_notNn ?_ | with_reducible refine v_notNs ?_ | with_reducible refine v_notNi ?_ | with_reducible refine v_notNt ?_ | with_reducible refine v_isN ?_ | with_reducible refine v_notN ?_ | with_reducible refine v_lt ?_ | with_reducible refine v_le ?_ | with_reducible refine v_gt ?_ | with_reducible refine v_ge ?_ | with_reducible refine v_addI ?_ | with_reducible refine v_subI ?_ | with_reducible refine v_lenT ?_ | with_reducible refine v_lenL ?_ | with_reducible refine v_chain ?_ | with_reducible refine v_un ?_ | with_reducible refine v_tup ?_ | with_reducible refine v_lst ?_ | with_reducible refine v_lstC ?_ | with_reducible refine v_gsub ?_ | with_reducible refine v_rng1 ?_ | with_reducible refine v_rng2 ?_ | with_reducible refine v_slice ?_ | with_reducible refine v_nopart ?_ | with_reducible refine v_part ?_ | with_reducible refine v_partI ?_ | with_reducible refine v_slT ?_ | with_reducible refine v_slL ?_ | with_reducible refine v_rev ?_ | with_reducible refine v_revO ?_ | with_reducible refine v_enumS ?_ | with_reducible refine v_enumL ?_ | with_reducible refine v_enumT ?_ | with_reducible refine v_zipS ?_ | with_reducible refine v_revL ?_ | with_reducible refine v_revT ?_ | with_reducible refine v_putT ?_ | with_reducible refine v_putK ?_ | with_reducible refine v_inT ?_ | with_reducible refine v_getT ?_ | with_reducible refine v_get2T ?_ | with_reducible refine v_make ?_ | with_reducible refine v_fldSet ?_ | with_reducible refine v_forL ?_ | with_reducible refine v_forT ?_ | with_reducible refine v_forS ?_ | with_reducible refine v_lstO ?_ | with_reducible refine v_rolO ?_ | with_reducible refine v_tupO ?_ | with_reducible refine v_strO ?_ | with_reducible refine v_listT ?_ | with_reducible refine v_listL ?_ | with_reducible refine v_tupleL ?_ | with_reducible refine v_tupleT ?_ | with_reducible refine v_isiS ?_ | with_reducible refine v_isiT ?_ | with_reducible refine v_isiL ?_ | with_reducible refine v_allM ?_ | with_reducible refine v_anyM ?_ | with_reducible refine v_eqNS ?_ | with_reducible refine v_neNS ?_ | with_reducible refine v_gcons ?_ | with_reducible refine v_gnil ?_ | with_reducible refine v_par2 ?_ | with_reducible refine v_par33 ?_ | with_reducible refine v_retN ?_ | with_reducible refine v_sameS ?_ | with_reducible refine v_sameB ?_ | with_reducible refine v_sameI ?_ | with_reducible refine v_sameN ?_ | with_reducible refine v_sameT ?_ | with_reducible refine v_sameL ?_ | with_reducible refine v_endN ?_ | with_reducible refine v_bm ?_ | with_reducible refine v_tystr ?_ | with_reducible refine v_break ?_ | with_reducible refine v_cont ?_ | ((with_reducible refine v_slS ?_ ?_); sizeOf_list_dec) | ((with_reducible refine v_lenS ?_ ?_); sizeOf_list_dec) | ((with_reducible refine v_addS ?_ ?_); sizeOf_list_dec) | ((with_reducible refine v_addT ?_ ?_); sizeOf_list_dec) | ((with_reducible refine v_addL ?_ ?_); sizeOf_list_dec) | (with_reducible refine v_par _ _ ?_) | (with_reducible refine v_par3 _ _ _ ?_) | ((with_reducible refine v_gtup ?_ ?_); rfl) | with_reducible refine v_ixT (by with_unfolding_all rfl) ?_ | with_reducible refine v_ixL (by with_unfolding_all rfl) ?_ | with_reducible refine v_ixR (by with_unfolding_all rfl) ?_ | ((with_reducible refine v_ixS ?_ (by with_unfolding_all rfl) ?_); sizeOf_list_dec) | ((with_reducible refine And.intro ?_ ?_); sizeOf_list_dec) | with_reducible refine v_dt (by first | assumption | with_unfolding_all rfl | omega | (simp only [List.length_map, List.length_append, List.length_cons, List.length_nil, List.length_reverse, txts_lenG]; first | done | omega)) ?_ | with_reducible refine v_ndt (by first | assumption | with_unfolding_all rfl | omega | (simp only [List.length_map, List.length_append, List.length_cons, List.length_nil, List.length_reverse, txts_lenG]; first | done | omega)) ?_ | with_reducible refine v_df (by first | assumption | omega | (with_unfolding_all decide) | (simp only [List.length_map, List.length_append, List.length_cons, List.length_nil, List.length_reverse, txts_lenG]; first | done | omega)) ?_ | with_reducible refine v_ndf (by first | assumption | omega | (with_unfolding_all decide) | (simp only [List.length_map, List.length_append, List.length_cons, List.length_nil, List.length_reverse, txts_lenG]; first | done | omega)) ?_ | decreasing_trivial_pre_omega | ((with_reducible refine v_isname ?_); dsimp only [wipeD, List.set]) | ((with_reducible refine v_isvar ?_); dsimp only [wipeD, List.set]))
local macro_rules | `(tactic| array_mem_dec) => `(tactic| repeat array_get_dec)
local macro_rules | `(tactic| bv_omega) => `(tactic| repeat' (first | array_get_dec | with_reducible refine ite_d (fun _ => ?_) (fun _ => ?_) | with_reducible refine ite_nd (fun _ => ?_) (fun _ => ?_) | with_reducible refine ite_b (fun _ => ?_) (fun _ => ?_) | with_reducible refine ite_nb (fun _ => ?_) (fun _ => ?_)))
local macro_rules | `(tactic| decreasing_trivial_pre_omega) => `(tactic| with_reducible refine kz_name ?_)
local macro_rules | `(tactic| decreasing_trivial_pre_omega) => `(tactic| with_reducible refine kz_family ?_)
local macro_rules | `(tactic| decreasing_trivial_pre_omega) => `(tactic| with_reducible refine kz_marks ?_)
local macro_rules | `(tactic| decreasing_trivial_pre_omega) => `(tactic| with_reducible refine kz_yes ?_)
local macro_rules | `(tactic| decreasing_trivial_pre_omega) => `(tactic| with_reducible refine kz_no ?_)
local macro_rules | `(tactic| decreasing_trivial_pre_omega) => `(tactic| with_reducible refine kz_digits ?_)
local macro_rules | `(tactic| decreasing_trivial_pre_omega) => `(tactic| with_reducible refine kz_point ?_)
local macro_rules | `(tactic| decreasing_trivial_pre_omega) => `(tactic| with_reducible refine kz_keep ?_)
local macro_rules | `(tactic| decreasing_trivial_pre_omega) => `(tactic| with_reducible refine v_lenSet ?_)
local macro_rules | `(tactic| decreasing_trivial_pre_omega) => `(tactic| with_reducible refine kz_parts ?_)
local macro_rules | `(tactic| decreasing_trivial_pre_omega) => `(tactic| with_reducible refine bz_kinds ?_)
local macro_rules | `(tactic| decreasing_trivial_pre_omega) => `(tactic| with_reducible refine bz_spare ?_)
local macro_rules | `(tactic| decreasing_trivial_pre_omega) => `(tactic| with_reducible refine bz_joined ?_)
local macro_rules | `(tactic| decreasing_trivial_pre_omega) => `(tactic| with_reducible refine bz_mark ?_)
local macro_rules | `(tactic| decreasing_trivial_pre_omega) => `(tactic| with_reducible refine bz_meth (by decide) ?_)
local macro_rules | `(tactic| decreasing_trivial_pre_omega) => `(tactic| with_reducible refine lz_book ?_)
local macro_rules | `(tactic| decreasing_trivial_pre_omega) => `(tactic| with_reducible refine lz_name ?_)
local macro_rules | `(tactic| decreasing_trivial_pre_omega) => `(tactic| with_reducible refine lz_kind ?_)
/-! ### levels joined -/
local macro_rules | `(tactic| decreasing_trivial_pre_omega) => `(tactic| with_reducible refine v_intO ?_)
local macro_rules | `(tactic| decreasing_trivial_pre_omega) => `(tactic| with_reducible refine v_gh ?_)
section
variable {k : KindR} {C : Cl} {Q : DQ}
end
local macro_rules | `(tactic| decreasing_trivial_pre_omega) => `(tactic| with_reducible refine v_sp0 ?_)
local macro_rules | `(tactic| decreasing_trivial_pre_omega) => `(tactic| with_reducible refine v_sp1 ?_)
local macro_rules | `(tactic| decreasing_trivial_pre_omega) => `(tactic| with_reducible refine v_sp2 ?_)
local macro_rules | `(tactic| decreasing_trivial_pre_omega) => `(tactic| with_reducible refine v_sp3 ?_)
local macro_rules | `(tactic| decreasing_trivial_pre_omega) => `(tactic| with_reducible refine v_sp4 ?_)
local macro_rules | `(tactic| decreasing_trivial_pre_omega) => `(tactic| with_reducible refine v_sp5 ?_)
local macro_rules | `(tactic| decreasing_trivial_pre_omega) => `(tactic| with_reducible refine v_op0 ?_)
local macro_rules | `(tactic| decreasing_trivial_pre_omega) => `(tactic| with_reducible refine v_op1 ?_)
local macro_rules | `(tactic| decreasing_trivial_pre_omega) => `(tactic| with_reducible refine v_op4 ?_)
local macro_rules | `(tactic| decreasing_trivial_pre_omega) => `(tactic| with_reducible refine v_op5 ?_)
/-! what the law knows of a book -/
end G
namespace G
open PySem PySem.Spec PyProof.Rows L2
local macro_rules | `(tactic| sizeOf_list_dec) => `(tactic| exact szl (by first | omega | (simp only [List.length_append, List.length_cons, List.length_nil, List.length_map, List.length_reverse, List.length_singleton, txts_lenG]; omega) | (simp only [List.length_append, List.length_cons, List.length_nil, List.length_map, List.length_reverse, txts_lenG]; omega)))
local macro_rules | `(tactic| array_get_dec) => `(tactic| first | with_reducible refine v_seq ?_ | with_reducible refine v_next ?_ | with_reducible refine v_asg ?_ | (with_reducible refine v_isvar ?_; first | with_reducible refine v_var0 ?_ | with_reducible refine v_var1 ?_ | with_reducible refine v_var2 ?_ | with_reducible refine v_var3 ?_ | with_reducible refine v_var4 ?_ | with_reducible refine v_var5 ?_ | with_reducible refine v_var6 ?_ | with_reducible refine v_var7 ?_ | with_reducible refine v_var8 ?_ | with_reducible refine v_var9 ?_ | with_reducible refine v_var10 ?_ | with_reducible refine v_var11 ?_ | with_reducible refine v_var12 ?_ | with_reducible refine v_var13 ?_ | with_reducible refine v_var14 ?_ | with_reducible refine v_var15 ?_ | with_reducible refine v_var16 ?_ | with_reducible refine v_var17 ?_ | with_reducible refine v_var18 ?_ | with_reducible refine v_var19 ?_ | with_reducible refine v_var20 ?_ | with_reducible refine v_var21 ?_ | with_reducible refine v_var22 ?_ | with_reducible refine v_var23 ?_ | with_reducible refine v_var24 ?_ | with_reducible refine v_var25 ?_) | (with_reducible refine v_isname ?_; first | with_reducible refine v_name0 ?_ | with_reducible refine v_wname0 ?_ | with_reducible refine v_name1 ?_ | with_reducible refine v_wname1 ?_ | with_reducible refine v_name2 ?_ | with_reducible refine v_wname2 ?_ | with_reducible refine v_name3 ?_ | with_reducible refine v_wname3 ?_ | with_reducible refine v_name4 ?_ | with_reducible refine v_wname4 ?_ | with_reducible refine v_name5 ?_ | with_reducible refine v_wname5 ?_ | with_reducible refine v_name6 ?_ | with_reducible refine v_wname6 ?_ | with_reducible refine v_name7 ?_ | with_reducible refine v_wname7 ?_ | with_reducible refine v_name8 ?_ | with_reducible refine v_wname8 ?_ | with_reducible refine v_name9 ?_ | with_reducible refine v_wname9 ?_ | with_reducible refine v_name10 ?_ | with_reducible refine v_wname10 ?_ | with_reducible refine v_name11 ?_ | with_reducible refine v_wname11 ?_ | with_reducible refine v_name12 ?_ | with_reducible refine v_wname12 ?_ | with_reducible refine v_name13 ?_ | with_reducible refine v_wname13 ?_ | with_reducible refine v_name14 ?_ | with_reducible refine v_wname14 ?_ | with_reducible refine v_name15 ?_ | with_reducible refine v_wname15 ?_ | with_reducible refine v_name16 ?_ | with_reducible refine v_wname16 ?_ | with_reducible refine v_name17 ?_ | with_reducible refine v_wname17 ?_ | with_reducible refine v_name18 ?_ | with_reducible refine v_wname18 ?_ | with_reducible refine v_name19 ?_ | with_reducible refine v_wname19 ?_ | with_reducible refine v_name20 ?_ | with_reducible refine v_wname20 ?_ | with_reducible refine v_name21 ?_ | with_reducible refine v_wname21 ?_ | with_reducible refine v_name22 ?_ | with_reducible refine v_wname22 ?_ | with_reducible refine v_name23 ?_ | with_reducible refine v_wname23 ?_ | with_reducible refine v_name24 ?_ | with_reducible refine v_wname24 ?_ | with_reducible refine v_name25 ?_ | with_reducible refine v_wname25 ?_) | with_reducible refine v_drop ?_ | with_reducible refine v_ret ?_ | with_reducible refine v_ifS ?_ | with_reducible refine v_test ?_ | with_reducible refine v_bl ?_ | with_reducible refine v_const ?_ | with_reducible refine v_op ?_ | with_reducible refine v_cb ?_ | with_reducible refine v_nil ?_ | with_reducible refine v_cons ?_ | with_reducible refine v_fld ?_ | with_reducible refine v_meth ?_ | with_reducible refine v_cal ?_ | with_reducible refine v_call0 ?_ | with_reducible refine v_pos2 ?_ | with_reducible refine v_tt ?_ | with_reducible refine v_ff ?_ | with_reducible refine v_ntt ?_ | with_reducible refine v_nff ?_ | with_reducible refine v_dnot ?_ | with_reducible refine v_dand ?_ | with_reducible refine v_dor ?_ | with_reducible refine v_andV ?_ | with_reducible refine v_orV ?_ | with_reducible refine v_notV ?_ | with_reducible refine v_ifE ?_ | with_reducible refine v_bm0 ?_ | with_reducible refine v_eqS ?_ | with_reducible refine v_eqI ?_ | with_reducible refine v_neS ?_ | with_reducible refine v_neI ?_ | with_reducible refine v_eqB ?_ | with_reducible refine v_neB ?_ | with_reducible refine v_isNn ?_ | with_reducible refine v_isNs ?_ | with_reducible refine v_isNi ?_ | with_reducible refine v_isNt ?_ | with_reducible refine v_notNn ?_ | with_reducible refine v_notNs ?_ | with_reducible refine v_notNi ?_ | with_reducible refine v_notNt ?_ | with_reducible refine v_isN ?_ | with_reducible refine v_notN ?_ | with_reducible refine v_lt ?_ | with_reducible refine v_le ?_ | with_reducible refine v_gt ?_ | with_reducible refine v_ge ?_ | with_reducible refine v_addI ?_ | with_reducible refine v_subI ?_ | with_reducible refine v_lenT ?_ | with_reducible refine v_lenL ?_ | with_reducible refine v_chain ?_ | with_reducible refine v_un ?_ | with_reducible refine v_tup ?_ | with_reducible refine v_lst ?_ | with_reducible refine v_lstC ?_ | with_reducible refine v_gsub ?_ | with_reducible refine v_rng1 ?_ | with_reducible refine v_rng2 ?_ | with_reducible refine v_slice ?_ | with_reducible refine v_nopart ?_ | with_reducible refine v_part ?_ | with_reducible refine v_partI ?_ | with_reducible refine v_slT ?_ | with_reducible refine v_slL ?_ | with_reducible refine v_rev ?_ | with_reducible refine v_revO ?_ | with_reducible refine v_enumS ?_ | with_reducible refine v_enumL ?_ | with_reducible refine v_enumT ?_ | with_reducible refine v_zipS ?_ | with_reducible refine v_revL ?_ | with_reducible refine v_revT ?_ | with_reducible refine v_putT ?_ | with_reducible refine v_putK ?_ | with_reducible refine v_inT ?_ | with_reducible refine v_getT ?_ | with_reducible refine v_get2T ?_ | with_reducible refine v_make ?_ | with_reducible refine v_fldSet ?_ | with_reducible refine v_forL ?_ | with_reducible refine v_forT ?_ | with_reducible refine v_forS ?_ | with_reducible refine v_lstO ?_ | with_reducible refine v_rolO ?_ | with_reducible refine v_tupO ?_ | with_reducible refine v_strO ?_ | with_reducible refine v_listT ?_ | with_reducible refine v_listL ?_ | with_reducible refine v_tupleL ?_ | with_reducible refine v_tupleT ?_ | with_reducible refine v_isiS ?_ | with_reducible refine v_isiT ?_ | with_reducible refine v_isiL ?_ | with_reducible refine v_allM ?_ | with_reducible refine v_anyM ?_ | with_reducible refine v_eqNS ?_ | with_reducible refine v_neNS ?_ | with_reducible refine v_gcons ?_ | with_reducible refine v_gnil ?_ | with_reducible refine v_par2 ?_ | with_reducible refine v_par33 ?_ | with_reducible refine v_retN ?_ | with_reducible refine v_sameS ?_ | with_reducible refine v_sameB ?_ | with_reducible refine v_sameI ?_ | with_reducible refine v_sameN ?_ | with_reducible refine v_sameT ?_ | with_reducible refine v_sameL ?_ | with_reducible refine v_endN ?_ | with_reducible refine v_bm ?_ | with_reducible refine v_tystr ?_ | with_reducible refine v_break ?_ | with_reducible refine v_cont ?_ | ((with_reducible refine v_slS ?_ ?_); sizeOf_list_dec) | ((with_reducible refine v_lenS ?_ ?_); sizeOf_list_dec) | ((with_reducible refine v_addS ?_ ?_); sizeOf_list_dec) | ((with_reducible refine v_addT ?_ ?_); sizeOf_list_dec) | ((with_reducible refine v_addL ?_ ?_); sizeOf_list_dec) | (with_reducible refine v_par _ _ ?_) | (with_reducible refine v_par3 _ _ _ ?_) | ((with_reducible refine v_gtup ?_ ?_); rfl) | with_reducible refine v_ixT (by with_unfolding_all rfl) ?_ | with_reducible refine v_ixL (by with_unfolding_all rfl) ?_ | with_reducible refine v_ixR (by with_unfolding_all rfl) ?_ | ((with_reducible refine v_ixS ?_ (by with_unfolding_all rfl) ?_); sizeOf_list_dec) | ((with_reducible refine And.intro ?_ ?_); sizeOf_list_dec) | with_reducible refine v_dt (by first | assumption | with_unfolding_all rfl | omega | (simp only [List.length_map, List.length_append, List.length_cons, List.length_nil, List.length_reverse, txts_lenG]; first | done | omega)) ?_ | with_reducible refine v_ndt (by first | assumption | with_unfolding_all rfl | omega | (simp only [List.length_map, List.length_append, List.length_cons, List.length_nil, List.length_reverse, txts_lenG]; first | done | omega)) ?_ | with_reducible refine v_df (by first | assumption | omega | (with_unfolding_all decide) | (simp only [List.length_map, List.length_append, List.length_cons, List.length_nil, List.length_reverse, txts_lenG]; first | done | omega)) ?_ | with_reducible refine v_ndf (by first | assumption | omega | (with_unfolding_all decide) | (simp only [List.length_map, List.length_append, List.length_cons, List.length_nil, List.length_reverse, txts_lenG]; first | done | omega)) ?_ | decreasing_trivial_pre_omega | ((with_reducible refine v_isname ?_); dsimp only [wipeD, List.set]) | ((with_reducible refine v_isvar ?_); dsimp only [wipeD, List.set]))
local macro_rules | `(tactic| array_mem_dec) => `(tactic| repeat array_get_dec)
local macro_rules | `(tactic| bv_omega) => `(tactic| repeat' (first | array_get_dec | with_reducible refine ite_d (fun _ => ?_) (fun _ => ?_) | with_reducible refine ite_nd (fun _ => ?_) (fun _ => ?_) | with_reducible refine ite_b (fun _ => ?_) (fun _ => ?_) | with_reducible refine ite_nb (fun _ => ?_) (fun _ => ?_)))
local macro_rules | `(tactic| decreasing_trivial_pre_omega) => `(tactic| with_reducible refine kz_name ?_)
local macro_rules | `(tactic| decreasing_trivial_pre_omega) => `(tactic| with_reducible refine kz_family ?_)
local macro_rules | `(tactic| decreasing_trivial_pre_omega) => `(tactic| with_reducible refine kz_marks ?_)
local macro_rules | `(tactic| decreasing_trivial_pre_omega) => `(tactic| with_reducible refine kz_yes ?_)
local macro_rules | `(tactic| decreasing_trivial_pre_omega) => `(tactic| with_reducible refine kz_no ?_)
local macro_rules | `(tactic| decreasing_trivial_pre_omega) => `(tactic| with_reducible refine kz_digits ?_)
local macro_rules | `(tactic| decreasing_trivial_pre_omega) => `(tactic| with_reducible refine kz_point ?_)
local macro_rules | `(tactic| decreasing_trivial_pre_omega) => `(tactic| with_reducible refine kz_keep ?_)
local macro_rules | `(tactic| decreasing_trivial_pre_omega) => `(tactic| with_reducible refine v_lenSet ?_)
local macro_rules | `(tactic| decreasing_trivial_pre_omega) => `(tactic| with_reducible refine kz_parts ?_)
local macro_rules | `(tactic| decreasing_trivial_pre_omega) => `(tactic| with_reducible refine bz_kinds ?_)
local macro_rules | `(tactic| decreasing_trivial_pre_omega) => `(tactic| with_reducible refine bz_spare ?_)
local macro_rules | `(tactic| decreasing_trivial_pre_omega) => `(tactic| with_reducible refine bz_joined ?_)
local macro_rules | `(tactic| decreasing_trivial_pre_omega) => `(tactic| with_reducible refine bz_mark ?_)
local macro_rules | `(tactic| decreasing_trivial_pre_omega) => `(tactic| with_reducible refine bz_meth (by decide) ?_)
local macro_rules | `(tactic| decreasing_trivial_pre_omega) => `(tactic| with_reducible refine lz_book ?_)
local macro_rules | `(tactic| decreasing_trivial_pre_omega) => `(tactic| with_reducible refine lz_name ?_)
local macro_rules | `(tactic| decreasing_trivial_pre_omega) => `(tactic| with_reducible refine lz_kind ?_)
local macro_rules | `(tactic| decreasing_trivial_pre_omega) => `(tactic| with_reducible refine v_intO ?_)
local macro_rules | `(tactic| decreasing_trivial_pre_omega) => `(tactic| with_reducible refine v_gh ?_)
local macro_rules | `(tactic| decreasing_trivial_pre_omega) => `(tactic| with_reducible refine v_sp0 ?_)
local macro_rules | `(tactic| decreasing_trivial_pre_omega) => `(tactic| with_reducible refine v_sp1 ?_)
local macro_rules | `(tactic| decreasing_trivial_pre_omega) => `(tactic| with_reducible refine v_sp2 ?_)
local macro_rules | `(tactic| decreasing_trivial_pre_omega) => `(tactic| with_reducible refine v_sp3 ?_)
local macro_rules | `(tactic| decreasing_trivial_pre_omega) => `(tactic| with_reducible refine v_sp4 ?_)
local macro_rules | `(tactic| decreasing_trivial_pre_omega) => `(tactic| with_reducible refine v_sp5 ?_)
local macro_rules | `(tactic| decreasing_trivial_pre_omega) => `(tactic| with_reducible refine v_op0 ?_)
local macro_rules | `(tactic| decreasing_trivial_pre_omega) => `(tactic| with_reducible refine v_op1 ?_)
local macro_rules | `(tactic| decreasing_trivial_pre_omega) => `(tactic| with_reducible refine v_op4 ?_)
local macro_rules | `(tactic| decreasing_trivial_pre_omega) => `(tactic| with_reducible refine v_op5 ?_)
/-! ### what the law knows of a kind that holds another one; joins drawn -/
section
variable {A B : Prop} {n : Nat}
end
local macro_rules | `(tactic| decreasing_trivial_pre_omega) => `(tactic| with_reducible refine v_onN ?_)
local macro_rules | `(tactic| decreasing_trivial_pre_omega) => `(tactic| with_reducible refine v_onS ?_)
local macro_rules | `(tactic| decreasing_trivial_pre_omega) => `(tactic| with_reducible refine v_nonN ?_)
local macro_rules | `(tactic| decreasing_trivial_pre_omega) => `(tactic| with_reducible refine v_nonS ?_)
end G
namespace G
open PySem PySem.Spec PyProof.Rows L2
local macro_rules | `(tactic| sizeOf_list_dec) => `(tactic| exact szl (by first | omega | (simp only [List.length_append, List.length_cons, List.length_nil, List.length_map, List.length_reverse, List.length_singleton, txts_lenG]; omega) | (simp only [List.length_append, List.length_cons, List.length_nil, List.length_map, List.length_reverse, txts_lenG]; omega)))
local macro_rules | `(tactic| array_get_dec) => `(tactic| first | with_reducible refine v_seq ?_ | with_reducible refine v_next ?_ | with_reducible refine v_asg ?_ | (with_reducible refine v_isvar ?_; first | with_reducible refine v_var0 ?_ | with_reducible refine v_var1 ?_ | with_reducible refine v_var2 ?_ | with_reducible refine v_var3 ?_ | with_reducible refine v_var4 ?_ | with_reducible refine v_var5 ?_ | with_reducible refine v_var6 ?_ | with_reducible refine v_var7 ?_ | with_reducible refine v_var8 ?_ | with_reducible refine v_var9 ?_ | with_reducible refine v_var10 ?_ | with_reducible refine v_var11 ?_ | with_reducible refine v_var12 ?_ | with_reducible refine v_var13 ?_ | with_reducible refine v_var14 ?_ | with_reducible refine v_var15 ?_ | with_reducible refine v_var16 ?_ | with_reducible refine v_var17 ?_ | with_reducible refine v_var18 ?_ | with_reducible refine v_var19 ?_ | with_reducible refine v_var20 ?_ | with_reducible refine v_var21 ?_ | with_reducible refine v_var22 ?_ | with_reducible refine v_var23 ?_ | with_reducible refine v_var24 ?_ | with_reducible refine v_var25 ?_) | (with_reducible refine v_isname ?_; first | with_reducible refine v_name0 ?_ | with_reducible refine v_wname0 ?_ | with_reducible refine v_name1 ?_ | with_reducible refine v_wname1 ?_ | with_reducible refine v_name2 ?_ | with_reducible refine v_wname2 ?_ | with_reducible refine v_name3 ?_ | with_reducible refine v_wname3 ?_ | with_reducible refine v_name4 ?_ | with_reducible refine v_wname4 ?_ | with_reducible refine v_name5 ?_ | with_reducible refine v_wname5 ?_ | with_reducible refine v_name6 ?_ | with_reducible refine v_wname6 ?_ | with_reducible refine v_name7 ?_ | with_reducible refine v_wname7 ?_ | with_reducible refine v_name8 ?_ | with_reducible refine v_wname8 ?_ | with_reducible refine v_name9 ?_ | with_reducible refine v_wname9 ?_ | with_reducible refine v_name10 ?_ | with_reducible refine v_wname10 ?_ | with_reducible refine v_name11 ?_ | with_reducible refine v_wname11 ?_ | with_reducible refine v_name12 ?_ | with_reducible refine v_wname12 ?_ | with_reducible refine v_name13 ?_ | with_reducible refine v_wname13 ?_ | with_reducible refine v_name14 ?_ | with_reducible refine v_wname14 ?_ | with_reducible refine v_name15 ?_ | with_reducible refine v_wname15 ?_ | with_reducible refine v_name16 ?_ | with_reducible refine v_wname16 ?_ | with_reducible refine v_name17 ?_ | with_reducible refine v_wname17 ?_ | with_reducible refine v_name18 ?_ | with_reducible refine v_wname18 ?_ | with_reducible refine v_name19 ?_ | with_reducible refine v_wname19 ?_ | with_reducible refine v_name20 ?_ | with_reducible refine v_wname20 ?_ | with_reducible refine v_name21 ?_ | with_reducible refine v_wname21 ?_ | with_reducible refine v_name22 ?_ | with_reducible refine v_wname22 ?_ | with_reducible refine v_name23 ?_ | with_reducible refine v_wname23 ?_ | with_reducible refine v_name24 ?_ | with_reducible refine v_wname24 ?_ | with_reducible refine v_name25 ?_ | with_reducible refine v_wname25 ?_) | with_reducible refine v_drop ?_ | with_reducible refine v_ret ?_ | with_reducible refine v_ifS ?_ | with_reducible refine v_test ?_ | with_reducible refine v_bl ?_ | with_reducible refine v_const ?_ | with_reducible refine v_op ?_ | with_reducible refine v_cb ?_ | with_reducible refine v_nil ?_ | with_reducible refine v_cons ?_ | with_reducible refine v_fld ?_ | with_reducible refine v_meth ?_ | with_reducible refine v_cal ?_ | with_reducible refine v_call0 ?_ | with_reducible refine v_pos2 ?_ | with_reducible refine v_tt ?_ | with_reducible refine v_ff ?_ | with_reducible refine v_ntt ?_ | with_reducible refine v_nff ?_ | with_reducible refine v_dnot ?_ | with_reducible refine v_dand ?_ | with_reducible refine v_dor ?_ | with_reducible refine v_andV ?_ | with_reducible refine v_orV ?_ | with_reducible refine v_notV ?_ | with_reducible refine v_ifE ?_ | with_reducible refine v_bm0 ?_ | with_reducible refine v_eqS ?_ | with_reducible refine v_eqI ?_ | with_reducible refine v_neS ?_ | with_reducible refine v_neI ?_ | with_reducible refine v_eqB ?_ | with_reducible refine v_neB ?_ | with_reducible refine v_isNn ?_ | with_reducible refine v_isNs ?_ | with_reducible refine v_isNi ?_ | with_reducible refine v_isNt ?_ | with_reducible refine v_notNn ?_ | with_reducible refine v_notNs ?_ | with_reducible refine v_notNi ?_ | with_reducible refine v_notNt ?_ | with_reducible refine v_isN ?_ | with_reducible refine v_notN ?_ | with_reducible refine v_lt ?_ | with_reducible refine v_le ?_ | with_reducible refine v_gt ?_ | with_reducible refine v_ge ?_ | with_reducible refine v_addI ?_ | with_reducible refine v_subI ?_ | with_reducible refine v_lenT ?_ | with_reducible refine v_lenL ?_ | with_reducible refine v_chain ?_ | with_reducible refine v_un ?_ | with_reducible refine v_tup ?_ | with_reducible refine v_lst ?_ | with_reducible refine v_lstC ?_ | with_reducible refine v_gsub ?_ | with_reducible refine v_rng1 ?_ | with_reducible refine v_rng2 ?_ | with_reducible refine v_slice ?_ | with_reducible refine v_nopart ?_ | with_reducible refine v_part ?_ | with_reducible refine v_partI ?_ | with_reducible refine v_slT ?_ | with_reducible refine v_slL ?_ | with_reducible refine v_rev ?_ | with_reducible refine v_revO ?_ | with_reducible refine v_enumS ?_ | with_reducible refine v_enumL ?_ | with_reducible refine v_enumT ?_ | with_reducible refine v_zipS ?_ | with_reducible refine v_revL ?_ | with_reducible refine v_revT ?_ | with_reducible refine v_putT ?_ | with_reducible refine v_putK ?_ | with_reducible refine v_inT ?_ | with_reducible refine v_getT ?_ | with_reducible refine v_get2T ?_ | with_reducible refine v_make ?_ | with_reducible refine v_fldSet ?_ | with_reducible refine v_forL ?_ | with_reducible refine v_forT ?_ | with_reducible refine v_forS ?_ | with_reducible refine v_lstO ?_ | with_reducible refine v_rolO ?_ | with_reducible refine v_tupO ?_ | with_reducible refine v_strO ?_ | with_reducible refine v_listT ?_ | with_reducible refine v_listL ?_ | with_reducible refine v_tupleL ?_ | with_reducible refine v_tupleT ?_ | with_reducible refine v_isiS ?_ | with_reducible refine v_isiT ?_ | with_reducible refine v_isiL ?_ | with_reducible refine v_allM ?_ | with_reducible refine v_anyM ?_ | with_reducible refine v_eqNS ?_ | with_reducible refine v_neNS ?_ | with_reducible refine v_gcons ?_ | with_reducible refine v_gnil ?_ | with_reducible refine v_par2 ?_ | with_reducible refine v_par33 ?_ | with_reducible refine v_retN ?_ | with_reducible refine v_sameS ?_ | with_reducible refine v_sameB ?_ | with_reducible refine v_sameI ?_ | with_reducible refine v_sameN ?_ | with_reducible refine v_sameT ?_ | with_reducible refine v_sameL ?_ | with_reducible refine v_endN ?_ | with_reducible refine v_bm ?_ | with_reducible refine v_tystr ?_ | with_reducible refine v_break ?_ | with_reducible refine v_cont ?_ | ((with_reducible refine v_slS ?_ ?_); sizeOf_list_dec) | ((with_reducible refine v_lenS ?_ ?_); sizeOf_list_dec) | ((with_reducible refine v_addS ?_ ?_); sizeOf_list_dec) | ((with_reducible refine v_addT ?_ ?_); sizeOf_list_dec) | ((with_reducible refine v_addL ?_ ?_); sizeOf_list_dec) | (with_reducible refine v_par _ _ ?_) | (with_reducible refine v_par3 _ _ _ ?_) | ((with_reducible refine v_gtup ?_ ?_); rfl) | with_reducible refine v_ixT (by with_unfolding_all rfl) ?_ | with_reducible refine v_ixL (by with_unfolding_all rfl) ?_ | with_reducible refine v_ixR (by with_unfolding_all rfl) ?_ | ((with_reducible refine v_ixS ?_ (by with_unfolding_all rfl) ?_); sizeOf_list_dec) | ((with_reducible refine And.intro ?_ ?_); sizeOf_list_dec) | with_reducible refine v_dt (by first | assumption | with_unfolding_all rfl | omega | (simp only [List.length_map, List.length_append, List.length_cons, List.length_nil, List.length_reverse, txts_lenG]; first | done | omega)) ?_ | with_reducible refine v_ndt (by first | assumption | with_unfolding_all rfl | omega | (simp only [List.length_map, List.length_append, List.length_cons, List.length_nil, List.length_reverse, txts_lenG]; first | done | omega)) ?_ | with_reducible refine v_df (by first | assumption | omega | (with_unfolding_all decide) | (simp only [List.length_map, List.length_append, List.length_cons, List.length_nil, List.length_reverse, txts_lenG]; first | done | omega)) ?_ | with_reducible refine v_ndf (by first | assumption | omega | (with_unfolding_all decide) | (simp only [List.length_map, List.length_append, List.length_cons, List.length_nil, List.length_reverse, txts_lenG]; first | done | omega)) ?_ | decreasing_trivial_pre_omega | ((with_reducible refine v_isname ?_); dsimp only [wipeD, List.set]) | ((with_reducible refine v_isvar ?_); dsimp only [wipeD, List.set]))
local macro_rules | `(tactic| array_mem_dec) => `(tactic| repeat array_get_dec)
local macro_rules | `(tactic| bv_omega) => `(tactic| repeat' (first | array_get_dec | with_reducible refine ite_d (fun _ => ?_) (fun _ => ?_) | with_reducible refine ite_nd (fun _ => ?_) (fun _ => ?_) | with_reducible refine ite_b (fun _ => ?_) (fun _ => ?_) | with_reducible refine ite_nb (fun _ => ?_) (fun _ => ?_)))
local macro_rules | `(tactic| decreasing_trivial_pre_omega) => `(tactic| with_reducible refine kz_name ?_)
local macro_rules | `(tactic| decreasing_trivial_pre_omega) => `(tactic| with_reducible refine kz_family ?_)
local macro_rules | `(tactic| decreasing_trivial_pre_omega) => `(tactic| with_reducible refine kz_marks ?_)
local macro_rules | `(tactic| decreasing_trivial_pre_omega) => `(tactic| with_reducible refine kz_yes ?_)
local macro_rules | `(tactic| decreasing_trivial_pre_omega) => `(tactic| with_reducible refine kz_no ?_)
local macro_rules | `(tactic| decreasing_trivial_pre_omega) => `(tactic| with_reducible refine kz_digits ?_)
local macro_rules | `(tactic| decreasing_trivial_pre_omega) => `(tactic| with_reducible refine kz_point ?_)
local macro_rules | `(tactic| decreasing_trivial_pre_omega) => `(tactic| with_reducible refine kz_keep ?_)
local macro_rules | `(tactic| decreasing_trivial_pre_omega) => `(tactic| with_reducible refine v_lenSet ?_)
local macro_rules | `(tactic| decreasing_trivial_pre_omega) => `(tactic| with_reducible refine kz_parts ?_)
local macro_rules | `(tactic| decreasing_trivial_pre_omega) => `(tactic| with_reducible refine bz_kinds ?_)
local macro_rules | `(tactic| decreasing_trivial_pre_omega) => `(tactic| with_reducible refine bz_spare ?_)
local macro_rules | `(tactic| decreasing_trivial_pre_omega) => `(tactic| with_reducible refine bz_joined ?_)
local macro_rules | `(tactic| decreasing_trivial_pre_omega) => `(tactic| with_reducible refine bz_mark ?_)
local macro_rules | `(tactic| decreasing_trivial_pre_omega) => `(tactic| with_reducible refine bz_meth (by decide) ?_)
local macro_rules | `(tactic| decreasing_trivial_pre_omega) => `(tactic| with_reducible refine lz_book ?_)
local macro_rules | `(tactic| decreasing_trivial_pre_omega) => `(tactic| with_reducible refine lz_name ?_)
local macro_rules | `(tactic| decreasing_trivial_pre_omega) => `(tactic| with_reducible refine lz_kind ?_)
local macro_rules | `(tactic| decreasing_trivial_pre_omega) => `(tactic| with_reducible refine v_intO ?_)
local macro_rules | `(tactic| decreasing_trivial_pre_omega) => `(tactic| with_reducible refine v_gh ?_)
local macro_rules | `(tactic| decreasing_trivial_pre_omega) => `(tactic| with_reducible refine v_sp0 ?_)
local macro_rules | `(tactic| decreasing_trivial_pre_omega) => `(tactic| with_reducible refine v_sp1 ?_)
local macro_rules | `(tactic| decreasing_trivial_pre_omega) => `(tactic| with_reducible refine v_sp2 ?_)
local macro_rules | `(tactic| decreasing_trivial_pre_omega) => `(tactic| with_reducible refine v_sp3 ?_)
local macro_rules | `(tactic| decreasing_trivial_pre_omega) => `(tactic| with_reducible refine v_sp4 ?_)
local macro_rules | `(tactic| decreasing_trivial_pre_omega) => `(tactic| with_reducible refine v_sp5 ?_)
local macro_rules | `(tactic| decreasing_trivial_pre_omega) => `(tactic| with_reducible refine v_op0 ?_)
local macro_rules | `(tactic| decreasing_trivial_pre_omega) => `(tactic| with_reducible refine v_op1 ?_)
local macro_rules | `(tactic| decreasing_trivial_pre_omega) => `(tactic| with_reducible refine v_op4 ?_)
local macro_rules | `(tactic| decreasing_trivial_pre_omega) => `(tactic| with_reducible refine v_op5 ?_)
local macro_rules | `(tactic| decreasing_trivial_pre_omega) => `(tactic| with_reducible refine v_onN ?_)
local macro_rules | `(tactic| decreasing_trivial_pre_omega) => `(tactic| with_reducible refine v_onS ?_)
local macro_rules | `(tactic| decreasing_trivial_pre_omega) => `(tactic| with_reducible refine v_nonN ?_)
local macro_rules | `(tactic| decreasing_trivial_pre_omega) => `(tactic| with_reducible refine v_nonS ?_)
/-! ### joins drawn -/
/-- the pairs of the triples stand ahead of (i, j) -/
def Ahead (ks : List KindR) (trs : List T3) (i j : Nat) : Prop := ∀ t ∈ trs, ∃ (i' j' : Nat) (a b : KindR), ks[i']? = some a ∧ ks[j']? = some b ∧ t.1 = a.name ∧ t.2.1 = b.name ∧ (i' < i ∨ (i' = i ∧ j' < j))
theorem Ahead.mono {ks : List KindR} {trs : List T3} {i j i2 j2 : Nat} (h : Ahead ks trs i j) (l : i < i2 ∨ (i = i2 ∧ j ≤ j2)) : Ahead ks trs i2 j2 := fun t ht => by
  obtain ⟨i', j', a, b, h1, h2, h3, h4, h5⟩ := h t ht
  exact ⟨i', j', a, b, h1, h2, h3, h4, by omega⟩
end G
namespace G
open PySem PySem.Spec PyProof.Rows L2
/-! ### x in a list of plain things of any depth -/
section
variable {X : Cx} {cl : NmB} {n : Nat}
end
theorem str_beq (a b : List Nat) : ((⟨a.toArray⟩ : Str) == ⟨b.toArray⟩) = decide (a = b) := by
  by_cases e : a = b
  · subst e; simp
  · rw [decide_eq_false e]
    exact beq_eq_false_iff_ne.mpr fun h => e (by simpa using congrArg (fun s : Str => s.cps.toList) h)
end G
namespace G
open PySem PySem.Spec PyProof.Rows L2
local macro_rules | `(tactic| sizeOf_list_dec) => `(tactic| exact szl (by first | omega | (simp only [List.length_append, List.length_cons, List.length_nil, List.length_map, List.length_reverse, List.length_singleton, txts_lenG]; omega) | (simp only [List.length_append, List.length_cons, List.length_nil, List.length_map, List.length_reverse, txts_lenG]; omega)))
local macro_rules | `(tactic| array_get_dec) => `(tactic| first | with_reducible refine v_seq ?_ | with_reducible refine v_next ?_ | with_reducible refine v_asg ?_ | (with_reducible refine v_isvar ?_; first | with_reducible refine v_var0 ?_ | with_reducible refine v_var1 ?_ | with_reducible refine v_var2 ?_ | with_reducible refine v_var3 ?_ | with_reducible refine v_var4 ?_ | with_reducible refine v_var5 ?_ | with_reducible refine v_var6 ?_ | with_reducible refine v_var7 ?_ | with_reducible refine v_var8 ?_ | with_reducible refine v_var9 ?_ | with_reducible refine v_var10 ?_ | with_reducible refine v_var11 ?_ | with_reducible refine v_var12 ?_ | with_reducible refine v_var13 ?_ | with_reducible refine v_var14 ?_ | with_reducible refine v_var15 ?_ | with_reducible refine v_var16 ?_ | with_reducible refine v_var17 ?_ | with_reducible refine v_var18 ?_ | with_reducible refine v_var19 ?_ | with_reducible refine v_var20 ?_ | with_reducible refine v_var21 ?_ | with_reducible refine v_var22 ?_ | with_reducible refine v_var23 ?_ | with_reducible refine v_var24 ?_ | with_reducible refine v_var25 ?_) | (with_reducible refine v_isname ?_; first | with_reducible refine v_name0 ?_ | with_reducible refine v_wname0 ?_ | with_reducible refine v_name1 ?_ | with_reducible refine v_wname1 ?_ | with_reducible refine v_name2 ?_ | with_reducible refine v_wname2 ?_ | with_reducible refine v_name3 ?_ | with_reducible refine v_wname3 ?_ | with_reducible refine v_name4 ?_ | with_reducible refine v_wname4 ?_ | with_reducible refine v_name5 ?_ | with_reducible refine v_wname5 ?_ | with_reducible refine v_name6 ?_ | with_reducible refine v_wname6 ?_ | with_reducible refine v_name7 ?_ | with_reducible refine v_wname7 ?_ | with_reducible refine v_name8 ?_ | with_reducible refine v_wname8 ?_ | with_reducible refine v_name9 ?_ | with_reducible refine v_wname9 ?_ | with_reducible refine v_name10 ?_ | with_reducible refine v_wname10 ?_ | with_reducible refine v_name11 ?_ | with_reducible refine v_wname11 ?_ | with_reducible refine v_name12 ?_ | with_reducible refine v_wname12 ?_ | with_reducible refine v_name13 ?_ | with_reducible refine v_wname13 ?_ | with_reducible refine v_name14 ?_ | with_reducible refine v_wname14 ?_ | with_reducible refine v_name15 ?_ | with_reducible refine v_wname15 ?_ | with_reducible refine v_name16 ?_ | with_reducible refine v_wname16 ?_ | with_reducible refine v_name17 ?_ | with_reducible refine v_wname17 ?_ | with_reducible refine v_name18 ?_ | with_reducible refine v_wname18 ?_ | with_reducible refine v_name19 ?_ | with_reducible refine v_wname19 ?_ | with_reducible refine v_name20 ?_ | with_reducible refine v_wname20 ?_ | with_reducible refine v_name21 ?_ | with_reducible refine v_wname21 ?_ | with_reducible refine v_name22 ?_ | with_reducible refine v_wname22 ?_ | with_reducible refine v_name23 ?_ | with_reducible refine v_wname23 ?_ | with_reducible refine v_name24 ?_ | with_reducible refine v_wname24 ?_ | with_reducible refine v_name25 ?_ | with_reducible refine v_wname25 ?_) | with_reducible refine v_drop ?_ | with_reducible refine v_ret ?_ | with_reducible refine v_ifS ?_ | with_reducible refine v_test ?_ | with_reducible refine v_bl ?_ | with_reducible refine v_const ?_ | with_reducible refine v_op ?_ | with_reducible refine v_cb ?_ | with_reducible refine v_nil ?_ | with_reducible refine v_cons ?_ | with_reducible refine v_fld ?_ | with_reducible refine v_meth ?_ | with_reducible refine v_cal ?_ | with_reducible refine v_call0 ?_ | with_reducible refine v_pos2 ?_ | with_reducible refine v_tt ?_ | with_reducible refine v_ff ?_ | with_reducible refine v_ntt ?_ | with_reducible refine v_nff ?_ | with_reducible refine v_dnot ?_ | with_reducible refine v_dand ?_ | with_reducible refine v_dor ?_ | with_reducible refine v_andV ?_ | with_reducible refine v_orV ?_ | with_reducible refine v_notV ?_ | with_reducible refine v_ifE ?_ | with_reducible refine v_bm0 ?_ | with_reducible refine v_eqS ?_ | with_reducible refine v_eqI ?_ | with_reducible refine v_neS ?_ | with_reducible refine v_neI ?_ | with_reducible refine v_eqB ?_ | with_reducible refine v_neB ?_ | with_reducible refine v_isNn ?_ | with_reducible refine v_isNs ?_ | with_reducible refine v_isNi ?_ | with_reducible refine v_isNt ?_ | with_reducible refine v_notNn ?_ | with_reducible refine v_notNs ?_ | with_reducible refine v_notNi ?_ | with_reducible refine v_notNt ?_ | with_reducible refine v_isN ?_ | with_reducible refine v_notN ?_ | with_reducible refine v_lt ?_ | with_reducible refine v_le ?_ | with_reducible refine v_gt ?_ | with_reducible refine v_ge ?_ | with_reducible refine v_addI ?_ | with_reducible refine v_subI ?_ | with_reducible refine v_lenT ?_ | with_reducible refine v_lenL ?_ | with_reducible refine v_chain ?_ | with_reducible refine v_un ?_ | with_reducible refine v_tup ?_ | with_reducible refine v_lst ?_ | with_reducible refine v_lstC ?_ | with_reducible refine v_gsub ?_ | with_reducible refine v_rng1 ?_ | with_reducible refine v_rng2 ?_ | with_reducible refine v_slice ?_ | with_reducible refine v_nopart ?_ | with_reducible refine v_part ?_ | with_reducible refine v_partI ?_ | with_reducible refine v_slT ?_ | with_reducible refine v_slL ?_ | with_reducible refine v_rev ?_ | with_reducible refine v_revO ?_ | with_reducible refine v_enumS ?_ | with_reducible refine v_enumL ?_ | with_reducible refine v_enumT ?_ | with_reducible refine v_zipS ?_ | with_reducible refine v_revL ?_ | with_reducible refine v_revT ?_ | with_reducible refine v_putT ?_ | with_reducible refine v_putK ?_ | with_reducible refine v_inT ?_ | with_reducible refine v_getT ?_ | with_reducible refine v_get2T ?_ | with_reducible refine v_make ?_ | with_reducible refine v_fldSet ?_ | with_reducible refine v_forL ?_ | with_reducible refine v_forT ?_ | with_reducible refine v_forS ?_ | with_reducible refine v_lstO ?_ | with_reducible refine v_rolO ?_ | with_reducible refine v_tupO ?_ | with_reducible refine v_strO ?_ | with_reducible refine v_listT ?_ | with_reducible refine v_listL ?_ | with_reducible refine v_tupleL ?_ | with_reducible refine v_tupleT ?_ | with_reducible refine v_isiS ?_ | with_reducible refine v_isiT ?_ | with_reducible refine v_isiL ?_ | with_reducible refine v_allM ?_ | with_reducible refine v_anyM ?_ | with_reducible refine v_eqNS ?_ | with_reducible refine v_neNS ?_ | with_reducible refine v_gcons ?_ | with_reducible refine v_gnil ?_ | with_reducible refine v_par2 ?_ | with_reducible refine v_par33 ?_ | with_reducible refine v_retN ?_ | with_reducible refine v_sameS ?_ | with_reducible refine v_sameB ?_ | with_reducible refine v_sameI ?_ | with_reducible refine v_sameN ?_ | with_reducible refine v_sameT ?_ | with_reducible refine v_sameL ?_ | with_reducible refine v_endN ?_ | with_reducible refine v_bm ?_ | with_reducible refine v_tystr ?_ | with_reducible refine v_break ?_ | with_reducible refine v_cont ?_ | ((with_reducible refine v_slS ?_ ?_); sizeOf_list_dec) | ((with_reducible refine v_lenS ?_ ?_); sizeOf_list_dec) | ((with_reducible refine v_addS ?_ ?_); sizeOf_list_dec) | ((with_reducible refine v_addT ?_ ?_); sizeOf_list_dec) | ((with_reducible refine v_addL ?_ ?_); sizeOf_list_dec) | (with_reducible refine v_par _ _ ?_) | (with_reducible refine v_par3 _ _ _ ?_) | ((with_reducible refine v_gtup ?_ ?_); rfl) | with_reducible refine v_ixT (by with_unfolding_all rfl) ?_ | with_reducible refine v_ixL (by with_unfolding_all rfl) ?_ | with_reducible refine v_ixR (by with_unfolding_all rfl) ?_ | ((with_reducible refine v_ixS ?_ (by with_unfolding_all rfl) ?_); sizeOf_list_dec) | ((with_reducible refine And.intro ?_ ?_); sizeOf_list_dec) | with_reducible refine v_dt (by first | assumption | with_unfolding_all rfl | omega | (simp only [List.length_map, List.length_append, List.length_cons, List.length_nil, List.length_reverse, txts_lenG]; first | done | omega)) ?_ | with_reducible refine v_ndt (by first | assumption | with_unfolding_all rfl | omega | (simp only [List.length_map, List.length_append, List.length_cons, List.length_nil, List.length_reverse, txts_lenG]; first | done | omega)) ?_ | with_reducible refine v_df (by first | assumption | omega | (with_unfolding_all decide) | (simp only [List.length_map, List.length_append, List.length_cons, List.length_nil, List.length_reverse, txts_lenG]; first | done | omega)) ?_ | with_reducible refine v_ndf (by first | assumption | omega | (with_unfolding_all decide) | (simp only [List.length_map, List.length_append, List.length_cons, List.length_nil, List.length_reverse, txts_lenG]; first | done | omega)) ?_ | decreasing_trivial_pre_omega | ((with_reducible refine v_isname ?_); dsimp only [wipeD, List.set]) | ((with_reducible refine v_isvar ?_); dsimp only [wipeD, List.set]))
local macro_rules | `(tactic| array_mem_dec) => `(tactic| repeat array_get_dec)
local macro_rules | `(tactic| bv_omega) => `(tactic| repeat' (first | array_get_dec | with_reducible refine ite_d (fun _ => ?_) (fun _ => ?_) | with_reducible refine ite_nd (fun _ => ?_) (fun _ => ?_) | with_reducible refine ite_b (fun _ => ?_) (fun _ => ?_) | with_reducible refine ite_nb (fun _ => ?_) (fun _ => ?_)))
local macro_rules | `(tactic| decreasing_trivial_pre_omega) => `(tactic| with_reducible refine kz_name ?_)
local macro_rules | `(tactic| decreasing_trivial_pre_omega) => `(tactic| with_reducible refine kz_family ?_)
local macro_rules | `(tactic| decreasing_trivial_pre_omega) => `(tactic| with_reducible refine kz_marks ?_)
local macro_rules | `(tactic| decreasing_trivial_pre_omega) => `(tactic| with_reducible refine kz_yes ?_)
local macro_rules | `(tactic| decreasing_trivial_pre_omega) => `(tactic| with_reducible refine kz_no ?_)
local macro_rules | `(tactic| decreasing_trivial_pre_omega) => `(tactic| with_reducible refine kz_digits ?_)
local macro_rules | `(tactic| decreasing_trivial_pre_omega) => `(tactic| with_reducible refine kz_point ?_)
local macro_rules | `(tactic| decreasing_trivial_pre_omega) => `(tactic| with_reducible refine kz_keep ?_)
local macro_rules | `(tactic| decreasing_trivial_pre_omega) => `(tactic| with_reducible refine v_lenSet ?_)
local macro_rules | `(tactic| decreasing_trivial_pre_omega) => `(tactic| with_reducible refine kz_parts ?_)
local macro_rules | `(tactic| decreasing_trivial_pre_omega) => `(tactic| with_reducible refine bz_kinds ?_)
local macro_rules | `(tactic| decreasing_trivial_pre_omega) => `(tactic| with_reducible refine bz_spare ?_)
local macro_rules | `(tactic| decreasing_trivial_pre_omega) => `(tactic| with_reducible refine bz_joined ?_)
local macro_rules | `(tactic| decreasing_trivial_pre_omega) => `(tactic| with_reducible refine bz_mark ?_)
local macro_rules | `(tactic| decreasing_trivial_pre_omega) => `(tactic| with_reducible refine bz_meth (by decide) ?_)
local macro_rules | `(tactic| decreasing_trivial_pre_omega) => `(tactic| with_reducible refine lz_book ?_)
local macro_rules | `(tactic| decreasing_trivial_pre_omega) => `(tactic| with_reducible refine lz_name ?_)
local macro_rules | `(tactic| decreasing_trivial_pre_omega) => `(tactic| with_reducible refine lz_kind ?_)
local macro_rules | `(tactic| decreasing_trivial_pre_omega) => `(tactic| with_reducible refine v_intO ?_)
local macro_rules | `(tactic| decreasing_trivial_pre_omega) => `(tactic| with_reducible refine v_gh ?_)
local macro_rules | `(tactic| decreasing_trivial_pre_omega) => `(tactic| with_reducible refine v_sp0 ?_)
local macro_rules | `(tactic| decreasing_trivial_pre_omega) => `(tactic| with_reducible refine v_sp1 ?_)
local macro_rules | `(tactic| decreasing_trivial_pre_omega) => `(tactic| with_reducible refine v_sp2 ?_)
local macro_rules | `(tactic| decreasing_trivial_pre_omega) => `(tactic| with_reducible refine v_sp3 ?_)
local macro_rules | `(tactic| decreasing_trivial_pre_omega) => `(tactic| with_reducible refine v_sp4 ?_)
local macro_rules | `(tactic| decreasing_trivial_pre_omega) => `(tactic| with_reducible refine v_sp5 ?_)
local macro_rules | `(tactic| decreasing_trivial_pre_omega) => `(tactic| with_reducible refine v_op0 ?_)
local macro_rules | `(tactic| decreasing_trivial_pre_omega) => `(tactic| with_reducible refine v_op1 ?_)
local macro_rules | `(tactic| decreasing_trivial_pre_omega) => `(tactic| with_reducible refine v_op4 ?_)
local macro_rules | `(tactic| decreasing_trivial_pre_omega) => `(tactic| with_reducible refine v_op5 ?_)
local macro_rules | `(tactic| decreasing_trivial_pre_omega) => `(tactic| with_reducible refine v_onN ?_)
local macro_rules | `(tactic| decreasing_trivial_pre_omega) => `(tactic| with_reducible refine v_onS ?_)
local macro_rules | `(tactic| decreasing_trivial_pre_omega) => `(tactic| with_reducible refine v_nonN ?_)
local macro_rules | `(tactic| decreasing_trivial_pre_omega) => `(tactic| with_reducible refine v_nonS ?_)
/-! ### the table of joins, as the law makes it -/
local macro_rules | `(tactic| decreasing_trivial_pre_omega) => `(tactic| with_reducible refine v_trip0 ?_)
local macro_rules | `(tactic| decreasing_trivial_pre_omega) => `(tactic| with_reducible refine v_trip1 ?_)
end G
namespace G
open PySem PySem.Spec PyProof.Rows L2
local macro_rules | `(tactic| sizeOf_list_dec) => `(tactic| exact szl (by first | omega | (simp only [List.length_append, List.length_cons, List.length_nil, List.length_map, List.length_reverse, List.length_singleton, txts_lenG]; omega) | (simp only [List.length_append, List.length_cons, List.length_nil, List.length_map, List.length_reverse, txts_lenG]; omega)))
local macro_rules | `(tactic| array_get_dec) => `(tactic| first | with_reducible refine v_seq ?_ | with_reducible refine v_next ?_ | with_reducible refine v_asg ?_ | (with_reducible refine v_isvar ?_; first | with_reducible refine v_var0 ?_ | with_reducible refine v_var1 ?_ | with_reducible refine v_var2 ?_ | with_reducible refine v_var3 ?_ | with_reducible refine v_var4 ?_ | with_reducible refine v_var5 ?_ | with_reducible refine v_var6 ?_ | with_reducible refine v_var7 ?_ | with_reducible refine v_var8 ?_ | with_reducible refine v_var9 ?_ | with_reducible refine v_var10 ?_ | with_reducible refine v_var11 ?_ | with_reducible refine v_var12 ?_ | with_reducible refine v_var13 ?_ | with_reducible refine v_var14 ?_ | with_reducible refine v_var15 ?_ | with_reducible refine v_var16 ?_ | with_reducible refine v_var17 ?_ | with_reducible refine v_var18 ?_ | with_reducible refine v_var19 ?_ | with_reducible refine v_var20 ?_ | with_reducible refine v_var21 ?_ | with_reducible refine v_var22 ?_ | with_reducible refine v_var23 ?_ | with_reducible refine v_var24 ?_ | with_reducible refine v_var25 ?_) | (with_reducible refine v_isname ?_; first | with_reducible refine v_name0 ?_ | with_reducible refine v_wname0 ?_ | with_reducible refine v_name1 ?_ | with_reducible refine v_wname1 ?_ | with_reducible refine v_name2 ?_ | with_reducible refine v_wname2 ?_ | with_reducible refine v_name3 ?_ | with_reducible refine v_wname3 ?_ | with_reducible refine v_name4 ?_ | with_reducible refine v_wname4 ?_ | with_reducible refine v_name5 ?_ | with_reducible refine v_wname5 ?_ | with_reducible refine v_name6 ?_ | with_reducible refine v_wname6 ?_ | with_reducible refine v_name7 ?_ | with_reducible refine v_wname7 ?_ | with_reducible refine v_name8 ?_ | with_reducible refine v_wname8 ?_ | with_reducible refine v_name9 ?_ | with_reducible refine v_wname9 ?_ | with_reducible refine v_name10 ?_ | with_reducible refine v_wname10 ?_ | with_reducible refine v_name11 ?_ | with_reducible refine v_wname11 ?_ | with_reducible refine v_name12 ?_ | with_reducible refine v_wname12 ?_ | with_reducible refine v_name13 ?_ | with_reducible refine v_wname13 ?_ | with_reducible refine v_name14 ?_ | with_reducible refine v_wname14 ?_ | with_reducible refine v_name15 ?_ | with_reducible refine v_wname15 ?_ | with_reducible refine v_name16 ?_ | with_reducible refine v_wname16 ?_ | with_reducible refine v_name17 ?_ | with_reducible refine v_wname17 ?_ | with_reducible refine v_name18 ?_ | with_reducible refine v_wname18 ?_ | with_reducible refine v_name19 ?_ | with_reducible refine v_wname19 ?_ | with_reducible refine v_name20 ?_ | with_reducible refine v_wname20 ?_ | with_reducible refine v_name21 ?_ | with_reducible refine v_wname21 ?_ | with_reducible refine v_name22 ?_ | with_reducible refine v_wname22 ?_ | with_reducible refine v_name23 ?_ | with_reducible refine v_wname23 ?_ | with_reducible refine v_name24 ?_ | with_reducible refine v_wname24 ?_ | with_reducible refine v_name25 ?_ | with_reducible refine v_wname25 ?_) | with_reducible refine v_drop ?_ | with_reducible refine v_ret ?_ | with_reducible refine v_ifS ?_ | with_reducible refine v_test ?_ | with_reducible refine v_bl ?_ | with_reducible refine v_const ?_ | with_reducible refine v_op ?_ | with_reducible refine v_cb ?_ | with_reducible refine v_nil ?_ | with_reducible refine v_cons ?_ | with_reducible refine v_fld ?_ | with_reducible refine v_meth ?_ | with_reducible refine v_cal ?_ | with_reducible refine v_call0 ?_ | with_reducible refine v_pos2 ?_ | with_reducible refine v_tt ?_ | with_reducible refine v_ff ?_ | with_reducible refine v_ntt ?_ | with_reducible refine v_nff ?_ | with_reducible refine v_dnot ?_ | with_reducible refine v_dand ?_ | with_reducible refine v_dor ?_ | with_reducible refine v_andV ?_ | with_reducible refine v_orV ?_ | with_reducible refine v_notV ?_ | with_reducible refine v_ifE ?_ | with_reducible refine v_bm0 ?_ | with_reducible refine v_eqS ?_ | with_reducible refine v_eqI ?_ | with_reducible refine v_neS ?_ | with_reducible refine v_neI ?_ | with_reducible refine v_eqB ?_ | with_reducible refine v_neB ?_ | with_reducible refine v_isNn ?_ | with_reducible refine v_isNs ?_ | with_reducible refine v_isNi ?_ | with_reducible refine v_isNt ?_ | with_reducible refine v_notNn ?_ | with_reducible refine v_notNs ?_ | with_reducible refine v_notNi ?_ | with_reducible refine v_notNt ?_ | with_reducible refine v_isN ?_ | with_reducible refine v_notN ?_ | with_reducible refine v_lt ?_ | with_reducible refine v_le ?_ | with_reducible refine v_gt ?_ | with_reducible refine v_ge ?_ | with_reducible refine v_addI ?_ | with_reducible refine v_subI ?_ | with_reducible refine v_lenT ?_ | with_reducible refine v_lenL ?_ | with_reducible refine v_chain ?_ | with_reducible refine v_un ?_ | with_reducible refine v_tup ?_ | with_reducible refine v_lst ?_ | with_reducible refine v_lstC ?_ | with_reducible refine v_gsub ?_ | with_reducible refine v_rng1 ?_ | with_reducible refine v_rng2 ?_ | with_reducible refine v_slice ?_ | with_reducible refine v_nopart ?_ | with_reducible refine v_part ?_ | with_reducible refine v_partI ?_ | with_reducible refine v_slT ?_ | with_reducible refine v_slL ?_ | with_reducible refine v_rev ?_ | with_reducible refine v_revO ?_ | with_reducible refine v_enumS ?_ | with_reducible refine v_enumL ?_ | with_reducible refine v_enumT ?_ | with_reducible refine v_zipS ?_ | with_reducible refine v_revL ?_ | with_reducible refine v_revT ?_ | with_reducible refine v_putT ?_ | with_reducible refine v_putK ?_ | with_reducible refine v_inT ?_ | with_reducible refine v_getT ?_ | with_reducible refine v_get2T ?_ | with_reducible refine v_make ?_ | with_reducible refine v_fldSet ?_ | with_reducible refine v_forL ?_ | with_reducible refine v_forT ?_ | with_reducible refine v_forS ?_ | with_reducible refine v_lstO ?_ | with_reducible refine v_rolO ?_ | with_reducible refine v_tupO ?_ | with_reducible refine v_strO ?_ | with_reducible refine v_listT ?_ | with_reducible refine v_listL ?_ | with_reducible refine v_tupleL ?_ | with_reducible refine v_tupleT ?_ | with_reducible refine v_isiS ?_ | with_reducible refine v_isiT ?_ | with_reducible refine v_isiL ?_ | with_reducible refine v_allM ?_ | with_reducible refine v_anyM ?_ | with_reducible refine v_eqNS ?_ | with_reducible refine v_neNS ?_ | with_reducible refine v_gcons ?_ | with_reducible refine v_gnil ?_ | with_reducible refine v_par2 ?_ | with_reducible refine v_par33 ?_ | with_reducible refine v_retN ?_ | with_reducible refine v_sameS ?_ | with_reducible refine v_sameB ?_ | with_reducible refine v_sameI ?_ | with_reducible refine v_sameN ?_ | with_reducible refine v_sameT ?_ | with_reducible refine v_sameL ?_ | with_reducible refine v_endN ?_ | with_reducible refine v_bm ?_ | with_reducible refine v_tystr ?_ | with_reducible refine v_break ?_ | with_reducible refine v_cont ?_ | ((with_reducible refine v_slS ?_ ?_); sizeOf_list_dec) | ((with_reducible refine v_lenS ?_ ?_); sizeOf_list_dec) | ((with_reducible refine v_addS ?_ ?_); sizeOf_list_dec) | ((with_reducible refine v_addT ?_ ?_); sizeOf_list_dec) | ((with_reducible refine v_addL ?_ ?_); sizeOf_list_dec) | (with_reducible refine v_par _ _ ?_) | (with_reducible refine v_par3 _ _ _ ?_) | ((with_reducible refine v_gtup ?_ ?_); rfl) | with_reducible refine v_ixT (by with_unfolding_all rfl) ?_ | with_reducible refine v_ixL (by with_unfolding_all rfl) ?_ | with_reducible refine v_ixR (by with_unfolding_all rfl) ?_ | ((with_reducible refine v_ixS ?_ (by with_unfolding_all rfl) ?_); sizeOf_list_dec) | ((with_reducible refine And.intro ?_ ?_); sizeOf_list_dec) | with_reducible refine v_dt (by first | assumption | with_unfolding_all rfl | omega | (simp only [List.length_map, List.length_append, List.length_cons, List.length_nil, List.length_reverse, txts_lenG]; first | done | omega)) ?_ | with_reducible refine v_ndt (by first | assumption | with_unfolding_all rfl | omega | (simp only [List.length_map, List.length_append, List.length_cons, List.length_nil, List.length_reverse, txts_lenG]; first | done | omega)) ?_ | with_reducible refine v_df (by first | assumption | omega | (with_unfolding_all decide) | (simp only [List.length_map, List.length_append, List.length_cons, List.length_nil, List.length_reverse, txts_lenG]; first | done | omega)) ?_ | with_reducible refine v_ndf (by first | assumption | omega | (with_unfolding_all decide) | (simp only [List.length_map, List.length_append, List.length_cons, List.length_nil, List.length_reverse, txts_lenG]; first | done | omega)) ?_ | decreasing_trivial_pre_omega | ((with_reducible refine v_isname ?_); dsimp only [wipeD, List.set]) | ((with_reducible refine v_isvar ?_); dsimp only [wipeD, List.set]))
local macro_rules | `(tactic| array_mem_dec) => `(tactic| repeat array_get_dec)
local macro_rules | `(tactic| bv_omega) => `(tactic| repeat' (first | array_get_dec | with_reducible refine ite_d (fun _ => ?_) (fun _ => ?_) | with_reducible refine ite_nd (fun _ => ?_) (fun _ => ?_) | with_reducible refine ite_b (fun _ => ?_) (fun _ => ?_) | with_reducible refine ite_nb (fun _ => ?_) (fun _ => ?_)))
local macro_rules | `(tactic| decreasing_trivial_pre_omega) => `(tactic| with_reducible refine kz_name ?_)
local macro_rules | `(tactic| decreasing_trivial_pre_omega) => `(tactic| with_reducible refine kz_family ?_)
local macro_rules | `(tactic| decreasing_trivial_pre_omega) => `(tactic| with_reducible refine kz_marks ?_)
local macro_rules | `(tactic| decreasing_trivial_pre_omega) => `(tactic| with_reducible refine kz_yes ?_)
local macro_rules | `(tactic| decreasing_trivial_pre_omega) => `(tactic| with_reducible refine kz_no ?_)
local macro_rules | `(tactic| decreasing_trivial_pre_omega) => `(tactic| with_reducible refine kz_digits ?_)
local macro_rules | `(tactic| decreasing_trivial_pre_omega) => `(tactic| with_reducible refine kz_point ?_)
local macro_rules | `(tactic| decreasing_trivial_pre_omega) => `(tactic| with_reducible refine kz_keep ?_)
local macro_rules | `(tactic| decreasing_trivial_pre_omega) => `(tactic| with_reducible refine v_lenSet ?_)
local macro_rules | `(tactic| decreasing_trivial_pre_omega) => `(tactic| with_reducible refine kz_parts ?_)
local macro_rules | `(tactic| decreasing_trivial_pre_omega) => `(tactic| with_reducible refine bz_kinds ?_)
local macro_rules | `(tactic| decreasing_trivial_pre_omega) => `(tactic| with_reducible refine bz_spare ?_)
local macro_rules | `(tactic| decreasing_trivial_pre_omega) => `(tactic| with_reducible refine bz_joined ?_)
local macro_rules | `(tactic| decreasing_trivial_pre_omega) => `(tactic| with_reducible refine bz_mark ?_)
local macro_rules | `(tactic| decreasing_trivial_pre_omega) => `(tactic| with_reducible refine bz_meth (by decide) ?_)
local macro_rules | `(tactic| decreasing_trivial_pre_omega) => `(tactic| with_reducible refine lz_book ?_)
local macro_rules | `(tactic| decreasing_trivial_pre_omega) => `(tactic| with_reducible refine lz_name ?_)
local macro_rules | `(tactic| decreasing_trivial_pre_omega) => `(tactic| with_reducible refine lz_kind ?_)
local macro_rules | `(tactic| decreasing_trivial_pre_omega) => `(tactic| with_reducible refine v_intO ?_)
local macro_rules | `(tactic| decreasing_trivial_pre_omega) => `(tactic| with_reducible refine v_gh ?_)
local macro_rules | `(tactic| decreasing_trivial_pre_omega) => `(tactic| with_reducible refine v_sp0 ?_)
local macro_rules | `(tactic| decreasing_trivial_pre_omega) => `(tactic| with_reducible refine v_sp1 ?_)
local macro_rules | `(tactic| decreasing_trivial_pre_omega) => `(tactic| with_reducible refine v_sp2 ?_)
local macro_rules | `(tactic| decreasing_trivial_pre_omega) => `(tactic| with_reducible refine v_sp3 ?_)
local macro_rules | `(tactic| decreasing_trivial_pre_omega) => `(tactic| with_reducible refine v_sp4 ?_)
local macro_rules | `(tactic| decreasing_trivial_pre_omega) => `(tactic| with_reducible refine v_sp5 ?_)
local macro_rules | `(tactic| decreasing_trivial_pre_omega) => `(tactic| with_reducible refine v_op0 ?_)
local macro_rules | `(tactic| decreasing_trivial_pre_omega) => `(tactic| with_reducible refine v_op1 ?_)
local macro_rules | `(tactic| decreasing_trivial_pre_omega) => `(tactic| with_reducible refine v_op4 ?_)
local macro_rules | `(tactic| decreasing_trivial_pre_omega) => `(tactic| with_reducible refine v_op5 ?_)
local macro_rules | `(tactic| decreasing_trivial_pre_omega) => `(tactic| with_reducible refine v_onN ?_)
local macro_rules | `(tactic| decreasing_trivial_pre_omega) => `(tactic| with_reducible refine v_onS ?_)
local macro_rules | `(tactic| decreasing_trivial_pre_omega) => `(tactic| with_reducible refine v_nonN ?_)
local macro_rules | `(tactic| decreasing_trivial_pre_omega) => `(tactic| with_reducible refine v_nonS ?_)
local macro_rules | `(tactic| decreasing_trivial_pre_omega) => `(tactic| with_reducible refine v_trip0 ?_)
local macro_rules | `(tactic| decreasing_trivial_pre_omega) => `(tactic| with_reducible refine v_trip1 ?_)
local macro_rules | `(tactic| decreasing_trivial_pre_omega) => `(tactic| with_reducible refine v_iList ?_)
local macro_rules | `(tactic| decreasing_trivial_pre_omega) => `(tactic| with_reducible refine v_iEnum ?_)
/-! ### kinds of columns -/
/-- all texts have a kind -/
def Owned (ks : List KindR) (ts : List (List Nat)) : Prop := ∀ t ∈ ts, t.length ≤ 1000000 ∧ ∃ k, ownK ks t = some k
local macro_rules | `(tactic| decreasing_trivial_pre_omega) => `(tactic| with_reducible refine v_prop ?_)
local macro_rules | `(tactic| decreasing_trivial_pre_omega) => `(tactic| with_reducible refine bk_prop ?_)
theorem Owned.of {ks : List KindR} {L : Nat} {ts : List (List Nat)} (h : OkS ks L) (ht : ∀ t ∈ ts, isText t = true ∧ t.length ≤ 1000000) : Owned ks ts := fun t hm => ⟨(ht t hm).2, h.own (ht t hm).1⟩
end G
namespace G
open PySem PySem.Spec PyProof.Rows L2
/-! ### numbers cut -/
def seenN (s d : Nat) : Nat := if 0 < s ∨ d ≠ 48 then s + 1 else s
/-- digits with zeros behind the first n significant ones; s: how many were seen -/
def cutG (n : Nat) : Nat → List Nat → List Nat
  | _, [] => []
  | s, d :: ds => (if seenN s d ≤ n then d else 48) :: cutG n (seenN s d) ds
theorem cutG_len (n : Nat) : ∀ (s : Nat) (l : List Nat), (cutG n s l).length = l.length
  | _, [] => rfl
  | s, d :: ds => congrArg (· + 1) (cutG_len n _ ds)
theorem cutG_dig (n : Nat) : ∀ (s : Nat) (l : List Nat), l.all isDig = true → (cutG n s l).all isDig = true
  | _, [], _ => rfl
  | s, d :: ds, h => by
    rw [List.all_cons, Bool.and_eq_true] at h
    unfold cutG
    rw [List.all_cons, cutG_dig n _ ds h.2, Bool.and_true]
    split
    · exact h.1
    · rfl
theorem cutG_app (n : Nat) : ∀ (s : Nat) (l r : List Nat), cutG n s (l ++ r) = cutG n s l ++ cutG n (l.foldl seenN s) r
  | _, [], _ => rfl
  | s, d :: ds, r => by
    show (if seenN s d ≤ n then d else 48) :: cutG n (seenN s d) (ds ++ r) = _
    rw [cutG_app n _ ds r]; rfl
theorem rdrop_zeros_ex : ∀ p : List Nat, ∃ k, p = rdrop isZ p ++ List.replicate k 48 := by
  intro p
  have : ∀ r : List Nat, ∃ k, r = List.replicate k 48 ++ r.dropWhile isZ := by
    intro r
    induction r with
    | nil => exact ⟨0, rfl⟩
    | cons c r ih =>
      by_cases hc : isZ c = true
      · obtain ⟨k, e⟩ := ih
        refine ⟨k + 1, ?_⟩
        rw [List.dropWhile_cons_of_pos hc, List.replicate_succ, List.cons_append, ← e, (isZ_iff c).mp hc]
      · exact ⟨0, by rw [List.dropWhile_cons_of_neg hc]; rfl⟩
  obtain ⟨k, e⟩ := this p.reverse
  refine ⟨k, ?_⟩
  have := congrArg List.reverse e
  rw [List.reverse_reverse, List.reverse_append, List.reverse_replicate] at this
  exact this
def cutA (n : Nat) (w p : List Nat) : List Nat := cutG n 0 (w ++ p)
def cutW (n : Nat) (w p : List Nat) : List Nat := (cutA n w p).take w.length
def cutP (n : Nat) (w p : List Nat) : List Nat := rdrop isZ ((cutA n w p).drop w.length)
theorem cutW_eq (n : Nat) (w p : List Nat) : cutW n w p = cutG n 0 w := by
  unfold cutW cutA
  rw [cutG_app, ← cutG_len n 0 w, List.take_left]
theorem whole_first {w : List Nat} (h : wholeN w = w) (hd : digs w = true) : ∃ c t, w = c :: t ∧ (c ≠ 48 ∨ t = []) := by
  obtain ⟨c, t, rfl, _⟩ := dig_head hd
  refine ⟨c, t, rfl, ?_⟩
  by_cases e : c = 48
  · right
    cases t with
    | nil => rfl
    | cons x y =>
      exfalso
      rw [wholeN_cons e (by simp)] at h
      have h2 : (wholeN (x :: y)).length ≤ (x :: y).length := by
        unfold wholeN
        split
        · exact dropWhile_le _ _
        · simp
      rw [h] at h2
      simp at h2
      omega
  · exact .inl e
theorem Canon.cut {s w p : List Nat} (h : Canon s w p) {n : Nat} (hn : 1 ≤ n) : Canon s (cutW n w p) (cutP n w p) := by
  obtain ⟨c, t, hw, hc⟩ := whole_first h.ww h.dw
  have dw := h.dw
  unfold digs at dw
  rw [Bool.and_eq_true] at dw
  have e1 : cutW n w p = c :: cutG n (seenN 0 c) t := by
    rw [cutW_eq, hw]
    have : (if seenN 0 c ≤ n then c else 48) = c := by
      by_cases e : c = 48
      · subst e; split <;> rfl
      · have sd : seenN 0 c = 1 := if_pos (.inr e)
        rw [sd, if_pos hn]
    show (if seenN 0 c ≤ n then c else 48) :: cutG n (seenN 0 c) t = _
    rw [this]
  refine ⟨h.sg, ?_, ?_, ?_, rdrop_idem _, ?_⟩
  · unfold digs
    rw [cutW_eq, cutG_dig _ _ _ dw.2, decide_eq_true]
    · rfl
    · intro z
      have := congrArg List.length z
      rw [cutG_len, hw] at this
      simp at this
  · rw [e1]
    rcases hc with hc | rfl
    · exact wholeN_same hc
    · exact wholeN_one
  · refine all_rdrop ?_
    have : (cutA n w p).all isDig = true := cutG_dig _ _ _ (by rw [List.all_append, dw.2, h.dp]; rfl)
    rw [List.all_eq_true] at this ⊢
    intro x hx
    exact this x (List.mem_of_mem_drop hx)
  · rintro ⟨z1, z2, z3⟩
    rw [e1] at z2
    injection z2 with c0 t0
    have ht : t = [] := by
      have := congrArg List.length t0
      rw [cutG_len] at this
      exact List.length_eq_zero_iff.mp this
    subst ht
    have hp : p ≠ [] := fun z => h.nz ⟨z1, by rw [hw, c0], z⟩
    have e2 : (cutA n w p).drop w.length = cutG n 0 p := by
      unfold cutA
      rw [hw, c0]
      rfl
    unfold cutP at z3
    rw [e2] at z3
    have all0 : ∀ (l : List Nat), rdrop isZ (cutG n 0 l) = [] → ∃ k, l = List.replicate k 48 := by
      intro l
      induction l with
      | nil => exact fun _ => ⟨0, rfl⟩
      | cons d ds ih =>
        intro z
        by_cases e : d = 48
        · subst e
          have e3 : cutG n 0 (48 :: ds) = 48 :: cutG n 0 ds := by
            show (if seenN 0 48 ≤ n then 48 else 48) :: cutG n (seenN 0 48) ds = _
            rw [show seenN 0 48 = 0 from rfl]
            split <;> rfl
          rw [e3] at z
          have z2 : rdrop isZ (cutG n 0 ds) = [] := by
            obtain ⟨k, e4⟩ := rdrop_zeros_ex (48 :: cutG n 0 ds)
            rw [z, List.nil_append] at e4
            cases k with
            | zero => cases e4
            | succ k =>
              rw [List.replicate_succ] at e4
              injection e4 with _ e4
              rw [e4]
              have := rdrop_zeros [] k
              rw [List.nil_append] at this
              rw [this]; rfl
          obtain ⟨k, e5⟩ := ih z2
          exact ⟨k + 1, by rw [List.replicate_succ, e5]⟩
        · exfalso
          obtain ⟨k, e4⟩ := rdrop_zeros_ex (cutG n 0 (d :: ds))
          rw [z, List.nil_append] at e4
          have : cutG n 0 (d :: ds) = d :: cutG n 1 ds := by
            have sd : seenN 0 d = 1 := if_pos (.inr e)
            show (if seenN 0 d ≤ n then d else 48) :: cutG n (seenN 0 d) ds = _
            rw [sd, if_pos hn]
          rw [this] at e4
          cases k with
          | zero => cases e4
          | succ k =>
            rw [List.replicate_succ] at e4
            injection e4 with e4 _
            exact e e4
    obtain ⟨k, e6⟩ := all0 p z3
    have := h.pp
    rw [e6] at this
    have e7 := rdrop_zeros [] k
    rw [List.nil_append] at e7
    rw [e7] at this
    have : ([] : List Nat) = List.replicate k 48 := this
    rw [← this] at e6
    exact hp e6
end G
namespace G
open PySem PySem.Spec PyProof.Rows L2
local macro_rules | `(tactic| sizeOf_list_dec) => `(tactic| exact szl (by first | omega | (simp only [List.length_append, List.length_cons, List.length_nil, List.length_map, List.length_reverse, List.length_singleton, txts_lenG]; omega) | (simp only [List.length_append, List.length_cons, List.length_nil, List.length_map, List.length_reverse, txts_lenG]; omega)))
local macro_rules | `(tactic| array_get_dec) => `(tactic| first | with_reducible refine v_seq ?_ | with_reducible refine v_next ?_ | with_reducible refine v_asg ?_ | (with_reducible refine v_isvar ?_; first | with_reducible refine v_var0 ?_ | with_reducible refine v_var1 ?_ | with_reducible refine v_var2 ?_ | with_reducible refine v_var3 ?_ | with_reducible refine v_var4 ?_ | with_reducible refine v_var5 ?_ | with_reducible refine v_var6 ?_ | with_reducible refine v_var7 ?_ | with_reducible refine v_var8 ?_ | with_reducible refine v_var9 ?_ | with_reducible refine v_var10 ?_ | with_reducible refine v_var11 ?_ | with_reducible refine v_var12 ?_ | with_reducible refine v_var13 ?_ | with_reducible refine v_var14 ?_ | with_reducible refine v_var15 ?_ | with_reducible refine v_var16 ?_ | with_reducible refine v_var17 ?_ | with_reducible refine v_var18 ?_ | with_reducible refine v_var19 ?_ | with_reducible refine v_var20 ?_ | with_reducible refine v_var21 ?_ | with_reducible refine v_var22 ?_ | with_reducible refine v_var23 ?_ | with_reducible refine v_var24 ?_ | with_reducible refine v_var25 ?_) | (with_reducible refine v_isname ?_; first | with_reducible refine v_name0 ?_ | with_reducible refine v_wname0 ?_ | with_reducible refine v_name1 ?_ | with_reducible refine v_wname1 ?_ | with_reducible refine v_name2 ?_ | with_reducible refine v_wname2 ?_ | with_reducible refine v_name3 ?_ | with_reducible refine v_wname3 ?_ | with_reducible refine v_name4 ?_ | with_reducible refine v_wname4 ?_ | with_reducible refine v_name5 ?_ | with_reducible refine v_wname5 ?_ | with_reducible refine v_name6 ?_ | with_reducible refine v_wname6 ?_ | with_reducible refine v_name7 ?_ | with_reducible refine v_wname7 ?_ | with_reducible refine v_name8 ?_ | with_reducible refine v_wname8 ?_ | with_reducible refine v_name9 ?_ | with_reducible refine v_wname9 ?_ | with_reducible refine v_name10 ?_ | with_reducible refine v_wname10 ?_ | with_reducible refine v_name11 ?_ | with_reducible refine v_wname11 ?_ | with_reducible refine v_name12 ?_ | with_reducible refine v_wname12 ?_ | with_reducible refine v_name13 ?_ | with_reducible refine v_wname13 ?_ | with_reducible refine v_name14 ?_ | with_reducible refine v_wname14 ?_ | with_reducible refine v_name15 ?_ | with_reducible refine v_wname15 ?_ | with_reducible refine v_name16 ?_ | with_reducible refine v_wname16 ?_ | with_reducible refine v_name17 ?_ | with_reducible refine v_wname17 ?_ | with_reducible refine v_name18 ?_ | with_reducible refine v_wname18 ?_ | with_reducible refine v_name19 ?_ | with_reducible refine v_wname19 ?_ | with_reducible refine v_name20 ?_ | with_reducible refine v_wname20 ?_ | with_reducible refine v_name21 ?_ | with_reducible refine v_wname21 ?_ | with_reducible refine v_name22 ?_ | with_reducible refine v_wname22 ?_ | with_reducible refine v_name23 ?_ | with_reducible refine v_wname23 ?_ | with_reducible refine v_name24 ?_ | with_reducible refine v_wname24 ?_ | with_reducible refine v_name25 ?_ | with_reducible refine v_wname25 ?_) | with_reducible refine v_drop ?_ | with_reducible refine v_ret ?_ | with_reducible refine v_ifS ?_ | with_reducible refine v_test ?_ | with_reducible refine v_bl ?_ | with_reducible refine v_const ?_ | with_reducible refine v_op ?_ | with_reducible refine v_cb ?_ | with_reducible refine v_nil ?_ | with_reducible refine v_cons ?_ | with_reducible refine v_fld ?_ | with_reducible refine v_meth ?_ | with_reducible refine v_cal ?_ | with_reducible refine v_call0 ?_ | with_reducible refine v_pos2 ?_ | with_reducible refine v_tt ?_ | with_reducible refine v_ff ?_ | with_reducible refine v_ntt ?_ | with_reducible refine v_nff ?_ | with_reducible refine v_dnot ?_ | with_reducible refine v_dand ?_ | with_reducible refine v_dor ?_ | with_reducible refine v_andV ?_ | with_reducible refine v_orV ?_ | with_reducible refine v_notV ?_ | with_reducible refine v_ifE ?_ | with_reducible refine v_bm0 ?_ | with_reducible refine v_eqS ?_ | with_reducible refine v_eqI ?_ | with_reducible refine v_neS ?_ | with_reducible refine v_neI ?_ | with_reducible refine v_eqB ?_ | with_reducible refine v_neB ?_ | with_reducible refine v_isNn ?_ | with_reducible refine v_isNs ?_ | with_reducible refine v_isNi ?_ | with_reducible refine v_isNt ?_ | with_reducible refine v_notNn ?_ | with_reducible refine v_notNs ?_ | with_reducible refine v_notNi ?_ | with_reducible refine v_notNt ?_ | with_reducible refine v_isN ?_ | with_reducible refine v_notN ?_ | with_reducible refine v_lt ?_ | with_reducible refine v_le ?_ | with_reducible refine v_gt ?_ | with_reducible refine v_ge ?_ | with_reducible refine v_addI ?_ | with_reducible refine v_subI ?_ | with_reducible refine v_lenT ?_ | with_reducible refine v_lenL ?_ | with_reducible refine v_chain ?_ | with_reducible refine v_un ?_ | with_reducible refine v_tup ?_ | with_reducible refine v_lst ?_ | with_reducible refine v_lstC ?_ | with_reducible refine v_gsub ?_ | with_reducible refine v_rng1 ?_ | with_reducible refine v_rng2 ?_ | with_reducible refine v_slice ?_ | with_reducible refine v_nopart ?_ | with_reducible refine v_part ?_ | with_reducible refine v_partI ?_ | with_reducible refine v_slT ?_ | with_reducible refine v_slL ?_ | with_reducible refine v_rev ?_ | with_reducible refine v_revO ?_ | with_reducible refine v_enumS ?_ | with_reducible refine v_enumL ?_ | with_reducible refine v_enumT ?_ | with_reducible refine v_zipS ?_ | with_reducible refine v_revL ?_ | with_reducible refine v_revT ?_ | with_reducible refine v_putT ?_ | with_reducible refine v_putK ?_ | with_reducible refine v_inT ?_ | with_reducible refine v_getT ?_ | with_reducible refine v_get2T ?_ | with_reducible refine v_make ?_ | with_reducible refine v_fldSet ?_ | with_reducible refine v_forL ?_ | with_reducible refine v_forT ?_ | with_reducible refine v_forS ?_ | with_reducible refine v_lstO ?_ | with_reducible refine v_rolO ?_ | with_reducible refine v_tupO ?_ | with_reducible refine v_strO ?_ | with_reducible refine v_listT ?_ | with_reducible refine v_listL ?_ | with_reducible refine v_tupleL ?_ | with_reducible refine v_tupleT ?_ | with_reducible refine v_isiS ?_ | with_reducible refine v_isiT ?_ | with_reducible refine v_isiL ?_ | with_reducible refine v_allM ?_ | with_reducible refine v_anyM ?_ | with_reducible refine v_eqNS ?_ | with_reducible refine v_neNS ?_ | with_reducible refine v_gcons ?_ | with_reducible refine v_gnil ?_ | with_reducible refine v_par2 ?_ | with_reducible refine v_par33 ?_ | with_reducible refine v_retN ?_ | with_reducible refine v_sameS ?_ | with_reducible refine v_sameB ?_ | with_reducible refine v_sameI ?_ | with_reducible refine v_sameN ?_ | with_reducible refine v_sameT ?_ | with_reducible refine v_sameL ?_ | with_reducible refine v_endN ?_ | with_reducible refine v_bm ?_ | with_reducible refine v_tystr ?_ | with_reducible refine v_break ?_ | with_reducible refine v_cont ?_ | ((with_reducible refine v_slS ?_ ?_); sizeOf_list_dec) | ((with_reducible refine v_lenS ?_ ?_); sizeOf_list_dec) | ((with_reducible refine v_addS ?_ ?_); sizeOf_list_dec) | ((with_reducible refine v_addT ?_ ?_); sizeOf_list_dec) | ((with_reducible refine v_addL ?_ ?_); sizeOf_list_dec) | (with_reducible refine v_par _ _ ?_) | (with_reducible refine v_par3 _ _ _ ?_) | ((with_reducible refine v_gtup ?_ ?_); rfl) | with_reducible refine v_ixT (by with_unfolding_all rfl) ?_ | with_reducible refine v_ixL (by with_unfolding_all rfl) ?_ | with_reducible refine v_ixR (by with_unfolding_all rfl) ?_ | ((with_reducible refine v_ixS ?_ (by with_unfolding_all rfl) ?_); sizeOf_list_dec) | ((with_reducible refine And.intro ?_ ?_); sizeOf_list_dec) | with_reducible refine v_dt (by first | assumption | with_unfolding_all rfl | omega | (simp only [List.length_map, List.length_append, List.length_cons, List.length_nil, List.length_reverse, txts_lenG]; first | done | omega)) ?_ | with_reducible refine v_ndt (by first | assumption | with_unfolding_all rfl | omega | (simp only [List.length_map, List.length_append, List.length_cons, List.length_nil, List.length_reverse, txts_lenG]; first | done | omega)) ?_ | with_reducible refine v_df (by first | assumption | omega | (with_unfolding_all decide) | (simp only [List.length_map, List.length_append, List.length_cons, List.length_nil, List.length_reverse, txts_lenG]; first | done | omega)) ?_ | with_reducible refine v_ndf (by first | assumption | omega | (with_unfolding_all decide) | (simp only [List.length_map, List.length_append, List.length_cons, List.length_nil, List.length_reverse, txts_lenG]; first | done | omega)) ?_ | decreasing_trivial_pre_omega | ((with_reducible refine v_isname ?_); dsimp only [wipeD, List.set]) | ((with_reducible refine v_isvar ?_); dsimp only [wipeD, List.set]))
local macro_rules | `(tactic| array_mem_dec) => `(tactic| repeat array_get_dec)
local macro_rules | `(tactic| bv_omega) => `(tactic| repeat' (first | array_get_dec | with_reducible refine ite_d (fun _ => ?_) (fun _ => ?_) | with_reducible refine ite_nd (fun _ => ?_) (fun _ => ?_) | with_reducible refine ite_b (fun _ => ?_) (fun _ => ?_) | with_reducible refine ite_nb (fun _ => ?_) (fun _ => ?_)))
/-! ### cut_number -/
end G
namespace G
open PySem PySem.Spec PyProof.Rows L2
local macro_rules | `(tactic| sizeOf_list_dec) => `(tactic| exact szl (by first | omega | (simp only [List.length_append, List.length_cons, List.length_nil, List.length_map, List.length_reverse, List.length_singleton, txts_lenG]; omega) | (simp only [List.length_append, List.length_cons, List.length_nil, List.length_map, List.length_reverse, txts_lenG]; omega)))
local macro_rules | `(tactic| array_get_dec) => `(tactic| first | with_reducible refine v_seq ?_ | with_reducible refine v_next ?_ | with_reducible refine v_asg ?_ | (with_reducible refine v_isvar ?_; first | with_reducible refine v_var0 ?_ | with_reducible refine v_var1 ?_ | with_reducible refine v_var2 ?_ | with_reducible refine v_var3 ?_ | with_reducible refine v_var4 ?_ | with_reducible refine v_var5 ?_ | with_reducible refine v_var6 ?_ | with_reducible refine v_var7 ?_ | with_reducible refine v_var8 ?_ | with_reducible refine v_var9 ?_ | with_reducible refine v_var10 ?_ | with_reducible refine v_var11 ?_ | with_reducible refine v_var12 ?_ | with_reducible refine v_var13 ?_ | with_reducible refine v_var14 ?_ | with_reducible refine v_var15 ?_ | with_reducible refine v_var16 ?_ | with_reducible refine v_var17 ?_ | with_reducible refine v_var18 ?_ | with_reducible refine v_var19 ?_ | with_reducible refine v_var20 ?_ | with_reducible refine v_var21 ?_ | with_reducible refine v_var22 ?_ | with_reducible refine v_var23 ?_ | with_reducible refine v_var24 ?_ | with_reducible refine v_var25 ?_) | (with_reducible refine v_isname ?_; first | with_reducible refine v_name0 ?_ | with_reducible refine v_wname0 ?_ | with_reducible refine v_name1 ?_ | with_reducible refine v_wname1 ?_ | with_reducible refine v_name2 ?_ | with_reducible refine v_wname2 ?_ | with_reducible refine v_name3 ?_ | with_reducible refine v_wname3 ?_ | with_reducible refine v_name4 ?_ | with_reducible refine v_wname4 ?_ | with_reducible refine v_name5 ?_ | with_reducible refine v_wname5 ?_ | with_reducible refine v_name6 ?_ | with_reducible refine v_wname6 ?_ | with_reducible refine v_name7 ?_ | with_reducible refine v_wname7 ?_ | with_reducible refine v_name8 ?_ | with_reducible refine v_wname8 ?_ | with_reducible refine v_name9 ?_ | with_reducible refine v_wname9 ?_ | with_reducible refine v_name10 ?_ | with_reducible refine v_wname10 ?_ | with_reducible refine v_name11 ?_ | with_reducible refine v_wname11 ?_ | with_reducible refine v_name12 ?_ | with_reducible refine v_wname12 ?_ | with_reducible refine v_name13 ?_ | with_reducible refine v_wname13 ?_ | with_reducible refine v_name14 ?_ | with_reducible refine v_wname14 ?_ | with_reducible refine v_name15 ?_ | with_reducible refine v_wname15 ?_ | with_reducible refine v_name16 ?_ | with_reducible refine v_wname16 ?_ | with_reducible refine v_name17 ?_ | with_reducible refine v_wname17 ?_ | with_reducible refine v_name18 ?_ | with_reducible refine v_wname18 ?_ | with_reducible refine v_name19 ?_ | with_reducible refine v_wname19 ?_ | with_reducible refine v_name20 ?_ | with_reducible refine v_wname20 ?_ | with_reducible refine v_name21 ?_ | with_reducible refine v_wname21 ?_ | with_reducible refine v_name22 ?_ | with_reducible refine v_wname22 ?_ | with_reducible refine v_name23 ?_ | with_reducible refine v_wname23 ?_ | with_reducible refine v_name24 ?_ | with_reducible refine v_wname24 ?_ | with_reducible refine v_name25 ?_ | with_reducible refine v_wname25 ?_) | with_reducible refine v_drop ?_ | with_reducible refine v_ret ?_ | with_reducible refine v_ifS ?_ | with_reducible refine v_test ?_ | with_reducible refine v_bl ?_ | with_reducible refine v_const ?_ | with_reducible refine v_op ?_ | with_reducible refine v_cb ?_ | with_reducible refine v_nil ?_ | with_reducible refine v_cons ?_ | with_reducible refine v_fld ?_ | with_reducible refine v_meth ?_ | with_reducible refine v_cal ?_ | with_reducible refine v_call0 ?_ | with_reducible refine v_pos2 ?_ | with_reducible refine v_tt ?_ | with_reducible refine v_ff ?_ | with_reducible refine v_ntt ?_ | with_reducible refine v_nff ?_ | with_reducible refine v_dnot ?_ | with_reducible refine v_dand ?_ | with_reducible refine v_dor ?_ | with_reducible refine v_andV ?_ | with_reducible refine v_orV ?_ | with_reducible refine v_notV ?_ | with_reducible refine v_ifE ?_ | with_reducible refine v_bm0 ?_ | with_reducible refine v_eqS ?_ | with_reducible refine v_eqI ?_ | with_reducible refine v_neS ?_ | with_reducible refine v_neI ?_ | with_reducible refine v_eqB ?_ | with_reducible refine v_neB ?_ | with_reducible refine v_isNn ?_ | with_reducible refine v_isNs ?_ | with_reducible refine v_isNi ?_ | with_reducible refine v_isNt ?_ | with_reducible refine v_notNn ?_ | with_reducible refine v_notNs ?_ | with_reducible refine v_notNi ?_ | with_reducible refine v_notNt ?_ | with_reducible refine v_isN ?_ | with_reducible refine v_notN ?_ | with_reducible refine v_lt ?_ | with_reducible refine v_le ?_ | with_reducible refine v_gt ?_ | with_reducible refine v_ge ?_ | with_reducible refine v_addI ?_ | with_reducible refine v_subI ?_ | with_reducible refine v_lenT ?_ | with_reducible refine v_lenL ?_ | with_reducible refine v_chain ?_ | with_reducible refine v_un ?_ | with_reducible refine v_tup ?_ | with_reducible refine v_lst ?_ | with_reducible refine v_lstC ?_ | with_reducible refine v_gsub ?_ | with_reducible refine v_rng1 ?_ | with_reducible refine v_rng2 ?_ | with_reducible refine v_slice ?_ | with_reducible refine v_nopart ?_ | with_reducible refine v_part ?_ | with_reducible refine v_partI ?_ | with_reducible refine v_slT ?_ | with_reducible refine v_slL ?_ | with_reducible refine v_rev ?_ | with_reducible refine v_revO ?_ | with_reducible refine v_enumS ?_ | with_reducible refine v_enumL ?_ | with_reducible refine v_enumT ?_ | with_reducible refine v_zipS ?_ | with_reducible refine v_revL ?_ | with_reducible refine v_revT ?_ | with_reducible refine v_putT ?_ | with_reducible refine v_putK ?_ | with_reducible refine v_inT ?_ | with_reducible refine v_getT ?_ | with_reducible refine v_get2T ?_ | with_reducible refine v_make ?_ | with_reducible refine v_fldSet ?_ | with_reducible refine v_forL ?_ | with_reducible refine v_forT ?_ | with_reducible refine v_forS ?_ | with_reducible refine v_lstO ?_ | with_reducible refine v_rolO ?_ | with_reducible refine v_tupO ?_ | with_reducible refine v_strO ?_ | with_reducible refine v_listT ?_ | with_reducible refine v_listL ?_ | with_reducible refine v_tupleL ?_ | with_reducible refine v_tupleT ?_ | with_reducible refine v_isiS ?_ | with_reducible refine v_isiT ?_ | with_reducible refine v_isiL ?_ | with_reducible refine v_allM ?_ | with_reducible refine v_anyM ?_ | with_reducible refine v_eqNS ?_ | with_reducible refine v_neNS ?_ | with_reducible refine v_gcons ?_ | with_reducible refine v_gnil ?_ | with_reducible refine v_par2 ?_ | with_reducible refine v_par33 ?_ | with_reducible refine v_retN ?_ | with_reducible refine v_sameS ?_ | with_reducible refine v_sameB ?_ | with_reducible refine v_sameI ?_ | with_reducible refine v_sameN ?_ | with_reducible refine v_sameT ?_ | with_reducible refine v_sameL ?_ | with_reducible refine v_endN ?_ | with_reducible refine v_bm ?_ | with_reducible refine v_tystr ?_ | with_reducible refine v_break ?_ | with_reducible refine v_cont ?_ | ((with_reducible refine v_slS ?_ ?_); sizeOf_list_dec) | ((with_reducible refine v_lenS ?_ ?_); sizeOf_list_dec) | ((with_reducible refine v_addS ?_ ?_); sizeOf_list_dec) | ((with_reducible refine v_addT ?_ ?_); sizeOf_list_dec) | ((with_reducible refine v_addL ?_ ?_); sizeOf_list_dec) | (with_reducible refine v_par _ _ ?_) | (with_reducible refine v_par3 _ _ _ ?_) | ((with_reducible refine v_gtup ?_ ?_); rfl) | with_reducible refine v_ixT (by with_unfolding_all rfl) ?_ | with_reducible refine v_ixL (by with_unfolding_all rfl) ?_ | with_reducible refine v_ixR (by with_unfolding_all rfl) ?_ | ((with_reducible refine v_ixS ?_ (by with_unfolding_all rfl) ?_); sizeOf_list_dec) | ((with_reducible refine And.intro ?_ ?_); sizeOf_list_dec) | with_reducible refine v_dt (by first | assumption | with_unfolding_all rfl | omega | (simp only [List.length_map, List.length_append, List.length_cons, List.length_nil, List.length_reverse, txts_lenG]; first | done | omega)) ?_ | with_reducible refine v_ndt (by first | assumption | with_unfolding_all rfl | omega | (simp only [List.length_map, List.length_append, List.length_cons, List.length_nil, List.length_reverse, txts_lenG]; first | done | omega)) ?_ | with_reducible refine v_df (by first | assumption | omega | (with_unfolding_all decide) | (simp only [List.length_map, List.length_append, List.length_cons, List.length_nil, List.length_reverse, txts_lenG]; first | done | omega)) ?_ | with_reducible refine v_ndf (by first | assumption | omega | (with_unfolding_all decide) | (simp only [List.length_map, List.length_append, List.length_cons, List.length_nil, List.length_reverse, txts_lenG]; first | done | omega)) ?_ | decreasing_trivial_pre_omega | ((with_reducible refine v_isname ?_); dsimp only [wipeD, List.set]) | ((with_reducible refine v_isvar ?_); dsimp only [wipeD, List.set]))
local macro_rules | `(tactic| array_mem_dec) => `(tactic| repeat array_get_dec)
local macro_rules | `(tactic| bv_omega) => `(tactic| repeat' (first | array_get_dec | with_reducible refine ite_d (fun _ => ?_) (fun _ => ?_) | with_reducible refine ite_nd (fun _ => ?_) (fun _ => ?_) | with_reducible refine ite_b (fun _ => ?_) (fun _ => ?_) | with_reducible refine ite_nb (fun _ => ?_) (fun _ => ?_)))
/-! ### values of texts -/
/-- the plain form of a number text, in its three parts -/
def canP (l : List Nat) : List Nat × List Nat × List Nat := match splitN l with
  | some (s, w, o) => (if rdrop isZ (o.getD []) = [] ∧ wholeN w = [48] then [] else if s = [45] then [45] else [], wholeN w, rdrop isZ (o.getD []))
  | none => ([], [48], [])
/-- the value of a text that a kind takes -/
def valV (k : KindR) (l : List Nat) : Va :=
  if k.fam = famMissing then .miss
  else if k.fam = famTruth then .truth (decide (l ∈ k.yes))
  else if k.fam = famText then .text l
  else match k.keep with
    | none => .num (canP l).1 (canP l).2.1 (canP l).2.2
    | some n => .num (canP l).1 (cutW n (canP l).2.1 (canP l).2.2) (cutP n (canP l).2.1 (canP l).2.2)
local macro_rules | `(tactic| decreasing_trivial_pre_omega) => `(tactic| with_reducible refine kindD_fam ?_)
local macro_rules | `(tactic| decreasing_trivial_pre_omega) => `(tactic| with_reducible refine kindD_keep ?_)
local macro_rules | `(tactic| decreasing_trivial_pre_omega) => `(tactic| with_reducible refine kindD_yes ?_)
end G
namespace G
open PySem PySem.Spec PyProof.Rows L2
/-! ### kinds that hold others: the kind of a column holds the own kinds of its texts -/
end G
namespace G
open PySem PySem.Spec PyProof.Rows L2
local macro_rules | `(tactic| sizeOf_list_dec) => `(tactic| exact szl (by first | omega | (simp only [List.length_append, List.length_cons, List.length_nil, List.length_map, List.length_reverse, List.length_singleton, txts_lenG]; omega) | (simp only [List.length_append, List.length_cons, List.length_nil, List.length_map, List.length_reverse, txts_lenG]; omega)))
local macro_rules | `(tactic| array_get_dec) => `(tactic| first | with_reducible refine v_seq ?_ | with_reducible refine v_next ?_ | with_reducible refine v_asg ?_ | (with_reducible refine v_isvar ?_; first | with_reducible refine v_var0 ?_ | with_reducible refine v_var1 ?_ | with_reducible refine v_var2 ?_ | with_reducible refine v_var3 ?_ | with_reducible refine v_var4 ?_ | with_reducible refine v_var5 ?_ | with_reducible refine v_var6 ?_ | with_reducible refine v_var7 ?_ | with_reducible refine v_var8 ?_ | with_reducible refine v_var9 ?_ | with_reducible refine v_var10 ?_ | with_reducible refine v_var11 ?_ | with_reducible refine v_var12 ?_ | with_reducible refine v_var13 ?_ | with_reducible refine v_var14 ?_ | with_reducible refine v_var15 ?_ | with_reducible refine v_var16 ?_ | with_reducible refine v_var17 ?_ | with_reducible refine v_var18 ?_ | with_reducible refine v_var19 ?_ | with_reducible refine v_var20 ?_ | with_reducible refine v_var21 ?_ | with_reducible refine v_var22 ?_ | with_reducible refine v_var23 ?_ | with_reducible refine v_var24 ?_ | with_reducible refine v_var25 ?_) | (with_reducible refine v_isname ?_; first | with_reducible refine v_name0 ?_ | with_reducible refine v_wname0 ?_ | with_reducible refine v_name1 ?_ | with_reducible refine v_wname1 ?_ | with_reducible refine v_name2 ?_ | with_reducible refine v_wname2 ?_ | with_reducible refine v_name3 ?_ | with_reducible refine v_wname3 ?_ | with_reducible refine v_name4 ?_ | with_reducible refine v_wname4 ?_ | with_reducible refine v_name5 ?_ | with_reducible refine v_wname5 ?_ | with_reducible refine v_name6 ?_ | with_reducible refine v_wname6 ?_ | with_reducible refine v_name7 ?_ | with_reducible refine v_wname7 ?_ | with_reducible refine v_name8 ?_ | with_reducible refine v_wname8 ?_ | with_reducible refine v_name9 ?_ | with_reducible refine v_wname9 ?_ | with_reducible refine v_name10 ?_ | with_reducible refine v_wname10 ?_ | with_reducible refine v_name11 ?_ | with_reducible refine v_wname11 ?_ | with_reducible refine v_name12 ?_ | with_reducible refine v_wname12 ?_ | with_reducible refine v_name13 ?_ | with_reducible refine v_wname13 ?_ | with_reducible refine v_name14 ?_ | with_reducible refine v_wname14 ?_ | with_reducible refine v_name15 ?_ | with_reducible refine v_wname15 ?_ | with_reducible refine v_name16 ?_ | with_reducible refine v_wname16 ?_ | with_reducible refine v_name17 ?_ | with_reducible refine v_wname17 ?_ | with_reducible refine v_name18 ?_ | with_reducible refine v_wname18 ?_ | with_reducible refine v_name19 ?_ | with_reducible refine v_wname19 ?_ | with_reducible refine v_name20 ?_ | with_reducible refine v_wname20 ?_ | with_reducible refine v_name21 ?_ | with_reducible refine v_wname21 ?_ | with_reducible refine v_name22 ?_ | with_reducible refine v_wname22 ?_ | with_reducible refine v_name23 ?_ | with_reducible refine v_wname23 ?_ | with_reducible refine v_name24 ?_ | with_reducible refine v_wname24 ?_ | with_reducible refine v_name25 ?_ | with_reducible refine v_wname25 ?_) | with_reducible refine v_drop ?_ | with_reducible refine v_ret ?_ | with_reducible refine v_ifS ?_ | with_reducible refine v_test ?_ | with_reducible refine v_bl ?_ | with_reducible refine v_const ?_ | with_reducible refine v_op ?_ | with_reducible refine v_cb ?_ | with_reducible refine v_nil ?_ | with_reducible refine v_cons ?_ | with_reducible refine v_fld ?_ | with_reducible refine v_meth ?_ | with_reducible refine v_cal ?_ | with_reducible refine v_call0 ?_ | with_reducible refine v_pos2 ?_ | with_reducible refine v_tt ?_ | with_reducible refine v_ff ?_ | with_reducible refine v_ntt ?_ | with_reducible refine v_nff ?_ | with_reducible refine v_dnot ?_ | with_reducible refine v_dand ?_ | with_reducible refine v_dor ?_ | with_reducible refine v_andV ?_ | with_reducible refine v_orV ?_ | with_reducible refine v_notV ?_ | with_reducible refine v_ifE ?_ | with_reducible refine v_bm0 ?_ | with_reducible refine v_eqS ?_ | with_reducible refine v_eqI ?_ | with_reducible refine v_neS ?_ | with_reducible refine v_neI ?_ | with_reducible refine v_eqB ?_ | with_reducible refine v_neB ?_ | with_reducible refine v_isNn ?_ | with_reducible refine v_isNs ?_ | with_reducible refine v_isNi ?_ | with_reducible refine v_isNt ?_ | with_reducible refine v_notNn ?_ | with_reducible refine v_notNs ?_ | with_reducible refine v_notNi ?_ | with_reducible refine v_notNt ?_ | with_reducible refine v_isN ?_ | with_reducible refine v_notN ?_ | with_reducible refine v_lt ?_ | with_reducible refine v_le ?_ | with_reducible refine v_gt ?_ | with_reducible refine v_ge ?_ | with_reducible refine v_addI ?_ | with_reducible refine v_subI ?_ | with_reducible refine v_lenT ?_ | with_reducible refine v_lenL ?_ | with_reducible refine v_chain ?_ | with_reducible refine v_un ?_ | with_reducible refine v_tup ?_ | with_reducible refine v_lst ?_ | with_reducible refine v_lstC ?_ | with_reducible refine v_gsub ?_ | with_reducible refine v_rng1 ?_ | with_reducible refine v_rng2 ?_ | with_reducible refine v_slice ?_ | with_reducible refine v_nopart ?_ | with_reducible refine v_part ?_ | with_reducible refine v_partI ?_ | with_reducible refine v_slT ?_ | with_reducible refine v_slL ?_ | with_reducible refine v_rev ?_ | with_reducible refine v_revO ?_ | with_reducible refine v_enumS ?_ | with_reducible refine v_enumL ?_ | with_reducible refine v_enumT ?_ | with_reducible refine v_zipS ?_ | with_reducible refine v_revL ?_ | with_reducible refine v_revT ?_ | with_reducible refine v_putT ?_ | with_reducible refine v_putK ?_ | with_reducible refine v_inT ?_ | with_reducible refine v_getT ?_ | with_reducible refine v_get2T ?_ | with_reducible refine v_make ?_ | with_reducible refine v_fldSet ?_ | with_reducible refine v_forL ?_ | with_reducible refine v_forT ?_ | with_reducible refine v_forS ?_ | with_reducible refine v_lstO ?_ | with_reducible refine v_rolO ?_ | with_reducible refine v_tupO ?_ | with_reducible refine v_strO ?_ | with_reducible refine v_listT ?_ | with_reducible refine v_listL ?_ | with_reducible refine v_tupleL ?_ | with_reducible refine v_tupleT ?_ | with_reducible refine v_isiS ?_ | with_reducible refine v_isiT ?_ | with_reducible refine v_isiL ?_ | with_reducible refine v_allM ?_ | with_reducible refine v_anyM ?_ | with_reducible refine v_eqNS ?_ | with_reducible refine v_neNS ?_ | with_reducible refine v_gcons ?_ | with_reducible refine v_gnil ?_ | with_reducible refine v_par2 ?_ | with_reducible refine v_par33 ?_ | with_reducible refine v_retN ?_ | with_reducible refine v_sameS ?_ | with_reducible refine v_sameB ?_ | with_reducible refine v_sameI ?_ | with_reducible refine v_sameN ?_ | with_reducible refine v_sameT ?_ | with_reducible refine v_sameL ?_ | with_reducible refine v_endN ?_ | with_reducible refine v_bm ?_ | with_reducible refine v_tystr ?_ | with_reducible refine v_break ?_ | with_reducible refine v_cont ?_ | ((with_reducible refine v_slS ?_ ?_); sizeOf_list_dec) | ((with_reducible refine v_lenS ?_ ?_); sizeOf_list_dec) | ((with_reducible refine v_addS ?_ ?_); sizeOf_list_dec) | ((with_reducible refine v_addT ?_ ?_); sizeOf_list_dec) | ((with_reducible refine v_addL ?_ ?_); sizeOf_list_dec) | (with_reducible refine v_par _ _ ?_) | (with_reducible refine v_par3 _ _ _ ?_) | ((with_reducible refine v_gtup ?_ ?_); rfl) | with_reducible refine v_ixT (by with_unfolding_all rfl) ?_ | with_reducible refine v_ixL (by with_unfolding_all rfl) ?_ | with_reducible refine v_ixR (by with_unfolding_all rfl) ?_ | ((with_reducible refine v_ixS ?_ (by with_unfolding_all rfl) ?_); sizeOf_list_dec) | ((with_reducible refine And.intro ?_ ?_); sizeOf_list_dec) | with_reducible refine v_dt (by first | assumption | with_unfolding_all rfl | omega | (simp only [List.length_map, List.length_append, List.length_cons, List.length_nil, List.length_reverse, txts_lenG]; first | done | omega)) ?_ | with_reducible refine v_ndt (by first | assumption | with_unfolding_all rfl | omega | (simp only [List.length_map, List.length_append, List.length_cons, List.length_nil, List.length_reverse, txts_lenG]; first | done | omega)) ?_ | with_reducible refine v_df (by first | assumption | omega | (with_unfolding_all decide) | (simp only [List.length_map, List.length_append, List.length_cons, List.length_nil, List.length_reverse, txts_lenG]; first | done | omega)) ?_ | with_reducible refine v_ndf (by first | assumption | omega | (with_unfolding_all decide) | (simp only [List.length_map, List.length_append, List.length_cons, List.length_nil, List.length_reverse, txts_lenG]; first | done | omega)) ?_ | decreasing_trivial_pre_omega | ((with_reducible refine v_isname ?_); dsimp only [wipeD, List.set]) | ((with_reducible refine v_isvar ?_); dsimp only [wipeD, List.set]))
local macro_rules | `(tactic| array_mem_dec) => `(tactic| repeat array_get_dec)
local macro_rules | `(tactic| bv_omega) => `(tactic| repeat' (first | array_get_dec | with_reducible refine ite_d (fun _ => ?_) (fun _ => ?_) | with_reducible refine ite_nd (fun _ => ?_) (fun _ => ?_) | with_reducible refine ite_b (fun _ => ?_) (fun _ => ?_) | with_reducible refine ite_nb (fun _ => ?_) (fun _ => ?_)))
local macro_rules | `(tactic| decreasing_trivial_pre_omega) => `(tactic| with_reducible refine kz_name ?_)
local macro_rules | `(tactic| decreasing_trivial_pre_omega) => `(tactic| with_reducible refine kz_family ?_)
local macro_rules | `(tactic| decreasing_trivial_pre_omega) => `(tactic| with_reducible refine kz_marks ?_)
local macro_rules | `(tactic| decreasing_trivial_pre_omega) => `(tactic| with_reducible refine kz_yes ?_)
local macro_rules | `(tactic| decreasing_trivial_pre_omega) => `(tactic| with_reducible refine kz_no ?_)
local macro_rules | `(tactic| decreasing_trivial_pre_omega) => `(tactic| with_reducible refine kz_digits ?_)
local macro_rules | `(tactic| decreasing_trivial_pre_omega) => `(tactic| with_reducible refine kz_point ?_)
local macro_rules | `(tactic| decreasing_trivial_pre_omega) => `(tactic| with_reducible refine kz_keep ?_)
local macro_rules | `(tactic| decreasing_trivial_pre_omega) => `(tactic| with_reducible refine v_lenSet ?_)
local macro_rules | `(tactic| decreasing_trivial_pre_omega) => `(tactic| with_reducible refine kz_parts ?_)
local macro_rules | `(tactic| decreasing_trivial_pre_omega) => `(tactic| with_reducible refine bz_kinds ?_)
local macro_rules | `(tactic| decreasing_trivial_pre_omega) => `(tactic| with_reducible refine bz_spare ?_)
local macro_rules | `(tactic| decreasing_trivial_pre_omega) => `(tactic| with_reducible refine bz_joined ?_)
local macro_rules | `(tactic| decreasing_trivial_pre_omega) => `(tactic| with_reducible refine bz_mark ?_)
local macro_rules | `(tactic| decreasing_trivial_pre_omega) => `(tactic| with_reducible refine bz_meth (by decide) ?_)
local macro_rules | `(tactic| decreasing_trivial_pre_omega) => `(tactic| with_reducible refine lz_book ?_)
local macro_rules | `(tactic| decreasing_trivial_pre_omega) => `(tactic| with_reducible refine lz_name ?_)
local macro_rules | `(tactic| decreasing_trivial_pre_omega) => `(tactic| with_reducible refine lz_kind ?_)
local macro_rules | `(tactic| decreasing_trivial_pre_omega) => `(tactic| with_reducible refine v_intO ?_)
local macro_rules | `(tactic| decreasing_trivial_pre_omega) => `(tactic| with_reducible refine v_gh ?_)
local macro_rules | `(tactic| decreasing_trivial_pre_omega) => `(tactic| with_reducible refine v_sp0 ?_)
local macro_rules | `(tactic| decreasing_trivial_pre_omega) => `(tactic| with_reducible refine v_sp1 ?_)
local macro_rules | `(tactic| decreasing_trivial_pre_omega) => `(tactic| with_reducible refine v_sp2 ?_)
local macro_rules | `(tactic| decreasing_trivial_pre_omega) => `(tactic| with_reducible refine v_sp3 ?_)
local macro_rules | `(tactic| decreasing_trivial_pre_omega) => `(tactic| with_reducible refine v_sp4 ?_)
local macro_rules | `(tactic| decreasing_trivial_pre_omega) => `(tactic| with_reducible refine v_sp5 ?_)
local macro_rules | `(tactic| decreasing_trivial_pre_omega) => `(tactic| with_reducible refine v_op0 ?_)
local macro_rules | `(tactic| decreasing_trivial_pre_omega) => `(tactic| with_reducible refine v_op1 ?_)
local macro_rules | `(tactic| decreasing_trivial_pre_omega) => `(tactic| with_reducible refine v_op4 ?_)
local macro_rules | `(tactic| decreasing_trivial_pre_omega) => `(tactic| with_reducible refine v_op5 ?_)
local macro_rules | `(tactic| decreasing_trivial_pre_omega) => `(tactic| with_reducible refine v_onN ?_)
local macro_rules | `(tactic| decreasing_trivial_pre_omega) => `(tactic| with_reducible refine v_onS ?_)
local macro_rules | `(tactic| decreasing_trivial_pre_omega) => `(tactic| with_reducible refine v_nonN ?_)
local macro_rules | `(tactic| decreasing_trivial_pre_omega) => `(tactic| with_reducible refine v_nonS ?_)
local macro_rules | `(tactic| decreasing_trivial_pre_omega) => `(tactic| with_reducible refine v_trip0 ?_)
local macro_rules | `(tactic| decreasing_trivial_pre_omega) => `(tactic| with_reducible refine v_trip1 ?_)
local macro_rules | `(tactic| decreasing_trivial_pre_omega) => `(tactic| with_reducible refine v_iList ?_)
local macro_rules | `(tactic| decreasing_trivial_pre_omega) => `(tactic| with_reducible refine v_iEnum ?_)
local macro_rules | `(tactic| decreasing_trivial_pre_omega) => `(tactic| with_reducible refine v_prop ?_)
local macro_rules | `(tactic| decreasing_trivial_pre_omega) => `(tactic| with_reducible refine bk_prop ?_)
local macro_rules | `(tactic| decreasing_trivial_pre_omega) => `(tactic| with_reducible refine kindD_fam ?_)
local macro_rules | `(tactic| decreasing_trivial_pre_omega) => `(tactic| with_reducible refine kindD_keep ?_)
local macro_rules | `(tactic| decreasing_trivial_pre_omega) => `(tactic| with_reducible refine kindD_yes ?_)
/-! ### values lifted, cells read -/
local macro_rules | `(tactic| decreasing_trivial_pre_omega) => `(tactic| with_reducible refine v_va0 ?_)
local macro_rules | `(tactic| decreasing_trivial_pre_omega) => `(tactic| with_reducible refine v_vaT ?_)
local macro_rules | `(tactic| decreasing_trivial_pre_omega) => `(tactic| with_reducible refine v_vaN ?_)
end G
namespace G
open PySem PySem.Spec PyProof.Rows L2
local macro_rules | `(tactic| sizeOf_list_dec) => `(tactic| exact szl (by first | omega | (simp only [List.length_append, List.length_cons, List.length_nil, List.length_map, List.length_reverse, List.length_singleton, txts_lenG]; omega) | (simp only [List.length_append, List.length_cons, List.length_nil, List.length_map, List.length_reverse, txts_lenG]; omega)))
local macro_rules | `(tactic| array_get_dec) => `(tactic| first | with_reducible refine v_seq ?_ | with_reducible refine v_next ?_ | with_reducible refine v_asg ?_ | (with_reducible refine v_isvar ?_; first | with_reducible refine v_var0 ?_ | with_reducible refine v_var1 ?_ | with_reducible refine v_var2 ?_ | with_reducible refine v_var3 ?_ | with_reducible refine v_var4 ?_ | with_reducible refine v_var5 ?_ | with_reducible refine v_var6 ?_ | with_reducible refine v_var7 ?_ | with_reducible refine v_var8 ?_ | with_reducible refine v_var9 ?_ | with_reducible refine v_var10 ?_ | with_reducible refine v_var11 ?_ | with_reducible refine v_var12 ?_ | with_reducible refine v_var13 ?_ | with_reducible refine v_var14 ?_ | with_reducible refine v_var15 ?_ | with_reducible refine v_var16 ?_ | with_reducible refine v_var17 ?_ | with_reducible refine v_var18 ?_ | with_reducible refine v_var19 ?_ | with_reducible refine v_var20 ?_ | with_reducible refine v_var21 ?_ | with_reducible refine v_var22 ?_ | with_reducible refine v_var23 ?_ | with_reducible refine v_var24 ?_ | with_reducible refine v_var25 ?_) | (with_reducible refine v_isname ?_; first | with_reducible refine v_name0 ?_ | with_reducible refine v_wname0 ?_ | with_reducible refine v_name1 ?_ | with_reducible refine v_wname1 ?_ | with_reducible refine v_name2 ?_ | with_reducible refine v_wname2 ?_ | with_reducible refine v_name3 ?_ | with_reducible refine v_wname3 ?_ | with_reducible refine v_name4 ?_ | with_reducible refine v_wname4 ?_ | with_reducible refine v_name5 ?_ | with_reducible refine v_wname5 ?_ | with_reducible refine v_name6 ?_ | with_reducible refine v_wname6 ?_ | with_reducible refine v_name7 ?_ | with_reducible refine v_wname7 ?_ | with_reducible refine v_name8 ?_ | with_reducible refine v_wname8 ?_ | with_reducible refine v_name9 ?_ | with_reducible refine v_wname9 ?_ | with_reducible refine v_name10 ?_ | with_reducible refine v_wname10 ?_ | with_reducible refine v_name11 ?_ | with_reducible refine v_wname11 ?_ | with_reducible refine v_name12 ?_ | with_reducible refine v_wname12 ?_ | with_reducible refine v_name13 ?_ | with_reducible refine v_wname13 ?_ | with_reducible refine v_name14 ?_ | with_reducible refine v_wname14 ?_ | with_reducible refine v_name15 ?_ | with_reducible refine v_wname15 ?_ | with_reducible refine v_name16 ?_ | with_reducible refine v_wname16 ?_ | with_reducible refine v_name17 ?_ | with_reducible refine v_wname17 ?_ | with_reducible refine v_name18 ?_ | with_reducible refine v_wname18 ?_ | with_reducible refine v_name19 ?_ | with_reducible refine v_wname19 ?_ | with_reducible refine v_name20 ?_ | with_reducible refine v_wname20 ?_ | with_reducible refine v_name21 ?_ | with_reducible refine v_wname21 ?_ | with_reducible refine v_name22 ?_ | with_reducible refine v_wname22 ?_ | with_reducible refine v_name23 ?_ | with_reducible refine v_wname23 ?_ | with_reducible refine v_name24 ?_ | with_reducible refine v_wname24 ?_ | with_reducible refine v_name25 ?_ | with_reducible refine v_wname25 ?_) | with_reducible refine v_drop ?_ | with_reducible refine v_ret ?_ | with_reducible refine v_ifS ?_ | with_reducible refine v_test ?_ | with_reducible refine v_bl ?_ | with_reducible refine v_const ?_ | with_reducible refine v_op ?_ | with_reducible refine v_cb ?_ | with_reducible refine v_nil ?_ | with_reducible refine v_cons ?_ | with_reducible refine v_fld ?_ | with_reducible refine v_meth ?_ | with_reducible refine v_cal ?_ | with_reducible refine v_call0 ?_ | with_reducible refine v_pos2 ?_ | with_reducible refine v_tt ?_ | with_reducible refine v_ff ?_ | with_reducible refine v_ntt ?_ | with_reducible refine v_nff ?_ | with_reducible refine v_dnot ?_ | with_reducible refine v_dand ?_ | with_reducible refine v_dor ?_ | with_reducible refine v_andV ?_ | with_reducible refine v_orV ?_ | with_reducible refine v_notV ?_ | with_reducible refine v_ifE ?_ | with_reducible refine v_bm0 ?_ | with_reducible refine v_eqS ?_ | with_reducible refine v_eqI ?_ | with_reducible refine v_neS ?_ | with_reducible refine v_neI ?_ | with_reducible refine v_eqB ?_ | with_reducible refine v_neB ?_ | with_reducible refine v_isNn ?_ | with_reducible refine v_isNs ?_ | with_reducible refine v_isNi ?_ | with_reducible refine v_isNt ?_ | with_reducible refine v_notNn ?_ | with_reducible refine v_notNs ?_ | with_reducible refine v_notNi ?_ | with_reducible refine v_notNt ?_ | with_reducible refine v_isN ?_ | with_reducible refine v_notN ?_ | with_reducible refine v_lt ?_ | with_reducible refine v_le ?_ | with_reducible refine v_gt ?_ | with_reducible refine v_ge ?_ | with_reducible refine v_addI ?_ | with_reducible refine v_subI ?_ | with_reducible refine v_lenT ?_ | with_reducible refine v_lenL ?_ | with_reducible refine v_chain ?_ | with_reducible refine v_un ?_ | with_reducible refine v_tup ?_ | with_reducible refine v_lst ?_ | with_reducible refine v_lstC ?_ | with_reducible refine v_gsub ?_ | with_reducible refine v_rng1 ?_ | with_reducible refine v_rng2 ?_ | with_reducible refine v_slice ?_ | with_reducible refine v_nopart ?_ | with_reducible refine v_part ?_ | with_reducible refine v_partI ?_ | with_reducible refine v_slT ?_ | with_reducible refine v_slL ?_ | with_reducible refine v_rev ?_ | with_reducible refine v_revO ?_ | with_reducible refine v_enumS ?_ | with_reducible refine v_enumL ?_ | with_reducible refine v_enumT ?_ | with_reducible refine v_zipS ?_ | with_reducible refine v_revL ?_ | with_reducible refine v_revT ?_ | with_reducible refine v_putT ?_ | with_reducible refine v_putK ?_ | with_reducible refine v_inT ?_ | with_reducible refine v_getT ?_ | with_reducible refine v_get2T ?_ | with_reducible refine v_make ?_ | with_reducible refine v_fldSet ?_ | with_reducible refine v_forL ?_ | with_reducible refine v_forT ?_ | with_reducible refine v_forS ?_ | with_reducible refine v_lstO ?_ | with_reducible refine v_rolO ?_ | with_reducible refine v_tupO ?_ | with_reducible refine v_strO ?_ | with_reducible refine v_listT ?_ | with_reducible refine v_listL ?_ | with_reducible refine v_tupleL ?_ | with_reducible refine v_tupleT ?_ | with_reducible refine v_isiS ?_ | with_reducible refine v_isiT ?_ | with_reducible refine v_isiL ?_ | with_reducible refine v_allM ?_ | with_reducible refine v_anyM ?_ | with_reducible refine v_eqNS ?_ | with_reducible refine v_neNS ?_ | with_reducible refine v_gcons ?_ | with_reducible refine v_gnil ?_ | with_reducible refine v_par2 ?_ | with_reducible refine v_par33 ?_ | with_reducible refine v_retN ?_ | with_reducible refine v_sameS ?_ | with_reducible refine v_sameB ?_ | with_reducible refine v_sameI ?_ | with_reducible refine v_sameN ?_ | with_reducible refine v_sameT ?_ | with_reducible refine v_sameL ?_ | with_reducible refine v_endN ?_ | with_reducible refine v_bm ?_ | with_reducible refine v_tystr ?_ | with_reducible refine v_break ?_ | with_reducible refine v_cont ?_ | ((with_reducible refine v_slS ?_ ?_); sizeOf_list_dec) | ((with_reducible refine v_lenS ?_ ?_); sizeOf_list_dec) | ((with_reducible refine v_addS ?_ ?_); sizeOf_list_dec) | ((with_reducible refine v_addT ?_ ?_); sizeOf_list_dec) | ((with_reducible refine v_addL ?_ ?_); sizeOf_list_dec) | (with_reducible refine v_par _ _ ?_) | (with_reducible refine v_par3 _ _ _ ?_) | ((with_reducible refine v_gtup ?_ ?_); rfl) | with_reducible refine v_ixT (by with_unfolding_all rfl) ?_ | with_reducible refine v_ixL (by with_unfolding_all rfl) ?_ | with_reducible refine v_ixR (by with_unfolding_all rfl) ?_ | ((with_reducible refine v_ixS ?_ (by with_unfolding_all rfl) ?_); sizeOf_list_dec) | ((with_reducible refine And.intro ?_ ?_); sizeOf_list_dec) | with_reducible refine v_dt (by first | assumption | with_unfolding_all rfl | omega | (simp only [List.length_map, List.length_append, List.length_cons, List.length_nil, List.length_reverse, txts_lenG]; first | done | omega)) ?_ | with_reducible refine v_ndt (by first | assumption | with_unfolding_all rfl | omega | (simp only [List.length_map, List.length_append, List.length_cons, List.length_nil, List.length_reverse, txts_lenG]; first | done | omega)) ?_ | with_reducible refine v_df (by first | assumption | omega | (with_unfolding_all decide) | (simp only [List.length_map, List.length_append, List.length_cons, List.length_nil, List.length_reverse, txts_lenG]; first | done | omega)) ?_ | with_reducible refine v_ndf (by first | assumption | omega | (with_unfolding_all decide) | (simp only [List.length_map, List.length_append, List.length_cons, List.length_nil, List.length_reverse, txts_lenG]; first | done | omega)) ?_ | decreasing_trivial_pre_omega | ((with_reducible refine v_isname ?_); dsimp only [wipeD, List.set]) | ((with_reducible refine v_isvar ?_); dsimp only [wipeD, List.set]))
local macro_rules | `(tactic| array_mem_dec) => `(tactic| repeat array_get_dec)
local macro_rules | `(tactic| bv_omega) => `(tactic| repeat' (first | array_get_dec | with_reducible refine ite_d (fun _ => ?_) (fun _ => ?_) | with_reducible refine ite_nd (fun _ => ?_) (fun _ => ?_) | with_reducible refine ite_b (fun _ => ?_) (fun _ => ?_) | with_reducible refine ite_nb (fun _ => ?_) (fun _ => ?_)))
local macro_rules | `(tactic| decreasing_trivial_pre_omega) => `(tactic| with_reducible refine kz_name ?_)
local macro_rules | `(tactic| decreasing_trivial_pre_omega) => `(tactic| with_reducible refine kz_family ?_)
local macro_rules | `(tactic| decreasing_trivial_pre_omega) => `(tactic| with_reducible refine kz_marks ?_)
local macro_rules | `(tactic| decreasing_trivial_pre_omega) => `(tactic| with_reducible refine kz_yes ?_)
local macro_rules | `(tactic| decreasing_trivial_pre_omega) => `(tactic| with_reducible refine kz_no ?_)
local macro_rules | `(tactic| decreasing_trivial_pre_omega) => `(tactic| with_reducible refine kz_digits ?_)
local macro_rules | `(tactic| decreasing_trivial_pre_omega) => `(tactic| with_reducible refine kz_point ?_)
local macro_rules | `(tactic| decreasing_trivial_pre_omega) => `(tactic| with_reducible refine kz_keep ?_)
local macro_rules | `(tactic| decreasing_trivial_pre_omega) => `(tactic| with_reducible refine v_lenSet ?_)
local macro_rules | `(tactic| decreasing_trivial_pre_omega) => `(tactic| with_reducible refine kz_parts ?_)
local macro_rules | `(tactic| decreasing_trivial_pre_omega) => `(tactic| with_reducible refine bz_kinds ?_)
local macro_rules | `(tactic| decreasing_trivial_pre_omega) => `(tactic| with_reducible refine bz_spare ?_)
local macro_rules | `(tactic| decreasing_trivial_pre_omega) => `(tactic| with_reducible refine bz_joined ?_)
local macro_rules | `(tactic| decreasing_trivial_pre_omega) => `(tactic| with_reducible refine bz_mark ?_)
local macro_rules | `(tactic| decreasing_trivial_pre_omega) => `(tactic| with_reducible refine bz_meth (by decide) ?_)
local macro_rules | `(tactic| decreasing_trivial_pre_omega) => `(tactic| with_reducible refine lz_book ?_)
local macro_rules | `(tactic| decreasing_trivial_pre_omega) => `(tactic| with_reducible refine lz_name ?_)
local macro_rules | `(tactic| decreasing_trivial_pre_omega) => `(tactic| with_reducible refine lz_kind ?_)
local macro_rules | `(tactic| decreasing_trivial_pre_omega) => `(tactic| with_reducible refine v_intO ?_)
local macro_rules | `(tactic| decreasing_trivial_pre_omega) => `(tactic| with_reducible refine v_gh ?_)
local macro_rules | `(tactic| decreasing_trivial_pre_omega) => `(tactic| with_reducible refine v_sp0 ?_)
local macro_rules | `(tactic| decreasing_trivial_pre_omega) => `(tactic| with_reducible refine v_sp1 ?_)
local macro_rules | `(tactic| decreasing_trivial_pre_omega) => `(tactic| with_reducible refine v_sp2 ?_)
local macro_rules | `(tactic| decreasing_trivial_pre_omega) => `(tactic| with_reducible refine v_sp3 ?_)
local macro_rules | `(tactic| decreasing_trivial_pre_omega) => `(tactic| with_reducible refine v_sp4 ?_)
local macro_rules | `(tactic| decreasing_trivial_pre_omega) => `(tactic| with_reducible refine v_sp5 ?_)
local macro_rules | `(tactic| decreasing_trivial_pre_omega) => `(tactic| with_reducible refine v_op0 ?_)
local macro_rules | `(tactic| decreasing_trivial_pre_omega) => `(tactic| with_reducible refine v_op1 ?_)
local macro_rules | `(tactic| decreasing_trivial_pre_omega) => `(tactic| with_reducible refine v_op4 ?_)
local macro_rules | `(tactic| decreasing_trivial_pre_omega) => `(tactic| with_reducible refine v_op5 ?_)
local macro_rules | `(tactic| decreasing_trivial_pre_omega) => `(tactic| with_reducible refine v_onN ?_)
local macro_rules | `(tactic| decreasing_trivial_pre_omega) => `(tactic| with_reducible refine v_onS ?_)
local macro_rules | `(tactic| decreasing_trivial_pre_omega) => `(tactic| with_reducible refine v_nonN ?_)
local macro_rules | `(tactic| decreasing_trivial_pre_omega) => `(tactic| with_reducible refine v_nonS ?_)
local macro_rules | `(tactic| decreasing_trivial_pre_omega) => `(tactic| with_reducible refine v_trip0 ?_)
local macro_rules | `(tactic| decreasing_trivial_pre_omega) => `(tactic| with_reducible refine v_trip1 ?_)
local macro_rules | `(tactic| decreasing_trivial_pre_omega) => `(tactic| with_reducible refine v_iList ?_)
local macro_rules | `(tactic| decreasing_trivial_pre_omega) => `(tactic| with_reducible refine v_iEnum ?_)
local macro_rules | `(tactic| decreasing_trivial_pre_omega) => `(tactic| with_reducible refine v_prop ?_)
local macro_rules | `(tactic| decreasing_trivial_pre_omega) => `(tactic| with_reducible refine bk_prop ?_)
local macro_rules | `(tactic| decreasing_trivial_pre_omega) => `(tactic| with_reducible refine kindD_fam ?_)
local macro_rules | `(tactic| decreasing_trivial_pre_omega) => `(tactic| with_reducible refine kindD_keep ?_)
local macro_rules | `(tactic| decreasing_trivial_pre_omega) => `(tactic| with_reducible refine kindD_yes ?_)
local macro_rules | `(tactic| decreasing_trivial_pre_omega) => `(tactic| with_reducible refine v_va0 ?_)
local macro_rules | `(tactic| decreasing_trivial_pre_omega) => `(tactic| with_reducible refine v_vaT ?_)
local macro_rules | `(tactic| decreasing_trivial_pre_omega) => `(tactic| with_reducible refine v_vaN ?_)
/-! ### columns -/
section
variable {ks : List KindR} {trs : List T3} {j : KindR} {vs : List Va} {C : Cl} {Q : D → Prop}
end
local macro_rules | `(tactic| decreasing_trivial_pre_omega) => `(tactic| with_reducible refine cz_level ?_)
local macro_rules | `(tactic| decreasing_trivial_pre_omega) => `(tactic| with_reducible refine cz_held ?_)
local macro_rules | `(tactic| decreasing_trivial_pre_omega) => `(tactic| with_reducible refine cz_meth (by decide) ?_)
end G
namespace G
open PySem PySem.Spec PyProof.Rows L2
/-! ### columns made and compared -/
theorem eqT_lst (a b : List D) : eqT (.lst a) (.lst b) = PyData.eqvAll (toPyL a) (toPyL b) := by simp only [eqT, toPy, PyData.eqv]
theorem eqvAll_len : ∀ {a b : List PyData}, a.length ≠ b.length → PyData.eqvAll a b = false
  | [], [], h => absurd rfl h
  | [], _ :: _, _ => by simp only [PyData.eqvAll]
  | _ :: _, [], _ => by simp only [PyData.eqvAll]
  | x :: a, y :: b, h => by
    simp only [PyData.eqvAll]
    rw [eqvAll_len (a := a) (b := b) (fun z => h (by rw [List.length_cons, List.length_cons, z])), Bool.and_false]
theorem toPyL_len : ∀ ds : List D, (toPyL ds).length = ds.length
  | [] => by simp only [toPyL, List.length_nil]
  | d :: ds => by simp only [toPyL, List.length_cons, toPyL_len ds]
theorem eqT_len {a b : List D} (h : a.length ≠ b.length) : eqT (.lst a) (.lst b) = false := by
  rw [eqT_lst]
  exact eqvAll_len (by rw [toPyL_len, toPyL_len]; exact h)
end G
namespace G
open PySem PySem.Spec PyProof.Rows L2
local macro_rules | `(tactic| sizeOf_list_dec) => `(tactic| exact szl (by first | omega | (simp only [List.length_append, List.length_cons, List.length_nil, List.length_map, List.length_reverse, List.length_singleton, txts_lenG]; omega) | (simp only [List.length_append, List.length_cons, List.length_nil, List.length_map, List.length_reverse, txts_lenG]; omega)))
local macro_rules | `(tactic| array_get_dec) => `(tactic| first | with_reducible refine v_seq ?_ | with_reducible refine v_next ?_ | with_reducible refine v_asg ?_ | (with_reducible refine v_isvar ?_; first | with_reducible refine v_var0 ?_ | with_reducible refine v_var1 ?_ | with_reducible refine v_var2 ?_ | with_reducible refine v_var3 ?_ | with_reducible refine v_var4 ?_ | with_reducible refine v_var5 ?_ | with_reducible refine v_var6 ?_ | with_reducible refine v_var7 ?_ | with_reducible refine v_var8 ?_ | with_reducible refine v_var9 ?_ | with_reducible refine v_var10 ?_ | with_reducible refine v_var11 ?_ | with_reducible refine v_var12 ?_ | with_reducible refine v_var13 ?_ | with_reducible refine v_var14 ?_ | with_reducible refine v_var15 ?_ | with_reducible refine v_var16 ?_ | with_reducible refine v_var17 ?_ | with_reducible refine v_var18 ?_ | with_reducible refine v_var19 ?_ | with_reducible refine v_var20 ?_ | with_reducible refine v_var21 ?_ | with_reducible refine v_var22 ?_ | with_reducible refine v_var23 ?_ | with_reducible refine v_var24 ?_ | with_reducible refine v_var25 ?_) | (with_reducible refine v_isname ?_; first | with_reducible refine v_name0 ?_ | with_reducible refine v_wname0 ?_ | with_reducible refine v_name1 ?_ | with_reducible refine v_wname1 ?_ | with_reducible refine v_name2 ?_ | with_reducible refine v_wname2 ?_ | with_reducible refine v_name3 ?_ | with_reducible refine v_wname3 ?_ | with_reducible refine v_name4 ?_ | with_reducible refine v_wname4 ?_ | with_reducible refine v_name5 ?_ | with_reducible refine v_wname5 ?_ | with_reducible refine v_name6 ?_ | with_reducible refine v_wname6 ?_ | with_reducible refine v_name7 ?_ | with_reducible refine v_wname7 ?_ | with_reducible refine v_name8 ?_ | with_reducible refine v_wname8 ?_ | with_reducible refine v_name9 ?_ | with_reducible refine v_wname9 ?_ | with_reducible refine v_name10 ?_ | with_reducible refine v_wname10 ?_ | with_reducible refine v_name11 ?_ | with_reducible refine v_wname11 ?_ | with_reducible refine v_name12 ?_ | with_reducible refine v_wname12 ?_ | with_reducible refine v_name13 ?_ | with_reducible refine v_wname13 ?_ | with_reducible refine v_name14 ?_ | with_reducible refine v_wname14 ?_ | with_reducible refine v_name15 ?_ | with_reducible refine v_wname15 ?_ | with_reducible refine v_name16 ?_ | with_reducible refine v_wname16 ?_ | with_reducible refine v_name17 ?_ | with_reducible refine v_wname17 ?_ | with_reducible refine v_name18 ?_ | with_reducible refine v_wname18 ?_ | with_reducible refine v_name19 ?_ | with_reducible refine v_wname19 ?_ | with_reducible refine v_name20 ?_ | with_reducible refine v_wname20 ?_ | with_reducible refine v_name21 ?_ | with_reducible refine v_wname21 ?_ | with_reducible refine v_name22 ?_ | with_reducible refine v_wname22 ?_ | with_reducible refine v_name23 ?_ | with_reducible refine v_wname23 ?_ | with_reducible refine v_name24 ?_ | with_reducible refine v_wname24 ?_ | with_reducible refine v_name25 ?_ | with_reducible refine v_wname25 ?_) | with_reducible refine v_drop ?_ | with_reducible refine v_ret ?_ | with_reducible refine v_ifS ?_ | with_reducible refine v_test ?_ | with_reducible refine v_bl ?_ | with_reducible refine v_const ?_ | with_reducible refine v_op ?_ | with_reducible refine v_cb ?_ | with_reducible refine v_nil ?_ | with_reducible refine v_cons ?_ | with_reducible refine v_fld ?_ | with_reducible refine v_meth ?_ | with_reducible refine v_cal ?_ | with_reducible refine v_call0 ?_ | with_reducible refine v_pos2 ?_ | with_reducible refine v_tt ?_ | with_reducible refine v_ff ?_ | with_reducible refine v_ntt ?_ | with_reducible refine v_nff ?_ | with_reducible refine v_dnot ?_ | with_reducible refine v_dand ?_ | with_reducible refine v_dor ?_ | with_reducible refine v_andV ?_ | with_reducible refine v_orV ?_ | with_reducible refine v_notV ?_ | with_reducible refine v_ifE ?_ | with_reducible refine v_bm0 ?_ | with_reducible refine v_eqS ?_ | with_reducible refine v_eqI ?_ | with_reducible refine v_neS ?_ | with_reducible refine v_neI ?_ | with_reducible refine v_eqB ?_ | with_reducible refine v_neB ?_ | with_reducible refine v_isNn ?_ | with_reducible refine v_isNs ?_ | with_reducible refine v_isNi ?_ | with_reducible refine v_isNt ?_ | with_reducible refine v_notNn ?_ | with_reducible refine v_notNs ?_ | with_reducible refine v_notNi ?_ | with_reducible refine v_notNt ?_ | with_reducible refine v_isN ?_ | with_reducible refine v_notN ?_ | with_reducible refine v_lt ?_ | with_reducible refine v_le ?_ | with_reducible refine v_gt ?_ | with_reducible refine v_ge ?_ | with_reducible refine v_addI ?_ | with_reducible refine v_subI ?_ | with_reducible refine v_lenT ?_ | with_reducible refine v_lenL ?_ | with_reducible refine v_chain ?_ | with_reducible refine v_un ?_ | with_reducible refine v_tup ?_ | with_reducible refine v_lst ?_ | with_reducible refine v_lstC ?_ | with_reducible refine v_gsub ?_ | with_reducible refine v_rng1 ?_ | with_reducible refine v_rng2 ?_ | with_reducible refine v_slice ?_ | with_reducible refine v_nopart ?_ | with_reducible refine v_part ?_ | with_reducible refine v_partI ?_ | with_reducible refine v_slT ?_ | with_reducible refine v_slL ?_ | with_reducible refine v_rev ?_ | with_reducible refine v_revO ?_ | with_reducible refine v_enumS ?_ | with_reducible refine v_enumL ?_ | with_reducible refine v_enumT ?_ | with_reducible refine v_zipS ?_ | with_reducible refine v_revL ?_ | with_reducible refine v_revT ?_ | with_reducible refine v_putT ?_ | with_reducible refine v_putK ?_ | with_reducible refine v_inT ?_ | with_reducible refine v_getT ?_ | with_reducible refine v_get2T ?_ | with_reducible refine v_make ?_ | with_reducible refine v_fldSet ?_ | with_reducible refine v_forL ?_ | with_reducible refine v_forT ?_ | with_reducible refine v_forS ?_ | with_reducible refine v_lstO ?_ | with_reducible refine v_rolO ?_ | with_reducible refine v_tupO ?_ | with_reducible refine v_strO ?_ | with_reducible refine v_listT ?_ | with_reducible refine v_listL ?_ | with_reducible refine v_tupleL ?_ | with_reducible refine v_tupleT ?_ | with_reducible refine v_isiS ?_ | with_reducible refine v_isiT ?_ | with_reducible refine v_isiL ?_ | with_reducible refine v_allM ?_ | with_reducible refine v_anyM ?_ | with_reducible refine v_eqNS ?_ | with_reducible refine v_neNS ?_ | with_reducible refine v_gcons ?_ | with_reducible refine v_gnil ?_ | with_reducible refine v_par2 ?_ | with_reducible refine v_par33 ?_ | with_reducible refine v_retN ?_ | with_reducible refine v_sameS ?_ | with_reducible refine v_sameB ?_ | with_reducible refine v_sameI ?_ | with_reducible refine v_sameN ?_ | with_reducible refine v_sameT ?_ | with_reducible refine v_sameL ?_ | with_reducible refine v_endN ?_ | with_reducible refine v_bm ?_ | with_reducible refine v_tystr ?_ | with_reducible refine v_break ?_ | with_reducible refine v_cont ?_ | ((with_reducible refine v_slS ?_ ?_); sizeOf_list_dec) | ((with_reducible refine v_lenS ?_ ?_); sizeOf_list_dec) | ((with_reducible refine v_addS ?_ ?_); sizeOf_list_dec) | ((with_reducible refine v_addT ?_ ?_); sizeOf_list_dec) | ((with_reducible refine v_addL ?_ ?_); sizeOf_list_dec) | (with_reducible refine v_par _ _ ?_) | (with_reducible refine v_par3 _ _ _ ?_) | ((with_reducible refine v_gtup ?_ ?_); rfl) | with_reducible refine v_ixT (by with_unfolding_all rfl) ?_ | with_reducible refine v_ixL (by with_unfolding_all rfl) ?_ | with_reducible refine v_ixR (by with_unfolding_all rfl) ?_ | ((with_reducible refine v_ixS ?_ (by with_unfolding_all rfl) ?_); sizeOf_list_dec) | ((with_reducible refine And.intro ?_ ?_); sizeOf_list_dec) | with_reducible refine v_dt (by first | assumption | with_unfolding_all rfl | omega | (simp only [List.length_map, List.length_append, List.length_cons, List.length_nil, List.length_reverse, txts_lenG]; first | done | omega)) ?_ | with_reducible refine v_ndt (by first | assumption | with_unfolding_all rfl | omega | (simp only [List.length_map, List.length_append, List.length_cons, List.length_nil, List.length_reverse, txts_lenG]; first | done | omega)) ?_ | with_reducible refine v_df (by first | assumption | omega | (with_unfolding_all decide) | (simp only [List.length_map, List.length_append, List.length_cons, List.length_nil, List.length_reverse, txts_lenG]; first | done | omega)) ?_ | with_reducible refine v_ndf (by first | assumption | omega | (with_unfolding_all decide) | (simp only [List.length_map, List.length_append, List.length_cons, List.length_nil, List.length_reverse, txts_lenG]; first | done | omega)) ?_ | decreasing_trivial_pre_omega | ((with_reducible refine v_isname ?_); dsimp only [wipeD, List.set]) | ((with_reducible refine v_isvar ?_); dsimp only [wipeD, List.set]))
local macro_rules | `(tactic| array_mem_dec) => `(tactic| repeat array_get_dec)
local macro_rules | `(tactic| bv_omega) => `(tactic| repeat' (first | array_get_dec | with_reducible refine ite_d (fun _ => ?_) (fun _ => ?_) | with_reducible refine ite_nd (fun _ => ?_) (fun _ => ?_) | with_reducible refine ite_b (fun _ => ?_) (fun _ => ?_) | with_reducible refine ite_nb (fun _ => ?_) (fun _ => ?_)))
local macro_rules | `(tactic| decreasing_trivial_pre_omega) => `(tactic| with_reducible refine kz_name ?_)
local macro_rules | `(tactic| decreasing_trivial_pre_omega) => `(tactic| with_reducible refine kz_family ?_)
local macro_rules | `(tactic| decreasing_trivial_pre_omega) => `(tactic| with_reducible refine kz_marks ?_)
local macro_rules | `(tactic| decreasing_trivial_pre_omega) => `(tactic| with_reducible refine kz_yes ?_)
local macro_rules | `(tactic| decreasing_trivial_pre_omega) => `(tactic| with_reducible refine kz_no ?_)
local macro_rules | `(tactic| decreasing_trivial_pre_omega) => `(tactic| with_reducible refine kz_digits ?_)
local macro_rules | `(tactic| decreasing_trivial_pre_omega) => `(tactic| with_reducible refine kz_point ?_)
local macro_rules | `(tactic| decreasing_trivial_pre_omega) => `(tactic| with_reducible refine kz_keep ?_)
local macro_rules | `(tactic| decreasing_trivial_pre_omega) => `(tactic| with_reducible refine v_try ?_)
local macro_rules | `(tactic| decreasing_trivial_pre_omega) => `(tactic| with_reducible refine v_methX ?_)
local macro_rules | `(tactic| decreasing_trivial_pre_omega) => `(tactic| with_reducible refine v_makeX ?_)
local macro_rules | `(tactic| decreasing_trivial_pre_omega) => `(tactic| with_reducible refine v_calX ?_)
local macro_rules | `(tactic| decreasing_trivial_pre_omega) => `(tactic| with_reducible refine v_xfV (by with_unfolding_all rfl) (by with_unfolding_all rfl) ?_)
local macro_rules | `(tactic| decreasing_trivial_pre_omega) => `(tactic| with_reducible refine v_xisV (by with_unfolding_all rfl) ?_)
local macro_rules | `(tactic| decreasing_trivial_pre_omega) => `(tactic| with_reducible refine v_raise ?_)
/-! ### books refused -/
/-- all but the cell p stays -/
def SubX (C : Cl) (p : Addr) (C' : Cl) : Prop := ∀ a c, a ≠ p → C a = some c → C' a = some c
theorem SubX.of {C C' : Cl} {p : Addr} {c : Cell} (h : SubC (updC C p c) C') : SubX C p C' := fun a x ne e => h a x (by rw [updC_ne ne]; exact e)
theorem SubX.upd {C : Cl} {p : Addr} {c : Cell} : SubX C p (updC C p c) := SubX.of (SubC.refl _)
theorem SubX.refl {C : Cl} {p : Addr} : SubX C p C := fun _ _ _ e => e
end G
namespace G
open PySem PySem.Spec PyProof.Rows L2
local macro_rules | `(tactic| sizeOf_list_dec) => `(tactic| exact szl (by first | omega | (simp only [List.length_append, List.length_cons, List.length_nil, List.length_map, List.length_reverse, List.length_singleton, txts_lenG]; omega) | (simp only [List.length_append, List.length_cons, List.length_nil, List.length_map, List.length_reverse, txts_lenG]; omega)))
local macro_rules | `(tactic| array_get_dec) => `(tactic| first | with_reducible refine v_seq ?_ | with_reducible refine v_next ?_ | with_reducible refine v_asg ?_ | (with_reducible refine v_isvar ?_; first | with_reducible refine v_var0 ?_ | with_reducible refine v_var1 ?_ | with_reducible refine v_var2 ?_ | with_reducible refine v_var3 ?_ | with_reducible refine v_var4 ?_ | with_reducible refine v_var5 ?_ | with_reducible refine v_var6 ?_ | with_reducible refine v_var7 ?_ | with_reducible refine v_var8 ?_ | with_reducible refine v_var9 ?_ | with_reducible refine v_var10 ?_ | with_reducible refine v_var11 ?_ | with_reducible refine v_var12 ?_ | with_reducible refine v_var13 ?_ | with_reducible refine v_var14 ?_ | with_reducible refine v_var15 ?_ | with_reducible refine v_var16 ?_ | with_reducible refine v_var17 ?_ | with_reducible refine v_var18 ?_ | with_reducible refine v_var19 ?_ | with_reducible refine v_var20 ?_ | with_reducible refine v_var21 ?_ | with_reducible refine v_var22 ?_ | with_reducible refine v_var23 ?_ | with_reducible refine v_var24 ?_ | with_reducible refine v_var25 ?_) | (with_reducible refine v_isname ?_; first | with_reducible refine v_name0 ?_ | with_reducible refine v_wname0 ?_ | with_reducible refine v_name1 ?_ | with_reducible refine v_wname1 ?_ | with_reducible refine v_name2 ?_ | with_reducible refine v_wname2 ?_ | with_reducible refine v_name3 ?_ | with_reducible refine v_wname3 ?_ | with_reducible refine v_name4 ?_ | with_reducible refine v_wname4 ?_ | with_reducible refine v_name5 ?_ | with_reducible refine v_wname5 ?_ | with_reducible refine v_name6 ?_ | with_reducible refine v_wname6 ?_ | with_reducible refine v_name7 ?_ | with_reducible refine v_wname7 ?_ | with_reducible refine v_name8 ?_ | with_reducible refine v_wname8 ?_ | with_reducible refine v_name9 ?_ | with_reducible refine v_wname9 ?_ | with_reducible refine v_name10 ?_ | with_reducible refine v_wname10 ?_ | with_reducible refine v_name11 ?_ | with_reducible refine v_wname11 ?_ | with_reducible refine v_name12 ?_ | with_reducible refine v_wname12 ?_ | with_reducible refine v_name13 ?_ | with_reducible refine v_wname13 ?_ | with_reducible refine v_name14 ?_ | with_reducible refine v_wname14 ?_ | with_reducible refine v_name15 ?_ | with_reducible refine v_wname15 ?_ | with_reducible refine v_name16 ?_ | with_reducible refine v_wname16 ?_ | with_reducible refine v_name17 ?_ | with_reducible refine v_wname17 ?_ | with_reducible refine v_name18 ?_ | with_reducible refine v_wname18 ?_ | with_reducible refine v_name19 ?_ | with_reducible refine v_wname19 ?_ | with_reducible refine v_name20 ?_ | with_reducible refine v_wname20 ?_ | with_reducible refine v_name21 ?_ | with_reducible refine v_wname21 ?_ | with_reducible refine v_name22 ?_ | with_reducible refine v_wname22 ?_ | with_reducible refine v_name23 ?_ | with_reducible refine v_wname23 ?_ | with_reducible refine v_name24 ?_ | with_reducible refine v_wname24 ?_ | with_reducible refine v_name25 ?_ | with_reducible refine v_wname25 ?_) | with_reducible refine v_drop ?_ | with_reducible refine v_ret ?_ | with_reducible refine v_ifS ?_ | with_reducible refine v_test ?_ | with_reducible refine v_bl ?_ | with_reducible refine v_const ?_ | with_reducible refine v_op ?_ | with_reducible refine v_cb ?_ | with_reducible refine v_nil ?_ | with_reducible refine v_cons ?_ | with_reducible refine v_fld ?_ | with_reducible refine v_meth ?_ | with_reducible refine v_cal ?_ | with_reducible refine v_call0 ?_ | with_reducible refine v_pos2 ?_ | with_reducible refine v_tt ?_ | with_reducible refine v_ff ?_ | with_reducible refine v_ntt ?_ | with_reducible refine v_nff ?_ | with_reducible refine v_dnot ?_ | with_reducible refine v_dand ?_ | with_reducible refine v_dor ?_ | with_reducible refine v_andV ?_ | with_reducible refine v_orV ?_ | with_reducible refine v_notV ?_ | with_reducible refine v_ifE ?_ | with_reducible refine v_bm0 ?_ | with_reducible refine v_eqS ?_ | with_reducible refine v_eqI ?_ | with_reducible refine v_neS ?_ | with_reducible refine v_neI ?_ | with_reducible refine v_eqB ?_ | with_reducible refine v_neB ?_ | with_reducible refine v_isNn ?_ | with_reducible refine v_isNs ?_ | with_reducible refine v_isNi ?_ | with_reducible refine v_isNt ?_ | with_reducible refine v_notNn ?_ | with_reducible refine v_notNs ?_ | with_reducible refine v_notNi ?_ | with_reducible refine v_notNt ?_ | with_reducible refine v_isN ?_ | with_reducible refine v_notN ?_ | with_reducible refine v_lt ?_ | with_reducible refine v_le ?_ | with_reducible refine v_gt ?_ | with_reducible refine v_ge ?_ | with_reducible refine v_addI ?_ | with_reducible refine v_subI ?_ | with_reducible refine v_lenT ?_ | with_reducible refine v_lenL ?_ | with_reducible refine v_chain ?_ | with_reducible refine v_un ?_ | with_reducible refine v_tup ?_ | with_reducible refine v_lst ?_ | with_reducible refine v_lstC ?_ | with_reducible refine v_gsub ?_ | with_reducible refine v_rng1 ?_ | with_reducible refine v_rng2 ?_ | with_reducible refine v_slice ?_ | with_reducible refine v_nopart ?_ | with_reducible refine v_part ?_ | with_reducible refine v_partI ?_ | with_reducible refine v_slT ?_ | with_reducible refine v_slL ?_ | with_reducible refine v_rev ?_ | with_reducible refine v_revO ?_ | with_reducible refine v_enumS ?_ | with_reducible refine v_enumL ?_ | with_reducible refine v_enumT ?_ | with_reducible refine v_zipS ?_ | with_reducible refine v_revL ?_ | with_reducible refine v_revT ?_ | with_reducible refine v_putT ?_ | with_reducible refine v_putK ?_ | with_reducible refine v_inT ?_ | with_reducible refine v_getT ?_ | with_reducible refine v_get2T ?_ | with_reducible refine v_make ?_ | with_reducible refine v_fldSet ?_ | with_reducible refine v_forL ?_ | with_reducible refine v_forT ?_ | with_reducible refine v_forS ?_ | with_reducible refine v_lstO ?_ | with_reducible refine v_rolO ?_ | with_reducible refine v_tupO ?_ | with_reducible refine v_strO ?_ | with_reducible refine v_listT ?_ | with_reducible refine v_listL ?_ | with_reducible refine v_tupleL ?_ | with_reducible refine v_tupleT ?_ | with_reducible refine v_isiS ?_ | with_reducible refine v_isiT ?_ | with_reducible refine v_isiL ?_ | with_reducible refine v_allM ?_ | with_reducible refine v_anyM ?_ | with_reducible refine v_eqNS ?_ | with_reducible refine v_neNS ?_ | with_reducible refine v_gcons ?_ | with_reducible refine v_gnil ?_ | with_reducible refine v_par2 ?_ | with_reducible refine v_par33 ?_ | with_reducible refine v_retN ?_ | with_reducible refine v_sameS ?_ | with_reducible refine v_sameB ?_ | with_reducible refine v_sameI ?_ | with_reducible refine v_sameN ?_ | with_reducible refine v_sameT ?_ | with_reducible refine v_sameL ?_ | with_reducible refine v_endN ?_ | with_reducible refine v_bm ?_ | with_reducible refine v_tystr ?_ | with_reducible refine v_break ?_ | with_reducible refine v_cont ?_ | ((with_reducible refine v_slS ?_ ?_); sizeOf_list_dec) | ((with_reducible refine v_lenS ?_ ?_); sizeOf_list_dec) | ((with_reducible refine v_addS ?_ ?_); sizeOf_list_dec) | ((with_reducible refine v_addT ?_ ?_); sizeOf_list_dec) | ((with_reducible refine v_addL ?_ ?_); sizeOf_list_dec) | (with_reducible refine v_par _ _ ?_) | (with_reducible refine v_par3 _ _ _ ?_) | ((with_reducible refine v_gtup ?_ ?_); rfl) | with_reducible refine v_ixT (by with_unfolding_all rfl) ?_ | with_reducible refine v_ixL (by with_unfolding_all rfl) ?_ | with_reducible refine v_ixR (by with_unfolding_all rfl) ?_ | ((with_reducible refine v_ixS ?_ (by with_unfolding_all rfl) ?_); sizeOf_list_dec) | ((with_reducible refine And.intro ?_ ?_); sizeOf_list_dec) | with_reducible refine v_dt (by first | assumption | with_unfolding_all rfl | omega | (simp only [List.length_map, List.length_append, List.length_cons, List.length_nil, List.length_reverse, txts_lenG]; first | done | omega)) ?_ | with_reducible refine v_ndt (by first | assumption | with_unfolding_all rfl | omega | (simp only [List.length_map, List.length_append, List.length_cons, List.length_nil, List.length_reverse, txts_lenG]; first | done | omega)) ?_ | with_reducible refine v_df (by first | assumption | omega | (with_unfolding_all decide) | (simp only [List.length_map, List.length_append, List.length_cons, List.length_nil, List.length_reverse, txts_lenG]; first | done | omega)) ?_ | with_reducible refine v_ndf (by first | assumption | omega | (with_unfolding_all decide) | (simp only [List.length_map, List.length_append, List.length_cons, List.length_nil, List.length_reverse, txts_lenG]; first | done | omega)) ?_ | decreasing_trivial_pre_omega | ((with_reducible refine v_isname ?_); dsimp only [wipeD, List.set]) | ((with_reducible refine v_isvar ?_); dsimp only [wipeD, List.set]))
local macro_rules | `(tactic| array_mem_dec) => `(tactic| repeat array_get_dec)
local macro_rules | `(tactic| bv_omega) => `(tactic| repeat' (first | array_get_dec | with_reducible refine ite_d (fun _ => ?_) (fun _ => ?_) | with_reducible refine ite_nd (fun _ => ?_) (fun _ => ?_) | with_reducible refine ite_b (fun _ => ?_) (fun _ => ?_) | with_reducible refine ite_nb (fun _ => ?_) (fun _ => ?_)))
local macro_rules | `(tactic| decreasing_trivial_pre_omega) => `(tactic| with_reducible refine kz_name ?_)
local macro_rules | `(tactic| decreasing_trivial_pre_omega) => `(tactic| with_reducible refine kz_family ?_)
local macro_rules | `(tactic| decreasing_trivial_pre_omega) => `(tactic| with_reducible refine kz_marks ?_)
local macro_rules | `(tactic| decreasing_trivial_pre_omega) => `(tactic| with_reducible refine kz_yes ?_)
local macro_rules | `(tactic| decreasing_trivial_pre_omega) => `(tactic| with_reducible refine kz_no ?_)
local macro_rules | `(tactic| decreasing_trivial_pre_omega) => `(tactic| with_reducible refine kz_digits ?_)
local macro_rules | `(tactic| decreasing_trivial_pre_omega) => `(tactic| with_reducible refine kz_point ?_)
local macro_rules | `(tactic| decreasing_trivial_pre_omega) => `(tactic| with_reducible refine kz_keep ?_)
local macro_rules | `(tactic| decreasing_trivial_pre_omega) => `(tactic| with_reducible refine v_lenSet ?_)
local macro_rules | `(tactic| decreasing_trivial_pre_omega) => `(tactic| with_reducible refine kz_parts ?_)
local macro_rules | `(tactic| decreasing_trivial_pre_omega) => `(tactic| with_reducible refine bz_kinds ?_)
local macro_rules | `(tactic| decreasing_trivial_pre_omega) => `(tactic| with_reducible refine bz_spare ?_)
local macro_rules | `(tactic| decreasing_trivial_pre_omega) => `(tactic| with_reducible refine bz_joined ?_)
local macro_rules | `(tactic| decreasing_trivial_pre_omega) => `(tactic| with_reducible refine bz_mark ?_)
local macro_rules | `(tactic| decreasing_trivial_pre_omega) => `(tactic| with_reducible refine bz_meth (by decide) ?_)
local macro_rules | `(tactic| decreasing_trivial_pre_omega) => `(tactic| with_reducible refine lz_book ?_)
local macro_rules | `(tactic| decreasing_trivial_pre_omega) => `(tactic| with_reducible refine lz_name ?_)
local macro_rules | `(tactic| decreasing_trivial_pre_omega) => `(tactic| with_reducible refine lz_kind ?_)
local macro_rules | `(tactic| decreasing_trivial_pre_omega) => `(tactic| with_reducible refine v_intO ?_)
local macro_rules | `(tactic| decreasing_trivial_pre_omega) => `(tactic| with_reducible refine v_gh ?_)
local macro_rules | `(tactic| decreasing_trivial_pre_omega) => `(tactic| with_reducible refine v_sp0 ?_)
local macro_rules | `(tactic| decreasing_trivial_pre_omega) => `(tactic| with_reducible refine v_sp1 ?_)
local macro_rules | `(tactic| decreasing_trivial_pre_omega) => `(tactic| with_reducible refine v_sp2 ?_)
local macro_rules | `(tactic| decreasing_trivial_pre_omega) => `(tactic| with_reducible refine v_sp3 ?_)
local macro_rules | `(tactic| decreasing_trivial_pre_omega) => `(tactic| with_reducible refine v_sp4 ?_)
local macro_rules | `(tactic| decreasing_trivial_pre_omega) => `(tactic| with_reducible refine v_sp5 ?_)
local macro_rules | `(tactic| decreasing_trivial_pre_omega) => `(tactic| with_reducible refine v_op0 ?_)
local macro_rules | `(tactic| decreasing_trivial_pre_omega) => `(tactic| with_reducible refine v_op1 ?_)
local macro_rules | `(tactic| decreasing_trivial_pre_omega) => `(tactic| with_reducible refine v_op4 ?_)
local macro_rules | `(tactic| decreasing_trivial_pre_omega) => `(tactic| with_reducible refine v_op5 ?_)
local macro_rules | `(tactic| decreasing_trivial_pre_omega) => `(tactic| with_reducible refine v_onN ?_)
local macro_rules | `(tactic| decreasing_trivial_pre_omega) => `(tactic| with_reducible refine v_onS ?_)
local macro_rules | `(tactic| decreasing_trivial_pre_omega) => `(tactic| with_reducible refine v_nonN ?_)
local macro_rules | `(tactic| decreasing_trivial_pre_omega) => `(tactic| with_reducible refine v_nonS ?_)
local macro_rules | `(tactic| decreasing_trivial_pre_omega) => `(tactic| with_reducible refine v_trip0 ?_)
local macro_rules | `(tactic| decreasing_trivial_pre_omega) => `(tactic| with_reducible refine v_trip1 ?_)
local macro_rules | `(tactic| decreasing_trivial_pre_omega) => `(tactic| with_reducible refine v_iList ?_)
local macro_rules | `(tactic| decreasing_trivial_pre_omega) => `(tactic| with_reducible refine v_iEnum ?_)
local macro_rules | `(tactic| decreasing_trivial_pre_omega) => `(tactic| with_reducible refine v_prop ?_)
local macro_rules | `(tactic| decreasing_trivial_pre_omega) => `(tactic| with_reducible refine bk_prop ?_)
local macro_rules | `(tactic| decreasing_trivial_pre_omega) => `(tactic| with_reducible refine kindD_fam ?_)
local macro_rules | `(tactic| decreasing_trivial_pre_omega) => `(tactic| with_reducible refine kindD_keep ?_)
local macro_rules | `(tactic| decreasing_trivial_pre_omega) => `(tactic| with_reducible refine kindD_yes ?_)
local macro_rules | `(tactic| decreasing_trivial_pre_omega) => `(tactic| with_reducible refine v_va0 ?_)
local macro_rules | `(tactic| decreasing_trivial_pre_omega) => `(tactic| with_reducible refine v_vaT ?_)
local macro_rules | `(tactic| decreasing_trivial_pre_omega) => `(tactic| with_reducible refine v_vaN ?_)
local macro_rules | `(tactic| decreasing_trivial_pre_omega) => `(tactic| with_reducible refine cz_level ?_)
local macro_rules | `(tactic| decreasing_trivial_pre_omega) => `(tactic| with_reducible refine cz_held ?_)
local macro_rules | `(tactic| decreasing_trivial_pre_omega) => `(tactic| with_reducible refine cz_meth (by decide) ?_)
local macro_rules | `(tactic| decreasing_trivial_pre_omega) => `(tactic| with_reducible refine v_try ?_)
local macro_rules | `(tactic| decreasing_trivial_pre_omega) => `(tactic| with_reducible refine v_methX ?_)
local macro_rules | `(tactic| decreasing_trivial_pre_omega) => `(tactic| with_reducible refine v_makeX ?_)
local macro_rules | `(tactic| decreasing_trivial_pre_omega) => `(tactic| with_reducible refine v_calX ?_)
local macro_rules | `(tactic| decreasing_trivial_pre_omega) => `(tactic| with_reducible refine v_xfV (by with_unfolding_all rfl) (by with_unfolding_all rfl) ?_)
local macro_rules | `(tactic| decreasing_trivial_pre_omega) => `(tactic| with_reducible refine v_xisV (by with_unfolding_all rfl) ?_)
local macro_rules | `(tactic| decreasing_trivial_pre_omega) => `(tactic| with_reducible refine v_raise ?_)
/-! ### tables -/
local macro_rules | `(tactic| decreasing_trivial_pre_omega) => `(tactic| with_reducible refine v_listV ?_)
local macro_rules | `(tactic| decreasing_trivial_pre_omega) => `(tactic| with_reducible refine v_iKeys ?_)
def isi_of_Table : List String := ["Table"]
/-- a name and its texts -/
abbrev Row := List Nat × List (List Nat)
def keyN (l : List Nat) : Key := .inr ⟨l.toArray⟩
theorem keyN_inj {a b : List Nat} (h : keyN a = keyN b) : a = b := by
  have := Sum.inr.inj h
  simpa using congrArg (fun s : Str => s.cps.toList) this
def kvsOf (cols : List Row) : List (Key × D) := cols.map fun r => (keyN r.1, .lst (txts r.2))
def rowD (r : Row) : D := .tup [.str r.1, .lst (txts r.2)]
def namesR (cols : List Row) : List (List Nat) := cols.map (·.1)
structure RowOk (m : Nat) (r : Row) : Prop where
  word : isWord r.1 = true
  len : r.2.length = m
  sm : ∀ t ∈ r.2, small t = true
  ln : ∀ t ∈ r.2, t.length ≤ 1000000
/-- what a table is made of -/
structure ColOk (cols : List Row) (m : Nat) : Prop where
  ne : cols ≠ []
  lc : cols.length ≤ 1000
  lm : m ≤ 1000000
  nd : (namesR cols).Nodup
  row : ∀ r ∈ cols, RowOk m r
/-! dicts of names -/
theorem kvs_none {n : List Nat} : ∀ {cols : List Row}, n ∉ namesR cols → valD (kvsOf cols) (keyN n) = none
  | [], _ => rfl
  | r :: cols, h => by
    unfold kvsOf
    rw [List.map_cons, valD_neg (fun z => h (by unfold namesR; rw [List.map_cons, ← keyN_inj z]; exact .head _))]
    exact kvs_none (cols := cols) fun z => h (by unfold namesR; rw [List.map_cons]; exact .tail _ z)
theorem kvs_some {r : Row} : ∀ {cols : List Row}, (namesR cols).Nodup → r ∈ cols → valD (kvsOf cols) (keyN r.1) = some (.lst (txts r.2))
  | c :: cols, nd, h => by
    unfold kvsOf
    rw [List.map_cons]
    unfold namesR at nd
    rw [List.map_cons, List.nodup_cons] at nd
    rcases List.mem_cons.mp h with rfl | h
    · rw [valD_pos rfl]
    · rw [valD_neg (fun z => nd.1 (by rw [keyN_inj z]; exact List.mem_map.mpr ⟨r, h, rfl⟩))]
      exact kvs_some (cols := cols) nd.2 h
theorem kvs_put {n : List Nat} {ts : List (List Nat)} {cols : List Row} (h : n ∉ namesR cols) : putKD (kvsOf cols) (keyN n) (.lst (txts ts)) = kvsOf (cols ++ [(n, ts)]) := by
  unfold putKD
  rw [valD_any, kvs_none h]
  rw [if_neg (by decide)]
  unfold kvsOf
  rw [List.map_append]
  rfl
theorem keys_kvs (cols : List Row) : (kvsOf cols).map (fun p => keyT p.1) = txts (namesR cols) := by
  unfold kvsOf txts namesR
  rw [List.map_map, List.map_map]
  refine List.map_congr_left fun r _ => ?_
  show D.str (r.1.toArray.toList) = _
  simp
theorem vals_kvs (cols : List Row) : (kvsOf cols).map (·.2) = cols.map fun r => .lst (txts r.2) := by
  unfold kvsOf
  rw [List.map_map]
  rfl
/-! == -/
theorem eqT_str (a b : List Nat) : eqT (.str a) (.str b) = decide (a = b) := by
  unfold eqT
  simp only [toPy, PyData.eqv]
  exact str_beq a b
theorem eqT_lcons (a b : D) (l m : List D) : eqT (.lst (a :: l)) (.lst (b :: m)) = (eqT a b && eqT (.lst l) (.lst m)) := by
  rw [eqT_lst, eqT_lst]
  simp only [toPyL, PyData.eqvAll]
  rfl
theorem eqT_lnil : eqT (.lst []) (.lst []) = true := by
  rw [eqT_lst]
  simp only [toPyL, PyData.eqvAll]
theorem eqT_texts : ∀ a b : List (List Nat), eqT (.lst (txts a)) (.lst (txts b)) = decide (a = b)
  | [], [] => by rw [show txts [] = [] from rfl, eqT_lnil]; rfl
  | [], b :: bs => by rw [eqT_len (by simp [txts])]; rfl
  | a :: as, [] => by rw [eqT_len (by simp [txts])]; rfl
  | a :: as, b :: bs => by
    show eqT (.lst (.str a :: txts as)) (.lst (.str b :: txts bs)) = _
    rw [eqT_lcons, eqT_str, eqT_texts as bs]
    by_cases h1 : a = b <;> by_cases h2 : as = bs <;> simp [h1, h2]
theorem sh_texts {ls : List (List Nat)} (h : ∀ l ∈ ls, small l = true) : Sh 1 (.lst (txts ls)) := sh_lst (sh_txts h)
theorem shp_texts {ls : List (List Nat)} (h : ∀ l ∈ ls, small l = true) : shp (.lst (txts ls)) = true := (sh_texts h).shp
theorem eqDic_cols {a b : List Row} (na : (namesR a).Nodup) (h : namesR a = namesR b) : eqDic (kvsOf a) (kvsOf b) = decide (a = b) := by
  have nb : (namesR b).Nodup := h ▸ na
  have hl : a.length = b.length := by have := congrArg List.length h; unfold namesR at this; simpa using this
  unfold eqDic
  have e0 : ((kvsOf a).length == (kvsOf b).length) = true := by unfold kvsOf; rw [List.length_map, List.length_map, hl]; exact beq_self_eq_true _
  rw [e0, Bool.true_and]
  by_cases e : a = b
  · subst e
    rw [decide_eq_true rfl]
    refine List.all_eq_true.mpr fun p hp => ?_
    obtain ⟨r, hr, rfl⟩ := List.mem_map.mp hp
    dsimp only
    rw [kvs_some na hr]
    dsimp only
    rw [eqT_texts, decide_eq_true rfl]
  · rw [decide_eq_false e]
    obtain ⟨i, hi⟩ : ∃ i : Nat, a[i]? ≠ b[i]? := Classical.byContradiction fun z => e (List.ext_getElem? fun i => Classical.byContradiction fun y => z ⟨i, y⟩)
    have hia : i < a.length := by
      refine Classical.byContradiction fun z => hi ?_
      rw [List.getElem?_eq_none (by omega), List.getElem?_eq_none (by omega)]
    have hib : i < b.length := by omega
    rw [List.getElem?_eq_getElem hia, List.getElem?_eq_getElem hib] at hi
    have hn : a[i].1 = b[i].1 := by
      have := congrArg (fun l => l[i]?) h
      simp only [namesR, List.getElem?_map, List.getElem?_eq_getElem hia, List.getElem?_eq_getElem hib, Option.map_some, Option.some.injEq] at this
      exact this
    have ht : a[i].2 ≠ b[i].2 := fun z => hi (congrArg some (Prod.ext hn z))
    refine List.all_eq_false.mpr ⟨(keyN a[i].1, .lst (txts a[i].2)), List.mem_map.mpr ⟨a[i], List.getElem_mem hia, rfl⟩, ?_⟩
    dsimp only
    rw [hn, kvs_some nb (List.getElem_mem hib)]
    dsimp only
    rw [eqT_texts, decide_eq_false ht]
    exact Bool.false_ne_true
/-! what a table is made of, frozen or not -/
def RowAt (C : Cl) (d : D) (r : Row) : Prop := ∃ x, d = .tup [.str r.1, x] ∧ seqOf C x = some (txts r.2) ∧ ((x = .lst (txts r.2)) ∨ ∃ p, x = .ref p ∧ C p = some (.lst (txts r.2)))
def Keeps (C C' : Cl) : Prop := ∀ a ds, C a = some (.lst ds) → C' a = some (.lst ds)
theorem Keeps.refl (C : Cl) : Keeps C C := fun _ _ h => h
theorem Keeps.trans {A B C : Cl} (h : Keeps A B) (k : Keeps B C) : Keeps A C := fun a ds e => k a ds (h a ds e)
theorem Keeps.upd {C : Cl} {p : Addr} {c : Cell} (h : ∀ ds, C p ≠ some (.lst ds)) : Keeps C (updC C p c) := fun a ds e => by
  rw [updC_ne (fun z => h ds (by rw [← z]; exact e))]
  exact e
theorem rowAt_lst {C : Cl} {r : Row} : RowAt C (rowD r) r := ⟨_, rfl, rfl, .inl rfl⟩
theorem rowAt_ref {C : Cl} {n : List Nat} {ts : List (List Nat)} {p : Addr} (h : C p = some (.lst (txts ts))) : RowAt C (.tup [.str n, .ref p]) (n, ts) := ⟨_, rfl, by show cellL C p = _; unfold cellL; rw [h], .inr ⟨p, rfl, h⟩⟩
theorem RowAt.keep {C C' : Cl} {d : D} {r : Row} (h : RowAt C d r) (k : Keeps C C') : RowAt C' d r := by
  obtain ⟨x, rfl, _, rfl | ⟨p, rfl, hp⟩⟩ := h
  · exact ⟨_, rfl, rfl, .inl rfl⟩
  · exact rowAt_ref (k _ _ hp)
def RowsAt (C : Cl) (xs : List D) (cols : List Row) : Prop := xs.length = cols.length ∧ ∀ (i : Nat) (d : D) (r : Row), xs[i]? = some d → cols[i]? = some r → RowAt C d r
theorem RowsAt.keep {C C' : Cl} {xs : List D} {cols : List Row} (h : RowsAt C xs cols) (k : Keeps C C') : RowsAt C' xs cols := ⟨h.1, fun i d r e1 e2 => (h.2 i d r e1 e2).keep k⟩
theorem rowsAt_lst {C : Cl} {cols : List Row} : RowsAt C (cols.map rowD) cols := ⟨List.length_map .., fun i d r e1 e2 => by
  rw [List.getElem?_map, e2] at e1
  cases e1
  exact rowAt_lst⟩
theorem Walks.keep {C C' : Cl} {x : D} {xs : List D} {G : Cl → Prop} (w : Walks C x xs G) (k : Keeps C C') : Walks C' x xs G := by
  rcases w with ⟨h, rfl⟩ | ⟨a, rfl, h, rfl⟩
  · exact .inl ⟨h, rfl⟩
  · exact .inr ⟨a, rfl, k _ _ h, rfl⟩
theorem Walks.guard {C C' : Cl} {x : D} {xs : List D} {G : Cl → Prop} (w : Walks C x xs G) (k : Keeps C C') : G C' := (w.keep k).here
theorem lenF_seq {C : Cl} {x : D} {xs : List D} (h : seqOf C x = some xs) : lenF C x = some xs.length ∧ srcOk x := by
  cases x with
  | tup ds => cases h; exact ⟨rfl, trivial⟩
  | lst ds => cases h; exact ⟨rfl, trivial⟩
  | rol ds => cases h; exact ⟨rfl, trivial⟩
  | ref a => exact ⟨by show (cellL C a).map List.length = _; rw [show cellL C a = some xs from h]; rfl, trivial⟩
  | _ => cases h
theorem v_lenW {C : Cl} {x : D} {xs : List D} {Q : DQ} (h : seqOf C x = some xs) (q : Q (.int (xs.length : Nat)) C) : rLen [x] C Q := ⟨x, _, rfl, (lenF_seq h).1, (lenF_seq h).2, q⟩
theorem v_ixW {C : Cl} {x d : D} {xs : List D} {i : Int} {Q : DQ} (h : seqOf C x = some xs) (e : atI xs i = some d) (q : Q d C) : rIx x (.int i) C Q := ⟨i, rfl, .inr ⟨xs, d, h, e, q⟩⟩
/-! ### what tables tell -/
end G
namespace G
open PySem PySem.Spec PyProof.Rows L2
local macro_rules | `(tactic| sizeOf_list_dec) => `(tactic| exact szl (by first | omega | (simp only [List.length_append, List.length_cons, List.length_nil, List.length_map, List.length_reverse, List.length_singleton, txts_lenG]; omega) | (simp only [List.length_append, List.length_cons, List.length_nil, List.length_map, List.length_reverse, txts_lenG]; omega)))
local macro_rules | `(tactic| array_get_dec) => `(tactic| first | with_reducible refine v_seq ?_ | with_reducible refine v_next ?_ | with_reducible refine v_asg ?_ | (with_reducible refine v_isvar ?_; first | with_reducible refine v_var0 ?_ | with_reducible refine v_var1 ?_ | with_reducible refine v_var2 ?_ | with_reducible refine v_var3 ?_ | with_reducible refine v_var4 ?_ | with_reducible refine v_var5 ?_ | with_reducible refine v_var6 ?_ | with_reducible refine v_var7 ?_ | with_reducible refine v_var8 ?_ | with_reducible refine v_var9 ?_ | with_reducible refine v_var10 ?_ | with_reducible refine v_var11 ?_ | with_reducible refine v_var12 ?_ | with_reducible refine v_var13 ?_ | with_reducible refine v_var14 ?_ | with_reducible refine v_var15 ?_ | with_reducible refine v_var16 ?_ | with_reducible refine v_var17 ?_ | with_reducible refine v_var18 ?_ | with_reducible refine v_var19 ?_ | with_reducible refine v_var20 ?_ | with_reducible refine v_var21 ?_ | with_reducible refine v_var22 ?_ | with_reducible refine v_var23 ?_ | with_reducible refine v_var24 ?_ | with_reducible refine v_var25 ?_) | (with_reducible refine v_isname ?_; first | with_reducible refine v_name0 ?_ | with_reducible refine v_wname0 ?_ | with_reducible refine v_name1 ?_ | with_reducible refine v_wname1 ?_ | with_reducible refine v_name2 ?_ | with_reducible refine v_wname2 ?_ | with_reducible refine v_name3 ?_ | with_reducible refine v_wname3 ?_ | with_reducible refine v_name4 ?_ | with_reducible refine v_wname4 ?_ | with_reducible refine v_name5 ?_ | with_reducible refine v_wname5 ?_ | with_reducible refine v_name6 ?_ | with_reducible refine v_wname6 ?_ | with_reducible refine v_name7 ?_ | with_reducible refine v_wname7 ?_ | with_reducible refine v_name8 ?_ | with_reducible refine v_wname8 ?_ | with_reducible refine v_name9 ?_ | with_reducible refine v_wname9 ?_ | with_reducible refine v_name10 ?_ | with_reducible refine v_wname10 ?_ | with_reducible refine v_name11 ?_ | with_reducible refine v_wname11 ?_ | with_reducible refine v_name12 ?_ | with_reducible refine v_wname12 ?_ | with_reducible refine v_name13 ?_ | with_reducible refine v_wname13 ?_ | with_reducible refine v_name14 ?_ | with_reducible refine v_wname14 ?_ | with_reducible refine v_name15 ?_ | with_reducible refine v_wname15 ?_ | with_reducible refine v_name16 ?_ | with_reducible refine v_wname16 ?_ | with_reducible refine v_name17 ?_ | with_reducible refine v_wname17 ?_ | with_reducible refine v_name18 ?_ | with_reducible refine v_wname18 ?_ | with_reducible refine v_name19 ?_ | with_reducible refine v_wname19 ?_ | with_reducible refine v_name20 ?_ | with_reducible refine v_wname20 ?_ | with_reducible refine v_name21 ?_ | with_reducible refine v_wname21 ?_ | with_reducible refine v_name22 ?_ | with_reducible refine v_wname22 ?_ | with_reducible refine v_name23 ?_ | with_reducible refine v_wname23 ?_ | with_reducible refine v_name24 ?_ | with_reducible refine v_wname24 ?_ | with_reducible refine v_name25 ?_ | with_reducible refine v_wname25 ?_) | with_reducible refine v_drop ?_ | with_reducible refine v_ret ?_ | with_reducible refine v_ifS ?_ | with_reducible refine v_test ?_ | with_reducible refine v_bl ?_ | with_reducible refine v_const ?_ | with_reducible refine v_op ?_ | with_reducible refine v_cb ?_ | with_reducible refine v_nil ?_ | with_reducible refine v_cons ?_ | with_reducible refine v_fld ?_ | with_reducible refine v_meth ?_ | with_reducible refine v_cal ?_ | with_reducible refine v_call0 ?_ | with_reducible refine v_pos2 ?_ | with_reducible refine v_tt ?_ | with_reducible refine v_ff ?_ | with_reducible refine v_ntt ?_ | with_reducible refine v_nff ?_ | with_reducible refine v_dnot ?_ | with_reducible refine v_dand ?_ | with_reducible refine v_dor ?_ | with_reducible refine v_andV ?_ | with_reducible refine v_orV ?_ | with_reducible refine v_notV ?_ | with_reducible refine v_ifE ?_ | with_reducible refine v_bm0 ?_ | with_reducible refine v_eqS ?_ | with_reducible refine v_eqI ?_ | with_reducible refine v_neS ?_ | with_reducible refine v_neI ?_ | with_reducible refine v_eqB ?_ | with_reducible refine v_neB ?_ | with_reducible refine v_isNn ?_ | with_reducible refine v_isNs ?_ | with_reducible refine v_isNi ?_ | with_reducible refine v_isNt ?_ | with_reducible refine v_notNn ?_ | with_reducible refine v_notNs ?_ | with_reducible refine v_notNi ?_ | with_reducible refine v_notNt ?_ | with_reducible refine v_isN ?_ | with_reducible refine v_notN ?_ | with_reducible refine v_lt ?_ | with_reducible refine v_le ?_ | with_reducible refine v_gt ?_ | with_reducible refine v_ge ?_ | with_reducible refine v_addI ?_ | with_reducible refine v_subI ?_ | with_reducible refine v_lenT ?_ | with_reducible refine v_lenL ?_ | with_reducible refine v_chain ?_ | with_reducible refine v_un ?_ | with_reducible refine v_tup ?_ | with_reducible refine v_lst ?_ | with_reducible refine v_lstC ?_ | with_reducible refine v_gsub ?_ | with_reducible refine v_rng1 ?_ | with_reducible refine v_rng2 ?_ | with_reducible refine v_slice ?_ | with_reducible refine v_nopart ?_ | with_reducible refine v_part ?_ | with_reducible refine v_partI ?_ | with_reducible refine v_slT ?_ | with_reducible refine v_slL ?_ | with_reducible refine v_rev ?_ | with_reducible refine v_revO ?_ | with_reducible refine v_enumS ?_ | with_reducible refine v_enumL ?_ | with_reducible refine v_enumT ?_ | with_reducible refine v_zipS ?_ | with_reducible refine v_revL ?_ | with_reducible refine v_revT ?_ | with_reducible refine v_putT ?_ | with_reducible refine v_putK ?_ | with_reducible refine v_inT ?_ | with_reducible refine v_getT ?_ | with_reducible refine v_get2T ?_ | with_reducible refine v_make ?_ | with_reducible refine v_fldSet ?_ | with_reducible refine v_forL ?_ | with_reducible refine v_forT ?_ | with_reducible refine v_forS ?_ | with_reducible refine v_lstO ?_ | with_reducible refine v_rolO ?_ | with_reducible refine v_tupO ?_ | with_reducible refine v_strO ?_ | with_reducible refine v_listT ?_ | with_reducible refine v_listL ?_ | with_reducible refine v_tupleL ?_ | with_reducible refine v_tupleT ?_ | with_reducible refine v_isiS ?_ | with_reducible refine v_isiT ?_ | with_reducible refine v_isiL ?_ | with_reducible refine v_allM ?_ | with_reducible refine v_anyM ?_ | with_reducible refine v_eqNS ?_ | with_reducible refine v_neNS ?_ | with_reducible refine v_gcons ?_ | with_reducible refine v_gnil ?_ | with_reducible refine v_par2 ?_ | with_reducible refine v_par33 ?_ | with_reducible refine v_retN ?_ | with_reducible refine v_sameS ?_ | with_reducible refine v_sameB ?_ | with_reducible refine v_sameI ?_ | with_reducible refine v_sameN ?_ | with_reducible refine v_sameT ?_ | with_reducible refine v_sameL ?_ | with_reducible refine v_endN ?_ | with_reducible refine v_bm ?_ | with_reducible refine v_tystr ?_ | with_reducible refine v_break ?_ | with_reducible refine v_cont ?_ | ((with_reducible refine v_slS ?_ ?_); sizeOf_list_dec) | ((with_reducible refine v_lenS ?_ ?_); sizeOf_list_dec) | ((with_reducible refine v_addS ?_ ?_); sizeOf_list_dec) | ((with_reducible refine v_addT ?_ ?_); sizeOf_list_dec) | ((with_reducible refine v_addL ?_ ?_); sizeOf_list_dec) | (with_reducible refine v_par _ _ ?_) | (with_reducible refine v_par3 _ _ _ ?_) | ((with_reducible refine v_gtup ?_ ?_); rfl) | with_reducible refine v_ixT (by with_unfolding_all rfl) ?_ | with_reducible refine v_ixL (by with_unfolding_all rfl) ?_ | with_reducible refine v_ixR (by with_unfolding_all rfl) ?_ | ((with_reducible refine v_ixS ?_ (by with_unfolding_all rfl) ?_); sizeOf_list_dec) | ((with_reducible refine And.intro ?_ ?_); sizeOf_list_dec) | with_reducible refine v_dt (by first | assumption | with_unfolding_all rfl | omega | (simp only [List.length_map, List.length_append, List.length_cons, List.length_nil, List.length_reverse, txts_lenG]; first | done | omega)) ?_ | with_reducible refine v_ndt (by first | assumption | with_unfolding_all rfl | omega | (simp only [List.length_map, List.length_append, List.length_cons, List.length_nil, List.length_reverse, txts_lenG]; first | done | omega)) ?_ | with_reducible refine v_df (by first | assumption | omega | (with_unfolding_all decide) | (simp only [List.length_map, List.length_append, List.length_cons, List.length_nil, List.length_reverse, txts_lenG]; first | done | omega)) ?_ | with_reducible refine v_ndf (by first | assumption | omega | (with_unfolding_all decide) | (simp only [List.length_map, List.length_append, List.length_cons, List.length_nil, List.length_reverse, txts_lenG]; first | done | omega)) ?_ | decreasing_trivial_pre_omega | ((with_reducible refine v_isname ?_); dsimp only [wipeD, List.set]) | ((with_reducible refine v_isvar ?_); dsimp only [wipeD, List.set]))
local macro_rules | `(tactic| array_mem_dec) => `(tactic| repeat array_get_dec)
local macro_rules | `(tactic| bv_omega) => `(tactic| repeat' (first | array_get_dec | with_reducible refine ite_d (fun _ => ?_) (fun _ => ?_) | with_reducible refine ite_nd (fun _ => ?_) (fun _ => ?_) | with_reducible refine ite_b (fun _ => ?_) (fun _ => ?_) | with_reducible refine ite_nb (fun _ => ?_) (fun _ => ?_)))
local macro_rules | `(tactic| decreasing_trivial_pre_omega) => `(tactic| with_reducible refine kz_name ?_)
local macro_rules | `(tactic| decreasing_trivial_pre_omega) => `(tactic| with_reducible refine kz_family ?_)
local macro_rules | `(tactic| decreasing_trivial_pre_omega) => `(tactic| with_reducible refine kz_marks ?_)
local macro_rules | `(tactic| decreasing_trivial_pre_omega) => `(tactic| with_reducible refine kz_yes ?_)
local macro_rules | `(tactic| decreasing_trivial_pre_omega) => `(tactic| with_reducible refine kz_no ?_)
local macro_rules | `(tactic| decreasing_trivial_pre_omega) => `(tactic| with_reducible refine kz_digits ?_)
local macro_rules | `(tactic| decreasing_trivial_pre_omega) => `(tactic| with_reducible refine kz_point ?_)
local macro_rules | `(tactic| decreasing_trivial_pre_omega) => `(tactic| with_reducible refine kz_keep ?_)
local macro_rules | `(tactic| decreasing_trivial_pre_omega) => `(tactic| with_reducible refine v_lenSet ?_)
local macro_rules | `(tactic| decreasing_trivial_pre_omega) => `(tactic| with_reducible refine kz_parts ?_)
local macro_rules | `(tactic| decreasing_trivial_pre_omega) => `(tactic| with_reducible refine bz_kinds ?_)
local macro_rules | `(tactic| decreasing_trivial_pre_omega) => `(tactic| with_reducible refine bz_spare ?_)
local macro_rules | `(tactic| decreasing_trivial_pre_omega) => `(tactic| with_reducible refine bz_joined ?_)
local macro_rules | `(tactic| decreasing_trivial_pre_omega) => `(tactic| with_reducible refine bz_mark ?_)
local macro_rules | `(tactic| decreasing_trivial_pre_omega) => `(tactic| with_reducible refine bz_meth (by decide) ?_)
local macro_rules | `(tactic| decreasing_trivial_pre_omega) => `(tactic| with_reducible refine lz_book ?_)
local macro_rules | `(tactic| decreasing_trivial_pre_omega) => `(tactic| with_reducible refine lz_name ?_)
local macro_rules | `(tactic| decreasing_trivial_pre_omega) => `(tactic| with_reducible refine lz_kind ?_)
local macro_rules | `(tactic| decreasing_trivial_pre_omega) => `(tactic| with_reducible refine v_intO ?_)
local macro_rules | `(tactic| decreasing_trivial_pre_omega) => `(tactic| with_reducible refine v_gh ?_)
local macro_rules | `(tactic| decreasing_trivial_pre_omega) => `(tactic| with_reducible refine v_sp0 ?_)
local macro_rules | `(tactic| decreasing_trivial_pre_omega) => `(tactic| with_reducible refine v_sp1 ?_)
local macro_rules | `(tactic| decreasing_trivial_pre_omega) => `(tactic| with_reducible refine v_sp2 ?_)
local macro_rules | `(tactic| decreasing_trivial_pre_omega) => `(tactic| with_reducible refine v_sp3 ?_)
local macro_rules | `(tactic| decreasing_trivial_pre_omega) => `(tactic| with_reducible refine v_sp4 ?_)
local macro_rules | `(tactic| decreasing_trivial_pre_omega) => `(tactic| with_reducible refine v_sp5 ?_)
local macro_rules | `(tactic| decreasing_trivial_pre_omega) => `(tactic| with_reducible refine v_op0 ?_)
local macro_rules | `(tactic| decreasing_trivial_pre_omega) => `(tactic| with_reducible refine v_op1 ?_)
local macro_rules | `(tactic| decreasing_trivial_pre_omega) => `(tactic| with_reducible refine v_op4 ?_)
local macro_rules | `(tactic| decreasing_trivial_pre_omega) => `(tactic| with_reducible refine v_op5 ?_)
local macro_rules | `(tactic| decreasing_trivial_pre_omega) => `(tactic| with_reducible refine v_onN ?_)
local macro_rules | `(tactic| decreasing_trivial_pre_omega) => `(tactic| with_reducible refine v_onS ?_)
local macro_rules | `(tactic| decreasing_trivial_pre_omega) => `(tactic| with_reducible refine v_nonN ?_)
local macro_rules | `(tactic| decreasing_trivial_pre_omega) => `(tactic| with_reducible refine v_nonS ?_)
local macro_rules | `(tactic| decreasing_trivial_pre_omega) => `(tactic| with_reducible refine v_trip0 ?_)
local macro_rules | `(tactic| decreasing_trivial_pre_omega) => `(tactic| with_reducible refine v_trip1 ?_)
local macro_rules | `(tactic| decreasing_trivial_pre_omega) => `(tactic| with_reducible refine v_iList ?_)
local macro_rules | `(tactic| decreasing_trivial_pre_omega) => `(tactic| with_reducible refine v_iEnum ?_)
local macro_rules | `(tactic| decreasing_trivial_pre_omega) => `(tactic| with_reducible refine v_prop ?_)
local macro_rules | `(tactic| decreasing_trivial_pre_omega) => `(tactic| with_reducible refine bk_prop ?_)
local macro_rules | `(tactic| decreasing_trivial_pre_omega) => `(tactic| with_reducible refine kindD_fam ?_)
local macro_rules | `(tactic| decreasing_trivial_pre_omega) => `(tactic| with_reducible refine kindD_keep ?_)
local macro_rules | `(tactic| decreasing_trivial_pre_omega) => `(tactic| with_reducible refine kindD_yes ?_)
local macro_rules | `(tactic| decreasing_trivial_pre_omega) => `(tactic| with_reducible refine v_va0 ?_)
local macro_rules | `(tactic| decreasing_trivial_pre_omega) => `(tactic| with_reducible refine v_vaT ?_)
local macro_rules | `(tactic| decreasing_trivial_pre_omega) => `(tactic| with_reducible refine v_vaN ?_)
local macro_rules | `(tactic| decreasing_trivial_pre_omega) => `(tactic| with_reducible refine cz_level ?_)
local macro_rules | `(tactic| decreasing_trivial_pre_omega) => `(tactic| with_reducible refine cz_held ?_)
local macro_rules | `(tactic| decreasing_trivial_pre_omega) => `(tactic| with_reducible refine cz_meth (by decide) ?_)
local macro_rules | `(tactic| decreasing_trivial_pre_omega) => `(tactic| with_reducible refine v_try ?_)
local macro_rules | `(tactic| decreasing_trivial_pre_omega) => `(tactic| with_reducible refine v_methX ?_)
local macro_rules | `(tactic| decreasing_trivial_pre_omega) => `(tactic| with_reducible refine v_makeX ?_)
local macro_rules | `(tactic| decreasing_trivial_pre_omega) => `(tactic| with_reducible refine v_calX ?_)
local macro_rules | `(tactic| decreasing_trivial_pre_omega) => `(tactic| with_reducible refine v_xfV (by with_unfolding_all rfl) (by with_unfolding_all rfl) ?_)
local macro_rules | `(tactic| decreasing_trivial_pre_omega) => `(tactic| with_reducible refine v_xisV (by with_unfolding_all rfl) ?_)
local macro_rules | `(tactic| decreasing_trivial_pre_omega) => `(tactic| with_reducible refine v_raise ?_)
local macro_rules | `(tactic| decreasing_trivial_pre_omega) => `(tactic| with_reducible refine v_listV ?_)
local macro_rules | `(tactic| decreasing_trivial_pre_omega) => `(tactic| with_reducible refine v_iKeys ?_)
/-! ### columns drawn -/
/-- a text drawn -/
def TxtD (t : List Nat) : Prop := t.length ≤ 30 ∧ isText t = true
structure DrawnC (cols : List Row) (m : Nat) : Prop where
  ok : ColOk cols m
  l4 : cols.length ≤ 4
  tx : ∀ r ∈ cols, ∀ t ∈ r.2, TxtD t
theorem rows_of {P : Nat → Row → Prop} {ys : List D} (h : ∀ (i : Nat) y, ys[i]? = some y → ∃ r, y = rowD r ∧ P i r) : ∃ cols : List Row, ys = cols.map rowD ∧ ∀ (i : Nat) r, cols[i]? = some r → P i r := by
  induction ys generalizing P with
  | nil => exact ⟨[], rfl, fun i r e => by cases e⟩
  | cons y ys ih =>
    obtain ⟨r, e, p⟩ := h 0 y rfl
    obtain ⟨cols, e2, h2⟩ := ih (P := fun i r => P (i + 1) r) fun i y hy => h (i + 1) y hy
    refine ⟨r :: cols, by rw [e, e2]; rfl, fun i r' hr => ?_⟩
    cases i with
    | zero => cases hr; exact p
    | succ i => exact h2 i r' hr
theorem lc_bagIW {wi : DI} {g : DG} {te : DE} {ρ : DEnv} {vs : List Nat} {C1 : Cl} {b : Addr} {n k : Nat} {xs : List D} {Q : DQ} (Y : Nat → D → Prop) (hw : ∀ R : List D → Cl → Prop, R xs C1 → wi ρ C1 R) (hb : BagAt C1 b n) (hl : xs.length ≤ sizeLine)
    (h : ∀ i x C (N : DQ), xs[i]? = some x → BagAt C b (n + i * k) → (∀ a, C1 a ≠ none → a ≠ b → C a = C1 a) → (∀ y C', Y i y → Bagged C b C' (n + (i + 1) * k) → N y C') → g x (wipeD ρ vs) C fun ρ2 C2 => te ρ2 C2 N)
    (hq : ∀ ys C', ys.length = xs.length → (∀ i y, ys[i]? = some y → Y i y) → Bagged C1 b C' (n + xs.length * k) → Q (.lst ys) C') : dFz (dLc wi g dYes te vs) ρ C1 Q := hw _ (lc_bagI Y hb hl h hq)
def sp_l_columns : DSp := fun ds C Q _ => ∃ b k n, ds = [.ref b, .int (k : Nat)] ∧ k ≤ 10 ∧ BagAt C b n ∧ n < 10000000 ∧ ∀ cols m C', DrawnC cols m → m ≤ k → Bagged C b C' (n + 10000000) → Q (.lst (cols.map rowD)) C'
def td_l_columns : DS :=
  (dSeq (dAsg (dTup (dCons (dCall sp_l_words [] (dCons (dVar 0) (dCons (dAdd (dC (.int 1)) (dCall sp_l_take [] (dCons (dVar 0) (dCons (dC (.int 4)) dNil)))) dNil))) (dCons (dCall sp_l_take [] (dCons (dVar 0) (dCons (dAdd (dVar 1) (dC (.int 1))) dNil))) dNil))) (dgTup 2 (dgCons (dName 2) (dgCons (dName 3) dgNil))))
    (dRet (dFz (dLc (diList (dVar 2)) (dName 4) dYes (dTup (dCons (dVar 4) (dCons (dFz (dLc (diRng1 (dCons (dVar 3) dNil)) (dName 5) dYes (dCall sp_l_text [] (dCons (dVar 0) dNil)) [5])) dNil))) [4]))))
theorem len_l_columns (ds : List D) (C : Cl) (Q : DQ) (E : DX) (h : sp_l_columns ds C Q E) : ds.length = 2 := by repeat (first | (obtain ⟨rfl, _⟩ := h; exact rfl) | (obtain ⟨_, h⟩ := h))
theorem pure_l_columns (ds : List D) (C : Cl) (Q : DQ) (E : DX) (h : sp_l_columns ds C Q E) : td_l_columns (endsD Q) (startD ["_law_bag_here", "_law_most", "_law_labels", "_law_size", "_law_label", "_law_turn"] ds) C := by
  obtain ⟨b, k, n, rfl, hk, hb, hn, hq⟩ := h
  unfold td_l_columns
  refine v_ends ?_
  simp only [startD, List.map_cons, List.map_nil, List.length_cons, List.length_nil, Nat.reduceAdd, Nat.reduceSub, List.reduceReplicate, List.cons_append, List.nil_append]
  array_mem_dec
  refine ⟨b, 4, _, rfl, by decide, by decide, hb, by omega, fun i C1 i0 i1 B1 => ?_⟩
  array_mem_dec
  refine ⟨b, (1 + i).toNat, _, by rw [show (((1 + i).toNat : Nat) : Int) = 1 + i by omega], by omega, B1.at, by omega, fun ws C2 wl ww wn B2 => ?_⟩
  array_mem_dec
  refine ⟨b, _, _, rfl, by omega, by omega, B2.at, by omega, fun j C3 j0 j1 B3 => ?_⟩
  array_mem_dec
  have hj : j.toNat ≤ k := by omega
  refine lc_bagIW (k := 1000000) (b := b) (xs := txts ws) (fun i y => ∃ w ts, ws[i]? = some w ∧ y = rowD (w, ts) ∧ ts.length = j.toNat ∧ ∀ t ∈ ts, TxtD t) (fun R h => ?_) B3.at (szl (by rw [txts_lenG]; omega)) (fun i x C4 N hx hb4 _ hN => ?_) fun ys C4 hyl hY B4 => ?_
  · array_mem_dec
    exact h
  · have hx' := hx
    unfold txts at hx'
    rw [List.getElem?_map] at hx'
    obtain ⟨w, hw, rfl⟩ := Option.map_eq_some_iff.mp hx'
    array_mem_dec
    refine lc_bagW (k := 20000) (b := b) (xs := ranged 0 j.toNat) (fun y => ∃ l, y = .str l ∧ TxtD l) (fun R h => ?_) hb4 (by rw [ranged_length]; exact szl (by omega)) (fun i2 x2 C5 N2 hx2 hb5 _ hN2 => ?_) fun ys C5 hyl hY B5 => ?_
    · array_mem_dec
      refine ⟨j, rfl, ⟨by omega, by omega⟩, ?_⟩
      exact h
    · have i2l := (ranged_get hx2).1
      array_mem_dec
      have : i * 1000000 + i2 * 20000 ≤ 4200000 := by
        have hi4 := (List.getElem?_eq_some_iff.mp hw).1
        have : i ≤ 3 := by omega
        have : i2 ≤ 10 := by omega
        omega
      refine ⟨b, _, rfl, hb5, by omega, fun t C6 tl ta _ B6 => hN2 _ C6 ⟨t, rfl, tl, ta⟩ (B6.mono (by omega))⟩
    · obtain ⟨ts, rfl, hts⟩ := txts_of hY
      rw [txts_lenG, ranged_length] at hyl
      array_mem_dec
      refine hN _ C5 ⟨w, ts, hw, rfl, by omega, hts⟩ (B5.mono ?_)
      rw [ranged_length]
      have : j.toNat ≤ 10 := by omega
      have e1 : (i + 1) * 1000000 = i * 1000000 + 1000000 := by rw [Nat.add_mul, Nat.one_mul]
      have e2 : j.toNat * 20000 ≤ 200000 := by omega
      omega
  · obtain ⟨cols, rfl, hs⟩ := rows_of (P := fun i r => ws[i]? = some r.1 ∧ r.2.length = j.toNat ∧ ∀ t ∈ r.2, TxtD t) (fun i y hy => by
      obtain ⟨w, ts, hw, rfl, h1, h2⟩ := hY i y hy
      exact ⟨(w, ts), rfl, hw, h1, h2⟩)
    rw [List.length_map, txts_lenG] at hyl
    have hn : namesR cols = ws := by
      refine List.ext_getElem? fun i => ?_
      unfold namesR
      rw [List.getElem?_map]
      cases e : cols[i]? with
      | some r => rw [(hs i r e).1]; rfl
      | none =>
        have : cols.length ≤ i := List.getElem?_eq_none_iff.mp e
        rw [List.getElem?_eq_none (show ws.length ≤ i by omega)]
        rfl
    have row : ∀ r ∈ cols, r.2.length = j.toNat ∧ ∀ t ∈ r.2, TxtD t := fun r hr => by
      obtain ⟨i, hi⟩ := List.mem_iff_getElem?.mp hr
      exact (hs i r hi).2
    refine ⟨_, _, .same, hq cols j.toNat C4 ⟨⟨fun z => ?_, by omega, by omega, by rw [hn]; exact wn.1, fun r hr => ?_⟩, by omega, fun r hr => (row r hr).2⟩ hj (((B1.trans B2).trans (B3.trans B4)).mono ?_)⟩
    · rw [z, List.length_nil] at hyl
      omega
    · refine ⟨ww _ (by rw [← hn]; exact List.mem_map.mpr ⟨r, hr, rfl⟩), (row r hr).1, fun t ht => small_ok ((row r hr).2 t ht).2, fun t ht => ?_⟩
      have := ((row r hr).2 t ht).1
      omega
    · rw [txts_lenG]
      have : ws.length * 1000000 ≤ 4000000 := by omega
      omega
theorem v_dYes {ρ : DEnv} {C : Cl} {K : Bool → Cl → Prop} (h : K true C) : dYes ρ C K := h
def sp_l_copied : DSp := fun ds C Q _ => ∃ cols : List Row, ds = [.lst (cols.map rowD)] ∧ cols.length ≤ 1000 ∧ ∀ q xs C', C q = none → C' q = some (.lst xs) → RowsAt C' xs cols → SubC C C' → (∀ (i : Nat) (r : Row), cols[i]? = some r → ∃ p, xs[i]? = some (D.tup [.str r.1, .ref p]) ∧ C' p = some (.lst (txts r.2)) ∧ C p = none ∧ p ≠ q) → Q (.ref q) C'
def td_l_copied : DS :=
  (dRet (dLc (diList (dVar 0)) (dgTup 2 (dgCons (dName 1) (dgCons (dName 2) dgNil))) dYes (dTup (dCons (dVar 1) (dCons (dCB rListC (dCons (dVar 2) dNil)) dNil))) [1, 2]))
theorem len_l_copied (ds : List D) (C : Cl) (Q : DQ) (E : DX) (h : sp_l_copied ds C Q E) : ds.length = 1 := by obtain ⟨_, rfl, _⟩ := h; rfl
theorem pure_l_copied (ds : List D) (C : Cl) (Q : DQ) (E : DX) (h : sp_l_copied ds C Q E) : td_l_copied (endsD Q) (startD ["_law_columns_here", "_law_label", "_law_texts"] ds) C := by
  obtain ⟨cols, rfl, hl, hq⟩ := h
  unfold td_l_copied
  refine v_ends ?_
  simp only [startD, List.map_cons, List.map_nil, List.length_cons, List.length_nil, Nat.reduceAdd, Nat.reduceSub, List.reduceReplicate, List.cons_append, List.nil_append]
  array_mem_dec
  refine v_lc ?_
  array_mem_dec
  intro q hq0
  refine ⟨fun i C' => ∃ acc, C' q = some (.lst acc) ∧ SubC C C' ∧ acc.length = i ∧ ∀ (j : Nat) (r : Row), j < i → cols[j]? = some r → ∃ p, acc[j]? = some (D.tup [.str r.1, .ref p]) ∧ C' p = some (.lst (txts r.2)) ∧ C p = none ∧ p ≠ q, ⟨[], updC_same, (SubC.refl C).new hq0, rfl, fun j r hj => absurd hj (Nat.not_lt_zero j)⟩, fun i x C' hx hP => ?_, fun C' hP => ?_⟩
  · obtain ⟨acc, ha, sub, la, hA⟩ := hP
    rw [List.getElem?_map] at hx
    obtain ⟨r, hr, rfl⟩ := Option.map_eq_some_iff.mp hx
    have il := (List.getElem?_eq_some_iff.mp hr).1
    unfold rowD
    array_mem_dec
    refine v_dYes ?_
    array_mem_dec
    refine ⟨_, _, rfl, rfl, fun p hp => ?_⟩
    array_mem_dec
    have pq : p ≠ q := fun z => by rw [z, ha] at hp; cases hp
    have hp0 : C p = none := by
      cases e : C p with
      | none => rfl
      | some c => rw [sub _ _ e] at hp; cases hp
    refine ⟨acc, by rw [updC_ne (Ne.symm pq)]; exact ha, Nat.lt_of_le_of_lt (by omega : acc.length ≤ 1000) (small1000 (Nat.le_refl _)), _, updC_same, (sub.new hp0).new hq0, by rw [List.length_append, la]; rfl, fun j r' hj hr' => ?_⟩
    by_cases e : j = i
    · subst e
      rw [hr] at hr'
      cases hr'
      exact ⟨p, by rw [← la, List.getElem?_append_right (Nat.le_refl _), Nat.sub_self]; rfl, by rw [updC_ne pq]; exact updC_same, hp0, pq⟩
    · obtain ⟨p2, a1, a2, a3, a4⟩ := hA j r' (by omega) hr'
      have : p2 ≠ p := fun z => by rw [z, hp] at a2; cases a2
      exact ⟨p2, by rw [List.getElem?_append_left (by omega)]; exact a1, by rw [updC_ne a4, updC_ne this]; exact a2, a3, a4⟩
  · obtain ⟨acc, ha, sub, la, hA⟩ := hP
    rw [List.length_map] at la hA
    have all : ∀ (i : Nat) (r : Row), cols[i]? = some r → ∃ p, acc[i]? = some (D.tup [.str r.1, .ref p]) ∧ C' p = some (.lst (txts r.2)) ∧ C p = none ∧ p ≠ q := fun i r hr => hA i r (List.getElem?_eq_some_iff.mp hr).1 hr
    refine ⟨_, _, .same, hq q acc C' hq0 ha ⟨la, fun i d r e1 e2 => ?_⟩ sub all⟩
    obtain ⟨p, a1, a2, _⟩ := all i r e2
    rw [a1] at e1
    cases e1
    exact rowAt_ref a2
end G
namespace G
open PySem PySem.Spec PyProof.Rows L2
local macro_rules | `(tactic| sizeOf_list_dec) => `(tactic| exact szl (by first | omega | (simp only [List.length_append, List.length_cons, List.length_nil, List.length_map, List.length_reverse, List.length_singleton, txts_lenG]; omega) | (simp only [List.length_append, List.length_cons, List.length_nil, List.length_map, List.length_reverse, txts_lenG]; omega)))
local macro_rules | `(tactic| array_get_dec) => `(tactic| first | with_reducible refine v_seq ?_ | with_reducible refine v_next ?_ | with_reducible refine v_asg ?_ | (with_reducible refine v_isvar ?_; first | with_reducible refine v_var0 ?_ | with_reducible refine v_var1 ?_ | with_reducible refine v_var2 ?_ | with_reducible refine v_var3 ?_ | with_reducible refine v_var4 ?_ | with_reducible refine v_var5 ?_ | with_reducible refine v_var6 ?_ | with_reducible refine v_var7 ?_ | with_reducible refine v_var8 ?_ | with_reducible refine v_var9 ?_ | with_reducible refine v_var10 ?_ | with_reducible refine v_var11 ?_ | with_reducible refine v_var12 ?_ | with_reducible refine v_var13 ?_ | with_reducible refine v_var14 ?_ | with_reducible refine v_var15 ?_ | with_reducible refine v_var16 ?_ | with_reducible refine v_var17 ?_ | with_reducible refine v_var18 ?_ | with_reducible refine v_var19 ?_ | with_reducible refine v_var20 ?_ | with_reducible refine v_var21 ?_ | with_reducible refine v_var22 ?_ | with_reducible refine v_var23 ?_ | with_reducible refine v_var24 ?_ | with_reducible refine v_var25 ?_) | (with_reducible refine v_isname ?_; first | with_reducible refine v_name0 ?_ | with_reducible refine v_wname0 ?_ | with_reducible refine v_name1 ?_ | with_reducible refine v_wname1 ?_ | with_reducible refine v_name2 ?_ | with_reducible refine v_wname2 ?_ | with_reducible refine v_name3 ?_ | with_reducible refine v_wname3 ?_ | with_reducible refine v_name4 ?_ | with_reducible refine v_wname4 ?_ | with_reducible refine v_name5 ?_ | with_reducible refine v_wname5 ?_ | with_reducible refine v_name6 ?_ | with_reducible refine v_wname6 ?_ | with_reducible refine v_name7 ?_ | with_reducible refine v_wname7 ?_ | with_reducible refine v_name8 ?_ | with_reducible refine v_wname8 ?_ | with_reducible refine v_name9 ?_ | with_reducible refine v_wname9 ?_ | with_reducible refine v_name10 ?_ | with_reducible refine v_wname10 ?_ | with_reducible refine v_name11 ?_ | with_reducible refine v_wname11 ?_ | with_reducible refine v_name12 ?_ | with_reducible refine v_wname12 ?_ | with_reducible refine v_name13 ?_ | with_reducible refine v_wname13 ?_ | with_reducible refine v_name14 ?_ | with_reducible refine v_wname14 ?_ | with_reducible refine v_name15 ?_ | with_reducible refine v_wname15 ?_ | with_reducible refine v_name16 ?_ | with_reducible refine v_wname16 ?_ | with_reducible refine v_name17 ?_ | with_reducible refine v_wname17 ?_ | with_reducible refine v_name18 ?_ | with_reducible refine v_wname18 ?_ | with_reducible refine v_name19 ?_ | with_reducible refine v_wname19 ?_ | with_reducible refine v_name20 ?_ | with_reducible refine v_wname20 ?_ | with_reducible refine v_name21 ?_ | with_reducible refine v_wname21 ?_ | with_reducible refine v_name22 ?_ | with_reducible refine v_wname22 ?_ | with_reducible refine v_name23 ?_ | with_reducible refine v_wname23 ?_ | with_reducible refine v_name24 ?_ | with_reducible refine v_wname24 ?_ | with_reducible refine v_name25 ?_ | with_reducible refine v_wname25 ?_) | with_reducible refine v_drop ?_ | with_reducible refine v_ret ?_ | with_reducible refine v_ifS ?_ | with_reducible refine v_test ?_ | with_reducible refine v_bl ?_ | with_reducible refine v_const ?_ | with_reducible refine v_op ?_ | with_reducible refine v_cb ?_ | with_reducible refine v_nil ?_ | with_reducible refine v_cons ?_ | with_reducible refine v_fld ?_ | with_reducible refine v_meth ?_ | with_reducible refine v_cal ?_ | with_reducible refine v_call0 ?_ | with_reducible refine v_pos2 ?_ | with_reducible refine v_tt ?_ | with_reducible refine v_ff ?_ | with_reducible refine v_ntt ?_ | with_reducible refine v_nff ?_ | with_reducible refine v_dnot ?_ | with_reducible refine v_dand ?_ | with_reducible refine v_dor ?_ | with_reducible refine v_andV ?_ | with_reducible refine v_orV ?_ | with_reducible refine v_notV ?_ | with_reducible refine v_ifE ?_ | with_reducible refine v_bm0 ?_ | with_reducible refine v_eqS ?_ | with_reducible refine v_eqI ?_ | with_reducible refine v_neS ?_ | with_reducible refine v_neI ?_ | with_reducible refine v_eqB ?_ | with_reducible refine v_neB ?_ | with_reducible refine v_isNn ?_ | with_reducible refine v_isNs ?_ | with_reducible refine v_isNi ?_ | with_reducible refine v_isNt ?_ | with_reducible refine v_notNn ?_ | with_reducible refine v_notNs ?_ | with_reducible refine v_notNi ?_ | with_reducible refine v_notNt ?_ | with_reducible refine v_isN ?_ | with_reducible refine v_notN ?_ | with_reducible refine v_lt ?_ | with_reducible refine v_le ?_ | with_reducible refine v_gt ?_ | with_reducible refine v_ge ?_ | with_reducible refine v_addI ?_ | with_reducible refine v_subI ?_ | with_reducible refine v_lenT ?_ | with_reducible refine v_lenL ?_ | with_reducible refine v_chain ?_ | with_reducible refine v_un ?_ | with_reducible refine v_tup ?_ | with_reducible refine v_lst ?_ | with_reducible refine v_lstC ?_ | with_reducible refine v_gsub ?_ | with_reducible refine v_rng1 ?_ | with_reducible refine v_rng2 ?_ | with_reducible refine v_slice ?_ | with_reducible refine v_nopart ?_ | with_reducible refine v_part ?_ | with_reducible refine v_partI ?_ | with_reducible refine v_slT ?_ | with_reducible refine v_slL ?_ | with_reducible refine v_rev ?_ | with_reducible refine v_revO ?_ | with_reducible refine v_enumS ?_ | with_reducible refine v_enumL ?_ | with_reducible refine v_enumT ?_ | with_reducible refine v_zipS ?_ | with_reducible refine v_revL ?_ | with_reducible refine v_revT ?_ | with_reducible refine v_putT ?_ | with_reducible refine v_putK ?_ | with_reducible refine v_inT ?_ | with_reducible refine v_getT ?_ | with_reducible refine v_get2T ?_ | with_reducible refine v_make ?_ | with_reducible refine v_fldSet ?_ | with_reducible refine v_forL ?_ | with_reducible refine v_forT ?_ | with_reducible refine v_forS ?_ | with_reducible refine v_lstO ?_ | with_reducible refine v_rolO ?_ | with_reducible refine v_tupO ?_ | with_reducible refine v_strO ?_ | with_reducible refine v_listT ?_ | with_reducible refine v_listL ?_ | with_reducible refine v_tupleL ?_ | with_reducible refine v_tupleT ?_ | with_reducible refine v_isiS ?_ | with_reducible refine v_isiT ?_ | with_reducible refine v_isiL ?_ | with_reducible refine v_allM ?_ | with_reducible refine v_anyM ?_ | with_reducible refine v_eqNS ?_ | with_reducible refine v_neNS ?_ | with_reducible refine v_gcons ?_ | with_reducible refine v_gnil ?_ | with_reducible refine v_par2 ?_ | with_reducible refine v_par33 ?_ | with_reducible refine v_retN ?_ | with_reducible refine v_sameS ?_ | with_reducible refine v_sameB ?_ | with_reducible refine v_sameI ?_ | with_reducible refine v_sameN ?_ | with_reducible refine v_sameT ?_ | with_reducible refine v_sameL ?_ | with_reducible refine v_endN ?_ | with_reducible refine v_bm ?_ | with_reducible refine v_tystr ?_ | with_reducible refine v_break ?_ | with_reducible refine v_cont ?_ | ((with_reducible refine v_slS ?_ ?_); sizeOf_list_dec) | ((with_reducible refine v_lenS ?_ ?_); sizeOf_list_dec) | ((with_reducible refine v_addS ?_ ?_); sizeOf_list_dec) | ((with_reducible refine v_addT ?_ ?_); sizeOf_list_dec) | ((with_reducible refine v_addL ?_ ?_); sizeOf_list_dec) | (with_reducible refine v_par _ _ ?_) | (with_reducible refine v_par3 _ _ _ ?_) | ((with_reducible refine v_gtup ?_ ?_); rfl) | with_reducible refine v_ixT (by with_unfolding_all rfl) ?_ | with_reducible refine v_ixL (by with_unfolding_all rfl) ?_ | with_reducible refine v_ixR (by with_unfolding_all rfl) ?_ | ((with_reducible refine v_ixS ?_ (by with_unfolding_all rfl) ?_); sizeOf_list_dec) | ((with_reducible refine And.intro ?_ ?_); sizeOf_list_dec) | with_reducible refine v_dt (by first | assumption | with_unfolding_all rfl | omega | (simp only [List.length_map, List.length_append, List.length_cons, List.length_nil, List.length_reverse, txts_lenG]; first | done | omega)) ?_ | with_reducible refine v_ndt (by first | assumption | with_unfolding_all rfl | omega | (simp only [List.length_map, List.length_append, List.length_cons, List.length_nil, List.length_reverse, txts_lenG]; first | done | omega)) ?_ | with_reducible refine v_df (by first | assumption | omega | (with_unfolding_all decide) | (simp only [List.length_map, List.length_append, List.length_cons, List.length_nil, List.length_reverse, txts_lenG]; first | done | omega)) ?_ | with_reducible refine v_ndf (by first | assumption | omega | (with_unfolding_all decide) | (simp only [List.length_map, List.length_append, List.length_cons, List.length_nil, List.length_reverse, txts_lenG]; first | done | omega)) ?_ | decreasing_trivial_pre_omega | ((with_reducible refine v_isname ?_); dsimp only [wipeD, List.set]) | ((with_reducible refine v_isvar ?_); dsimp only [wipeD, List.set]))
local macro_rules | `(tactic| array_mem_dec) => `(tactic| repeat array_get_dec)
local macro_rules | `(tactic| bv_omega) => `(tactic| repeat' (first | array_get_dec | with_reducible refine ite_d (fun _ => ?_) (fun _ => ?_) | with_reducible refine ite_nd (fun _ => ?_) (fun _ => ?_) | with_reducible refine ite_b (fun _ => ?_) (fun _ => ?_) | with_reducible refine ite_nb (fun _ => ?_) (fun _ => ?_)))
local macro_rules | `(tactic| decreasing_trivial_pre_omega) => `(tactic| with_reducible refine kz_name ?_)
local macro_rules | `(tactic| decreasing_trivial_pre_omega) => `(tactic| with_reducible refine kz_family ?_)
local macro_rules | `(tactic| decreasing_trivial_pre_omega) => `(tactic| with_reducible refine kz_marks ?_)
local macro_rules | `(tactic| decreasing_trivial_pre_omega) => `(tactic| with_reducible refine kz_yes ?_)
local macro_rules | `(tactic| decreasing_trivial_pre_omega) => `(tactic| with_reducible refine kz_no ?_)
local macro_rules | `(tactic| decreasing_trivial_pre_omega) => `(tactic| with_reducible refine kz_digits ?_)
local macro_rules | `(tactic| decreasing_trivial_pre_omega) => `(tactic| with_reducible refine kz_point ?_)
local macro_rules | `(tactic| decreasing_trivial_pre_omega) => `(tactic| with_reducible refine kz_keep ?_)
local macro_rules | `(tactic| decreasing_trivial_pre_omega) => `(tactic| with_reducible refine v_lenSet ?_)
local macro_rules | `(tactic| decreasing_trivial_pre_omega) => `(tactic| with_reducible refine kz_parts ?_)
local macro_rules | `(tactic| decreasing_trivial_pre_omega) => `(tactic| with_reducible refine bz_kinds ?_)
local macro_rules | `(tactic| decreasing_trivial_pre_omega) => `(tactic| with_reducible refine bz_spare ?_)
local macro_rules | `(tactic| decreasing_trivial_pre_omega) => `(tactic| with_reducible refine bz_joined ?_)
local macro_rules | `(tactic| decreasing_trivial_pre_omega) => `(tactic| with_reducible refine bz_mark ?_)
local macro_rules | `(tactic| decreasing_trivial_pre_omega) => `(tactic| with_reducible refine bz_meth (by decide) ?_)
local macro_rules | `(tactic| decreasing_trivial_pre_omega) => `(tactic| with_reducible refine lz_book ?_)
local macro_rules | `(tactic| decreasing_trivial_pre_omega) => `(tactic| with_reducible refine lz_name ?_)
local macro_rules | `(tactic| decreasing_trivial_pre_omega) => `(tactic| with_reducible refine lz_kind ?_)
local macro_rules | `(tactic| decreasing_trivial_pre_omega) => `(tactic| with_reducible refine v_intO ?_)
local macro_rules | `(tactic| decreasing_trivial_pre_omega) => `(tactic| with_reducible refine v_gh ?_)
local macro_rules | `(tactic| decreasing_trivial_pre_omega) => `(tactic| with_reducible refine v_sp0 ?_)
local macro_rules | `(tactic| decreasing_trivial_pre_omega) => `(tactic| with_reducible refine v_sp1 ?_)
local macro_rules | `(tactic| decreasing_trivial_pre_omega) => `(tactic| with_reducible refine v_sp2 ?_)
local macro_rules | `(tactic| decreasing_trivial_pre_omega) => `(tactic| with_reducible refine v_sp3 ?_)
local macro_rules | `(tactic| decreasing_trivial_pre_omega) => `(tactic| with_reducible refine v_sp4 ?_)
local macro_rules | `(tactic| decreasing_trivial_pre_omega) => `(tactic| with_reducible refine v_sp5 ?_)
local macro_rules | `(tactic| decreasing_trivial_pre_omega) => `(tactic| with_reducible refine v_op0 ?_)
local macro_rules | `(tactic| decreasing_trivial_pre_omega) => `(tactic| with_reducible refine v_op1 ?_)
local macro_rules | `(tactic| decreasing_trivial_pre_omega) => `(tactic| with_reducible refine v_op4 ?_)
local macro_rules | `(tactic| decreasing_trivial_pre_omega) => `(tactic| with_reducible refine v_op5 ?_)
local macro_rules | `(tactic| decreasing_trivial_pre_omega) => `(tactic| with_reducible refine v_onN ?_)
local macro_rules | `(tactic| decreasing_trivial_pre_omega) => `(tactic| with_reducible refine v_onS ?_)
local macro_rules | `(tactic| decreasing_trivial_pre_omega) => `(tactic| with_reducible refine v_nonN ?_)
local macro_rules | `(tactic| decreasing_trivial_pre_omega) => `(tactic| with_reducible refine v_nonS ?_)
local macro_rules | `(tactic| decreasing_trivial_pre_omega) => `(tactic| with_reducible refine v_trip0 ?_)
local macro_rules | `(tactic| decreasing_trivial_pre_omega) => `(tactic| with_reducible refine v_trip1 ?_)
local macro_rules | `(tactic| decreasing_trivial_pre_omega) => `(tactic| with_reducible refine v_iList ?_)
local macro_rules | `(tactic| decreasing_trivial_pre_omega) => `(tactic| with_reducible refine v_iEnum ?_)
local macro_rules | `(tactic| decreasing_trivial_pre_omega) => `(tactic| with_reducible refine v_prop ?_)
local macro_rules | `(tactic| decreasing_trivial_pre_omega) => `(tactic| with_reducible refine bk_prop ?_)
local macro_rules | `(tactic| decreasing_trivial_pre_omega) => `(tactic| with_reducible refine kindD_fam ?_)
local macro_rules | `(tactic| decreasing_trivial_pre_omega) => `(tactic| with_reducible refine kindD_keep ?_)
local macro_rules | `(tactic| decreasing_trivial_pre_omega) => `(tactic| with_reducible refine kindD_yes ?_)
local macro_rules | `(tactic| decreasing_trivial_pre_omega) => `(tactic| with_reducible refine v_va0 ?_)
local macro_rules | `(tactic| decreasing_trivial_pre_omega) => `(tactic| with_reducible refine v_vaT ?_)
local macro_rules | `(tactic| decreasing_trivial_pre_omega) => `(tactic| with_reducible refine v_vaN ?_)
local macro_rules | `(tactic| decreasing_trivial_pre_omega) => `(tactic| with_reducible refine cz_level ?_)
local macro_rules | `(tactic| decreasing_trivial_pre_omega) => `(tactic| with_reducible refine cz_held ?_)
local macro_rules | `(tactic| decreasing_trivial_pre_omega) => `(tactic| with_reducible refine cz_meth (by decide) ?_)
local macro_rules | `(tactic| decreasing_trivial_pre_omega) => `(tactic| with_reducible refine v_try ?_)
local macro_rules | `(tactic| decreasing_trivial_pre_omega) => `(tactic| with_reducible refine v_methX ?_)
local macro_rules | `(tactic| decreasing_trivial_pre_omega) => `(tactic| with_reducible refine v_makeX ?_)
local macro_rules | `(tactic| decreasing_trivial_pre_omega) => `(tactic| with_reducible refine v_calX ?_)
local macro_rules | `(tactic| decreasing_trivial_pre_omega) => `(tactic| with_reducible refine v_xfV (by with_unfolding_all rfl) (by with_unfolding_all rfl) ?_)
local macro_rules | `(tactic| decreasing_trivial_pre_omega) => `(tactic| with_reducible refine v_xisV (by with_unfolding_all rfl) ?_)
local macro_rules | `(tactic| decreasing_trivial_pre_omega) => `(tactic| with_reducible refine v_raise ?_)
local macro_rules | `(tactic| decreasing_trivial_pre_omega) => `(tactic| with_reducible refine v_listV ?_)
local macro_rules | `(tactic| decreasing_trivial_pre_omega) => `(tactic| with_reducible refine v_iKeys ?_)
/-! ### tables near another one -/
/-! the near ones, one by one -/
theorem lt_sz {n : Nat} (h : n ≤ 1000) : n < sizeLine := Nat.lt_of_le_of_lt h (small1000 (Nat.le_refl _))
theorem v_cut {t : DS} {n r b c : _} {ρ : DEnv} {C : Cl} (P : DEnv → Cl → Prop) (hn : ∀ ρ C, P ρ C → n ρ C) (h : ∀ n' : DEnv → Cl → Prop, (∀ ρ C, P ρ C → n' ρ C) → t ⟨n', r, b, c⟩ ρ C) : t ⟨n, r, b, c⟩ ρ C := h n hn
end G
set_option maxHeartbeats 2000000
namespace G
open PySem PySem.Spec PyProof.Rows L2
/-! ### a comprehension in a comprehension -/
theorem look_relabel {f : Str × NameKind → Bool} {x : Str} : ∀ {names : List (Str × NameKind)}, (names.lookup x = some .cell ∨ names.lookup x = some .free) →
    (names.map fun p => if f p = true then (p.1, NameKind.cell) else p).lookup x = some .cell ∨ (names.map fun p => if f p = true then (p.1, NameKind.cell) else p).lookup x = some .free
  | [], h => by rcases h with h | h <;> cases h
  | (n, k) :: r, h => by
    rw [List.map_cons]
    by_cases c : (x == n) = true
    · rw [List.lookup_cons, c] at h
      dsimp only at h
      cases e : f (n, k) with
      | true => rw [if_pos rfl, List.lookup_cons, c]; exact .inl rfl
      | false => rw [if_neg Bool.false_ne_true, List.lookup_cons, c]; exact h
    · have c' : (x == n) = false := by simpa using c
      rw [List.lookup_cons, c'] at h
      have ih := look_relabel (f := f) (x := x) (names := r) h
      cases e : f (n, k) with
      | true => rw [if_pos rfl, List.lookup_cons, c']; exact ih
      | false => rw [if_neg Bool.false_ne_true, List.lookup_cons, c']; exact ih
theorem blk_in {N : List Str} {sc scope : Scope} {own : List (Str × Nat)} {env : Env} (h : BlkOk N sc scope own) : BlkOk N (relabel sc env) scope own :=
  ⟨h.kind, h.uniq, h.ix, fun y hy e => by
    have := h.free y hy e
    exact look_relabel (f := fun p => p.2 == NameKind.free && env.scope.kind == .function && env.kindOf p.1 == some .cell) this, h.own⟩
end G
set_option maxHeartbeats 2000000
namespace G
open PySem PySem.Spec PyProof.Rows L2
/-! ### words in capitals -/
theorem upper_low : ∀ c ∈ List.range' 97 26, Unicode.upperOf c = [c - 32] := by decide +kernel
theorem upper_word {l : List Nat} (h : l.all (fun c => decide (97 ≤ c ∧ c ≤ 122)) = true) : Txt.upper ⟨l.toArray⟩ = ⟨(l.map (· - 32)).toArray⟩ := by
  unfold Txt.upper
  rw [placed_single (g := (· - 32)) (h := fun i c e => ?_)]
  · simp
  · have hc := of_decide_eq_true (List.all_eq_true.mp h c (List.mem_of_getElem? (by simpa using e)))
    exact upper_low c (List.mem_range'_1.mpr ⟨hc.1, by omega⟩)
def rUpper : RDM := fun x xs C Q => ∃ l, x = .str l ∧ xs = [] ∧ l.all (fun c => decide (97 ≤ c ∧ c ≤ 122)) = true ∧ l.length ≤ 1000000 ∧ Q (.str (l.map (· - 32))) C
theorem md_upper {X : Cx} {cl : NmB} : MtD X cl "str.upper" rUpper := by
  intro pins s σ H x xs v us Q I rx rs ⟨dx, es, C, F, Qd, R, r1, rl, ⟨l, e1, e2, hl, hz, q⟩, k⟩
  subst e1 e2
  cases r1
  cases rl
  refine mt_upper pins s σ H _ _ v us Q I rx rs ⟨_, rfl, rfl, by show (l.toArray).size ≤ _; rw [List.size_toArray]; omega, ?_⟩
  rw [upper_word hl]
  exact k _ _ C H F (Same.refl F) R (.str _) q
end G
set_option maxHeartbeats 2000000
namespace G
open PySem PySem.Spec PyProof.Rows L2
/-! ### dicts that change, locked while they are walked -/
def dLockE (te : DE) : DE := fun ρ C Q => ∃ p kvs, C p = some (.dic kvs) ∧ ∀ o vs, te ρ (updC C p (.dil o vs kvs)) fun d C' => C' p = some (.dil o vs kvs) ∧ Q d (updC C' p (.dic kvs))
section
variable {X : Cx} {cl : NmB} {tg e : Expr} {te : DE}
theorem de_lockE (he : PEd X cl e te) : PEd X cl e (dLockE te) := by
  refine weakE (pe_lock he) fun σ H Q ⟨ρ, C, F, Qd, R, ⟨p, kvs, hp, h⟩, kq⟩ => ?_
  obtain ⟨vs, hd, rk⟩ := cell_dic R.rc hp
  have nF := (R.rc.cel p _ hp).1
  refine ⟨p, .dK vs, hd, trivial, fun od => ?_⟩
  have R2 := R.rc.put hp (o := .frz od (.dK vs)) (.dil rk)
  refine ⟨ρ, updC C p (.dil od vs kvs), F, _, ⟨R2, R.len, R.env, R.bs⟩, h od vs, fun v d C1 H1 F1 s1 R1 r1 ⟨hp1, q⟩ => ?_⟩
  obtain ⟨n1, ob, hob, cr⟩ := R1.cel p _ hp1
  cases cr with
  | dil rk1 => exact ⟨hob, kq v d _ _ F1 s1 (R1.put hp1 (.dic rk1)) r1 q⟩
def dicKeys (te : DE) : DIc := fun ρ C R => te ρ C fun x C1 => ∃ p o vs kvs, x = .ref p ∧ C1 p = some (.dil o vs kvs) ∧ R (keysOf kvs) (fun C => C p = some (.dil o vs kvs)) C1
theorem walk_keysC {K : PySem.W.Frag} {cl : Nm} {F : Hp} {p : Addr} {o : Obj} {vs : List (Key × V)} {kvs : List (Key × D)} : WalkC K cl (Itk p o vs) (keysOf kvs) F (fun C => C p = some (.dil o vs kvs)) := by
  intro i C F1 H s R hG
  obtain ⟨n1, ob, hob, cr⟩ := R.cel p _ hG
  cases cr with
  | dil rk =>
    have rl : RepL K cl F1 (vs.map fun p => kV p.1) (keysOf kvs) := repL_keys rk
    have hl := rl.length
    rw [List.length_map] at hl
    refine ⟨fun x hx => ?_, fun hi => ⟨hob, by omega⟩⟩
    obtain ⟨v, hv, rv⟩ := rl.get hx
    rw [List.getElem?_map] at hv
    obtain ⟨⟨k, w⟩, e, rfl⟩ := Option.map_eq_some_iff.mp hv
    refine ⟨⟨hob, (List.getElem?_eq_some_iff.mp e).1⟩, fun v' H' ⟨e1, k', w', e2, e3⟩ => ?_⟩
    subst e1 e3
    rw [e] at e2
    cases e2
    exact ⟨F1, Same.refl F1, R, rv⟩
theorem dic_keys (he : PEd X cl e te) : PIc X cl tg e (dicKeys te) := by
  refine weakI (pi_keys he) fun σ H R ⟨ρ, C, F, Rd, RR, h, k⟩ => ?_
  refine ⟨ρ, C, F, _, RR, h, fun v d C1 H1 F1 s1 R1 r1 ⟨p, o, vs, kvs, e1, hp, q1⟩ => ?_⟩
  subst e1
  cases r1
  obtain ⟨n1, ob, hob, cr⟩ := R1.cel p _ hp
  cases cr with
  | dil rk => exact ⟨_, _, rfl, .inl ⟨_, hob, k _ _ _ C1 H1 F1 s1 R1 walk_keysC q1⟩⟩
theorem v_lockE {ρ : DEnv} {C : Cl} {Q : DQ} {p : Addr} {kvs : List (Key × D)} (hp : C p = some (.dic kvs)) (h : ∀ o vs, te ρ (updC C p (.dil o vs kvs)) fun d C' => C' p = some (.dil o vs kvs) ∧ Q d (updC C' p (.dic kvs))) : dLockE te ρ C Q := ⟨p, kvs, hp, h⟩
end
end G
namespace G
open PySem PySem.Spec PyProof.Rows L2
local macro_rules | `(tactic| sizeOf_list_dec) => `(tactic| exact szl (by first | omega | (simp only [List.length_append, List.length_cons, List.length_nil, List.length_map, List.length_reverse, List.length_singleton, txts_lenG]; omega) | (simp only [List.length_append, List.length_cons, List.length_nil, List.length_map, List.length_reverse, txts_lenG]; omega)))
local macro_rules | `(tactic| array_get_dec) => `(tactic| first | with_reducible refine v_seq ?_ | with_reducible refine v_next ?_ | with_reducible refine v_asg ?_ | (with_reducible refine v_isvar ?_; first | with_reducible refine v_var0 ?_ | with_reducible refine v_var1 ?_ | with_reducible refine v_var2 ?_ | with_reducible refine v_var3 ?_ | with_reducible refine v_var4 ?_ | with_reducible refine v_var5 ?_ | with_reducible refine v_var6 ?_ | with_reducible refine v_var7 ?_ | with_reducible refine v_var8 ?_ | with_reducible refine v_var9 ?_ | with_reducible refine v_var10 ?_ | with_reducible refine v_var11 ?_ | with_reducible refine v_var12 ?_ | with_reducible refine v_var13 ?_ | with_reducible refine v_var14 ?_ | with_reducible refine v_var15 ?_ | with_reducible refine v_var16 ?_ | with_reducible refine v_var17 ?_ | with_reducible refine v_var18 ?_ | with_reducible refine v_var19 ?_ | with_reducible refine v_var20 ?_ | with_reducible refine v_var21 ?_ | with_reducible refine v_var22 ?_ | with_reducible refine v_var23 ?_ | with_reducible refine v_var24 ?_ | with_reducible refine v_var25 ?_) | (with_reducible refine v_isname ?_; first | with_reducible refine v_name0 ?_ | with_reducible refine v_wname0 ?_ | with_reducible refine v_name1 ?_ | with_reducible refine v_wname1 ?_ | with_reducible refine v_name2 ?_ | with_reducible refine v_wname2 ?_ | with_reducible refine v_name3 ?_ | with_reducible refine v_wname3 ?_ | with_reducible refine v_name4 ?_ | with_reducible refine v_wname4 ?_ | with_reducible refine v_name5 ?_ | with_reducible refine v_wname5 ?_ | with_reducible refine v_name6 ?_ | with_reducible refine v_wname6 ?_ | with_reducible refine v_name7 ?_ | with_reducible refine v_wname7 ?_ | with_reducible refine v_name8 ?_ | with_reducible refine v_wname8 ?_ | with_reducible refine v_name9 ?_ | with_reducible refine v_wname9 ?_ | with_reducible refine v_name10 ?_ | with_reducible refine v_wname10 ?_ | with_reducible refine v_name11 ?_ | with_reducible refine v_wname11 ?_ | with_reducible refine v_name12 ?_ | with_reducible refine v_wname12 ?_ | with_reducible refine v_name13 ?_ | with_reducible refine v_wname13 ?_ | with_reducible refine v_name14 ?_ | with_reducible refine v_wname14 ?_ | with_reducible refine v_name15 ?_ | with_reducible refine v_wname15 ?_ | with_reducible refine v_name16 ?_ | with_reducible refine v_wname16 ?_ | with_reducible refine v_name17 ?_ | with_reducible refine v_wname17 ?_ | with_reducible refine v_name18 ?_ | with_reducible refine v_wname18 ?_ | with_reducible refine v_name19 ?_ | with_reducible refine v_wname19 ?_ | with_reducible refine v_name20 ?_ | with_reducible refine v_wname20 ?_ | with_reducible refine v_name21 ?_ | with_reducible refine v_wname21 ?_ | with_reducible refine v_name22 ?_ | with_reducible refine v_wname22 ?_ | with_reducible refine v_name23 ?_ | with_reducible refine v_wname23 ?_ | with_reducible refine v_name24 ?_ | with_reducible refine v_wname24 ?_ | with_reducible refine v_name25 ?_ | with_reducible refine v_wname25 ?_) | with_reducible refine v_drop ?_ | with_reducible refine v_ret ?_ | with_reducible refine v_ifS ?_ | with_reducible refine v_test ?_ | with_reducible refine v_bl ?_ | with_reducible refine v_const ?_ | with_reducible refine v_op ?_ | with_reducible refine v_cb ?_ | with_reducible refine v_nil ?_ | with_reducible refine v_cons ?_ | with_reducible refine v_fld ?_ | with_reducible refine v_meth ?_ | with_reducible refine v_cal ?_ | with_reducible refine v_call0 ?_ | with_reducible refine v_pos2 ?_ | with_reducible refine v_tt ?_ | with_reducible refine v_ff ?_ | with_reducible refine v_ntt ?_ | with_reducible refine v_nff ?_ | with_reducible refine v_dnot ?_ | with_reducible refine v_dand ?_ | with_reducible refine v_dor ?_ | with_reducible refine v_andV ?_ | with_reducible refine v_orV ?_ | with_reducible refine v_notV ?_ | with_reducible refine v_ifE ?_ | with_reducible refine v_bm0 ?_ | with_reducible refine v_eqS ?_ | with_reducible refine v_eqI ?_ | with_reducible refine v_neS ?_ | with_reducible refine v_neI ?_ | with_reducible refine v_eqB ?_ | with_reducible refine v_neB ?_ | with_reducible refine v_isNn ?_ | with_reducible refine v_isNs ?_ | with_reducible refine v_isNi ?_ | with_reducible refine v_isNt ?_ | with_reducible refine v_notNn ?_ | with_reducible refine v_notNs ?_ | with_reducible refine v_notNi ?_ | with_reducible refine v_notNt ?_ | with_reducible refine v_isN ?_ | with_reducible refine v_notN ?_ | with_reducible refine v_lt ?_ | with_reducible refine v_le ?_ | with_reducible refine v_gt ?_ | with_reducible refine v_ge ?_ | with_reducible refine v_addI ?_ | with_reducible refine v_subI ?_ | with_reducible refine v_lenT ?_ | with_reducible refine v_lenL ?_ | with_reducible refine v_chain ?_ | with_reducible refine v_un ?_ | with_reducible refine v_tup ?_ | with_reducible refine v_lst ?_ | with_reducible refine v_lstC ?_ | with_reducible refine v_gsub ?_ | with_reducible refine v_rng1 ?_ | with_reducible refine v_rng2 ?_ | with_reducible refine v_slice ?_ | with_reducible refine v_nopart ?_ | with_reducible refine v_part ?_ | with_reducible refine v_partI ?_ | with_reducible refine v_slT ?_ | with_reducible refine v_slL ?_ | with_reducible refine v_rev ?_ | with_reducible refine v_revO ?_ | with_reducible refine v_enumS ?_ | with_reducible refine v_enumL ?_ | with_reducible refine v_enumT ?_ | with_reducible refine v_zipS ?_ | with_reducible refine v_revL ?_ | with_reducible refine v_revT ?_ | with_reducible refine v_putT ?_ | with_reducible refine v_putK ?_ | with_reducible refine v_inT ?_ | with_reducible refine v_getT ?_ | with_reducible refine v_get2T ?_ | with_reducible refine v_make ?_ | with_reducible refine v_fldSet ?_ | with_reducible refine v_forL ?_ | with_reducible refine v_forT ?_ | with_reducible refine v_forS ?_ | with_reducible refine v_lstO ?_ | with_reducible refine v_rolO ?_ | with_reducible refine v_tupO ?_ | with_reducible refine v_strO ?_ | with_reducible refine v_listT ?_ | with_reducible refine v_listL ?_ | with_reducible refine v_tupleL ?_ | with_reducible refine v_tupleT ?_ | with_reducible refine v_isiS ?_ | with_reducible refine v_isiT ?_ | with_reducible refine v_isiL ?_ | with_reducible refine v_allM ?_ | with_reducible refine v_anyM ?_ | with_reducible refine v_eqNS ?_ | with_reducible refine v_neNS ?_ | with_reducible refine v_gcons ?_ | with_reducible refine v_gnil ?_ | with_reducible refine v_par2 ?_ | with_reducible refine v_par33 ?_ | with_reducible refine v_retN ?_ | with_reducible refine v_sameS ?_ | with_reducible refine v_sameB ?_ | with_reducible refine v_sameI ?_ | with_reducible refine v_sameN ?_ | with_reducible refine v_sameT ?_ | with_reducible refine v_sameL ?_ | with_reducible refine v_endN ?_ | with_reducible refine v_bm ?_ | with_reducible refine v_tystr ?_ | with_reducible refine v_break ?_ | with_reducible refine v_cont ?_ | ((with_reducible refine v_slS ?_ ?_); sizeOf_list_dec) | ((with_reducible refine v_lenS ?_ ?_); sizeOf_list_dec) | ((with_reducible refine v_addS ?_ ?_); sizeOf_list_dec) | ((with_reducible refine v_addT ?_ ?_); sizeOf_list_dec) | ((with_reducible refine v_addL ?_ ?_); sizeOf_list_dec) | (with_reducible refine v_par _ _ ?_) | (with_reducible refine v_par3 _ _ _ ?_) | ((with_reducible refine v_gtup ?_ ?_); rfl) | with_reducible refine v_ixT (by with_unfolding_all rfl) ?_ | with_reducible refine v_ixL (by with_unfolding_all rfl) ?_ | with_reducible refine v_ixR (by with_unfolding_all rfl) ?_ | ((with_reducible refine v_ixS ?_ (by with_unfolding_all rfl) ?_); sizeOf_list_dec) | ((with_reducible refine And.intro ?_ ?_); sizeOf_list_dec) | with_reducible refine v_dt (by first | assumption | with_unfolding_all rfl | omega | (simp only [List.length_map, List.length_append, List.length_cons, List.length_nil, List.length_reverse, txts_lenG]; first | done | omega)) ?_ | with_reducible refine v_ndt (by first | assumption | with_unfolding_all rfl | omega | (simp only [List.length_map, List.length_append, List.length_cons, List.length_nil, List.length_reverse, txts_lenG]; first | done | omega)) ?_ | with_reducible refine v_df (by first | assumption | omega | (with_unfolding_all decide) | (simp only [List.length_map, List.length_append, List.length_cons, List.length_nil, List.length_reverse, txts_lenG]; first | done | omega)) ?_ | with_reducible refine v_ndf (by first | assumption | omega | (with_unfolding_all decide) | (simp only [List.length_map, List.length_append, List.length_cons, List.length_nil, List.length_reverse, txts_lenG]; first | done | omega)) ?_ | decreasing_trivial_pre_omega | ((with_reducible refine v_isname ?_); dsimp only [wipeD, List.set]) | ((with_reducible refine v_isvar ?_); dsimp only [wipeD, List.set]))
local macro_rules | `(tactic| array_mem_dec) => `(tactic| repeat array_get_dec)
local macro_rules | `(tactic| bv_omega) => `(tactic| repeat' (first | array_get_dec | with_reducible refine ite_d (fun _ => ?_) (fun _ => ?_) | with_reducible refine ite_nd (fun _ => ?_) (fun _ => ?_) | with_reducible refine ite_b (fun _ => ?_) (fun _ => ?_) | with_reducible refine ite_nb (fun _ => ?_) (fun _ => ?_)))
local macro_rules | `(tactic| decreasing_trivial_pre_omega) => `(tactic| with_reducible refine kz_name ?_)
local macro_rules | `(tactic| decreasing_trivial_pre_omega) => `(tactic| with_reducible refine kz_family ?_)
local macro_rules | `(tactic| decreasing_trivial_pre_omega) => `(tactic| with_reducible refine kz_marks ?_)
local macro_rules | `(tactic| decreasing_trivial_pre_omega) => `(tactic| with_reducible refine kz_yes ?_)
local macro_rules | `(tactic| decreasing_trivial_pre_omega) => `(tactic| with_reducible refine kz_no ?_)
local macro_rules | `(tactic| decreasing_trivial_pre_omega) => `(tactic| with_reducible refine kz_digits ?_)
local macro_rules | `(tactic| decreasing_trivial_pre_omega) => `(tactic| with_reducible refine kz_point ?_)
local macro_rules | `(tactic| decreasing_trivial_pre_omega) => `(tactic| with_reducible refine kz_keep ?_)
local macro_rules | `(tactic| decreasing_trivial_pre_omega) => `(tactic| with_reducible refine v_lenSet ?_)
local macro_rules | `(tactic| decreasing_trivial_pre_omega) => `(tactic| with_reducible refine kz_parts ?_)
local macro_rules | `(tactic| decreasing_trivial_pre_omega) => `(tactic| with_reducible refine bz_kinds ?_)
local macro_rules | `(tactic| decreasing_trivial_pre_omega) => `(tactic| with_reducible refine bz_spare ?_)
local macro_rules | `(tactic| decreasing_trivial_pre_omega) => `(tactic| with_reducible refine bz_joined ?_)
local macro_rules | `(tactic| decreasing_trivial_pre_omega) => `(tactic| with_reducible refine bz_mark ?_)
local macro_rules | `(tactic| decreasing_trivial_pre_omega) => `(tactic| with_reducible refine bz_meth (by decide) ?_)
local macro_rules | `(tactic| decreasing_trivial_pre_omega) => `(tactic| with_reducible refine lz_book ?_)
local macro_rules | `(tactic| decreasing_trivial_pre_omega) => `(tactic| with_reducible refine lz_name ?_)
local macro_rules | `(tactic| decreasing_trivial_pre_omega) => `(tactic| with_reducible refine lz_kind ?_)
local macro_rules | `(tactic| decreasing_trivial_pre_omega) => `(tactic| with_reducible refine v_intO ?_)
local macro_rules | `(tactic| decreasing_trivial_pre_omega) => `(tactic| with_reducible refine v_gh ?_)
local macro_rules | `(tactic| decreasing_trivial_pre_omega) => `(tactic| with_reducible refine v_sp0 ?_)
local macro_rules | `(tactic| decreasing_trivial_pre_omega) => `(tactic| with_reducible refine v_sp1 ?_)
local macro_rules | `(tactic| decreasing_trivial_pre_omega) => `(tactic| with_reducible refine v_sp2 ?_)
local macro_rules | `(tactic| decreasing_trivial_pre_omega) => `(tactic| with_reducible refine v_sp3 ?_)
local macro_rules | `(tactic| decreasing_trivial_pre_omega) => `(tactic| with_reducible refine v_sp4 ?_)
local macro_rules | `(tactic| decreasing_trivial_pre_omega) => `(tactic| with_reducible refine v_sp5 ?_)
local macro_rules | `(tactic| decreasing_trivial_pre_omega) => `(tactic| with_reducible refine v_op0 ?_)
local macro_rules | `(tactic| decreasing_trivial_pre_omega) => `(tactic| with_reducible refine v_op1 ?_)
local macro_rules | `(tactic| decreasing_trivial_pre_omega) => `(tactic| with_reducible refine v_op4 ?_)
local macro_rules | `(tactic| decreasing_trivial_pre_omega) => `(tactic| with_reducible refine v_op5 ?_)
local macro_rules | `(tactic| decreasing_trivial_pre_omega) => `(tactic| with_reducible refine v_onN ?_)
local macro_rules | `(tactic| decreasing_trivial_pre_omega) => `(tactic| with_reducible refine v_onS ?_)
local macro_rules | `(tactic| decreasing_trivial_pre_omega) => `(tactic| with_reducible refine v_nonN ?_)
local macro_rules | `(tactic| decreasing_trivial_pre_omega) => `(tactic| with_reducible refine v_nonS ?_)
local macro_rules | `(tactic| decreasing_trivial_pre_omega) => `(tactic| with_reducible refine v_trip0 ?_)
local macro_rules | `(tactic| decreasing_trivial_pre_omega) => `(tactic| with_reducible refine v_trip1 ?_)
local macro_rules | `(tactic| decreasing_trivial_pre_omega) => `(tactic| with_reducible refine v_iList ?_)
local macro_rules | `(tactic| decreasing_trivial_pre_omega) => `(tactic| with_reducible refine v_iEnum ?_)
local macro_rules | `(tactic| decreasing_trivial_pre_omega) => `(tactic| with_reducible refine v_prop ?_)
local macro_rules | `(tactic| decreasing_trivial_pre_omega) => `(tactic| with_reducible refine bk_prop ?_)
local macro_rules | `(tactic| decreasing_trivial_pre_omega) => `(tactic| with_reducible refine kindD_fam ?_)
local macro_rules | `(tactic| decreasing_trivial_pre_omega) => `(tactic| with_reducible refine kindD_keep ?_)
local macro_rules | `(tactic| decreasing_trivial_pre_omega) => `(tactic| with_reducible refine kindD_yes ?_)
local macro_rules | `(tactic| decreasing_trivial_pre_omega) => `(tactic| with_reducible refine v_va0 ?_)
local macro_rules | `(tactic| decreasing_trivial_pre_omega) => `(tactic| with_reducible refine v_vaT ?_)
local macro_rules | `(tactic| decreasing_trivial_pre_omega) => `(tactic| with_reducible refine v_vaN ?_)
local macro_rules | `(tactic| decreasing_trivial_pre_omega) => `(tactic| with_reducible refine cz_level ?_)
local macro_rules | `(tactic| decreasing_trivial_pre_omega) => `(tactic| with_reducible refine cz_held ?_)
local macro_rules | `(tactic| decreasing_trivial_pre_omega) => `(tactic| with_reducible refine cz_meth (by decide) ?_)
local macro_rules | `(tactic| decreasing_trivial_pre_omega) => `(tactic| with_reducible refine v_try ?_)
local macro_rules | `(tactic| decreasing_trivial_pre_omega) => `(tactic| with_reducible refine v_methX ?_)
local macro_rules | `(tactic| decreasing_trivial_pre_omega) => `(tactic| with_reducible refine v_makeX ?_)
local macro_rules | `(tactic| decreasing_trivial_pre_omega) => `(tactic| with_reducible refine v_calX ?_)
local macro_rules | `(tactic| decreasing_trivial_pre_omega) => `(tactic| with_reducible refine v_xfV (by with_unfolding_all rfl) (by with_unfolding_all rfl) ?_)
local macro_rules | `(tactic| decreasing_trivial_pre_omega) => `(tactic| with_reducible refine v_xisV (by with_unfolding_all rfl) ?_)
local macro_rules | `(tactic| decreasing_trivial_pre_omega) => `(tactic| with_reducible refine v_raise ?_)
local macro_rules | `(tactic| decreasing_trivial_pre_omega) => `(tactic| with_reducible refine v_listV ?_)
local macro_rules | `(tactic| decreasing_trivial_pre_omega) => `(tactic| with_reducible refine v_iKeys ?_)
/-! ### tables that change -/
def tcFs (m : Nat) (p : Addr) : List (Str × D) := [("many", .int m), ("held", .ref p)]
theorem SubC.none {C C' : Cl} (s : SubC C C') {a : Addr} (h : C' a = none) : C a = none := by
  cases e : C a with
  | none => rfl
  | some c => rw [s _ _ e] at h; cases h
/-- at t stands a table whose columns stand at p -/
structure TabC (C : Cl) (t p : Addr) (cols : List Row) (m : Nat) : Prop where
  ins : C t = some (.ins "Table" (tcFs m p))
  dic : C p = some (.dic (kvsOf cols))
theorem TabC.sub {C C' : Cl} {t p : Addr} {cols : List Row} {m : Nat} (h : TabC C t p cols m) (s : SubC C C') : TabC C' t p cols m := ⟨s _ _ h.ins, s _ _ h.dic⟩
theorem TabC.insOf {C : Cl} {t p : Addr} {cols : List Row} {m : Nat} (h : TabC C t p cols m) : insOf C (.ref t) = some ("Table", tcFs m p) := by
  show (match C t with | some (.ins k fs) => some (k, fs) | _ => none) = _
  rw [h.ins]
theorem TabC.ne {C : Cl} {t p : Addr} {cols : List Row} {m : Nat} (h : TabC C t p cols m) : t ≠ p := fun z => by
  have a := h.ins
  rw [z, h.dic] at a
  cases a
def sp_Table_initC : DSp := fun ds C Q _ => ∃ x c xs cols m G, ds = [.ref x, c] ∧ Walks C c xs G ∧ RowsAt C xs cols ∧ ColOk cols m ∧ C x = some (.ins "Table" []) ∧ ∀ p, C p = none → Q .non (updC (updC C p (.dic (kvsOf cols))) x (.ins "Table" (tcFs m p)))
def td_Table_initC : DS :=
  (dSeq (dIfS (dTest (dOp rEqD (dCB rLen (dCons (dVar 1) dNil)) (dC (.int 0)))) dNever dNext)
    (dSeq (dAsg dNewK (dName 2))
    (dSeq (dFldSet ["Table"] (dVar 0) (dCB rLen (dCons (dOp rIx (dOp rIx (dVar 1) (dC (.int 0))) (dC (.int 1))) dNil)) "many")
    (dSeq (dForC (dicEnum (dCons (dVar 1) dNil)) (dgTup 2 (dgCons (dName 3) (dgCons (dgTup 2 (dgCons (dName 4) (dgCons (dName 5) dgNil))) dgNil)))
    (dSeq (dIfS (dOr (dNot (dTest (dCall sp_is_word [] (dCons (dVar 4) dNil)))) (dOr (dTest (dOp rInK (dVar 4) (dVar 2))) (dTest (dOp rNeD (dCB rLen (dCons (dVar 5) dNil)) (dFld ["Table"] (dVar 0) "many"))))) dNever dNext)
    (dPutK (dVar 2) (dVar 4) (dCB rList (dCons (dVar 5) dNil)))))
    (dFldSet ["Table"] (dVar 0) (dVar 2) "held")))))
theorem len_Table_initC (ds : List D) (C : Cl) (Q : DQ) (E : DX) (h : sp_Table_initC ds C Q E) : ds.length = 2 := by repeat (first | (obtain ⟨rfl, _⟩ := h; exact rfl) | (obtain ⟨_, h⟩ := h))
theorem pure_Table_initC (ds : List D) (C : Cl) (Q : DQ) (E : DX) (h : sp_Table_initC ds C Q E) : td_Table_initC (endsD Q) (startD ["self", "columns", "held", "at", "name", "texts"] ds) C := by
  obtain ⟨x, c, xs, cols, m, Gd, rfl, hw, hr, ok, hx, hq⟩ := h
  have hc := hw.seq
  have l1 : 1 ≤ cols.length := List.length_pos_iff.mpr ok.ne
  have lc := ok.lc
  have lx := hr.1
  obtain ⟨r0, e0⟩ : ∃ r0, cols[0]? = some r0 := ⟨_, List.getElem?_eq_getElem l1⟩
  obtain ⟨d0, f0⟩ : ∃ d0, xs[0]? = some d0 := ⟨_, List.getElem?_eq_getElem (by omega)⟩
  have g0 := ok.row r0 (List.mem_of_getElem? e0)
  unfold td_Table_initC
  refine v_ends ?_
  simp only [startD, List.map_cons, List.map_nil, List.length_cons, List.length_nil, Nat.reduceAdd, Nat.reduceSub, List.reduceReplicate, List.cons_append, List.nil_append]
  array_mem_dec
  refine v_lenW hc ?_
  array_mem_dec
  intro p hp
  have px : p ≠ x := fun z => by rw [z, hx] at hp; cases hp
  have k1 : Keeps C (updC C p (.dic [])) := Keeps.upd fun ds z => by rw [hp] at z; cases z
  array_mem_dec
  refine v_ixW (hw.keep k1).seq (atI_nat (j := 0) f0) ?_
  array_mem_dec
  obtain ⟨y, rfl, sy, _⟩ := (hr.keep k1).2 0 d0 r0 f0 e0
  refine v_ixT (d := y) (atI_nat (j := 1) rfl) ?_
  array_mem_dec
  refine v_lenW sy ?_
  rw [txts_lenG, g0.len]
  array_mem_dec
  refine ⟨x, "Table", [], .head _, rfl, by rw [updC_ne (Ne.symm px)]; exact hx, by decide, ?_⟩
  rw [show putD ("many" : Str) (.int (m : Nat)) [] = (tcFs m p).take 1 from rfl]
  have h1x : updC C p (.dic []) x = some (.ins "Table" []) := by rw [updC_ne (Ne.symm px)]; exact hx
  obtain ⟨C2, e2⟩ : ∃ C2, C2 = updC (updC C p (.dic [])) x (.ins "Table" ((tcFs m p).take 1)) := ⟨_, rfl⟩
  rw [← e2]
  have k2 : Keeps C C2 := by
    rw [e2]
    exact k1.trans (Keeps.upd fun ds z => by rw [h1x] at z; cases z)
  have p2 : C2 p = some (.dic []) := by rw [e2, updC_ne px]; exact updC_same
  have x2 : C2 x = some (.ins "Table" ((tcFs m p).take 1)) := by rw [e2]; exact updC_same
  have k3 : ∀ i, Keeps C (updC C2 p (.dic (kvsOf (cols.take i)))) := fun i => k2.trans (Keeps.upd fun ds z => by rw [p2] at z; cases z)
  have many : ∀ i : Nat, insOf (updC C2 p (.dic (kvsOf (cols.take i)))) (.ref x) = some ("Table", (tcFs m p).take 1) := fun i => by
    show (match updC C2 p _ x with | some (.ins k fs) => some (k, fs) | _ => none) = _
    rw [updC_ne (Ne.symm px), x2]
  have lens : xs.length = cols.length := lx
  refine v_loopFC (G := Gd) (as := xs.zipIdx 0) (e := fun q => .tup [.int (q.2 : Nat), q.1]) (fun i ρ' C' => (∃ y3 y4 y5, ρ' = [some (.ref x), some c, some (.ref p), y3, y4, y5]) ∧ C' = updC C2 p (.dic (kvsOf (cols.take i)))) (fun R h => ?_) (fun i ρ' C' hP => ?_) ⟨⟨_, _, _, rfl⟩, ?_⟩ (fun i q ρ' C' hi hm hP => ?_) fun ρ' C' hP => ?_
  · refine v_iEnum ?_
    array_mem_dec
    refine ⟨_, _, _, rfl, hw.keep k2, ?_⟩
    have e := numbered_map id 0 xs
    rw [List.map_id] at e
    rw [e]
    exact h
  · obtain ⟨_, rfl⟩ := hP
    exact hw.guard (k3 i)
  · rw [List.take_zero]
    exact (updC_self p2).symm
  · obtain ⟨⟨y3, y4, y5, rfl⟩, rfl⟩ := hP
    obtain ⟨d, j⟩ := q
    have hxi : xs[i]? = some d := by
      rw [List.getElem?_zipIdx] at hi
      cases e : xs[i]? with
      | none => rw [e] at hi; cases hi
      | some t' => rw [e] at hi; cases hi; rfl
    have il : i < cols.length := by have := (List.getElem?_eq_some_iff.mp hxi).1; omega
    have hci : cols[i]? = some cols[i] := List.getElem?_eq_getElem il
    obtain ⟨y, rfl, sy, _⟩ := (hr.keep (k3 i)).2 i d cols[i] hxi hci
    have ro := ok.row cols[i] (List.getElem_mem il)
    have fresh : cols[i].1 ∉ namesR (cols.take i) := fun z => by
      have nd := ok.nd
      have e : cols = cols.take i ++ cols[i] :: cols.drop (i + 1) := by rw [List.getElem_cons_drop, List.take_append_drop]
      rw [e] at nd
      unfold namesR at nd z
      rw [List.map_append, List.map_cons] at nd
      exact (List.nodup_append.mp nd).2.2 _ z _ (.head _) rfl
    array_mem_dec
    refine ⟨_, rfl, known_str (by have := (wd_len ro.word).2; omega), ?_⟩
    rw [show onStr isWord (.str cols[i].1) = true from ro.word]
    array_mem_dec
    refine ⟨kvsOf (cols.take i), keyN cols[i].1, dicOf_ref updC_same, rfl, ?_⟩
    rw [kvs_none fresh, show (none : Option D).isSome = false from rfl]
    array_mem_dec
    refine v_lenW sy ?_
    rw [txts_lenG, ro.len]
    array_mem_dec
    refine ⟨"Table", _, _, .head _, many i, rfl, ?_⟩
    array_mem_dec
    refine ⟨_, _, rfl, sy, ?_⟩
    array_mem_dec
    refine ⟨p, kvsOf (cols.take i), keyN cols[i].1, rfl, updC_same, rfl, ?_, ?_⟩
    · have : (kvsOf (cols.take i)).length ≤ 1000 := by unfold kvsOf; rw [List.length_map, List.length_take]; omega
      exact lt_sz this
    · rw [kvs_put fresh, updC_updC]
      refine ⟨⟨_, _, _, rfl⟩, ?_⟩
      rw [List.take_add_one, hci]
      rfl
  · obtain ⟨⟨y3, y4, y5, rfl⟩, rfl⟩ := hP
    rw [List.length_zipIdx, lens, List.take_length]
    array_mem_dec
    have ex : updC C2 p (.dic (kvsOf cols)) x = some (.ins "Table" ((tcFs m p).take 1)) := by
      rw [updC_ne (Ne.symm px)]
      exact x2
    refine ⟨x, "Table", _, .head _, rfl, ex, by show 1 < 1000; decide, _, SubC.refl _, ?_⟩
    rw [show putD ("held" : Str) (.ref p) ((tcFs m p).take 1) = tcFs m p from rfl]
    rw [show updC (updC C2 p (.dic (kvsOf cols))) x (.ins "Table" (tcFs m p)) = updC (updC C p (.dic (kvsOf cols))) x (.ins "Table" (tcFs m p)) from ?_]
    · exact hq p hp
    · funext b
      by_cases z : b = x
      · subst z; rw [updC_same, updC_same]
      · rw [updC_ne z, updC_ne z]
        by_cases y : b = p
        · subst y; rw [updC_same, updC_same]
        · rw [updC_ne y, updC_ne y, e2, updC_ne z, updC_ne y]
/-- a new table -/
theorem mk_tabC {c : D} {xs : List D} {cols : List Row} {m : Nat} {G : Cl → Prop} {C : Cl} {R : Addr → Cl → Prop} (hw : Walks C c xs G) (hr : RowsAt C xs cols) (ok : ColOk cols m) (hq : ∀ x p C', SubC C C' → C x = none → C p = none → TabC C' x p cols m → R x C') :
    ∀ x, C x = none → pos2 sp_Table_initC [] [.ref x, c] [] (updC C x (.ins "Table" [])) (fun v C4 => v = .non ∧ R x C4) noX := by
  intro x hx
  have k : Keeps C (updC C x (.ins "Table" [])) := Keeps.upd fun ds z => by rw [hx] at z; cases z
  refine ⟨rfl, x, c, xs, cols, m, G, rfl, hw.keep k, hr.keep k, ok, updC_same, fun p hp => ⟨rfl, ?_⟩⟩
  have px : p ≠ x := fun z => by rw [z, updC_same] at hp; cases hp
  rw [updC_ne px] at hp
  have s : SubC C (updC (updC (updC C x (.ins "Table" [])) p (.dic (kvsOf cols))) x (.ins "Table" (tcFs m p))) := ((((SubC.refl C).new hx).new hp).new hx)
  exact hq x p _ s hx hp ⟨updC_same, by rw [updC_ne px]; exact updC_same⟩
def sp_Table_namesC : DSp := fun ds C Q _ => ∃ t p cols m, ds = [.ref t] ∧ TabC C t p cols m ∧ ∀ q, C q = none → Q (.ref q) (updC C q (.lst (txts (namesR cols))))
def td_Table_namesC : DS :=
  (dRet (dCB rListKC (dCons (dFld ["Table"] (dVar 0) "held") dNil)))
theorem len_Table_namesC (ds : List D) (C : Cl) (Q : DQ) (E : DX) (h : sp_Table_namesC ds C Q E) : ds.length = 1 := by repeat (first | (obtain ⟨rfl, _⟩ := h; exact rfl) | (obtain ⟨_, h⟩ := h))
theorem pure_Table_namesC (ds : List D) (C : Cl) (Q : DQ) (E : DX) (h : sp_Table_namesC ds C Q E) : td_Table_namesC (endsD Q) (startD ["self"] ds) C := by
  obtain ⟨t, p, cols, m, rfl, ht, hq⟩ := h
  unfold td_Table_namesC
  refine v_ends ?_
  simp only [startD, List.map_cons, List.map_nil, List.length_cons, List.length_nil, Nat.reduceAdd, Nat.reduceSub, List.reduceReplicate, List.cons_append, List.nil_append]
  array_mem_dec
  refine ⟨"Table", tcFs m p, _, .head _, ht.insOf, rfl, ?_⟩
  array_mem_dec
  refine ⟨_, kvsOf cols, rfl, dicOf_ref ht.dic, fun q hq0 => ⟨_, _, .same, ?_⟩⟩
  rw [keys_kvs]
  exact hq q hq0
def sp_Table_lenC : DSp := fun ds C Q _ => ∃ t p cols m, ds = [.ref t] ∧ TabC C t p cols m ∧ ColOk cols m ∧ Q (.int (m : Nat)) C
def td_Table_lenC : DS :=
  (dRet (dCB rLen (dCons (dOp rIx (dListV (dFld ["Table"] (dVar 0) "held")) (dC (.int 0))) dNil)))
theorem len_Table_lenC (ds : List D) (C : Cl) (Q : DQ) (E : DX) (h : sp_Table_lenC ds C Q E) : ds.length = 1 := by repeat (first | (obtain ⟨rfl, _⟩ := h; exact rfl) | (obtain ⟨_, h⟩ := h))
theorem pure_Table_lenC (ds : List D) (C : Cl) (Q : DQ) (E : DX) (h : sp_Table_lenC ds C Q E) : td_Table_lenC (endsD Q) (startD ["self"] ds) C := by
  obtain ⟨t, p, cols, m, rfl, ht, ok, hq⟩ := h
  have l1 : 1 ≤ cols.length := List.length_pos_iff.mpr ok.ne
  unfold td_Table_lenC
  refine v_ends ?_
  simp only [startD, List.map_cons, List.map_nil, List.length_cons, List.length_nil, Nat.reduceAdd, Nat.reduceSub, List.reduceReplicate, List.cons_append, List.nil_append]
  array_mem_dec
  refine ⟨"Table", tcFs m p, _, .head _, ht.insOf, rfl, ?_⟩
  refine ⟨kvsOf cols, dicOf_ref ht.dic, ?_⟩
  rw [vals_kvs]
  array_mem_dec
  refine v_ixL (d := .lst (txts cols[0].2)) (atI_nat (j := 0) (by rw [List.getElem?_map, List.getElem?_eq_getElem l1]; rfl)) ?_
  array_mem_dec
  rw [txts_lenG, (ok.row _ (List.getElem_mem l1)).len]
  exact hq
def sp_Table_eqC : DSp := fun ds C Q _ => ∃ t p cols m t2 p2 cols2 m2, ds = [.ref t, .ref t2] ∧ TabC C t p cols m ∧ TabC C t2 p2 cols2 m2 ∧ ColOk cols m ∧ ColOk cols2 m2 ∧ Q (.bl (decide (cols = cols2))) C
def td_Table_eqC : DS :=
  (dRet (dAndV (dCB (rIsiO "Table" isi_of_Table) (dCons (dVar 1) (dCons (dC (.cls "Table")) dNil))) (dAndV (dOp rEqC (dMeth "Table" "names" (pos2 sp_Table_namesC []) (dVar 0) dNil dNil) (dMeth "Table" "names" (pos2 sp_Table_namesC []) (dVar 1) dNil dNil)) (dOp rEqDic (dFld ["Table"] (dVar 0) "held") (dFld ["Table"] (dVar 1) "held")))))
theorem len_Table_eqC (ds : List D) (C : Cl) (Q : DQ) (E : DX) (h : sp_Table_eqC ds C Q E) : ds.length = 2 := by repeat (first | (obtain ⟨rfl, _⟩ := h; exact rfl) | (obtain ⟨_, h⟩ := h))
theorem pure_Table_eqC (ds : List D) (C : Cl) (Q : DQ) (E : DX) (h : sp_Table_eqC ds C Q E) : td_Table_eqC (endsD Q) (startD ["self", "other"] ds) C := by
  obtain ⟨t, p, cols, m, t2, p2, cols2, m2, rfl, ht, ht2, ok, ok2, hq⟩ := h
  unfold td_Table_eqC
  refine v_ends ?_
  simp only [startD, List.map_cons, List.map_nil, List.length_cons, List.length_nil, Nat.reduceAdd, Nat.reduceSub, List.reduceReplicate, List.cons_append, List.nil_append]
  array_mem_dec
  refine isi_yes ht2.insOf (.head _) ?_
  array_mem_dec
  refine ⟨_, ht.insOf, rfl, ?_⟩
  array_mem_dec
  refine ⟨t, p, cols, m, rfl, ht, fun q hq0 => ?_⟩
  have hs1 : SubC C (updC C q (.lst (txts (namesR cols)))) := (SubC.refl C).new hq0
  array_mem_dec
  refine ⟨_, (ht2.sub hs1).insOf, rfl, ?_⟩
  array_mem_dec
  refine ⟨t2, p2, cols2, m2, rfl, ht2.sub hs1, fun q2 hq2 => ?_⟩
  have hne : q ≠ q2 := fun z => by rw [← z, updC_same] at hq2; cases hq2
  have hq3 : C q2 = none := by rw [updC_ne (Ne.symm hne)] at hq2; exact hq2
  have v1 : viewC (updC (updC C q (.lst (txts (namesR cols)))) q2 (.lst (txts (namesR cols2)))) (.ref q) = .lst (txts (namesR cols)) := viewC_ref (by rw [updC_ne hne]; exact updC_same)
  have v2 : viewC (updC (updC C q (.lst (txts (namesR cols)))) q2 (.lst (txts (namesR cols2)))) (.ref q2) = .lst (txts (namesR cols2)) := viewC_ref updC_same
  have sub : SubC C (updC (updC C q (.lst (txts (namesR cols)))) q2 (.lst (txts (namesR cols2)))) := hs1.new hq3
  have s1 : ∀ l ∈ namesR cols, small l = true := fun l hl => by
    obtain ⟨r, hr, rfl⟩ := List.mem_map.mp hl
    exact word_small (ok.row r hr).word
  have s2 : ∀ l ∈ namesR cols2, small l = true := fun l hl => by
    obtain ⟨r, hr, rfl⟩ := List.mem_map.mp hl
    exact word_small (ok2.row r hr).word
  refine ⟨by rw [v1]; exact shp_texts s1, by rw [v2]; exact shp_texts s2, ?_⟩
  rw [v1, v2, eqT_texts]
  by_cases e : namesR cols = namesR cols2
  · rw [decide_eq_true e]
    array_mem_dec
    refine ⟨"Table", _, _, .head _, (ht.sub sub).insOf, rfl, ?_⟩
    array_mem_dec
    refine ⟨"Table", _, _, .head _, (ht2.sub sub).insOf, rfl, ?_⟩
    have sh : ∀ {cols : List Row} {m : Nat}, ColOk cols m → ∀ p ∈ kvsOf cols, shp p.2 = true := fun ok p hp => by
      obtain ⟨r, hr, rfl⟩ := List.mem_map.mp hp
      exact shp_texts (ok.row r hr).sm
    refine ⟨_, _, dicOf_ref (sub _ _ ht.dic), dicOf_ref (sub _ _ ht2.dic), sh ok, sh ok2, ?_⟩
    rw [eqDic_cols ok.nd e]
    exact ⟨_, _, .drop sub, hq⟩
  · rw [decide_eq_false e]
    rw [decide_eq_false (fun z => e (by rw [z]))] at hq
    exact ⟨false, rfl, iteF ⟨_, _, .drop sub, hq⟩⟩
/-! rows told, tables out of tables -/
theorem keys_rows (cols : List Row) : keysOf (kvsOf cols) = cols.map fun r => .str r.1 := by
  have := keys_kvs cols
  unfold keysOf
  rw [this]
  unfold txts namesR
  rw [List.map_map]
  rfl
theorem v_iKeysC {te : DE} {ρ : DEnv} {C : Cl} {R : List D → (Cl → Prop) → Cl → Prop} (h : te ρ C fun x C1 => ∃ p o vs kvs, x = .ref p ∧ C1 p = some (.dil o vs kvs) ∧ R (keysOf kvs) (fun C => C p = some (.dil o vs kvs)) C1) : dicKeys te ρ C R := h
local macro_rules | `(tactic| decreasing_trivial_pre_omega) => `(tactic| with_reducible refine v_iKeysC ?_)
theorem v_lcmapG {α : Type} {g : DG} {te : DE} {ρ : DEnv} {C : Cl} {Q : DQ} {wi : DIc} {vs : List Nat} {as : List α} {e : α → D} {G : Cl → Prop} (f : α → D) (hw : ∀ R : List D → (Cl → Prop) → Cl → Prop, R (as.map e) G C → wi ρ C R) (hG : ∀ q c, C q = none → G (updC C q c)) (hl : as.length ≤ sizeLine)
    (hs : ∀ (i : Nat) (a : α) (C' : Cl) (N : DQ), as[i]? = some a → a ∈ as → SubC C C' → N (f a) C' → g (e a) (wipeD ρ vs) C' fun ρ2 C2 => te ρ2 C2 N) (hq : Q (.lst (as.map f)) C) : dFz (dLcU wi g dYes te vs) ρ C Q := by
  refine hw _ fun p hp => ?_
  refine ⟨fun i C' => C' = updC C p (.lst ((as.take i).map f)), rfl, ?_, ?_, ?_⟩
  · rintro i _ rfl
    exact hG p _ hp
  · rintro i x _ hx rfl
    rw [List.getElem?_map] at hx
    cases ha : as[i]? with
    | none => rw [ha] at hx; cases hx
    | some a =>
      rw [ha] at hx; cases hx
      have hi : i < as.length := (List.getElem?_eq_some_iff.mp ha).1
      refine hs i a _ _ ha (List.mem_of_getElem? ha) ((SubC.refl _).new hp) ⟨_, updC_same, ?_, ?_⟩
      · rw [List.length_map, List.length_take]; omega
      · show updC (updC C p _) p _ = updC C p (.lst ((as.take (i + 1)).map f))
        rw [updC_updC, List.take_add_one, ha]; simp
  · rintro _ rfl
    rw [List.length_map, List.take_length]
    exact ⟨p, _, rfl, updC_same, by rw [delC_new hp]; exact hq⟩
theorem guard_dil {C : Cl} {p : Addr} {c0 : Cell} (hp : C p = some c0) : ∀ q c, C q = none → (updC C q c) p = some c0 := fun q c h => by
  rw [updC_ne (fun z => by rw [z, h] at hp; cases hp)]
  exact hp
/-- what holds while the dict is locked -/
structure TabL (C : Cl) (t p : Addr) (cols : List Row) (m : Nat) : Prop where
  ins : insOf C (.ref t) = some ("Table", tcFs m p)
  dic : dicOf C (.ref p) = some (kvsOf cols)
theorem TabC.lock {C : Cl} {t p : Addr} {cols : List Row} {m : Nat} (h : TabC C t p cols m) (o : Obj) (vs : List (Key × V)) {C' : Cl} (s : SubC (updC C p (.dil o vs (kvsOf cols))) C') : TabL C' t p cols m := by
  refine ⟨?_, dicOf_dil (s _ _ updC_same)⟩
  show (match C' t with | some (.ins k fs) => some (k, fs) | _ => none) = _
  rw [s t _ (by rw [updC_ne h.ne]; exact h.ins)]
def rowAt (cols : List Row) (i : Nat) : List (List Nat) := cols.map fun r => r.2.getD i []
theorem at_getD {ts : List (List Nat)} {i : Nat} (h : i < ts.length) : atI (txts ts) (i : Nat) = some (.str (ts.getD i [])) := by
  refine atI_nat ?_
  unfold txts
  rw [List.getElem?_map, List.getElem?_eq_getElem h, List.getD_eq_getElem?_getD, List.getElem?_eq_getElem h]
  rfl
def sp_Table_row_at : DSp := fun ds C Q _ => ∃ t p cols m i, ds = [.ref t, .int (i : Nat)] ∧ TabC C t p cols m ∧ ColOk cols m ∧ i < m ∧ Q (.tup (txts (rowAt cols i))) C
def td_Table_row_at : DS :=
  (dSeq (dIfS (dNot (dTest (dChain rLeD rLtD (dC (.int 0)) (dVar 1) (dFld ["Table"] (dVar 0) "many")))) dNever dNext)
    (dRet (dCB rTuple (dCons (dLockE (dFz (dLcU (dicKeys (dFld ["Table"] (dVar 0) "held")) (dName 2) dYes (dOp rIx (dOp rGetK (dFld ["Table"] (dVar 0) "held") (dVar 2)) (dVar 1)) [2]))) dNil))))
theorem len_Table_row_at (ds : List D) (C : Cl) (Q : DQ) (E : DX) (h : sp_Table_row_at ds C Q E) : ds.length = 2 := by repeat (first | (obtain ⟨rfl, _⟩ := h; exact rfl) | (obtain ⟨_, h⟩ := h))
theorem pure_Table_row_at (ds : List D) (C : Cl) (Q : DQ) (E : DX) (h : sp_Table_row_at ds C Q E) : td_Table_row_at (endsD Q) (startD ["self", "at", "name"] ds) C := by
  obtain ⟨t, p, cols, m, i, rfl, ht, ok, hi, hq⟩ := h
  unfold td_Table_row_at
  refine v_ends ?_
  simp only [startD, List.map_cons, List.map_nil, List.length_cons, List.length_nil, Nat.reduceAdd, Nat.reduceSub, List.reduceReplicate, List.cons_append, List.nil_append]
  array_mem_dec
  refine ⟨"Table", tcFs m p, _, .head _, ht.insOf, rfl, ?_⟩
  array_mem_dec
  refine v_lockE ht.dic fun o vs => ?_
  refine v_lcmapG (as := cols) (e := fun r => .str r.1) (G := fun C => C p = some (.dil o vs (kvsOf cols))) (fun r => .str (r.2.getD i [])) (fun R h => ?_) (guard_dil updC_same) (szl (by have := ok.lc; omega)) (fun j r C' N _ hr s hN => ?_) ?_
  · array_mem_dec
    refine ⟨"Table", tcFs m p, _, .head _, (ht.lock o vs (SubC.refl _)).ins, rfl, ?_⟩
    refine ⟨p, o, vs, _, rfl, updC_same, ?_⟩
    rw [keys_rows]
    exact h
  · have tl := ht.lock o vs s
    have ro := ok.row r hr
    array_mem_dec
    refine ⟨"Table", tcFs m p, _, .head _, tl.ins, rfl, ?_⟩
    array_mem_dec
    refine ⟨kvsOf cols, keyN r.1, _, tl.dic, rfl, kvs_some ok.nd hr, ?_⟩
    array_mem_dec
    refine v_ixL (at_getD (by rw [ro.len]; exact hi)) ?_
    exact hN
  · refine ⟨updC_same, ?_⟩
    rw [updC_updC, updC_self ht.dic]
    array_mem_dec
    unfold txts rowAt at hq
    rw [List.map_map] at hq
    exact hq
/-- rows are told, or a list of them that changes -/
def onlyR (is : List Nat) (r : Row) : Row := (r.1, is.map fun i => r.2.getD i [])
theorem onlyOk {cols : List Row} {m : Nat} {is : List Nat} (ok : ColOk cols m) (h : ∀ i ∈ is, i < m) (hl : is.length ≤ 1000) : ColOk (cols.map (onlyR is)) is.length := by
  refine ⟨fun z => ok.ne (List.map_eq_nil_iff.mp z), by rw [List.length_map]; exact ok.lc, by omega, ?_, fun r hr => ?_⟩
  · have : namesR (cols.map (onlyR is)) = namesR cols := by unfold namesR; rw [List.map_map]; rfl
    rw [this]
    exact ok.nd
  · obtain ⟨r', hr', rfl⟩ := List.mem_map.mp hr
    have ro := ok.row r' hr'
    have mem : ∀ i ∈ is, r'.2.getD i [] ∈ r'.2 := fun i hi => by
      have : i < r'.2.length := by rw [ro.len]; exact h i hi
      rw [List.getD_eq_getElem?_getD, List.getElem?_eq_getElem this]
      exact List.getElem_mem this
    refine ⟨ro.word, List.length_map .., fun t ht => ?_, fun t ht => ?_⟩
    · obtain ⟨i, hi, rfl⟩ := List.mem_map.mp ht
      exact ro.sm _ (mem i hi)
    · obtain ⟨i, hi, rfl⟩ := List.mem_map.mp ht
      exact ro.ln _ (mem i hi)
def intsD (is : List Nat) : List D := is.map fun i => .int (i : Nat)
def sp_Table_only : DSp := fun ds C Q _ => ∃ t p cols m d is G, ds = [.ref t, d] ∧ TabC C t p cols m ∧ ColOk cols m ∧ Walks C d (intsD is) G ∧ (∀ i ∈ is, i < m) ∧ is.length ≤ 1000 ∧ ∀ x p' C', SubC C C' → C x = none → C p' = none → TabC C' x p' (cols.map (onlyR is)) is.length → Q (.ref x) C'
def td_Table_only : DS :=
  (dRet (dMake "Table" (pos2 sp_Table_initC []) (dCons (dLockE (dFz (dLcU (dicKeys (dFld ["Table"] (dVar 0) "held")) (dName 2) dYes (dTup (dCons (dVar 2) (dCons (dFz (dLcU (dicList (dVar 1)) (dName 3) dYes (dOp rIx (dOp rGetK (dFld ["Table"] (dVar 0) "held") (dVar 2)) (dVar 3)) [3])) dNil))) [2]))) dNil) dNil))
theorem len_Table_only (ds : List D) (C : Cl) (Q : DQ) (E : DX) (h : sp_Table_only ds C Q E) : ds.length = 2 := by repeat (first | (obtain ⟨rfl, _⟩ := h; exact rfl) | (obtain ⟨_, h⟩ := h))
theorem pure_Table_only (ds : List D) (C : Cl) (Q : DQ) (E : DX) (h : sp_Table_only ds C Q E) : td_Table_only (endsD Q) (startD ["self", "rows", "name", "at"] ds) C := by
  obtain ⟨t, p, cols, m, d, is, Gd, rfl, ht, ok, hw, hi, hl, hq⟩ := h
  unfold td_Table_only
  refine v_ends ?_
  simp only [startD, List.map_cons, List.map_nil, List.length_cons, List.length_nil, Nat.reduceAdd, Nat.reduceSub, List.reduceReplicate, List.cons_append, List.nil_append]
  array_mem_dec
  refine v_lockE ht.dic fun o vs => ?_
  have kp : Keeps C (updC C p (.dil o vs (kvsOf cols))) := Keeps.upd fun ds z => by rw [ht.dic] at z; cases z
  have hwl := hw.keep kp
  refine v_lcmapG (as := cols) (e := fun r => .str r.1) (G := fun C => C p = some (.dil o vs (kvsOf cols))) (fun r => rowD (onlyR is r)) (fun R h => ?_) (guard_dil updC_same) (szl (by have := ok.lc; omega)) (fun j r C' N _ hr s hN => ?_) ?_
  · array_mem_dec
    refine ⟨"Table", tcFs m p, _, .head _, (ht.lock o vs (SubC.refl _)).ins, rfl, ?_⟩
    refine ⟨p, o, vs, _, rfl, updC_same, ?_⟩
    rw [keys_rows]
    exact h
  · have tl := ht.lock o vs s
    have ro := ok.row r hr
    have hw2 : Walks C' d (intsD is) Gd := hwl.keep fun a ds e => s _ _ e
    array_mem_dec
    refine v_lcmapU (as := is) (e := fun i => .int (i : Nat)) (x := d) (fun i => .str (r.2.getD i [])) (fun R h => ?_) hw2 (szl (by omega)) (fun k i C2 N2 _ hi2 s2 hN2 => ?_) ?_
    · array_mem_dec
      exact ⟨_, Gd, hw2, h⟩
    · have tl2 : TabL C2 t p cols m := ht.lock o vs (s.trans s2)
      array_mem_dec
      refine ⟨"Table", tcFs m p, _, .head _, tl2.ins, rfl, ?_⟩
      array_mem_dec
      refine ⟨kvsOf cols, keyN r.1, _, tl2.dic, rfl, kvs_some ok.nd hr, ?_⟩
      array_mem_dec
      refine v_ixL (at_getD (by rw [ro.len]; exact hi i hi2)) ?_
      exact hN2
    array_mem_dec
    have : D.tup [.str r.1, .lst (is.map fun i => .str (r.2.getD i []))] = rowD (onlyR is r) := by
      unfold rowD onlyR txts
      rw [List.map_map]
      rfl
    rw [this]
    exact hN
  · refine ⟨updC_same, ?_⟩
    rw [updC_updC, updC_self ht.dic]
    array_mem_dec
    have e : (cols.map fun r => rowD (onlyR is r)) = (cols.map (onlyR is)).map rowD := by rw [List.map_map]; rfl
    rw [e]
    refine mk_tabC walks_lst rowsAt_lst (onlyOk ok hi hl) fun x p' C' s hx hp' tc => ?_
    exact ⟨_, _, .same, hq x p' C' s hx hp' tc⟩
/-! two tables put together -/
def addR (cols2 : List Row) (r : Row) : Row := (r.1, r.2 ++ ((cols2.find? fun q => decide (q.1 = r.1)).map (·.2)).getD [])
def addC (cols cols2 : List Row) : List Row := cols.map (addR cols2)
theorem find_row {cols : List Row} (nd : (namesR cols).Nodup) {r : Row} (hr : r ∈ cols) : cols.find? (fun q => decide (q.1 = r.1)) = some r := by
  induction cols with
  | nil => cases hr
  | cons c t ih =>
    unfold namesR at nd
    rw [List.map_cons, List.nodup_cons] at nd
    rcases List.mem_cons.mp hr with rfl | hr
    · rw [List.find?_cons_of_pos (by simp)]
    · rw [List.find?_cons_of_neg (by
        have : c.1 ≠ r.1 := fun z => nd.1 (by rw [z]; exact List.mem_map.mpr ⟨r, hr, rfl⟩)
        simpa using this)]
      exact ih nd.2 hr
theorem add_find {cols2 : List Row} {m2 : Nat} (ok2 : ColOk cols2 m2) {n : List Nat} (h : n ∈ namesR cols2) : ∃ r2 ∈ cols2, r2.1 = n ∧ ∀ ts, addR cols2 (n, ts) = (n, ts ++ r2.2) := by
  obtain ⟨r2, h2, rfl⟩ := List.mem_map.mp h
  refine ⟨r2, h2, rfl, fun ts => ?_⟩
  unfold addR
  rw [find_row ok2.nd h2]
  rfl
theorem addOk {cols cols2 : List Row} {m m2 : Nat} (ok : ColOk cols m) (ok2 : ColOk cols2 m2) (hn : namesR cols = namesR cols2) (hm : m + m2 ≤ 1000000) : ColOk (addC cols cols2) (m + m2) := by
  refine ⟨fun z => ok.ne (List.map_eq_nil_iff.mp z), by unfold addC; rw [List.length_map]; exact ok.lc, hm, ?_, fun r hr => ?_⟩
  · have : namesR (addC cols cols2) = namesR cols := by unfold namesR addC; rw [List.map_map]; rfl
    rw [this]
    exact ok.nd
  · obtain ⟨r', hr', rfl⟩ := List.mem_map.mp hr
    have ro := ok.row r' hr'
    obtain ⟨r2, h2, e1, e2⟩ := add_find ok2 (n := r'.1) (by rw [← hn]; exact List.mem_map.mpr ⟨r', hr', rfl⟩)
    have ro2 := ok2.row r2 h2
    rw [show addR cols2 r' = (r'.1, r'.2 ++ r2.2) from e2 r'.2]
    refine ⟨ro.word, by show (r'.2 ++ r2.2).length = _; rw [List.length_append, ro.len, ro2.len], fun t ht => ?_, fun t ht => ?_⟩
    · rcases List.mem_append.mp ht with h | h
      · exact ro.sm t h
      · exact ro2.sm t h
    · rcases List.mem_append.mp ht with h | h
      · exact ro.ln t h
      · exact ro2.ln t h
def sp_Table_add : DSp := fun ds C Q _ => ∃ t p cols m t2 p2 cols2 m2, ds = [.ref t, .ref t2] ∧ TabC C t p cols m ∧ TabC C t2 p2 cols2 m2 ∧ ColOk cols m ∧ ColOk cols2 m2 ∧ namesR cols = namesR cols2 ∧ m + m2 ≤ 1000 ∧ ∀ x p' C', SubC C C' → C x = none → C p' = none → TabC C' x p' (addC cols cols2) (m + m2) → Q (.ref x) C'
def td_Table_add : DS :=
  (dSeq (dIfS (dNot (dTest (dCB (rIsiO "Table" isi_of_Table) (dCons (dVar 1) (dCons (dC (.cls "Table")) dNil))))) dNever dNext)
    (dSeq (dIfS (dTest (dOp rNeC (dMeth "Table" "names" (pos2 sp_Table_namesC []) (dVar 0) dNil dNil) (dMeth "Table" "names" (pos2 sp_Table_namesC []) (dVar 1) dNil dNil))) dNever dNext)
    (dRet (dMake "Table" (pos2 sp_Table_initC []) (dCons (dLockE (dFz (dLcU (dicKeys (dFld ["Table"] (dVar 0) "held")) (dName 2) dYes (dTup (dCons (dVar 2) (dCons (dAdd (dOp rGetK (dFld ["Table"] (dVar 0) "held") (dVar 2)) (dOp rGetK (dFld ["Table"] (dVar 1) "held") (dVar 2))) dNil))) [2]))) dNil) dNil))))
theorem len_Table_add (ds : List D) (C : Cl) (Q : DQ) (E : DX) (h : sp_Table_add ds C Q E) : ds.length = 2 := by repeat (first | (obtain ⟨rfl, _⟩ := h; exact rfl) | (obtain ⟨_, h⟩ := h))
theorem pure_Table_add (ds : List D) (C : Cl) (Q : DQ) (E : DX) (h : sp_Table_add ds C Q E) : td_Table_add (endsD Q) (startD ["self", "other", "name"] ds) C := by
  obtain ⟨t, p, cols, m, t2, p2, cols2, m2, rfl, ht, ht2, ok, ok2, hn, hm, hq⟩ := h
  unfold td_Table_add
  refine v_ends ?_
  simp only [startD, List.map_cons, List.map_nil, List.length_cons, List.length_nil, Nat.reduceAdd, Nat.reduceSub, List.reduceReplicate, List.cons_append, List.nil_append]
  array_mem_dec
  refine isi_yes ht2.insOf (.head _) ?_
  array_mem_dec
  refine ⟨_, ht.insOf, rfl, ?_⟩
  array_mem_dec
  refine ⟨t, p, cols, m, rfl, ht, fun q hq0 => ?_⟩
  have hs1 : SubC C (updC C q (.lst (txts (namesR cols)))) := (SubC.refl C).new hq0
  array_mem_dec
  refine ⟨_, (ht2.sub hs1).insOf, rfl, ?_⟩
  array_mem_dec
  refine ⟨t2, p2, cols2, m2, rfl, ht2.sub hs1, fun q2 hq2 => ?_⟩
  have hne : q ≠ q2 := fun z => by rw [← z, updC_same] at hq2; cases hq2
  have hq3 : C q2 = none := by rw [updC_ne (Ne.symm hne)] at hq2; exact hq2
  have v1 : viewC (updC (updC C q (.lst (txts (namesR cols)))) q2 (.lst (txts (namesR cols2)))) (.ref q) = .lst (txts (namesR cols)) := viewC_ref (by rw [updC_ne hne]; exact updC_same)
  have v2 : viewC (updC (updC C q (.lst (txts (namesR cols)))) q2 (.lst (txts (namesR cols2)))) (.ref q2) = .lst (txts (namesR cols2)) := viewC_ref updC_same
  have sub : SubC C (updC (updC C q (.lst (txts (namesR cols)))) q2 (.lst (txts (namesR cols2)))) := hs1.new hq3
  revert v1 v2 sub
  generalize updC (updC C q _) q2 _ = C5
  intro v1 v2 sub
  have s1 : ∀ l ∈ namesR cols, small l = true := fun l hl => by
    obtain ⟨r, hr, rfl⟩ := List.mem_map.mp hl
    exact word_small (ok.row r hr).word
  refine ⟨by rw [v1]; exact shp_texts s1, by rw [v2, ← hn]; exact shp_texts s1, ?_⟩
  rw [v1, v2, eqT_texts, decide_eq_true hn]
  array_mem_dec
  have ht5 := ht.sub sub
  have ht25 := ht2.sub sub
  refine v_lockE ht5.dic fun o vs => ?_
  refine v_lcmapG (as := cols) (e := fun r => .str r.1) (G := fun C => C p = some (.dil o vs (kvsOf cols))) (fun r => rowD (addR cols2 r)) (fun R h => ?_) (guard_dil updC_same) (szl (by have := ok.lc; omega)) (fun j r C' N _ hr s hN => ?_) ?_
  · array_mem_dec
    refine ⟨"Table", tcFs m p, _, .head _, (ht5.lock o vs (SubC.refl _)).ins, rfl, ?_⟩
    refine ⟨p, o, vs, _, rfl, updC_same, ?_⟩
    rw [keys_rows]
    exact h
  · have tl := ht5.lock o vs s
    have ro := ok.row r hr
    obtain ⟨r2, h2, e1, e2⟩ := add_find ok2 (n := r.1) (by rw [← hn]; exact List.mem_map.mpr ⟨r, hr, rfl⟩)
    have ro2 := ok2.row r2 h2
    array_mem_dec
    refine ⟨"Table", tcFs m p, _, .head _, tl.ins, rfl, ?_⟩
    array_mem_dec
    refine ⟨kvsOf cols, keyN r.1, _, tl.dic, rfl, kvs_some ok.nd hr, ?_⟩
    array_mem_dec
    have pt2 : p ≠ t2 := fun z => by have a := ht25.ins; rw [← z, ht5.dic] at a; cases a
    have in2 : insOf C' (.ref t2) = some ("Table", tcFs m2 p2) := by
      show (match C' t2 with | some (.ins k fs) => some (k, fs) | _ => none) = _
      rw [s t2 _ (by rw [updC_ne (Ne.symm pt2)]; exact ht25.ins)]
    have dc2 : dicOf C' (.ref p2) = some (kvsOf cols2) := by
      by_cases e : p2 = p
      · have a := ht25.dic
        rw [e, ht5.dic] at a
        rw [e, tl.dic]
        exact congrArg some (Cell.dic.inj (Option.some.inj a))
      · exact dicOf_ref (s p2 _ (by rw [updC_ne e]; exact ht25.dic))
    refine ⟨"Table", tcFs m2 p2, _, .head _, in2, rfl, ?_⟩
    array_mem_dec
    refine ⟨kvsOf cols2, keyN r.1, _, dc2, rfl, by rw [← e1]; exact kvs_some ok2.nd h2, ?_⟩
    refine v_addL (szl (by rw [List.length_append, txts_lenG, txts_lenG, ro.len, ro2.len]; omega)) ?_
    array_mem_dec
    have : D.tup [.str r.1, .lst (txts r.2 ++ txts r2.2)] = rowD (addR cols2 r) := by
      rw [show addR cols2 r = (r.1, r.2 ++ r2.2) from e2 r.2]
      unfold rowD txts
      rw [List.map_append]
    rw [this]
    exact hN
  · refine ⟨updC_same, ?_⟩
    rw [updC_updC, updC_self ht5.dic]
    array_mem_dec
    have e : (cols.map fun r => rowD (addR cols2 r)) = (addC cols cols2).map rowD := by unfold addC; rw [List.map_map]; rfl
    rw [e]
    refine mk_tabC walks_lst rowsAt_lst (addOk ok ok2 hn (by omega)) fun x p' C' s hx hp' tc => ?_
    exact ⟨_, _, .same, hq x p' C' (sub.trans s) (sub.none hx) (sub.none hp') tc⟩
end G
set_option maxHeartbeats 2000000
namespace G
open PySem PySem.Spec PyProof.Rows L2
/-! ### lists times numbers; own o[i] = v that may raise -/
section
variable {X : Cx} {cl : NmB}
end
/-- o[i] = v of an own class, v is set by what stands ahead of it -/
def dgSubX (Ex : DEnv → DX) (c : String) (sp : DSp2) (to ti : DE) : DG := fun d ρ C Q => to ρ C fun o C1 => ti ρ C1 fun i C2 => ∃ fs, insOf C2 o = some (c, fs) ∧ sp [o, i, d] [] C2 (fun _ C3 => Q ρ C3) (Ex ρ)
section
variable {X : Cx} {cl : NmB} {k : Nat} {g : Addr} {sp : DSp2} {c : String} {to ti : DE} {o i : Expr} {pos : Pos} {Ex : DEnv → DX} {W : WX}
theorem dg_subX (tkX : Takes X W) (fw : FinW X.K cl Ex W) (fc : Cee X.prog X.w X.K cl X.mg X.base (L2.CX X.prog X.w) k g [] sp) (hr : Room k X.A) (S : Spc X.K cl c "__setitem__" g) (hq : PySem.W.noSeq X.K (cl c) = true) (ho : PEd X cl o to) (hi : PEd X cl i ti)
    (ha : ∀ v, assign (.Subscript o i pos) X.env v = (do
      let ov ← holding [v] (eval o X.env)
      let iv ← holding [v, ov] (eval i X.env)
      standAt pos
      holding [v, ov, iv] (setItem ov iv v)
      release [v, ov, iv] []) := by intro _; rfl) : PGd X cl (.Subscript o i pos) (dgSubX Ex c sp to ti) := by
  refine ⟨fun pins s σ H v u Q I r ⟨d, ρ, C, F, Qd, R, rd, h, kq⟩ => ?_⟩
  rw [ha]
  refine wpAny_bind (wpAny_holding (thn (ho.run pins s σ H (fun x H1 => ∃ dO C1 F1, Same F F1 ∧ RC X.K cl C1 F1 H1 ∧ Rep X.K cl F1 x dO ∧ ti ρ C1 fun i C2 => ∃ fs, insOf C2 dO = some (c, fs) ∧ sp [dO, i, d] [] C2 (fun _ C3 => Qd ρ C3) (Ex ρ)) I
    ⟨ρ, C, F, _, R, h, fun vo dO C1 H1 F1 s1 R1 r1 q1 => ⟨dO, C1, F1, s1, R1, r1, q1⟩⟩) fun ov s1 ⟨x, H1, I1, r1, dO, C1, F1, ss1, R1, rO, q1⟩ => ?_))
  refine wpAny_bind (wpAny_holding (thn (hi.run pins s1 σ H1 (fun y H2 => ∃ dI C2 F2, Same F1 F2 ∧ RC X.K cl C2 F2 H2 ∧ Rep X.K cl F2 y dI ∧ ∃ fs, insOf C2 dO = some (c, fs) ∧ sp [dO, dI, d] [] C2 (fun _ C3 => Qd ρ C3) (Ex ρ)) I1
    ⟨ρ, C1, F1, _, R.next ss1 R1, q1, fun vi dI C2 H2 F2 s2 R2 r2 q2 => ⟨dI, C2, F2, s2, R2, r2, q2⟩⟩) fun iv s2 ⟨y, H2, I2, r2, dI, C2, F2, ss2, R2, rI, fs, hins, q2⟩ => ?_))
  obtain ⟨a, ad, vs, rfl, hp, rf⟩ := ins_ok R2 (rO.mono ss2) hins
  cases r1
  obtain ⟨ox, od, J⟩ := inst_at I2 hp
  obtain ⟨m, hF⟩ := I2.fr
  have sa := ss1.trans ss2
  have RR : RS X.K cl ρ C2 F2 σ H2 := R.next sa R2
  refine wpAny_bind (wpAny_standAt (wpAny_bind (wpAny_holding (PySem.W.ksp_setItem hF I2.ok.mod.kin J hq S.at_ S.fn ?_))))
  refine thn (fc.goS (A := X.A) (us := [.ref a, iv, u]) (ws := []) (vs := [.ref a, y, v]) (zs := []) hr rfl (passAt tkX σ) I2 (.cons rfl (.cons r2 (.cons r .nil))) .nil (Q := fun _ H3 => Q σ H3)
    ⟨[dO, dI, d], [], C2, F2, _, Ex ρ, R2, .cons (rO.mono ss2) (.cons rI (.cons (rd.mono sa) .nil)), .nil, q2, fun w e C3 H3 F3 s3 R3 re q3 => kq ρ C3 F3 σ H3 (sa.trans s3) (R.next (sa.trans s3) R3) q3, fw.at RR (Same.refl _)⟩) fun w s3 ⟨z, H3, I3, rz, q⟩ => ?_
  exact wpAny_release ⟨σ, H3, I3, q⟩
end
/-! zip(x, y), y may change later -/
section
variable {X : Cx} {cl : NmB} {tg e e2 : Expr} {t : DA} {p pos tpos : Pos} {elts : List Expr} {kk : Nat}
end
end G
set_option maxHeartbeats 1000000
namespace G
open PySem PySem.Spec PyProof.Rows L2
/-! ### list(range(n)) -/
def dListR (te : DE) : DE := fun ρ C Q => te ρ C fun x C1 => ∃ n : Nat, x = .int (n : Int) ∧ n ≤ 1000000 ∧ Q (.lst (ranged 0 n)) C1
theorem boot_range_ : bootBuiltins "range" = some (.type "range") := by decide +kernel
theorem vals_intsR : ∀ {us : List Value} {ns : List Int}, us.length = ns.length → (∀ (j : Nat) (u : Value), us[j]? = some u → ∃ t n, ns[j]? = some n ∧ u = .int n t) → Vals (ns.map V.int) us
  | [], [], _, _ => .nil
  | u :: us, n :: ns, hl, h => by
    obtain ⟨t, n', e1, e2⟩ := h 0 u rfl
    cases e1
    exact .cons ⟨t, e2⟩ (vals_intsR (Nat.succ.inj hl) fun j u hj => h (j + 1) u hj)
theorem repL_ints {K : PySem.W.Frag} {cl : Nm} {F : Hp} : ∀ ns : List Int, RepL K cl F (ns.map V.int) (ns.map D.int)
  | [] => .nil
  | n :: ns => .cons (.int n) (repL_ints ns)
theorem size_n (n : Nat) : Builtin.Range.rangeSize 0 (n : Int) 1 = (n : Int) := by unfold Builtin.Range.rangeSize; simp; omega
theorem fits_n {i : Int} (h : -1000000 ≤ i) (h2 : i ≤ 1000000) : Builtin.Range.rangeFitsLong i = true := by
  unfold Builtin.Range.rangeFitsLong
  simp
  omega
theorem small_n {n : Nat} (hn : n ≤ 1000000) : Builtin.Range.small 0 (n : Int) 1 = true := by
  unfold Builtin.Range.small
  rw [size_n, fits_n (i := 0) (by decide) (by decide), fits_n (i := (n : Int)) (by omega) (by omega), fits_n (i := 1) (by decide) (by decide), if_pos (by decide), fits_n (i := (n : Int) + (1 - 1)) (by omega) (by omega)]
  simp
theorem lt_sz' {n : Nat} (hn : n ≤ 1000000) : n ≤ sizeLine := szl (by omega)
section
variable {X : Cx} {cl : NmB} {a : Expr} {te : DE} {p p2 cpos pos : Pos}
theorem de_listR (hm : X.mg "list" = none) (hm2 : X.mg "range" = none) (he : PEd X cl a te) (hc : X.calm = true := by rfl) (hg : Gl X "list" := by rfl) (hg2 : Gl X "range" := by rfl)
    (na1 : starEach [.Call (.Name "range" p2) [a] [] cpos] X.env = (false, eval (.Call (.Name "range" p2) [a] [] cpos) X.env) :: starEach [] X.env := by rfl)
    (na2 : starEach [a] X.env = (false, eval a X.env) :: starEach [] X.env := by rfl) : PEd X cl (.Call (.Name "list" p) [.Call (.Name "range" p2) [a] [] cpos] [] pos) (dListR te) := by
  refine ⟨fun pins s σ H Q I ⟨ρ, C, F, Qd, R, h, kq⟩ => ?_⟩
  refine Call_ (ld_blt I hg hm boot_list_ (PyProof.Rows.callWith_type1 (PyProof.Rows.args_cons ?_ na1) na1 rfl))
  refine Call_ (ld_blt I hg2 hm2 boot_range_ (PyProof.Rows.callWith_type1 (PyProof.Rows.args_cons ?_ na2) na2 rfl))
  refine thn (he.run pins s σ H (fun v H1 => ∃ d C1 F1, Same F F1 ∧ RC X.K cl C1 F1 H1 ∧ Rep X.K cl F1 v d ∧ ∃ n : Nat, d = .int (n : Int) ∧ n ≤ 1000000 ∧ Qd (.lst (ranged 0 n)) C1) I
    ⟨ρ, C, F, _, R, h, fun v d C1 H1 F1 s1 R1 r1 q1 => ⟨d, C1, F1, s1, R1, r1, q1⟩⟩) fun u s1 ⟨v, H1, I1, rv, d, C1, F1, s1', R1, r1, n, e, hn, q1⟩ => ?_
  subst e
  cases r1
  obtain ⟨tk, rfl⟩ := rv
  refine PyProof.Rows.args_nil ?_
  refine call_range_1 ?_
  refine PyProof.Rows.args_nil ?_
  have hz := size_n n
  refine call_list_range (n := n) (I1.ok.hd hc) (Heap.get?_push_size _ rfl) (small_n hn) hz (by omega) fun h' tk' acc c' hk hD hacc => ?_
  have I2 : Inv X pins σ H1 { s1 with heap := s1.heap.push { cls := .type "range", data := .fields #[.int 0 s1.toks, .int n tk, .int 1 (s1.toks + 1)] }, toks := s1.toks + 1 + 1 } := I1.kept fun b o q => Heap.get?_push_of_some _ q
  have np := I2.hok.fresh (Nat.le_refl _)
  have hl : acc.toList.length = ((List.range n).map fun (i : Nat) => (0 : Int) + (i : Int)).length := by rw [Array.length_toList, hacc.1, List.length_map, List.length_range]
  have hV : Vals (((List.range n).map fun (i : Nat) => (0 : Int) + (i : Int)).map V.int) acc.toList := vals_intsR hl fun j u hj => by
    obtain ⟨t, e⟩ := hacc.2 j u (by rw [← Array.getElem?_toList]; exact hj)
    have hj' : j < n := by
      have := (List.getElem?_eq_some_iff.mp hj).1
      rw [Array.length_toList, hacc.1] at this
      exact this
    exact ⟨t, 0 + (j : Int), by rw [List.getElem?_map, List.getElem?_range hj']; rfl, by rw [e, Int.mul_one]⟩
  have er : ((List.range n).map fun (i : Nat) => (0 : Int) + (i : Int)).map D.int = ranged 0 n := by unfold ranged; rw [List.map_map]; rfl
  have s2 := same_upd (o := .lst (((List.range n).map fun (i : Nat) => (0 : Int) + (i : Int)).map V.int)) (R1.freeF np)
  refine ⟨.ref _, upd H1 _ (.lst (((List.range n).map fun (i : Nat) => (0 : Int) + (i : Int)).map V.int)), I2.laid (t' := tk') hk (Nat.le_refl _)
    (show ObjOk X.prog X.w _ _ _ (.lst _) from ⟨by rw [List.length_map, List.length_map, List.length_range]; exact lt_sz' hn, acc.toList, c', hV, by rw [Array.toArray_toList]; exact hD⟩), rfl, ?_⟩
  exact kq _ _ C1 _ _ (s1'.trans s2) (R1.new np) (.lst upd_same (by rw [← er]; exact repL_ints _)) q1
end
/-! ### repr of a list that changes -/
def rReprC : RDC := fun xs C Q => ∃ p ds n m, xs = [.ref p] ∧ C p = some (.lst ds) ∧ Shw n m (.lst ds) ∧ n ≤ 60 ∧ m ≤ 1000000 ∧ Q (.str (reprD (.lst ds))) C
section
variable {X : Cx} {cl : NmB} {k : Nat}
theorem cd_reprC (hg : X.A.guards = some []) (hu : X.A.units + 64 < cLine) : CallD X cl (.builtin "repr") rReprC := by
  intro pins s σ H xs us Q I r ⟨ds, C, F, Qd, R, rl, ⟨p, es, n, m, e, hc, sh, hn, hm, q⟩, kq⟩
  subst e
  cases rl with
  | @cons v _ _ _ r1 rr =>
    cases rr
    cases r with
    | @cons _ u _ _ ru rr =>
      cases rr
      have sd := sh.show hn hm
      have fin : ∀ s', Inv X pins σ H s' → ∀ t, EP X pins σ Q (.str (toPy (.lst es)).shown t) s' := fun s' I' t => ⟨.str (toPy (.lst es)).shown, H, I', ⟨t, rfl⟩, kq _ _ C H F (Same.refl F) R (rep_str' _) q⟩
      have hd : Dp X.K H v (toPy (.lst es)) := by
        have := dp_cell (cl := nb cl.f) R r1 (by rw [viewC_ref hc]; exact sh.1.1)
        rw [viewC_ref hc] at this
        exact this
      have hz : (toPy (.lst es)).shown.length ≤ sizeLine := szl (by have := sd.2.2.2; omega)
      obtain ⟨as, rd⟩ := Dp.reads I _ _ _ hd ru
      cases r1
      obtain rfl : u = Value.ref p := ru
      exact repr_of_reads' rd sd.1 (fun z => by rw [sd.2.1] at z; cases z) hg (by have := sd.2.2.1; omega) (fun b o e => e) (fun h' t tk kp => fin _ (I.kept kp) t) hz
theorem v_reprC {p : Addr} {ds : List D} {n m : Nat} {C : Cl} {Q : DQ} (hc : C p = some (.lst ds)) (h : Shw n m (.lst ds)) (hn : n ≤ 60) (hm : m ≤ 1000000) (q : Q (.str (reprD (.lst ds))) C) : rReprC [.ref p] C Q := ⟨p, ds, n, m, rfl, hc, h, hn, hm, q⟩
end
end G
namespace G
open PySem PySem.Spec PyProof.Rows L2
local macro_rules | `(tactic| sizeOf_list_dec) => `(tactic| exact szl (by first | omega | (simp only [List.length_append, List.length_cons, List.length_nil, List.length_map, List.length_reverse, List.length_singleton, txts_lenG]; omega) | (simp only [List.length_append, List.length_cons, List.length_nil, List.length_map, List.length_reverse, txts_lenG]; omega)))
local macro_rules | `(tactic| array_get_dec) => `(tactic| first | with_reducible refine v_seq ?_ | with_reducible refine v_next ?_ | with_reducible refine v_asg ?_ | (with_reducible refine v_isvar ?_; first | with_reducible refine v_var0 ?_ | with_reducible refine v_var1 ?_ | with_reducible refine v_var2 ?_ | with_reducible refine v_var3 ?_ | with_reducible refine v_var4 ?_ | with_reducible refine v_var5 ?_ | with_reducible refine v_var6 ?_ | with_reducible refine v_var7 ?_ | with_reducible refine v_var8 ?_ | with_reducible refine v_var9 ?_ | with_reducible refine v_var10 ?_ | with_reducible refine v_var11 ?_ | with_reducible refine v_var12 ?_ | with_reducible refine v_var13 ?_ | with_reducible refine v_var14 ?_ | with_reducible refine v_var15 ?_ | with_reducible refine v_var16 ?_ | with_reducible refine v_var17 ?_ | with_reducible refine v_var18 ?_ | with_reducible refine v_var19 ?_ | with_reducible refine v_var20 ?_ | with_reducible refine v_var21 ?_ | with_reducible refine v_var22 ?_ | with_reducible refine v_var23 ?_ | with_reducible refine v_var24 ?_ | with_reducible refine v_var25 ?_) | (with_reducible refine v_isname ?_; first | with_reducible refine v_name0 ?_ | with_reducible refine v_wname0 ?_ | with_reducible refine v_name1 ?_ | with_reducible refine v_wname1 ?_ | with_reducible refine v_name2 ?_ | with_reducible refine v_wname2 ?_ | with_reducible refine v_name3 ?_ | with_reducible refine v_wname3 ?_ | with_reducible refine v_name4 ?_ | with_reducible refine v_wname4 ?_ | with_reducible refine v_name5 ?_ | with_reducible refine v_wname5 ?_ | with_reducible refine v_name6 ?_ | with_reducible refine v_wname6 ?_ | with_reducible refine v_name7 ?_ | with_reducible refine v_wname7 ?_ | with_reducible refine v_name8 ?_ | with_reducible refine v_wname8 ?_ | with_reducible refine v_name9 ?_ | with_reducible refine v_wname9 ?_ | with_reducible refine v_name10 ?_ | with_reducible refine v_wname10 ?_ | with_reducible refine v_name11 ?_ | with_reducible refine v_wname11 ?_ | with_reducible refine v_name12 ?_ | with_reducible refine v_wname12 ?_ | with_reducible refine v_name13 ?_ | with_reducible refine v_wname13 ?_ | with_reducible refine v_name14 ?_ | with_reducible refine v_wname14 ?_ | with_reducible refine v_name15 ?_ | with_reducible refine v_wname15 ?_ | with_reducible refine v_name16 ?_ | with_reducible refine v_wname16 ?_ | with_reducible refine v_name17 ?_ | with_reducible refine v_wname17 ?_ | with_reducible refine v_name18 ?_ | with_reducible refine v_wname18 ?_ | with_reducible refine v_name19 ?_ | with_reducible refine v_wname19 ?_ | with_reducible refine v_name20 ?_ | with_reducible refine v_wname20 ?_ | with_reducible refine v_name21 ?_ | with_reducible refine v_wname21 ?_ | with_reducible refine v_name22 ?_ | with_reducible refine v_wname22 ?_ | with_reducible refine v_name23 ?_ | with_reducible refine v_wname23 ?_ | with_reducible refine v_name24 ?_ | with_reducible refine v_wname24 ?_ | with_reducible refine v_name25 ?_ | with_reducible refine v_wname25 ?_) | with_reducible refine v_drop ?_ | with_reducible refine v_ret ?_ | with_reducible refine v_ifS ?_ | with_reducible refine v_test ?_ | with_reducible refine v_bl ?_ | with_reducible refine v_const ?_ | with_reducible refine v_op ?_ | with_reducible refine v_cb ?_ | with_reducible refine v_nil ?_ | with_reducible refine v_cons ?_ | with_reducible refine v_fld ?_ | with_reducible refine v_meth ?_ | with_reducible refine v_cal ?_ | with_reducible refine v_call0 ?_ | with_reducible refine v_pos2 ?_ | with_reducible refine v_tt ?_ | with_reducible refine v_ff ?_ | with_reducible refine v_ntt ?_ | with_reducible refine v_nff ?_ | with_reducible refine v_dnot ?_ | with_reducible refine v_dand ?_ | with_reducible refine v_dor ?_ | with_reducible refine v_andV ?_ | with_reducible refine v_orV ?_ | with_reducible refine v_notV ?_ | with_reducible refine v_ifE ?_ | with_reducible refine v_bm0 ?_ | with_reducible refine v_eqS ?_ | with_reducible refine v_eqI ?_ | with_reducible refine v_neS ?_ | with_reducible refine v_neI ?_ | with_reducible refine v_eqB ?_ | with_reducible refine v_neB ?_ | with_reducible refine v_isNn ?_ | with_reducible refine v_isNs ?_ | with_reducible refine v_isNi ?_ | with_reducible refine v_isNt ?_ | with_reducible refine v_notNn ?_ | with_reducible refine v_notNs ?_ | with_reducible refine v_notNi ?_ | with_reducible refine v_notNt ?_ | with_reducible refine v_isN ?_ | with_reducible refine v_notN ?_ | with_reducible refine v_lt ?_ | with_reducible refine v_le ?_ | with_reducible refine v_gt ?_ | with_reducible refine v_ge ?_ | with_reducible refine v_addI ?_ | with_reducible refine v_subI ?_ | with_reducible refine v_lenT ?_ | with_reducible refine v_lenL ?_ | with_reducible refine v_chain ?_ | with_reducible refine v_un ?_ | with_reducible refine v_tup ?_ | with_reducible refine v_lst ?_ | with_reducible refine v_lstC ?_ | with_reducible refine v_gsub ?_ | with_reducible refine v_rng1 ?_ | with_reducible refine v_rng2 ?_ | with_reducible refine v_slice ?_ | with_reducible refine v_nopart ?_ | with_reducible refine v_part ?_ | with_reducible refine v_partI ?_ | with_reducible refine v_slT ?_ | with_reducible refine v_slL ?_ | with_reducible refine v_rev ?_ | with_reducible refine v_revO ?_ | with_reducible refine v_enumS ?_ | with_reducible refine v_enumL ?_ | with_reducible refine v_enumT ?_ | with_reducible refine v_zipS ?_ | with_reducible refine v_revL ?_ | with_reducible refine v_revT ?_ | with_reducible refine v_putT ?_ | with_reducible refine v_putK ?_ | with_reducible refine v_inT ?_ | with_reducible refine v_getT ?_ | with_reducible refine v_get2T ?_ | with_reducible refine v_make ?_ | with_reducible refine v_fldSet ?_ | with_reducible refine v_forL ?_ | with_reducible refine v_forT ?_ | with_reducible refine v_forS ?_ | with_reducible refine v_lstO ?_ | with_reducible refine v_rolO ?_ | with_reducible refine v_tupO ?_ | with_reducible refine v_strO ?_ | with_reducible refine v_listT ?_ | with_reducible refine v_listL ?_ | with_reducible refine v_tupleL ?_ | with_reducible refine v_tupleT ?_ | with_reducible refine v_isiS ?_ | with_reducible refine v_isiT ?_ | with_reducible refine v_isiL ?_ | with_reducible refine v_allM ?_ | with_reducible refine v_anyM ?_ | with_reducible refine v_eqNS ?_ | with_reducible refine v_neNS ?_ | with_reducible refine v_gcons ?_ | with_reducible refine v_gnil ?_ | with_reducible refine v_par2 ?_ | with_reducible refine v_par33 ?_ | with_reducible refine v_retN ?_ | with_reducible refine v_sameS ?_ | with_reducible refine v_sameB ?_ | with_reducible refine v_sameI ?_ | with_reducible refine v_sameN ?_ | with_reducible refine v_sameT ?_ | with_reducible refine v_sameL ?_ | with_reducible refine v_endN ?_ | with_reducible refine v_bm ?_ | with_reducible refine v_tystr ?_ | with_reducible refine v_break ?_ | with_reducible refine v_cont ?_ | ((with_reducible refine v_slS ?_ ?_); sizeOf_list_dec) | ((with_reducible refine v_lenS ?_ ?_); sizeOf_list_dec) | ((with_reducible refine v_addS ?_ ?_); sizeOf_list_dec) | ((with_reducible refine v_addT ?_ ?_); sizeOf_list_dec) | ((with_reducible refine v_addL ?_ ?_); sizeOf_list_dec) | (with_reducible refine v_par _ _ ?_) | (with_reducible refine v_par3 _ _ _ ?_) | ((with_reducible refine v_gtup ?_ ?_); rfl) | with_reducible refine v_ixT (by with_unfolding_all rfl) ?_ | with_reducible refine v_ixL (by with_unfolding_all rfl) ?_ | with_reducible refine v_ixR (by with_unfolding_all rfl) ?_ | ((with_reducible refine v_ixS ?_ (by with_unfolding_all rfl) ?_); sizeOf_list_dec) | ((with_reducible refine And.intro ?_ ?_); sizeOf_list_dec) | with_reducible refine v_dt (by first | assumption | with_unfolding_all rfl | omega | (simp only [List.length_map, List.length_append, List.length_cons, List.length_nil, List.length_reverse, txts_lenG]; first | done | omega)) ?_ | with_reducible refine v_ndt (by first | assumption | with_unfolding_all rfl | omega | (simp only [List.length_map, List.length_append, List.length_cons, List.length_nil, List.length_reverse, txts_lenG]; first | done | omega)) ?_ | with_reducible refine v_df (by first | assumption | omega | (with_unfolding_all decide) | (simp only [List.length_map, List.length_append, List.length_cons, List.length_nil, List.length_reverse, txts_lenG]; first | done | omega)) ?_ | with_reducible refine v_ndf (by first | assumption | omega | (with_unfolding_all decide) | (simp only [List.length_map, List.length_append, List.length_cons, List.length_nil, List.length_reverse, txts_lenG]; first | done | omega)) ?_ | decreasing_trivial_pre_omega | ((with_reducible refine v_isname ?_); dsimp only [wipeD, List.set]) | ((with_reducible refine v_isvar ?_); dsimp only [wipeD, List.set]))
local macro_rules | `(tactic| array_mem_dec) => `(tactic| repeat array_get_dec)
local macro_rules | `(tactic| bv_omega) => `(tactic| repeat' (first | array_get_dec | with_reducible refine ite_d (fun _ => ?_) (fun _ => ?_) | with_reducible refine ite_nd (fun _ => ?_) (fun _ => ?_) | with_reducible refine ite_b (fun _ => ?_) (fun _ => ?_) | with_reducible refine ite_nb (fun _ => ?_) (fun _ => ?_)))
local macro_rules | `(tactic| decreasing_trivial_pre_omega) => `(tactic| with_reducible refine kz_name ?_)
local macro_rules | `(tactic| decreasing_trivial_pre_omega) => `(tactic| with_reducible refine kz_family ?_)
local macro_rules | `(tactic| decreasing_trivial_pre_omega) => `(tactic| with_reducible refine kz_marks ?_)
local macro_rules | `(tactic| decreasing_trivial_pre_omega) => `(tactic| with_reducible refine kz_yes ?_)
local macro_rules | `(tactic| decreasing_trivial_pre_omega) => `(tactic| with_reducible refine kz_no ?_)
local macro_rules | `(tactic| decreasing_trivial_pre_omega) => `(tactic| with_reducible refine kz_digits ?_)
local macro_rules | `(tactic| decreasing_trivial_pre_omega) => `(tactic| with_reducible refine kz_point ?_)
local macro_rules | `(tactic| decreasing_trivial_pre_omega) => `(tactic| with_reducible refine kz_keep ?_)
local macro_rules | `(tactic| decreasing_trivial_pre_omega) => `(tactic| with_reducible refine v_lenSet ?_)
local macro_rules | `(tactic| decreasing_trivial_pre_omega) => `(tactic| with_reducible refine kz_parts ?_)
local macro_rules | `(tactic| decreasing_trivial_pre_omega) => `(tactic| with_reducible refine bz_kinds ?_)
local macro_rules | `(tactic| decreasing_trivial_pre_omega) => `(tactic| with_reducible refine bz_spare ?_)
local macro_rules | `(tactic| decreasing_trivial_pre_omega) => `(tactic| with_reducible refine bz_joined ?_)
local macro_rules | `(tactic| decreasing_trivial_pre_omega) => `(tactic| with_reducible refine bz_mark ?_)
local macro_rules | `(tactic| decreasing_trivial_pre_omega) => `(tactic| with_reducible refine bz_meth (by decide) ?_)
local macro_rules | `(tactic| decreasing_trivial_pre_omega) => `(tactic| with_reducible refine lz_book ?_)
local macro_rules | `(tactic| decreasing_trivial_pre_omega) => `(tactic| with_reducible refine lz_name ?_)
local macro_rules | `(tactic| decreasing_trivial_pre_omega) => `(tactic| with_reducible refine lz_kind ?_)
local macro_rules | `(tactic| decreasing_trivial_pre_omega) => `(tactic| with_reducible refine v_intO ?_)
local macro_rules | `(tactic| decreasing_trivial_pre_omega) => `(tactic| with_reducible refine v_gh ?_)
local macro_rules | `(tactic| decreasing_trivial_pre_omega) => `(tactic| with_reducible refine v_sp0 ?_)
local macro_rules | `(tactic| decreasing_trivial_pre_omega) => `(tactic| with_reducible refine v_sp1 ?_)
local macro_rules | `(tactic| decreasing_trivial_pre_omega) => `(tactic| with_reducible refine v_sp2 ?_)
local macro_rules | `(tactic| decreasing_trivial_pre_omega) => `(tactic| with_reducible refine v_sp3 ?_)
local macro_rules | `(tactic| decreasing_trivial_pre_omega) => `(tactic| with_reducible refine v_sp4 ?_)
local macro_rules | `(tactic| decreasing_trivial_pre_omega) => `(tactic| with_reducible refine v_sp5 ?_)
local macro_rules | `(tactic| decreasing_trivial_pre_omega) => `(tactic| with_reducible refine v_op0 ?_)
local macro_rules | `(tactic| decreasing_trivial_pre_omega) => `(tactic| with_reducible refine v_op1 ?_)
local macro_rules | `(tactic| decreasing_trivial_pre_omega) => `(tactic| with_reducible refine v_op4 ?_)
local macro_rules | `(tactic| decreasing_trivial_pre_omega) => `(tactic| with_reducible refine v_op5 ?_)
local macro_rules | `(tactic| decreasing_trivial_pre_omega) => `(tactic| with_reducible refine v_onN ?_)
local macro_rules | `(tactic| decreasing_trivial_pre_omega) => `(tactic| with_reducible refine v_onS ?_)
local macro_rules | `(tactic| decreasing_trivial_pre_omega) => `(tactic| with_reducible refine v_nonN ?_)
local macro_rules | `(tactic| decreasing_trivial_pre_omega) => `(tactic| with_reducible refine v_nonS ?_)
local macro_rules | `(tactic| decreasing_trivial_pre_omega) => `(tactic| with_reducible refine v_trip0 ?_)
local macro_rules | `(tactic| decreasing_trivial_pre_omega) => `(tactic| with_reducible refine v_trip1 ?_)
local macro_rules | `(tactic| decreasing_trivial_pre_omega) => `(tactic| with_reducible refine v_iList ?_)
local macro_rules | `(tactic| decreasing_trivial_pre_omega) => `(tactic| with_reducible refine v_iEnum ?_)
local macro_rules | `(tactic| decreasing_trivial_pre_omega) => `(tactic| with_reducible refine v_prop ?_)
local macro_rules | `(tactic| decreasing_trivial_pre_omega) => `(tactic| with_reducible refine bk_prop ?_)
local macro_rules | `(tactic| decreasing_trivial_pre_omega) => `(tactic| with_reducible refine kindD_fam ?_)
local macro_rules | `(tactic| decreasing_trivial_pre_omega) => `(tactic| with_reducible refine kindD_keep ?_)
local macro_rules | `(tactic| decreasing_trivial_pre_omega) => `(tactic| with_reducible refine kindD_yes ?_)
local macro_rules | `(tactic| decreasing_trivial_pre_omega) => `(tactic| with_reducible refine v_va0 ?_)
local macro_rules | `(tactic| decreasing_trivial_pre_omega) => `(tactic| with_reducible refine v_vaT ?_)
local macro_rules | `(tactic| decreasing_trivial_pre_omega) => `(tactic| with_reducible refine v_vaN ?_)
local macro_rules | `(tactic| decreasing_trivial_pre_omega) => `(tactic| with_reducible refine cz_level ?_)
local macro_rules | `(tactic| decreasing_trivial_pre_omega) => `(tactic| with_reducible refine cz_held ?_)
local macro_rules | `(tactic| decreasing_trivial_pre_omega) => `(tactic| with_reducible refine cz_meth (by decide) ?_)
local macro_rules | `(tactic| decreasing_trivial_pre_omega) => `(tactic| with_reducible refine v_try ?_)
local macro_rules | `(tactic| decreasing_trivial_pre_omega) => `(tactic| with_reducible refine v_methX ?_)
local macro_rules | `(tactic| decreasing_trivial_pre_omega) => `(tactic| with_reducible refine v_makeX ?_)
local macro_rules | `(tactic| decreasing_trivial_pre_omega) => `(tactic| with_reducible refine v_calX ?_)
local macro_rules | `(tactic| decreasing_trivial_pre_omega) => `(tactic| with_reducible refine v_xfV (by with_unfolding_all rfl) (by with_unfolding_all rfl) ?_)
local macro_rules | `(tactic| decreasing_trivial_pre_omega) => `(tactic| with_reducible refine v_xisV (by with_unfolding_all rfl) ?_)
local macro_rules | `(tactic| decreasing_trivial_pre_omega) => `(tactic| with_reducible refine v_raise ?_)
local macro_rules | `(tactic| decreasing_trivial_pre_omega) => `(tactic| with_reducible refine v_listV ?_)
local macro_rules | `(tactic| decreasing_trivial_pre_omega) => `(tactic| with_reducible refine v_iKeys ?_)
local macro_rules | `(tactic| decreasing_trivial_pre_omega) => `(tactic| with_reducible refine v_iKeysC ?_)
/-! ### k41: tables changed -/
def nameOf : D → List Nat
  | .str l => l
  | _ => []
theorem str_of {d : D} (h : onStr isWord d = true) : d = .str (nameOf d) ∧ isWord (nameOf d) = true := by
  cases d <;> first | exact ⟨rfl, h⟩ | cases h
/-- a name, of any kind -/
structure NameD (d : D) : Prop where
  ty : ∃ n, ∀ C, tyNm d C = some n
  sh : Shw 5 2000 d
  ln : ∀ l, d = .str l → l.length ≤ 100
  pr : PrD d
theorem NameD.known {d : D} (h : NameD d) (C : Cl) : Known d C := ⟨let ⟨n, hn⟩ := h.ty; ⟨n, hn C⟩, fun l e => by have := h.ln l e; omega⟩
def sp_l_is_word : DSp := fun ds C Q _ => ∃ d, ds = [d] ∧ Known d C ∧ Q (.bl (onStr isWord d)) C
def td_l_is_word : DS :=
  (dSeq (dIfS (dOr (dNot (dTest (dCB (rIsi "str") (dCons (dVar 0) (dCons (dC (.ty "str")) dNil))))) (dNot (dTest (dChain rLeD rLeD (dC (.int 1)) (dCB rLen (dCons (dVar 0) dNil)) (dC (.int 8)))))) (dRet (dC (.bl false))) dNext)
    (dRet (dCB rAllL (dCons (dFz (dLc (diStr (dVar 0)) (dName 1) dYes (dOp rIn (dVar 1) (dC (.str [97, 98, 99, 100, 101, 102, 103, 104, 105, 106, 107, 108, 109, 110, 111, 112, 113, 114, 115, 116, 117, 118, 119, 120, 121, 122]))) [1])) dNil))))
theorem len_l_is_word (ds : List D) (C : Cl) (Q : DQ) (E : DX) (h : sp_l_is_word ds C Q E) : ds.length = 1 := by obtain ⟨_, rfl, _⟩ := h; rfl
theorem pure_l_is_word (ds : List D) (C : Cl) (Q : DQ) (E : DX) (h : sp_l_is_word ds C Q E) : td_l_is_word (endsD Q) (startD ["_law_thing", "_law_sign"] ds) C := pure_is_word ds C Q E h
theorem shw_s {l : List Nat} (h : small l = true) (hl : l.length ≤ 100) : Shw 3 1002 (.str l) := (shw_str h).mono (Nat.zero_le _) (by omega)
theorem nameD_str {l : List Nat} (h : small l = true) (hl : l.length ≤ 100) : NameD (.str l) := ⟨⟨"str", fun _ => rfl⟩, (shw_s h hl).mono (by decide) (by decide), fun l' e => by cases e; exact hl, .inl ⟨l, rfl, by omega⟩⟩
theorem small_app {a b : List Nat} (h : small a = true) (k : small b = true) : small (a ++ b) = true := by
  unfold small at h k ⊢
  rw [List.all_append, h, k]
  rfl
theorem low_small {l : List Nat} (h : l.all (fun c => decide (97 ≤ c ∧ c ≤ 122)) = true) : small (l.map (· - 32)) = true := by
  unfold small
  refine List.all_eq_true.mpr fun c hc => ?_
  obtain ⟨x, hx, rfl⟩ := List.mem_map.mp hc
  have := of_decide_eq_true (List.all_eq_true.mp h x hx)
  exact decide_eq_true (by omega)
theorem word_low {l : List Nat} (h : isWord l = true) : l.all (fun c => decide (97 ≤ c ∧ c ≤ 122)) = true := by
  unfold isWord at h
  rw [Bool.and_eq_true] at h
  refine List.all_eq_true.mpr fun c hc => decide_eq_true ?_
  have := List.all_eq_true.mp h.2 c hc
  unfold isLow at this
  have hm := of_decide_eq_true this
  have : ∀ x ∈ letters, 97 ≤ x ∧ x ≤ 122 := by decide
  exact this c hm
/-! columns assigned -/
def putC (cols : List Row) (n : List Nat) (ts : List (List Nat)) : List Row := if n ∈ namesR cols then cols.map (fun r => if r.1 = n then (n, ts) else r) else cols ++ [(n, ts)]
theorem kvs_putC {cols : List Row} {n : List Nat} {ts : List (List Nat)} : putKD (kvsOf cols) (keyN n) (.lst (txts ts)) = kvsOf (putC cols n ts) := by
  by_cases h : n ∈ namesR cols
  · unfold putC
    rw [if_pos h]
    unfold putKD
    have hs : ((kvsOf cols).any fun kv => decide (kv.1 = keyN n)) = true := by
      obtain ⟨r, hr, rfl⟩ := List.mem_map.mp h
      exact List.any_eq_true.mpr ⟨_, List.mem_map.mpr ⟨r, hr, rfl⟩, decide_eq_true rfl⟩
    rw [if_pos hs]
    unfold kvsOf
    rw [List.map_map, List.map_map]
    refine List.map_congr_left fun r _ => ?_
    show (if keyN r.1 = keyN n then (keyN r.1, D.lst (txts ts)) else (keyN r.1, D.lst (txts r.2))) = _
    by_cases e : r.1 = n
    · rw [if_pos (by rw [e])]
      show _ = (keyN (if r.1 = n then (n, ts) else r).1, D.lst (txts (if r.1 = n then (n, ts) else r).2))
      rw [if_pos e, e]
    · rw [if_neg fun z => e (keyN_inj z)]
      show _ = (keyN (if r.1 = n then (n, ts) else r).1, D.lst (txts (if r.1 = n then (n, ts) else r).2))
      rw [if_neg e]
  · unfold putC
    rw [if_neg h]
    exact kvs_put h
theorem putOk {cols : List Row} {m : Nat} {n : List Nat} {ts : List (List Nat)} (ok : ColOk cols m) (hl : cols.length ≤ 900) (hw : isWord n = true) (hm : ts.length = m) (ht : ∀ t ∈ ts, TxtD t) : ColOk (putC cols n ts) m ∧ (putC cols n ts).length ≤ cols.length + 1 := by
  have ro : RowOk m (n, ts) := ⟨hw, hm, fun t h => small_ok (ht t h).2, fun t h => by have := (ht t h).1; omega⟩
  unfold putC
  by_cases h : n ∈ namesR cols
  · rw [if_pos h]
    refine ⟨⟨fun z => ok.ne (List.map_eq_nil_iff.mp z), by rw [List.length_map]; exact ok.lc, ok.lm, ?_, fun r hr => ?_⟩, by rw [List.length_map]; omega⟩
    · have : namesR (cols.map fun r => if r.1 = n then (n, ts) else r) = namesR cols := by
        unfold namesR
        rw [List.map_map]
        refine List.map_congr_left fun r _ => ?_
        show (if r.1 = n then (n, ts) else r).1 = r.1
        by_cases e : r.1 = n
        · rw [if_pos e, e]
        · rw [if_neg e]
      rw [this]
      exact ok.nd
    · obtain ⟨r', hr', rfl⟩ := List.mem_map.mp hr
      by_cases e : r'.1 = n
      · rw [if_pos e]; exact ro
      · rw [if_neg e]; exact ok.row r' hr'
  · rw [if_neg h]
    refine ⟨⟨by simp, by rw [List.length_append]; show _ + 1 ≤ _; omega, ok.lm, ?_, fun r hr => ?_⟩, by rw [List.length_append]; show _ + 1 ≤ _; omega⟩
    · unfold namesR at h ⊢
      rw [List.map_append]
      refine List.nodup_append.mpr ⟨ok.nd, by simp, fun a ha b hb e => h ?_⟩
      have : b = n := by simpa using hb
      rw [← this, ← e]
      exact ha
    · rcases List.mem_append.mp hr with hr | hr
      · exact ok.row r hr
      · rw [List.mem_singleton.mp hr]; exact ro
def sp_Table_setitemX : DSp := fun ds C Q E => ∃ t p cols m d x ts, ds = [.ref t, d, x] ∧ TabC C t p cols m ∧ cols.length ≤ 900 ∧ NameD d ∧ seqOf C x = some (txts ts) ∧ (onStr isWord d = true → ts.length = m → Q .non (updC C p (.dic (kvsOf (putC cols (nameOf d) ts))))) ∧ (¬ (onStr isWord d = true ∧ ts.length = m) → E "BadTable" [("part", d)] C)
def td_Table_setitemX (Ex : DEnv → DX) : DS :=
  (dSeq (dIfS (dOr (dNot (dTest (dCall sp_is_word [] (dCons (dVar 1) dNil)))) (dTest (dOp rNeD (dCB rLen (dCons (dVar 2) dNil)) (dFld ["Table"] (dVar 0) "many")))) (dRaise Ex "BadTable" ["part"] (dCons (dVar 1) dNil)) dNext)
    (dPutK (dFld ["Table"] (dVar 0) "held") (dVar 1) (dCB rList (dCons (dVar 2) dNil))))
theorem len_Table_setitemX (ds : List D) (C : Cl) (Q : DQ) (E : DX) (h : sp_Table_setitemX ds C Q E) : ds.length = 3 := by repeat (first | (obtain ⟨rfl, _⟩ := h; exact rfl) | (obtain ⟨_, h⟩ := h))
theorem pure_Table_setitemX (ds : List D) (C : Cl) (Q : DQ) (E : DX) (h : sp_Table_setitemX ds C Q E) : td_Table_setitemX (fun _ => E) (endsD Q) (startD ["self", "name", "texts"] ds) C := by
  obtain ⟨t, p, cols, m, d, x, ts, rfl, ht, hl, nd, hx, hq, he⟩ := h
  unfold td_Table_setitemX
  refine v_ends ?_
  simp only [startD, List.map_cons, List.map_nil, List.length_cons, List.length_nil, Nat.reduceAdd, Nat.reduceSub, List.reduceReplicate, List.cons_append, List.nil_append]
  array_mem_dec
  have rz : ∀ y ∈ [d], PrD y := fun y hy => by rw [List.mem_singleton.mp hy]; exact nd.pr
  refine ⟨_, rfl, nd.known _, ?_⟩
  cases ew : onStr isWord d with
  | false =>
    array_mem_dec
    exact ⟨rfl, by show (1 : Nat) ≤ 900; decide, rz, he (fun z => by rw [ew] at z; cases z.1)⟩
  | true =>
    obtain ⟨ed, hw⟩ := str_of ew
    array_mem_dec
    refine v_lenW hx ?_
    rw [txts_lenG]
    array_mem_dec
    refine ⟨"Table", tcFs m p, _, .head _, ht.insOf, rfl, ?_⟩
    array_mem_dec
    refine ite_nd (fun e => ?_) (fun e => ?_)
    · array_mem_dec
      exact ⟨rfl, by show (1 : Nat) ≤ 900; decide, rz, he (fun z => e (by rw [z.2]))⟩
    · have e' : ts.length = m := by
        have z : ((ts.length : Nat) : Int) = (m : Int) := e
        omega
      array_mem_dec
      refine ⟨_, _, rfl, hx, ?_⟩
      array_mem_dec
      refine ⟨"Table", tcFs m p, _, .head _, ht.insOf, rfl, ?_⟩
      array_mem_dec
      have hq' := hq ew e'
      rw [ed] 
      refine ⟨p, kvsOf cols, keyN (nameOf d), rfl, ht.dic, rfl, lt_sz (by unfold kvsOf; rw [List.length_map]; omega), ?_⟩
      rw [kvs_putC]
      exact ⟨_, SubC.refl _, hq'⟩
def sp_Table_getitemC : DSp := fun ds C Q _ => ∃ t p cols m r, ds = [.ref t, .str r.1] ∧ TabC C t p cols m ∧ (namesR cols).Nodup ∧ r ∈ cols ∧ ∀ q, C q = none → Q (.ref q) (updC C q (.lst (txts r.2)))
def td_Table_getitemC : DS :=
  (dSeq (dIfS (dOr (dNot (dTest (dCB (rIsi "str") (dCons (dVar 1) (dCons (dC (.ty "str")) dNil))))) (dTest (dOp rNotInK (dVar 1) (dFld ["Table"] (dVar 0) "held")))) dNever dNext)
    (dRet (dCB rListC (dCons (dOp rGetK (dFld ["Table"] (dVar 0) "held") (dVar 1)) dNil))))
theorem len_Table_getitemC (ds : List D) (C : Cl) (Q : DQ) (E : DX) (h : sp_Table_getitemC ds C Q E) : ds.length = 2 := by repeat (first | (obtain ⟨rfl, _⟩ := h; exact rfl) | (obtain ⟨_, h⟩ := h))
theorem pure_Table_getitemC (ds : List D) (C : Cl) (Q : DQ) (E : DX) (h : sp_Table_getitemC ds C Q E) : td_Table_getitemC (endsD Q) (startD ["self", "name"] ds) C := by
  obtain ⟨t, p, cols, m, r, rfl, ht, nd, hr, hq⟩ := h
  unfold td_Table_getitemC
  refine v_ends ?_
  simp only [startD, List.map_cons, List.map_nil, List.length_cons, List.length_nil, Nat.reduceAdd, Nat.reduceSub, List.reduceReplicate, List.cons_append, List.nil_append]
  array_mem_dec
  refine ⟨"Table", tcFs m p, _, .head _, ht.insOf, rfl, ?_⟩
  array_mem_dec
  refine ⟨kvsOf cols, keyN r.1, dicOf_ref ht.dic, rfl, ?_⟩
  rw [kvs_some nd hr, show (!(some (D.lst (txts r.2))).isSome) = false from rfl]
  array_mem_dec
  refine ⟨"Table", tcFs m p, _, .head _, ht.insOf, rfl, ?_⟩
  array_mem_dec
  refine ⟨kvsOf cols, keyN r.1, _, dicOf_ref ht.dic, rfl, kvs_some nd hr, ?_⟩
  array_mem_dec
  exact ⟨_, _, rfl, rfl, fun q hq0 => ⟨_, _, .same, hq q hq0⟩⟩
def sp_Table_containsC : DSp := fun ds C Q _ => ∃ t p cols m r, ds = [.ref t, .str r.1] ∧ TabC C t p cols m ∧ (namesR cols).Nodup ∧ r ∈ cols ∧ Q (.bl true) C
def td_Table_containsC : DS :=
  (dRet (dAndV (dCB (rIsi "str") (dCons (dVar 1) (dCons (dC (.ty "str")) dNil))) (dOp rInK (dVar 1) (dFld ["Table"] (dVar 0) "held"))))
theorem len_Table_containsC (ds : List D) (C : Cl) (Q : DQ) (E : DX) (h : sp_Table_containsC ds C Q E) : ds.length = 2 := by repeat (first | (obtain ⟨rfl, _⟩ := h; exact rfl) | (obtain ⟨_, h⟩ := h))
theorem pure_Table_containsC (ds : List D) (C : Cl) (Q : DQ) (E : DX) (h : sp_Table_containsC ds C Q E) : td_Table_containsC (endsD Q) (startD ["self", "name"] ds) C := by
  obtain ⟨t, p, cols, m, r, rfl, ht, nd, hr, hq⟩ := h
  unfold td_Table_containsC
  refine v_ends ?_
  simp only [startD, List.map_cons, List.map_nil, List.length_cons, List.length_nil, Nat.reduceAdd, Nat.reduceSub, List.reduceReplicate, List.cons_append, List.nil_append]
  array_mem_dec
  refine ⟨"Table", tcFs m p, _, .head _, ht.insOf, rfl, ?_⟩
  array_mem_dec
  refine ⟨kvsOf cols, keyN r.1, dicOf_ref ht.dic, rfl, ?_⟩
  rw [kvs_some nd hr]
  exact ⟨_, _, .same, hq⟩
/-! the law's defs -/
def sp_l_put : DSp := fun ds C Q _ => ∃ cols n ts, ds = [.lst (cols.map rowD), .str n, .lst (txts ts)] ∧ cols.length ≤ 900 ∧ Q (.lst ((putC cols n ts).map rowD)) C
def td_l_put : DS :=
  (dSeq (dAsg (dFz (dLc (diList (dVar 0)) (dgTup 2 (dgCons (dName 4) (dgCons (dName 5) dgNil))) dYes (dTup (dCons (dVar 4) (dCons (dIf (dTest (dOp rEqD (dVar 4) (dVar 1))) (dVar 2) (dVar 5)) dNil))) [4, 5])) (dName 3))
    (dSeq (dIfS (dTest (dOp rIn (dVar 1) (dFz (dLc (diList (dVar 0)) (dgTup 2 (dgCons (dName 4) (dgCons (dName 5) dgNil))) dYes (dVar 4) [4, 5])))) (dRet (dVar 3)) dNext)
    (dRet (dAdd (dVar 3) (dLst (dCons (dTup (dCons (dVar 1) (dCons (dVar 2) dNil))) dNil))))))
theorem len_l_put (ds : List D) (C : Cl) (Q : DQ) (E : DX) (h : sp_l_put ds C Q E) : ds.length = 3 := by repeat (first | (obtain ⟨rfl, _⟩ := h; exact rfl) | (obtain ⟨_, h⟩ := h))
theorem pure_l_put (ds : List D) (C : Cl) (Q : DQ) (E : DX) (h : sp_l_put ds C Q E) : td_l_put (endsD Q) (startD ["_law_columns_here", "_law_thing", "_law_texts", "_law_found", "_law_label", "_law_some"] ds) C := by
  obtain ⟨cols, n, ts, rfl, hl, hq⟩ := h
  unfold td_l_put
  refine v_ends ?_
  simp only [startD, List.map_cons, List.map_nil, List.length_cons, List.length_nil, Nat.reduceAdd, Nat.reduceSub, List.reduceReplicate, List.cons_append, List.nil_append]
  array_mem_dec
  refine v_lcmapF (as := cols) (e := rowD) (fun r => rowD (if r.1 = n then (n, ts) else r)) (fun R h => ?_) (szl (by omega)) (fun i r C' N _ hr _ hN => ?_) ?_
  · array_mem_dec
    exact h
  · unfold rowD
    array_mem_dec
    refine ite_d (fun e => ?_) (fun e => ?_)
    · have e' : r.1 = n := e
      array_mem_dec
      rw [if_pos e'] at hN
      rw [e']
      exact hN
    · have e' : ¬ r.1 = n := e
      array_mem_dec
      rw [if_neg e'] at hN
      exact hN
  array_mem_dec
  refine v_lcmapF (as := cols) (e := rowD) (fun r => .str r.1) (fun R h => ?_) (szl (by omega)) (fun i r C' N _ hr _ hN => ?_) ?_
  · array_mem_dec
    exact h
  · unfold rowD
    array_mem_dec
    exact hN
  rw [show (cols.map fun r => D.str r.1) = txts (namesR cols) by unfold txts namesR; rw [List.map_map]; rfl]
  refine in_txts (ps := namesR cols) rfl ?_
  rw [show (cols.map fun r => rowD (if r.1 = n then (n, ts) else r)) = (cols.map fun r => if r.1 = n then (n, ts) else r).map rowD by rw [List.map_map]; rfl]
  unfold putC at hq
  by_cases hin : n ∈ namesR cols
  · rw [if_pos hin] at hq
    rw [decide_eq_true hin]
    array_mem_dec
    exact hq
  · rw [if_neg hin] at hq
    rw [decide_eq_false hin]
    have e : (cols.map fun r => if r.1 = n then (n, ts) else r) = cols := by
      conv => rhs; rw [← List.map_id cols]
      refine List.map_congr_left fun r hr => if_neg fun z => hin ?_
      rw [← z]
      exact List.mem_map.mpr ⟨r, hr, rfl⟩
    rw [e]
    array_mem_dec
    rw [List.map_append] at hq
    exact hq
theorem v_lcmapS {α : Type} {g : DG} {te : DE} {ρ : DEnv} {C : Cl} {Q : DQ} {wi : DI} {vs : List Nat} {as : List α} {e : α → D} (f : α → D) (hw : ∀ R : List D → Cl → Prop, R (as.map e) C → wi ρ C R) (hl : as.length ≤ sizeLine)
    (hs : ∀ (i : Nat) (a : α) (C' : Cl) (N : DQ), as[i]? = some a → a ∈ as → SubC C C' → (∀ C2, SubC C' C2 → N (f a) C2) → g (e a) (wipeD ρ vs) C' fun ρ2 C2 => te ρ2 C2 N) (hq : ∀ C', SubC C C' → Q (.lst (as.map f)) C') : dFz (dLc wi g dYes te vs) ρ C Q := by
  refine hw _ fun p hp => ?_
  refine ⟨fun i C' => C' p = some (.lst ((as.take i).map f)) ∧ SubC C C', ⟨by rw [List.take_zero]; exact updC_same, (SubC.refl C).new hp⟩, ?_, ?_⟩
  · rintro i x C' hx ⟨h1, h2⟩
    rw [List.getElem?_map] at hx
    cases ha : as[i]? with
    | none => rw [ha] at hx; cases hx
    | some a =>
      rw [ha] at hx; cases hx
      have hi : i < as.length := (List.getElem?_eq_some_iff.mp ha).1
      refine hs i a C' _ ha (List.mem_of_getElem? ha) h2 fun C2 s2 => ⟨_, s2 _ _ h1, ?_, ?_, fun b c hb => ?_⟩
      · rw [List.length_map, List.length_take]; omega
      · rw [updC_same, List.take_add_one, ha]; simp
      · rw [updC_ne (fun z => by rw [z, hp] at hb; cases hb)]
        exact s2 _ _ (h2 _ _ hb)
  · rintro C' ⟨h1, h2⟩
    rw [List.length_map, List.take_length] at h1
    refine ⟨p, _, rfl, h1, hq _ fun b c hb => ?_⟩
    unfold delC
    rw [if_neg (fun z => by rw [z, hp] at hb; cases hb)]
    exact h2 _ _ hb
theorem addR_at {cols2 : List Row} (nd : (namesR cols2).Nodup) {r r2 : Row} (h : r2 ∈ cols2) (e : r2.1 = r.1) : addR cols2 r = (r.1, r.2 ++ r2.2) := by
  unfold addR
  rw [← e, find_row nd h]
  rfl
theorem atsOf {m : Nat} : ∀ a ∈ (if 0 < m then [0, m - 1] else []), a < m := fun a ha => by
  by_cases h : 0 < m
  · rw [if_pos h] at ha
    simp only [List.mem_cons, List.not_mem_nil, or_false] at ha
    rcases ha with rfl | rfl <;> omega
  · rw [if_neg h] at ha
    cases ha
def sp_l_is_as : DSp := fun ds C Q _ => ∃ t p cols m, ds = [.ref t, .lst (cols.map rowD)] ∧ TabC C t p cols m ∧ ColOk cols m ∧ m ≤ 400 ∧ ∀ C', SubC C C' → Q (.bl true) C'
def td_l_is_as : DS :=
  (dSeq (dAsg (dFz (dLc (diList (dVar 1)) (dgTup 2 (dgCons (dName 7) (dgCons (dName 8) dgNil))) dYes (dVar 7) [7, 8])) (dName 2))
    (dSeq (dIfS (dOr (dTest (dOp rNeC (dMeth "Table" "names" (pos2 sp_Table_namesC []) (dVar 0) dNil dNil) (dVar 2))) (dTest (dOp rNeD (dCB (rLenO "Table" (pos2 sp_Table_lenC [])) (dCons (dVar 0) dNil)) (dCB rLen (dCons (dOp rIx (dOp rIx (dVar 1) (dC (.int 0))) (dC (.int 1))) dNil))))) (dRet (dC (.bl false))) dNext)
    (dSeq (dIfS (dTest (dOp (rEqA "Table" (pos2 sp_Table_eqC []) true) (dVar 0) (dMake "Table" (pos2 sp_Table_initC []) (dCons (dCall sp_l_copied [] (dCons (dVar 1) dNil)) dNil) dNil))) (dRet (dC (.bl false))) dNext)
    (dSeq (dAsg (dCB (rLenO "Table" (pos2 sp_Table_lenC [])) (dCons (dVar 0) dNil)) (dName 3))
    (dSeq (dFor (diList (dIf (dTest (dOp rGtD (dVar 3) (dC (.int 0)))) (dLst (dCons (dC (.int 0)) (dCons (dSub (dVar 3) (dC (.int 1))) dNil))) (dLst dNil))) (dName 4)
    (dSeq (dPar 5 6 (dCons (dMeth "Table" "only" (pos2 sp_Table_only []) (dVar 0) (dCons (dLst (dCons (dVar 4) dNil)) dNil) dNil) (dCons (dOp (rBinO "Table" (pos2 sp_Table_add [])) (dVar 0) (dVar 0)) dNil)))
    (dSeq (dIfS (dTest (dOp rNeD (dCB rList (dCons (dMeth "Table" "row_at" (pos2 sp_Table_row_at []) (dVar 0) (dCons (dVar 4) dNil) dNil) dNil)) (dFz (dLc (diList (dVar 1)) (dgTup 2 (dgCons (dName 7) (dgCons (dName 8) dgNil))) dYes (dOp rIx (dVar 8) (dVar 4)) [7, 8])))) (dRet (dC (.bl false))) dNext)
    (dFor (diList (dVar 1)) (dgTup 2 (dgCons (dName 7) (dgCons (dName 8) dgNil)))
    (dIfS (dOr (dTest (dOp rNeC (dOp (rIxO "Table" (pos2 sp_Table_getitemC [])) (dVar 5) (dVar 7)) (dLst (dCons (dOp rIx (dVar 8) (dVar 4)) dNil)))) (dTest (dOp rNeC (dOp (rIxO "Table" (pos2 sp_Table_getitemC [])) (dVar 6) (dVar 7)) (dAdd (dVar 8) (dVar 8))))) (dRet (dC (.bl false))) dNext)))))
    (dRet (dCB rAllL (dCons (dFz (dLc (diList (dVar 1)) (dgTup 2 (dgCons (dName 7) (dgCons (dName 8) dgNil))) dYes (dAndV (dOp rEqC (dOp (rIxO "Table" (pos2 sp_Table_getitemC [])) (dVar 0) (dVar 7)) (dVar 8)) (dOp (rInO "Table" (pos2 sp_Table_containsC []) false) (dVar 7) (dVar 0))) [7, 8])) dNil))))))))
theorem len_l_is_as (ds : List D) (C : Cl) (Q : DQ) (E : DX) (h : sp_l_is_as ds C Q E) : ds.length = 2 := by repeat (first | (obtain ⟨rfl, _⟩ := h; exact rfl) | (obtain ⟨_, h⟩ := h))
theorem pure_l_is_as (ds : List D) (C : Cl) (Q : DQ) (E : DX) (h : sp_l_is_as ds C Q E) : td_l_is_as (endsD Q) (startD ["_law_table", "_law_columns_here", "_law_labels", "_law_many", "_law_at", "_law_one", "_law_twice", "_law_label", "_law_texts"] ds) C := by
  obtain ⟨t, p, cols, m, rfl, ht, ok, hm, hq⟩ := h
  have l1 : 1 ≤ cols.length := List.length_pos_iff.mpr ok.ne
  have lc := ok.lc
  obtain ⟨r0, e0⟩ : ∃ r0, cols[0]? = some r0 := ⟨_, List.getElem?_eq_getElem l1⟩
  have ro0 := ok.row r0 (List.mem_of_getElem? e0)
  unfold td_l_is_as
  refine v_ends ?_
  simp only [startD, List.map_cons, List.map_nil, List.length_cons, List.length_nil, Nat.reduceAdd, Nat.reduceSub, List.reduceReplicate, List.cons_append, List.nil_append]
  array_mem_dec
  refine v_lcmapF (as := cols) (e := rowD) (fun r => .str r.1) (fun R h => ?_) (szl (by omega)) (fun i r C' N _ hr _ hN => ?_) ?_
  · array_mem_dec
    exact h
  · unfold rowD
    array_mem_dec
    exact hN
  rw [show (cols.map fun r => D.str r.1) = txts (namesR cols) by unfold txts namesR; rw [List.map_map]; rfl]
  array_mem_dec
  refine ⟨_, ht.insOf, rfl, ?_⟩
  array_mem_dec
  refine ⟨t, p, cols, m, rfl, ht, fun q hq0 => ?_⟩
  array_mem_dec
  refine neC_self updC_same (sh_lst (n := 1) (sh_txts (fun l hl => by
    obtain ⟨r, hr, rfl⟩ := List.mem_map.mp hl
    exact word_small (ok.row r hr).word))) ?_
  have hs1 : SubC C (updC C q (.lst (txts (namesR cols)))) := (SubC.refl C).new hq0
  revert hs1
  generalize updC C q _ = C2
  intro hs1
  have ht2 := ht.sub hs1
  array_mem_dec
  refine ⟨_, _, rfl, ht2.insOf, rfl, t, p, cols, m, rfl, ht2, ok, m, rfl, by omega, ?_⟩
  array_mem_dec
  refine v_ixL (d := .tup [.str r0.1, .lst (txts r0.2)]) (atI_nat (j := 0) (by rw [List.getElem?_map, e0]; rfl)) ?_
  array_mem_dec
  rw [txts_lenG, ro0.len]
  array_mem_dec
  refine ⟨cols, rfl, lc, fun q2 xs2 C3 hq2 hq21 hr2 sub2 _ => ?_⟩
  array_mem_dec
  refine mk_tabC (walks_ref hq21) hr2 ok fun x p' C4 s4 hx hp' tc => ?_
  have s04 : SubC C C4 := (hs1.trans sub2).trans s4
  have ht4 := ht.sub s04
  refine ⟨⟨_, ht4.insOf⟩, .inl ⟨_, tc.insOf⟩, rfl, t, p, cols, m, x, p', cols, m, rfl, ht4, tc, ok, ok, _, rfl, ?_⟩
  rw [decide_eq_true rfl, show (true ^^ true) = false from rfl]
  array_mem_dec
  refine ⟨_, _, rfl, ht4.insOf, rfl, t, p, cols, m, rfl, ht4, ok, m, rfl, by omega, ?_⟩
  array_mem_dec
  refine v_loopF (as := if 0 < m then [0, m - 1] else []) (e := fun i => .int (i : Nat)) (fun i ρ' C' => SubC C C' ∧ ∃ y4 y5 y6 y7 y8, ρ' = [some (.ref t), some (.lst (cols.map rowD)), some (.lst (txts (namesR cols))), some (.int (m : Nat)), y4, y5, y6, y7, y8]) (fun R h => ?_) ⟨s04, _, _, _, _, _, rfl⟩ (fun i a ρ' C' hi ha hP => ?_) fun ρ' C' hP => ?_
  · array_mem_dec
    refine ite_d (fun e => ?_) (fun e => ?_)
    · have e' : 0 < m := by omega
      rw [if_pos e'] at h
      array_mem_dec
      rw [show (m : Int) - 1 = ((m - 1 : Nat) : Int) by omega]
      exact h
    · have e' : ¬ 0 < m := by omega
      rw [if_neg e'] at h
      array_mem_dec
      exact h
  · obtain ⟨hs, y4, y5, y6, y7, y8, rfl⟩ := hP
    have ha' := atsOf a ha
    have htx := ht.sub hs
    array_mem_dec
    refine ⟨_, htx.insOf, rfl, ?_⟩
    array_mem_dec
    refine ⟨t, p, cols, m, .lst (intsD [a]), [a], _, rfl, htx, ok, walks_lst, fun i hi => by rw [List.mem_singleton.mp hi]; exact ha', by show (1 : Nat) ≤ 1000; decide, fun t5 p5 C5 s5 _ _ T5 => ?_⟩
    have ht5 := htx.sub s5
    array_mem_dec
    refine ⟨⟨_, ht5.insOf⟩, ⟨_, ht5.insOf⟩, rfl, t, p, cols, m, t, p, cols, m, rfl, ht5, ht5, ok, ok, rfl, by omega, fun t6 p6 C6 s6 _ _ T6 => ?_⟩
    refine ⟨⟨_, _, T6.insOf⟩, ?_⟩
    have s56 := s5.trans s6
    have ht6 := htx.sub s56
    replace T5 := T5.sub s6
    array_mem_dec
    refine ⟨_, ht6.insOf, rfl, ?_⟩
    array_mem_dec
    refine ⟨t, p, cols, m, a, rfl, ht6, ok, ha', ?_⟩
    array_mem_dec
    refine v_lcmapF (as := cols) (e := rowD) (fun r => .str (r.2.getD a [])) (fun R h => ?_) (szl (by omega)) (fun j r C' N _ hr _ hN => ?_) ?_
    · array_mem_dec
      exact h
    · unfold rowD
      array_mem_dec
      refine v_ixL (at_getD (by rw [(ok.row r hr).len]; exact ha')) ?_
      exact hN
    have e : (cols.map fun r => D.str (r.2.getD a [])) = txts (rowAt cols a) := by unfold txts rowAt; rw [List.map_map]; rfl
    rw [e]
    have smA : ∀ r ∈ cols, small (r.2.getD a []) = true := fun r hr => by
      have ro := ok.row r hr
      have : a < r.2.length := by rw [ro.len]; exact ha'
      rw [List.getD_eq_getElem?_getD, List.getElem?_eq_getElem this]
      exact ro.sm _ (List.getElem_mem this)
    refine ne_self (n := 1) (sh_lst (n := 0) (sh_txts fun l hl => ?_)) ?_
    · obtain ⟨r, hr, rfl⟩ := List.mem_map.mp hl
      exact smA r hr
    have ok5 := onlyOk (is := [a]) ok (fun i hi => by rw [List.mem_singleton.mp hi]; exact ha') (by show (1 : Nat) ≤ 1000; decide)
    have ok6 := addOk ok ok rfl (by omega)
    array_mem_dec
    refine v_loopF (as := cols) (e := rowD) (fun j ρ' C' => SubC C6 C' ∧ ∃ y7 y8, ρ' = [some (.ref t), some (.lst (cols.map rowD)), some (.lst (txts (namesR cols))), some (.int (m : Nat)), some (.int (a : Nat)), some (.ref t5), some (.ref t6), y7, y8]) (fun R h => ?_) ⟨SubC.refl _, _, _, rfl⟩ (fun j r ρ' C' hj hr hP => ?_) fun ρ' C' hP => ?_
    · array_mem_dec
      exact h
    · obtain ⟨hs6, y7, y8, rfl⟩ := hP
      have ro := ok.row r hr
      unfold rowD
      array_mem_dec
      refine ⟨_, (T5.sub hs6).insOf, rfl, t5, p5, cols.map (onlyR [a]), 1, onlyR [a] r, rfl, T5.sub hs6, ok5.nd, List.mem_map.mpr ⟨r, hr, rfl⟩, fun q hq0 => ?_⟩
      have sq : SubC C' (updC C' q (.lst (txts (onlyR [a] r).2))) := (SubC.refl C').new hq0
      array_mem_dec
      refine v_ixL (at_getD (by rw [ro.len]; exact ha')) ?_
      array_mem_dec
      refine neC_self updC_same (n := 1) (sh_lst (n := 0) (sh_txts (ls := [r.2.getD a []]) fun l hl => by rw [List.mem_singleton.mp hl]; exact smA r hr)) ?_
      have hs7 := hs6.trans sq
      revert hs7
      generalize updC C' q _ = C7
      intro hs7
      array_mem_dec
      have er := addR_at ok.nd hr rfl
      have em : addR cols r ∈ addC cols cols := List.mem_map.mpr ⟨r, hr, rfl⟩
      refine ⟨_, (T6.sub hs7).insOf, rfl, t6, p6, addC cols cols, _, addR cols r, rfl, T6.sub hs7, ok6.nd, em, fun q2 hq2 => ?_⟩
      have sq2 : SubC C7 (updC C7 q2 (.lst (txts (addR cols r).2))) := (SubC.refl C7).new hq2
      array_mem_dec
      refine v_addL (szl ?_) ?_
      · rw [List.length_append, txts_lenG, ro.len]
        omega
      have e2 : txts r.2 ++ txts r.2 = txts (addR cols r).2 := by
        rw [er]
        unfold txts
        rw [List.map_append]
      rw [e2]
      refine neC_self updC_same (n := 1) (sh_lst (n := 0) (sh_txts (ok6.row _ em).sm)) ?_
      array_mem_dec
      exact ⟨hs7.trans sq2, _, _, rfl⟩
    · obtain ⟨hs6, y7, y8, rfl⟩ := hP
      exact ⟨(hs.trans s56).trans hs6, _, _, _, _, _, rfl⟩
  · obtain ⟨hs, y4, y5, y6, y7, y8, rfl⟩ := hP
    have htx := ht.sub hs
    array_mem_dec
    refine v_lcmapS (as := cols) (e := rowD) (fun _ => .bl true) (fun R h => ?_) (szl (by omega)) (fun j r C' N _ hr s' hN => ?_) fun C' s' => ?_
    · array_mem_dec
      exact h
    · have ro := ok.row r hr
      have hty := htx.sub s'
      unfold rowD
      array_mem_dec
      refine ⟨_, hty.insOf, rfl, t, p, cols, m, r, rfl, hty, ok.nd, hr, fun q hq0 => ?_⟩
      have sq : SubC C' (updC C' q (.lst (txts r.2))) := (SubC.refl C').new hq0
      array_mem_dec
      refine ⟨?_, ?_, ?_⟩
      · rw [viewC_ref updC_same]
        exact shp_texts ro.sm
      · exact shp_texts ro.sm
      rw [viewC_ref updC_same, show viewC (updC C' q (.lst (txts r.2))) (.lst (txts r.2)) = .lst (txts r.2) from rfl, eqT_texts, decide_eq_true rfl]
      array_mem_dec
      refine ⟨_, (hty.sub sq).insOf, rfl, t, p, cols, m, r, rfl, hty.sub sq, ok.nd, hr, _, rfl, ?_⟩
      exact hN _ sq
    array_mem_dec
    rw [show (cols.all fun _ => true) = true from List.all_eq_true.mpr fun _ _ => rfl]
    exact hq _ (hs.trans s')
def sp_l_name : DSp := fun ds C Q _ => ∃ b cols m n, ds = [.ref b, .lst (cols.map rowD)] ∧ ColOk cols m ∧ cols.length ≤ 100 ∧ BagAt C b n ∧ n < 50000000 ∧ ∀ d C', NameD d → Bagged C b C' (n + 20000) → Q d C'
def td_l_name : DS :=
  (dSeq (dPar 2 3 (dCons (dOp rIx (dCall sp_l_of [] (dCons (dVar 0) (dCons (dVar 1) dNil))) (dC (.int 0))) (dCons (dCall sp_l_take [] (dCons (dVar 0) (dCons (dC (.int 6)) dNil))) dNil)))
    (dSeq (dIfS (dTest (dOp rLtD (dVar 3) (dC (.int 3)))) (dRet (dVar 2)) dNext)
    (dSeq (dIfS (dTest (dOp rLtD (dVar 3) (dC (.int 5)))) (dRet (dOp rIx (dCall sp_l_words [] (dCons (dVar 0) (dCons (dC (.int 7)) dNil))) (dCall sp_l_take [] (dCons (dVar 0) (dCons (dC (.int 7)) dNil))))) dNext)
    (dSeq (dAsg (dCall sp_l_of [] (dCons (dVar 0) (dCons (dCall sp_l_signs [] dNil) dNil))) (dName 4))
    (dRet (dCall sp_l_of [] (dCons (dVar 0) (dCons (dLst (dCons (dC .non) (dCons (dC (.bl true)) (dCons (dC (.int 0)) (dCons (dC (.str [])) (dCons (dAdd (dVar 2) (dVar 4)) (dCons (dMul (dVar 2) (dC (.int 9))) (dCons (dLst (dCons (dVar 2) dNil)) (dCons (dTup (dCons (dVar 2) dNil)) (dCons (dBM0 "str" rUpper (dVar 2)) (dCons (dVar 4) dNil))))))))))) dNil))))))))
theorem len_l_name (ds : List D) (C : Cl) (Q : DQ) (E : DX) (h : sp_l_name ds C Q E) : ds.length = 2 := by repeat (first | (obtain ⟨rfl, _⟩ := h; exact rfl) | (obtain ⟨_, h⟩ := h))
theorem pure_l_name (ds : List D) (C : Cl) (Q : DQ) (E : DX) (h : sp_l_name ds C Q E) : td_l_name (endsD Q) (startD ["_law_bag_here", "_law_columns_here", "_law_label", "_law_road", "_law_sign"] ds) C := by
  obtain ⟨b, cols, m, n, rfl, ok, hl, hb, hn, hq⟩ := h
  have l1 : 1 ≤ cols.length := List.length_pos_iff.mpr ok.ne
  unfold td_l_name
  refine v_ends ?_
  simp only [startD, List.map_cons, List.map_nil, List.length_cons, List.length_nil, Nat.reduceAdd, Nat.reduceSub, List.reduceReplicate, List.cons_append, List.nil_append]
  array_mem_dec
  refine ⟨b, _, _, _, rfl, rfl, nofun, fun z => ?_, by rw [List.length_map]; omega, hb, by omega, fun d C1 hd B1 => ?_⟩
  · have := congrArg List.length z
    rw [List.length_map, List.length_nil] at this
    omega
  obtain ⟨r, hr, rfl⟩ := List.mem_map.mp hd
  have ro := ok.row r hr
  have hw := ro.word
  have hwl := (wd_len hw).2
  have hs := word_small hw
  unfold rowD
  array_mem_dec
  refine ⟨b, 6, _, rfl, by decide, by decide, B1.at, by omega, fun j C2 j0 j1 B2 => ?_⟩
  have B12 := B1.trans B2
  array_mem_dec
  refine ite_d (fun e => ?_) (fun e => ?_)
  · array_mem_dec
    exact hq _ _ (nameD_str hs (by omega)) (B12.mono (by omega))
  array_mem_dec
  refine ite_d (fun e => ?_) (fun e => ?_)
  · array_mem_dec
    refine ⟨b, 7, _, rfl, by decide, B12.at, by omega, fun ws C3 wl ww _ B3 => ?_⟩
    array_mem_dec
    refine ⟨b, 7, _, rfl, by decide, by decide, B3.at, by omega, fun i C4 i0 i1 B4 => ?_⟩
    obtain ⟨k, rfl⟩ : ∃ k : Nat, i = k := ⟨i.toNat, by omega⟩
    have hk : k < ws.length := by omega
    refine v_ixL (d := .str ws[k]) (atI_nat (by unfold txts; rw [List.getElem?_map, List.getElem?_eq_getElem hk]; rfl)) ?_
    have w2 := ww _ (List.getElem_mem hk)
    exact ⟨_, _, .same, hq _ _ (nameD_str (word_small w2) (by have := (wd_len w2).2; omega)) (((B12.trans B3).trans B4).mono (by omega))⟩
  array_mem_dec
  refine ⟨rfl, ?_⟩
  array_mem_dec
  refine ⟨b, _, _, _, rfl, rfl, nofun, nofun, by decide, B12.at, by omega, fun d C3 hd B3 => ?_⟩
  obtain ⟨c, hc, rfl⟩ : ∃ c, c < 1114112 ∧ d = .str [c] := by
    obtain ⟨c, hc, rfl⟩ := List.mem_map.mp hd
    refine ⟨c, ?_, rfl⟩
    have : ∀ x ∈ sgns1 ++ sgns2, x < 1114112 := by decide
    exact this c hc
  have sc : small [c] = true := by unfold small; simp [hc]
  array_mem_dec
  refine .inr ⟨r.1, 9, rfl, rfl, ⟨by decide, by omega, ?_⟩, by decide, ?_⟩
  · show r.1.length * 9 ≤ 1000000
    omega
  array_mem_dec
  refine ⟨r.1, rfl, rfl, word_low hw, by omega, ?_⟩
  array_mem_dec
  refine ⟨b, _, _, _, rfl, rfl, nofun, nofun, by show (10 : Nat) ≤ 1000000; decide, B3.at, by omega, fun d C4 hd B4 => ?_⟩
  refine ⟨_, _, .same, hq d C4 ?_ (((B12.trans B3).trans B4).mono (by omega))⟩
  have snl : Shw 3 202 (.str r.1) := (shw_str hs).mono (Nat.zero_le _) (by omega)
  have s1 : ShwL 3 500 [D.str r.1] := (shw_cons snl shw_nil (m' := 0)).mono (by decide)
  have oth : ∀ {d : D} {n : String}, (∀ C, tyNm d C = some n) → Shw 5 2000 d → (∀ l, d ≠ .str l) → PrD d → NameD d := fun h k e q => ⟨⟨_, h⟩, k, fun l z => absurd z (e l), q⟩
  have sr : small (repL r.1 9) = true := by
    unfold small repL at *
    refine List.all_eq_true.mpr fun x hx => ?_
    obtain ⟨y, hy, hx⟩ := List.mem_flatten.mp hx
    rw [(List.mem_replicate.mp hy).2] at hx
    exact List.all_eq_true.mp hs x hx
  simp only [List.mem_cons, List.not_mem_nil, or_false] at hd
  rcases hd with rfl | rfl | rfl | rfl | rfl | rfl | rfl | rfl | rfl | rfl
  · exact oth (fun _ => rfl) (shw_non.mono (Nat.zero_le _) (by decide)) nofun (.inr (.inr (.inl rfl)))
  · exact oth (fun _ => rfl) (shw_bl.mono (Nat.zero_le _) (by decide)) nofun (.inr (.inr (.inr (.inl ⟨true, rfl⟩))))
  · exact oth (fun _ => rfl) ((shw_int (n := 0) (by decide)).mono (Nat.zero_le _) (by decide)) nofun (.inr (.inl ⟨0, rfl, by decide⟩))
  · exact nameD_str rfl (by decide)
  · exact nameD_str (small_app hs sc) (by rw [List.length_append]; show _ + 1 ≤ _; omega)
  · refine nameD_str sr ?_
    unfold repL
    simp only [List.length_flatten, List.map_replicate, List.sum_replicate_nat]
    rw [show Int.toNat 9 = 9 from rfl]
    omega
  · exact oth (fun _ => rfl) ((shw_lst s1).mono (by decide) (by decide)) nofun (prd_lst (shw_lst s1))
  · exact oth (fun _ => rfl) ((shw_tup s1).mono (by decide) (by decide)) nofun (prd_tup (shw_tup s1))
  · exact nameD_str (low_small (word_low hw)) (by rw [List.length_map]; omega)
  · exact nameD_str sc (by show (1 : Nat) ≤ 100; decide)
theorem TabC.bag {C C' : Cl} {t p b : Addr} {cols : List Row} {m n k : Nat} (T : TabC C t p cols m) (hb : BagAt C b n) (B : Bagged C b C' k) : TabC C' t p cols m := by
  obtain ⟨x, y, z, hc, _⟩ := hb
  refine ⟨?_, ?_⟩
  · rw [B.ne (fun e => by have a := T.ins; rw [e, hc] at a; cases a)]
    exact T.ins
  · rw [B.ne (fun e => by have a := T.dic; rw [e, hc] at a; cases a)]
    exact T.dic
theorem TabC.lst {C : Cl} {t p c : Addr} {cols : List Row} {m : Nat} {xs ys : List D} (T : TabC C t p cols m) (h : C c = some (.lst xs)) : TabC (updC C c (.lst ys)) t p cols m := by
  refine ⟨?_, ?_⟩
  · rw [updC_ne (fun e => by have a := T.ins; rw [e, h] at a; cases a)]
    exact T.ins
  · rw [updC_ne (fun e => by have a := T.dic; rw [e, h] at a; cases a)]
    exact T.dic
theorem TabC.nep {C : Cl} {t p q : Addr} {cols : List Row} {m : Nat} (T : TabC C t p cols m) (h : C q = none) : p ≠ q := fun e => by have a := T.dic; rw [e, h] at a; cases a
theorem BagAt.sub {C C' : Cl} {b : Addr} {n : Nat} (h : BagAt C b n) (s : SubC C C') : BagAt C' b n := by
  obtain ⟨u, v, w, hc, g⟩ := h
  exact ⟨u, v, w, s _ _ hc, g⟩
theorem only_all {cols : List Row} {m : Nat} (ok : ColOk cols m) : cols.map (onlyR (List.range m)) = cols := by
  conv => rhs; rw [← List.map_id cols]
  refine List.map_congr_left fun r hr => ?_
  have hl := (ok.row r hr).len
  show (r.1, (List.range m).map fun i => r.2.getD i []) = r
  refine Prod.ext rfl ?_
  refine List.ext_getElem? fun i => ?_
  rw [List.getElem?_map]
  by_cases h : i < m
  · rw [List.getElem?_range h]
    show some (r.2.getD i []) = _
    rw [List.getD_eq_getElem?_getD, List.getElem?_eq_getElem (by omega)]
    rfl
  · rw [List.getElem?_eq_none (by rw [List.length_range]; omega), List.getElem?_eq_none (by omega)]
    rfl
theorem ranged_ints (m : Nat) : ranged 0 m = intsD (List.range m) := by
  unfold ranged intsD
  refine List.map_congr_left fun i _ => ?_
  rw [show (0 : Int) + (i : Int) = (i : Int) by omega]
theorem shw_names {cols : List Row} {m : Nat} (ok : ColOk cols m) (h : cols.length ≤ 100) : Shw 60 10000 (.lst (txts (namesR cols))) := by
  have : ShwL 59 (84 * (namesR cols).length) (txts (namesR cols)) := (shw_all (n := 59) (m := 82) fun d hd => by
    obtain ⟨w, hw, rfl⟩ := List.mem_map.mp hd
    obtain ⟨r, hr, rfl⟩ := List.mem_map.mp hw
    have ro := ok.row r hr
    exact (shw_str (word_small ro.word)).mono (Nat.zero_le _) (by have := (wd_len ro.word).2; omega)).mono (by rw [txts_lenG]; exact Nat.le_refl _)
  have ln : (namesR cols).length = cols.length := List.length_map ..
  exact (shw_lst this).mono (by decide) (by omega)
theorem TabC.put {C : Cl} {t p : Addr} {cols cols' : List Row} {m : Nat} (T : TabC C t p cols m) : TabC (updC C p (.dic (kvsOf cols'))) t p cols' m := ⟨by rw [updC_ne T.ne]; exact T.ins, updC_same⟩
structure St (C : Cl) (b t p t2 p2 : Addr) (cols cols0 : List Row) (m n : Nat) : Prop where
  bag : BagAt C b n
  tab : TabC C t p cols m
  bef : TabC C t2 p2 cols0 m
theorem St.sub {C C' : Cl} {b t p t2 p2 : Addr} {cols cols0 : List Row} {m n : Nat} (h : St C b t p t2 p2 cols cols0 m n) (s : SubC C C') : St C' b t p t2 p2 cols cols0 m n := ⟨h.bag.sub s, h.tab.sub s, h.bef.sub s⟩
theorem St.bagged {C C' : Cl} {b t p t2 p2 : Addr} {cols cols0 : List Row} {m n k : Nat} (h : St C b t p t2 p2 cols cols0 m n) (B : Bagged C b C' k) : St C' b t p t2 p2 cols cols0 m k := ⟨B.at, h.tab.bag h.bag B, h.bef.bag h.bag B⟩
theorem St.lst {C : Cl} {b t p t2 p2 c : Addr} {cols cols0 : List Row} {m n : Nat} {xs ys : List D} (h : St C b t p t2 p2 cols cols0 m n) (bc : b ≠ c) (hc : C c = some (.lst xs)) : St (updC C c (.lst ys)) b t p t2 p2 cols cols0 m n := ⟨h.bag.upd bc, h.tab.lst hc, h.bef.lst hc⟩
theorem St.mono {C : Cl} {b t p t2 p2 : Addr} {cols cols0 : List Row} {m n k : Nat} (h : St C b t p t2 p2 cols cols0 m n) (l : n ≤ k) : St C b t p t2 p2 cols cols0 m k := ⟨h.bag.mono l, h.tab, h.bef⟩
theorem St.put {C : Cl} {b t p t2 p2 : Addr} {cols cols' cols0 : List Row} {m n : Nat} (h : St C b t p t2 p2 cols cols0 m n) (pp : p ≠ p2) : St (updC C p (.dic (kvsOf cols'))) b t p t2 p2 cols' cols0 m n := by
  refine ⟨h.bag.upd fun e => ?_, h.tab.put, ?_, ?_⟩
  · obtain ⟨u, v, w, hc, _⟩ := h.bag
    have a := h.tab.dic
    rw [← e, hc] at a
    cases a
  · rw [updC_ne (fun e => by have a := h.bef.ins; rw [e, h.tab.dic] at a; cases a)]
    exact h.bef.ins
  · rw [updC_ne (Ne.symm pp)]
    exact h.bef.dic
def sp_l_right : DSp := fun ds C Q _ => ∃ b, ds = [.ref b] ∧ BagAt C b 0 ∧ ∀ C', Q (.bl true) C'
def td_l_right : DS :=
  (dSeq (dAsg (dCall sp_l_columns [] (dCons (dVar 0) (dCons (dC (.int 4)) dNil))) (dName 1))
    (dSeq (dPar 2 3 (dCons (dMake "Table" (pos2 sp_Table_initC []) (dCons (dCall sp_l_copied [] (dCons (dVar 1) dNil)) dNil) dNil) (dCons (dCB rLen (dCons (dOp rIx (dOp rIx (dVar 1) (dC (.int 0))) (dC (.int 1))) dNil)) dNil)))
    (dSeq (dPar 4 5 (dCons (dVar 1) (dCons (dMeth "Table" "only" (pos2 sp_Table_only []) (dVar 2) (dCons (dListR (dVar 3)) dNil) dNil) dNil)))
    (dSeq (dFor (diRng1 (dCons (dAdd (dC (.int 4)) (dCall sp_l_take [] (dCons (dVar 0) (dCons (dC (.int 7)) dNil)))) dNil)) (dName 6)
    (dSeq (dAsg (dCall sp_l_name [] (dCons (dVar 0) (dCons (dVar 1) dNil))) (dName 7))
    (dSeq (dAsg (dIf (dTest (dOp rGtD (dCall sp_l_take [] (dCons (dVar 0) (dCons (dC (.int 4)) dNil))) (dC (.int 0)))) (dVar 3) (dCall sp_l_take [] (dCons (dVar 0) (dCons (dC (.int 6)) dNil)))) (dName 8))
    (dSeq (dAsg (dFz (dLc (diRng1 (dCons (dVar 8) dNil)) (dName 15) dYes (dCall sp_l_text [] (dCons (dVar 0) dNil)) [15])) (dName 9))
    (dSeq (dPar3 10 11 12 (dCons (dCB rListC (dCons (dVar 9) dNil)) (dCons (dC .non) (dCons (dMeth "Table" "names" (pos2 sp_Table_namesC []) (dVar 2) dNil dNil) dNil))))
    (dSeq (dAsg (dCB rReprC (dCons (dVar 12) dNil)) (dName 13))
    (dSeq (dTry [("BadTable", true)] 14 (fun Ex => (dAsg (dVar 10) (dgSubX Ex "Table" (pos2 sp_Table_setitemX []) (dVar 2) (dVar 7))))
      (fun a c ds => (dSeq (dIfS (dOr (dNot (dTest (dXis a true (dVar 14)))) (dTest (dXis a false (dVar 14)))) (dRet (dC (.bl false))) dNext)
    (dAsg (dLst (dCons (dXf a ds "part" (dVar 14)) dNil)) (dName 11)))) (fun _ => noX))
    (dSeq (dIfS (dOr (dTest (dOp rNeC (dVar 10) (dVar 9))) (dTest (dOp rNeD (dCB rReprC (dCons (dVar 12) dNil)) (dVar 13)))) (dRet (dC (.bl false))) dNext)
    (dSeq (dDrop (dBM "list" rAppend (dVar 10) (dCons (dC (.str [108, 97, 116, 101, 114])) dNil)))
    (dSeq (dDrop (dBM0 "list" rReverse (dVar 10)))
    (dSeq (dIfS (dOr (dNot (dTest (dCall sp_l_is_word [] (dCons (dVar 7) dNil)))) (dTest (dOp rNeD (dVar 8) (dVar 3)))) (dIfS (dOr (dTest (dOp rIsN (dVar 11) (dC .non))) (dTest (dOp rNeD (dCB rRepr (dCons (dVar 11) dNil)) (dCB rRepr (dCons (dLst (dCons (dVar 7) dNil)) dNil))))) (dRet (dC (.bl false))) dNext) (dSeq (dIfS (dTest (dOp rNotN (dVar 11) (dC .non))) (dRet (dC (.bl false))) dNext)
    (dAsg (dCall sp_l_put [] (dCons (dVar 1) (dCons (dVar 7) (dCons (dVar 9) dNil)))) (dName 1))))
    (dIfS (dOr (dNot (dTest (dCall sp_l_is_as [] (dCons (dVar 2) (dCons (dVar 1) dNil))))) (dNot (dTest (dCall sp_l_is_as [] (dCons (dVar 5) (dCons (dVar 4) dNil)))))) (dRet (dC (.bl false))) dNext))))))))))))
    (dRet (dC (.bl true)))))))
theorem len_l_right (ds : List D) (C : Cl) (Q : DQ) (E : DX) (h : sp_l_right ds C Q E) : ds.length = 1 := by repeat (first | (obtain ⟨rfl, _⟩ := h; exact rfl) | (obtain ⟨_, h⟩ := h))
theorem pure_l_right (ds : List D) (C : Cl) (Q : DQ) (E : DX) (h : sp_l_right ds C Q E) : td_l_right (endsD Q) (startD ["_law_bag_here", "_law_columns_here", "_law_table", "_law_size", "_law_first", "_law_before", "_law_turn", "_law_thing", "_law_many", "_law_texts", "_law_handed", "_law_part", "_law_held", "_law_shown", "e", "_law_k"] ds) C := by
  obtain ⟨b, rfl, hb, hq⟩ := h
  unfold td_l_right
  refine v_ends ?_
  simp only [startD, List.map_cons, List.map_nil, List.length_cons, List.length_nil, Nat.reduceAdd, Nat.reduceSub, List.reduceReplicate, List.cons_append, List.nil_append]
  array_mem_dec
  refine ⟨b, 4, 0, rfl, by decide, hb, by decide, fun cols0 m C1 dr hm B1 => ?_⟩
  have ok0 := dr.ok
  have l4 := dr.l4
  have l1 : 1 ≤ cols0.length := List.length_pos_iff.mpr ok0.ne
  obtain ⟨r0, e0⟩ : ∃ r0, cols0[0]? = some r0 := ⟨_, List.getElem?_eq_getElem l1⟩
  have ro0 := ok0.row r0 (List.mem_of_getElem? e0)
  array_mem_dec
  refine ⟨cols0, rfl, by omega, fun q xs C2 hq0 hq1 hr sub _ => ?_⟩
  array_mem_dec
  refine mk_tabC (walks_ref hq1) hr ok0 fun t p C3 s3 ht1 hp1 T1 => ?_
  have hb3 : BagAt C3 b 10000000 := (B1.at.sub (sub.trans s3)).mono (by omega)
  array_mem_dec
  refine v_ixL (d := .tup [.str r0.1, .lst (txts r0.2)]) (atI_nat (j := 0) (by rw [List.getElem?_map, e0]; rfl)) ?_
  array_mem_dec
  rw [txts_lenG, ro0.len]
  array_mem_dec
  refine ⟨_, T1.insOf, rfl, ?_⟩
  array_mem_dec
  unfold dListR
  array_mem_dec
  refine ⟨m, rfl, by omega, ?_⟩
  rw [ranged_ints]
  array_mem_dec
  refine ⟨t, p, cols0, m, .lst (intsD (List.range m)), List.range m, _, rfl, T1, ok0, walks_lst, fun i hi => List.mem_range.mp hi, by rw [List.length_range]; omega, fun t2 p2 C4 s4 _ hp2 T2 => ?_⟩
  rw [only_all ok0, List.length_range] at T2
  have pp : p ≠ p2 := T1.nep hp2
  have S4 : St C4 b t p t2 p2 cols0 cols0 m 10000000 := ⟨hb3.sub s4, T1.sub s4, T2⟩
  clear T1 T2 hb3 hr hq1 sub s3 s4 ht1 hp1 hp2
  array_mem_dec
  refine ⟨_, _, rfl, ?_⟩
  array_mem_dec
  refine v_for ?_
  array_mem_dec
  refine ⟨b, 7, _, rfl, by decide, by decide, S4.bag, by decide, fun z C5 z0 z1 B5 => ?_⟩
  array_mem_dec
  refine ⟨4 + z, rfl, ⟨by omega, by omega⟩, ?_⟩
  refine ⟨fun i ρ' C' => ∃ cols y6 y7 y8 y9 y10 y11 y12 y13 y14 y15, ρ' = [some (.ref b), some (.lst (cols.map rowD)), some (.ref t), some (.int (m : Nat)), some (.lst (cols0.map rowD)), some (.ref t2), y6, y7, y8, y9, y10, y11, y12, y13, y14, y15] ∧ ColOk cols m ∧ cols.length ≤ 4 + i ∧ St C' b t p t2 p2 cols cols0 m (11000000 + i * 1000000), ⟨cols0, _, _, _, _, _, _, _, _, _, _, rfl, ok0, by omega, (S4.bagged B5).mono (by omega)⟩, fun i x ρ' C' hx hP => ?_, fun ρ' C' hP => ?_⟩
  · obtain ⟨cols, y6, y7, y8, y9, y10, y11, y12, y13, y14, y15, rfl, ok, lc, S6⟩ := hP
    obtain ⟨hi, rfl⟩ := ranged_get hx
    have i11 : i ≤ 10 := by omega
    array_mem_dec
    refine ⟨b, cols, m, _, rfl, ok, by omega, S6.bag, by omega, fun d C7 nd B7 => ?_⟩
    have S7 := S6.bagged B7
    clear S6 B7
    refine v_name7 ?_
    refine v_seq ?_
    refine v_cut (fun ρ' C' => ∃ k : Nat, k ≤ 5 ∧ ρ' = [some (.ref b), some (.lst (cols.map rowD)), some (.ref t), some (.int (m : Nat)), some (.lst (cols0.map rowD)), some (.ref t2), some (.int (0 + (i : Int))), some d, some (.int (k : Nat)), y9, y10, y11, y12, y13, y14, y15] ∧ St C' b t p t2 p2 cols cols0 m (11000000 + i * 1000000 + 20010)) (fun ρ' C8 ⟨k, hk, eρ, S8⟩ => ?_) fun n' hn' => ?_
    rotate_left
    · array_mem_dec
      refine ⟨b, 4, _, rfl, by decide, by decide, S7.bag, by omega, fun j C8 j0 j1 B8 => ?_⟩
      have S8 := S7.bagged B8
      array_mem_dec
      refine ite_d (fun e => ?_) (fun e => ?_)
      · array_mem_dec
        exact hn' _ _ ⟨m, by omega, rfl, S8.mono (by omega)⟩
      · array_mem_dec
        refine ⟨b, 6, _, rfl, by decide, by decide, S8.bag, by omega, fun j2 C9 j20 j21 B9 => ?_⟩
        have S9 := S8.bagged B9
        array_mem_dec
        exact hn' _ _ ⟨j2.toNat, by omega, by rw [show ((j2.toNat : Nat) : Int) = j2 by omega], S9.mono (by omega)⟩
    subst eρ
    clear S7
    array_mem_dec
    refine lc_bagW (k := 20000) (b := b) (xs := ranged 0 k) (fun y => ∃ l, y = .str l ∧ TxtD l) (fun R h => ?_) S8.bag (by rw [ranged_length]; exact szl (by omega)) (fun i2 x2 C10 N2 hx2 hb10 _ hN2 => ?_) fun ys C10 hyl hY B10 => ?_
    · array_mem_dec
      refine ⟨(k : Int), rfl, ⟨by omega, by omega⟩, ?_⟩
      exact h
    · have i2l := (ranged_get hx2).1
      array_mem_dec
      refine ⟨b, _, rfl, hb10, by omega, fun t C11 tl ta _ B11 => hN2 _ C11 ⟨t, rfl, tl, ta⟩ (B11.mono (by omega))⟩
    obtain ⟨ts, rfl, hts⟩ := txts_of hY
    rw [txts_lenG, ranged_length] at hyl
    have S10 := (S8.bagged B10).mono (k := 11000000 + i * 1000000 + 900000) (by rw [ranged_length]; omega)
    clear S8 B10 hY
    array_mem_dec
    refine ⟨_, _, rfl, rfl, fun c hc => ?_⟩
    array_mem_dec
    have s11 : SubC C10 (updC C10 c (.lst (txts ts))) := (SubC.refl C10).new hc
    have S11 := S10.sub s11
    have bc : b ≠ c := S10.bag.ne hc
    have hc1 : updC C10 c (.lst (txts ts)) c = some (.lst (txts ts)) := updC_same
    revert S11 hc1
    clear s11
    generalize updC C10 c _ = C11
    intro S11 hc1
    clear S10 hc
    refine ⟨_, S11.tab.insOf, rfl, ?_⟩
    array_mem_dec
    refine ⟨t, p, cols, m, rfl, S11.tab, fun h hh => ?_⟩
    have s12 : SubC C11 (updC C11 h (.lst (txts (namesR cols)))) := (SubC.refl C11).new hh
    have S12 := S11.sub s12
    have hc2 := s12 _ _ hc1
    have pc : c ≠ h := fun z => by rw [z, hh] at hc1; cases hc1
    have hh1 : updC C11 h (.lst (txts (namesR cols))) h = some (.lst (txts (namesR cols))) := updC_same
    have ph : p ≠ h := S11.tab.nep hh
    revert S12 hc2 hh1
    clear s12
    generalize updC C11 h _ = C12
    intro S12 hc2 hh1
    clear S11 hc1 hh
    array_mem_dec
    refine v_reprC hh1 (shw_names ok (by omega)) (by decide) (by decide) ?_
    refine v_name13 ?_
    refine v_seq ?_
    obtain ⟨N, eN⟩ : ∃ N, N = 11000000 + i * 1000000 + 900000 := ⟨_, rfl⟩
    rw [← eN] at S12
    refine v_cut (fun ρ' C' => ∃ w cols' z14, ρ' = [some (.ref b), some (.lst (cols.map rowD)), some (.ref t), some (.int (m : Nat)), some (.lst (cols0.map rowD)), some (.ref t2), some (.int (0 + (i : Int))), some d, some (.int (k : Nat)), some (.lst (txts ts)), some (.ref c), some w, some (.ref h), some (.str (reprD (.lst (txts (namesR cols))))), z14, y15] ∧ St C' b t p t2 p2 cols' cols0 m N ∧ C' c = some (.lst (txts ts)) ∧ C' h = some (.lst (txts (namesR cols))) ∧ ((onStr isWord d = true ∧ ts.length = m ∧ w = .non ∧ cols' = putC cols (nameOf d) ts) ∨ (¬ (onStr isWord d = true ∧ ts.length = m) ∧ w = .lst [d] ∧ cols' = cols))) (fun ρ' C13 ⟨w, cols', z14, eρ, S13, hc3, hh3, hw⟩ => ?_) fun n' hn' => ?_
    rotate_left
    · array_mem_dec
      unfold dgSubX
      array_mem_dec
      have lp : ∀ {a : Addr} {L : List D}, C12 a = some (.lst L) → a ≠ p := fun ha e => by rw [e, S12.tab.dic] at ha; cases ha
      refine ⟨_, S12.tab.insOf, rfl, t, p, cols, m, d, .ref c, ts, rfl, S12.tab, by omega, nd, by show cellL C12 c = _; unfold cellL; rw [hc2], fun g1 g2 => ?_, fun ng => ?_⟩
      · exact hn' _ _ ⟨.non, putC cols (nameOf d) ts, _, rfl, S12.put pp, by rw [updC_ne (lp hc2)]; exact hc2, by rw [updC_ne (lp hh1)]; exact hh1, .inl ⟨g1, g2, rfl, rfl⟩⟩
      · refine v_catch rfl fun a _ => ?_
        dsimp only
        array_mem_dec
        exact hn' _ _ ⟨.lst [d], cols, _, rfl, S12, hc2, hh1, .inr ⟨ng, rfl, rfl⟩⟩
    subst eρ
    clear S12 hc2 hh1
    array_mem_dec
    refine neC_self hc3 (n := 1) (sh_lst (n := 0) (sh_txts fun l hl => small_ok (hts l hl).2)) ?_
    array_mem_dec
    refine v_reprC hh3 (shw_names ok (by omega)) (by decide) (by decide) ?_
    array_mem_dec
    refine ⟨.inl ⟨rfl, _, hc3⟩, ?_⟩
    array_mem_dec
    refine ⟨c, _, _, rfl, rfl, hc3, lt_sz (by rw [txts_lenG]; omega), ?_⟩
    have S14 := S13.lst (ys := txts ts ++ [D.str [108, 97, 116, 101, 114]]) bc hc3
    have hc4 : updC C13 c (.lst (txts ts ++ [D.str [108, 97, 116, 101, 114]])) c = some (.lst (txts ts ++ [D.str [108, 97, 116, 101, 114]])) := updC_same
    revert S14 hc4
    generalize updC C13 c _ = C14
    intro S14 hc4
    array_mem_dec
    refine ⟨.inl ⟨rfl, _, hc4⟩, ?_⟩
    refine ⟨c, _, rfl, rfl, hc4, ?_⟩
    have S15 := S14.lst (ys := (txts ts ++ [D.str [108, 97, 116, 101, 114]]).reverse) bc hc4
    revert S15
    generalize updC C14 c _ = C15
    intro S15
    clear S13 S14 hc3 hc4
    refine v_seq ?_
    refine v_cut (fun ρ' C' => ∃ cols2, ρ' = [some (.ref b), some (.lst (cols2.map rowD)), some (.ref t), some (.int (m : Nat)), some (.lst (cols0.map rowD)), some (.ref t2), some (.int (0 + (i : Int))), some d, some (.int (k : Nat)), some (.lst (txts ts)), some (.ref c), some w, some (.ref h), some (.str (reprD (.lst (txts (namesR cols))))), z14, y15] ∧ St C' b t p t2 p2 cols2 cols0 m N ∧ ColOk cols2 m ∧ cols2.length ≤ cols.length + 1) (fun ρ' C16 ⟨cols2, eρ, S16, ok2, l2⟩ => ?_) fun n' hn' => ?_
    rotate_left
    · have sh1 : Shw 6 2010 (.lst [d]) := (shw_lst (shw_cons nd.sh (shw_nil (m := 0)))).mono (by decide) (by decide)
      array_mem_dec
      refine ⟨d, rfl, nd.known _, ?_⟩
      rcases hw with ⟨g1, g2, rfl, rfl⟩ | ⟨ng, rfl, rfl⟩
      · obtain ⟨ed, hwd⟩ := str_of g1
        rw [g1]
        array_mem_dec
        refine ⟨cols, nameOf d, ts, by rw [← ed], by omega, ?_⟩
        array_mem_dec
        obtain ⟨o1, o2⟩ := putOk ok (by omega) hwd g2 hts
        exact hn' _ _ ⟨putC cols (nameOf d) ts, rfl, S15, o1, o2⟩
      · cases ew : onStr isWord d with
        | false =>
          array_mem_dec
          rw [show isNonD (D.lst [d]) = false from rfl]
          array_mem_dec
          refine v_repr sh1 (by decide) (by decide) ?_
          array_mem_dec
          refine v_repr sh1 (by decide) (by decide) ?_
          array_mem_dec
          exact hn' _ _ ⟨_, rfl, S15, ok, by omega⟩
        | true =>
          array_mem_dec
          refine ite_nd (fun e => ?_) (fun e => ?_)
          · array_mem_dec
            rw [show isNonD (D.lst [d]) = false from rfl]
            array_mem_dec
            refine v_repr sh1 (by decide) (by decide) ?_
            array_mem_dec
            refine v_repr sh1 (by decide) (by decide) ?_
            array_mem_dec
            exact hn' _ _ ⟨_, rfl, S15, ok, by omega⟩
          · have e' : (k : Int) = (m : Int) := e
            exact absurd ⟨ew, by omega⟩ ng
    subst eρ
    clear S15
    array_mem_dec
    refine ⟨t, p, cols2, m, rfl, S16.tab, ok2, by omega, fun C17 s17 => ?_⟩
    array_mem_dec
    refine ⟨t2, p2, cols0, m, rfl, S16.bef.sub s17, ok0, by omega, fun C18 s18 => ?_⟩
    have S18 := S16.sub (s17.trans s18)
    array_mem_dec
    exact ⟨cols2, _, _, _, _, _, _, _, _, _, _, rfl, ok2, by omega, S18.mono (by omega)⟩
  · obtain ⟨cols, y6, y7, y8, y9, y10, y11, y12, y13, y14, y15, rfl, ok, lc, S6⟩ := hP
    array_mem_dec
    exact hq _
def td_law : DS :=
  (dSeq (dFor (diRng1 (dCons (dCB rMax2 (dCons (dC (.int 1)) (dCons (dCB rMin2 (dCons (dC (.int 5)) (dCons (dCB rLen (dCons (dVar 0) dNil)) dNil))) dNil))) dNil)) (dName 1)
    (dIfS (dNot (dTest (dCall sp_l_right [] (dCons (dCall sp_l_bag [] (dCons (dVar 0) (dCons (dVar 1) dNil))) dNil)))) (dRet (dC (.bl false))) dNext))
    (dRet (dC (.bl true))))
theorem pure_law (ds : List D) (C : Cl) (Q : DQ) (E : DX) (h : sp_law ds C Q E) : td_law (endsD Q) (startD ["_law_script", "_law_at"] ds) C := by
  obtain ⟨ns, rfl, hl, hq⟩ := h
  dsimp only [td_law, dSeq, dFor]
  refine law_rng (ns := ns) (m := 5) (ρ := [some (.rol (ns.map D.int)), none]) rfl hl fun n hn => ?_
  refine ⟨fun i ρ C' => ∃ x, ρ = [some (.rol (ns.map D.int)), x], ⟨_, rfl⟩, ?_, ?_⟩
  · rintro i d ρ C' hx ⟨x, rfl⟩
    obtain ⟨hi, rfl⟩ := ranged_get hx
    rw [show (0 : Int) + (i : Int) = (i : Int) by omega]
    refine ⟨_, rfl, _, rfl, ns, i, rfl, by omega, fun b C1 hb B1 => ?_⟩
    exact ⟨b, rfl, B1.at, fun C3 => ⟨_, rfl, iteF ⟨_, rfl⟩⟩⟩
  · rintro ρ C' ⟨x, rfl⟩
    exact ⟨_, _, .same, hq _⟩
end G
set_option maxHeartbeats 2000000
namespace G
open PySem PySem.Spec PyProof.Rows L2
/-! ### the end: the law is called where nothing is being shown; ts: tables that stand empty -/
/-- what is tracked at the start: the empty tables, the script if the module does not own it -/
def H00 (ts : List Addr) (b : Bool) (a : Addr) (o : Obj) (xs : List V) : Hp := fun x => if x ∈ ts then some (.tbl #[]) else if x = a ∧ b = true then some (.frz o (.lst xs)) else none
theorem call_law {P : Program} {w : World} {K : PySem.W.Frag} {mg mb : Str → Option Value} {CX : CXT} {k : Nat} {fa a : Addr} {cs : List (Addr × Addr)} {fd : FuncData} {x : Str} {sp : Sp} {t : Shared} {vs : List Value} {ns : List Int}
    (KX : K.In t.heap) (hns : t.heap.Ns mainGlobals mg) (hbn : t.heap.Ns builtinsNs mb) (hbb : ∀ x : Str, x ≠ "__name__" → mb x = bootBuiltins x) (hlim : t.heap.NoLimit) (hg : t.gens = #[])
    (hT : ∀ p ∈ cs, t.heap.get? p.2 = some { cls := .none, data := .fields #[] }) (nT : ∀ p ∈ cs, K.lookup p.2 = none) (cd : ∀ p ∈ cs, PySem.W.codeHdIn K p.1 p.2 = true)
    (hbm : ∃ (bm : Addr) (ob : Obj), mg "__builtins__" = some (.ref bm) ∧ bm ≠ builtinsNs ∧ t.heap.get? bm = some ob ∧ ob.cls = .type "module" ∧ ob.dict = some builtinsNs ∧ ob.data = .plain)
    (ha : t.heap.get? a = some { cls := .type "list", data := .seq vs.toArray }) (hi : IntsAre vs ns) (hl : ns.length ≤ sizeLine) (hr : Room k callerA)
    (F : ∀ base : Heap, K.In base → base.Ns mainGlobals mg → (∀ p ∈ cs, LamX.TabB base mg p.1 p.2) → FnOk P w K mg base CX k fa fd [x] sp) (hbind : ∀ (s : Shared) (u : Value), BindsTo s fd ⟨[u], []⟩ [(x, u)])
    (hsp : ∀ H : Hp, (∀ p ∈ cs, H p.2 = some (.tbl #[])) → SqL K H a (ns.map V.int) → sp [.ref a] H (fun v _ => v = .bl true) fun _ _ _ => False)
    (hCX : ∀ H e s', CX [] H t (fun _ _ _ => False) e s' → False) :
    codeAny (model P w) callerA (.call (.ref fa) ⟨[.ref a], []⟩) (fun r s' => r = .ok (.ret (.bool true)) ∧ OldK t.heap s'.heap ∧ s'.os = t.os ∧ AllBare s'.gens) t := by
  have rv := vals_ints hi
  generalize hts : cs.map (·.2) = ts
  have inT : ∀ {p}, p ∈ cs → p.2 ∈ ts := fun {p} hp => by rw [← hts]; exact List.mem_map.mpr ⟨p, hp, rfl⟩
  have ofT : ∀ {b}, b ∈ ts → ∃ p ∈ cs, p.2 = b := fun {b} hb => by
    rw [← hts] at hb
    obtain ⟨p, hp, e⟩ := List.mem_map.mp hb
    exact ⟨p, hp, e⟩
  have getT : ∀ {b}, b ∈ ts → t.heap.get? b = some { cls := .none, data := .fields #[] } := fun hb => by
    obtain ⟨p, hp, rfl⟩ := ofT hb
    exact hT p hp
  have na : a ∉ ts := fun z => by
    have e := getT z
    rw [ha] at e
    have e2 : Data.seq vs.toArray = Data.fields #[] := congrArg Obj.data (Option.some.inj e)
    cases e2
  generalize hob : ({ cls := .type "list", data := .seq vs.toArray } : Obj) = oa at ha
  generalize hz : (K.lookup a).isNone = z
  generalize hH : H00 ts z a oa (ns.map V.int) = H
  have H1 : ∀ {b}, b ∈ ts → H b = some (.tbl #[]) := fun hb => by rw [← hH]; exact if_pos hb
  have H2 : ∀ b u, H b = some u → (b ∈ ts ∧ u = .tbl #[]) ∨ (b = a ∧ z = true ∧ u = .frz oa (.lst (ns.map V.int))) := fun b u e => by
    rw [← hH] at e
    unfold H00 at e
    split at e
    · cases e; exact .inl ⟨‹_›, rfl⟩
    · split at e
      · cases e; rename_i q; exact .inr ⟨q.1, q.2, rfl⟩
      · cases e
  have free : ∀ {b : Addr} {o : Obj}, t.heap.get? b = some o → (∀ us n, o.data ≠ .seq us n) → o.data ≠ .fields #[] → H b = none := fun {b o} e h1 h2 => by
    cases q : H b with
    | none => rfl
    | some u =>
      rcases H2 b u q with ⟨m, _⟩ | ⟨rfl, _⟩
      · rw [getT m] at e
        cases e
        exact absurd rfl h2
      · rw [ha] at e
        cases e
        rw [← hob] at h1
        exact absurd rfl (h1 _ _)
  have kept : ∀ {b : Addr} {o : Obj}, t.heap.get? b = some o → H b = none → (hidT t.heap H).get? b = some o := fun e n => hidT_get e n
  have nsOk : ∀ {b : Addr} {m : Str → Option Value}, t.heap.Ns b m → (hidT t.heap H).Ns b m := fun {b m} ⟨o, es, ep, e, d, r⟩ =>
    ⟨o, es, ep, kept e (free e (fun us n y => by rw [d] at y; cases y) fun y => by rw [d] at y; cases y), d, r⟩
  have KB : K.In (hidT t.heap H) := fun b o e => by
    refine kept (KX b o e) ?_
    cases q : H b with
    | none => rfl
    | some u =>
      rcases H2 b u q with ⟨m, _⟩ | ⟨rfl, h1, _⟩
      · obtain ⟨p, hp, rfl⟩ := ofT m
        rw [nT p hp] at e; cases e
      · rw [← hz, e] at h1; cases h1
  have hM : L2.Mod K mg (hidT t.heap H) := ⟨KB, nsOk hns, ⟨mb, nsOk hbn, hbb⟩, let ⟨mc, h1, h2⟩ := hlim; ⟨mc, nsOk h1, h2⟩⟩
  have TB : ∀ p ∈ cs, LamX.TabB (hidT t.heap H) mg p.1 p.2 := fun p hp => by
    refine ⟨PySem.W.codeHd_of_K KB (cd p hp), ?_, fun y => ?_⟩
    · obtain ⟨bm, ob, b1, b2, b3, b4, b5, b6⟩ := hbm
      refine ⟨bm, ob, b1, b2, fun y => ?_, fun y => ?_, kept b3 (free b3 (fun us n y => by rw [b6] at y; cases y) fun y => by rw [b6] at y; cases y), b4, b5, b6⟩
      · obtain ⟨o, es, ep, e, d, _⟩ := hns
        rw [y, e] at b3
        cases b3
        rw [d] at b6; cases b6
      · rw [y, hT p hp] at b3
        cases b3; cases b6
    · obtain ⟨o, es, ep, e, d, _⟩ := hns
      rw [y, hT p hp] at e
      cases e; cases d
  have hok : HOk P w H t.heap := fun b u e => by
    rcases H2 b u e with ⟨m, rfl⟩ | ⟨rfl, _, rfl⟩
    · exact getT m
    · exact ⟨ha, by rw [List.length_map]; exact hl, vs, _, rv, by rw [hob]; exact ha⟩
  have sq : SqL K H a (ns.map V.int) := by
    cases q : K.lookup a with
    | some o =>
      have e := KX a o q
      rw [ha] at e
      cases e
      exact .inr ⟨_, vs.toArray, _, q, by rw [← hob], by rw [← hob], by rw [← hob], by rw [List.size_toArray, hi.length]; exact hl, by simpa using rv⟩
    | none =>
      refine .inl (.inr ⟨oa, ?_⟩)
      rw [← hH]
      unfold H00
      rw [if_neg na, if_pos ⟨rfl, by rw [← hz, q]; rfl⟩]
  have e0 : Env0 P w K mg (hidT t.heap H) callerA [] t H := ⟨rfl, hM, fun b o e => of_hidT e, Nat.le_of_eq (hidT_size _ _), trivial, fun b hb => absurd (show b ∈ ([] : List Addr) from hb) (by simp), hok, .of_eq hg⟩
  refine codeAny_mono ((F _ KB (nsOk hns) TB).run callerA [] t H ⟨[.ref a], []⟩ [.ref a] [.ref a] _ _ hr e0 (hbind t (.ref a)) (.cons rfl .nil) (hsp H (fun p hp => H1 (inT hp)) sq)) fun res s' h => ?_
  cases res with
  | error e => exact (hCX H e s' h).elim
  | ok fl =>
    cases fl with
    | next => exact False.elim h
    | brk => exact False.elim h
    | cont => exact False.elim h
    | ret u =>
      obtain ⟨v, H', os, bare, un, hok', r', q⟩ := h
      obtain rfl : v = .bl true := q
      obtain rfl : u = Value.bool true := r'
      have old : ∀ b o, b ∉ ts → t.heap.get? b = some o → s'.heap.get? b = some o := fun b o nb e => by
        cases q : H b with
        | none => exact un.keep b o e q (by intro y; exact absurd (show b ∈ ([] : List Addr) from y) (by simp)) (by simp)
        | some u =>
          rcases H2 b u q with ⟨m, _⟩ | ⟨rfl, _, rfl⟩
          · exact absurd m nb
          · have q2 := un.frzs _ oa _ q
            obtain ⟨y1, _⟩ := hok' _ _ q2
            rw [ha] at e; cases e
            exact y1
      have grown : ∀ b, b ∈ ts → ∃ more : Array Value, s'.heap.get? b = some { cls := .none, data := .fields more } := fun b hb => by
        obtain ⟨more, y⟩ := un.tbls b #[] (H1 hb)
        exact ⟨_, hok' b _ y⟩
      refine ⟨rfl, ⟨fun b o e => ?_, fun b o e => ?_⟩, os, bare⟩
      · by_cases hb : b ∈ ts
        · obtain ⟨more, hm⟩ := grown b hb
          obtain ⟨p, hp, rfl⟩ := ofT hb
          rw [hT p hp] at e
          cases e
          have c := PySem.W.codeHd_of_K KX (cd p hp)
          exact .inr (.inl ⟨(c.tab (hT p hp)).isCodeTable, rfl, #[], more, rfl, by rw [Array.empty_append]; exact hm⟩)
        · exact .inl (old b o hb e)
      · by_cases hb : b ∈ ts
        · obtain ⟨more, hm⟩ := grown b hb
          exact ⟨_, hm⟩
        · exact ⟨o, old b o hb e⟩
theorem roomG {k : Nat} (h : L2.Room k callerA) : Room k callerA := ⟨h, rfl⟩
/-- the end of a law -/
theorem walk_G {l : PySem.W.OpenLaw} {n k : Nat} {q : Program} {loose : List Str} {XP : (Str → Option Value) → Heap → Prop} {YP : World → Heap → Prop} {d : DefRec} {CX : CXT} {x : Str} (hn : l.most = some n) (hn2 : n ≤ sizeLine) (hdf : d.params.defaults = []) (hr : L2.Room k callerA)
    (F : ∀ (w : World) (mg : Str → Option Value) (fa : Addr) (h : Heap), YP w h → h.Ns mainGlobals mg → mg d.name = some (.ref fa) →
      ∃ (K : PySem.W.Frag) (fd : FuncData) (cs : List (Addr × Addr)) (sp : Sp), K.In h ∧ (∀ p ∈ cs, h.get? p.2 = some { cls := .none, data := .fields #[] }) ∧ (∀ p ∈ cs, K.lookup p.2 = none) ∧ (∀ p ∈ cs, PySem.W.codeHdIn K p.1 p.2 = true) ∧ (∀ (s : Shared) (u : Value), BindsTo s fd ⟨[u], []⟩ [(x, u)]) ∧
        (∀ (H : Hp) (a : Addr) (ns : List Int), ns.length ≤ n → (∀ p ∈ cs, H p.2 = some (.tbl #[])) → SqL K H a (ns.map V.int) → sp [.ref a] H (fun v _ => v = .bl true) fun _ _ _ => False) ∧
        ∀ base : Heap, K.In base → base.Ns mainGlobals mg → (∀ p ∈ cs, LamX.TabB base mg p.1 p.2) → FnOk l.prog w K mg base CX k fa fd [x] sp)
    (hCX : ∀ (H : Hp) (s : Shared) (e : Value) (s' : Shared), CX [] H s (fun _ _ _ => False) e s' → False) : PySem.W.WalkO q loose XP YP l.row.toRowW d [] fun f vs => PySem.call f vs := by
  refine Att.attach_callB hn hdf fun w s₀ t mg mb fa o pm cd doc a vs ns G Y ho hd hcd hmg hobj hints hlen hbits hg => ?_
  obtain ⟨K, fd, cs, sp, KX, hT, nT, hc, hb, hsp, hF⟩ := F w mg fa _ Y G.T.g hmg
  exact call_law KX G.T.g G.T.b G.T.builtins G.T.nolimit hg hT nT hc G.T.bmain hobj hints (Nat.le_trans hlen hn2) (roomG hr) hF hb (fun H hH hS => hsp H a ns hlen hH hS) fun H e s' => hCX H t e s'
end G
namespace Lw
open PySem PySem.Spec PyProof.Rows L2 G
theorem sc_l_take : FnScope ["_law_bag_here", "_law_many", "_law_digit", "_law_mixed"] ["_law_bag_here", "_law_many"] (defScope s_l_take) := ⟨rfl, rfl, rfl, by decide +kernel, rfl, by decide +kernel, by decide +kernel⟩
theorem sc_Table_getitemC : FnScope ["self", "name"] ["self", "name"] (defScope s_Table_getitemC) := ⟨rfl, rfl, rfl, by decide +kernel, rfl, by decide +kernel, by decide +kernel⟩
theorem sc_Table_containsC : FnScope ["self", "name"] ["self", "name"] (defScope s_Table_containsC) := ⟨rfl, rfl, rfl, by decide +kernel, rfl, by decide +kernel, by decide +kernel⟩
theorem sc_Table_row_at : FnScope ["self", "at", "name"] ["self", "at"] (defScope s_Table_row_at) := ⟨rfl, rfl, rfl, by decide +kernel, rfl, by decide +kernel, by decide +kernel⟩
theorem sc_is_word : FnScope ["thing", "sign"] ["thing"] (defScope s_is_word) := ⟨rfl, rfl, rfl, by decide +kernel, rfl, by decide +kernel, by decide +kernel⟩
theorem sc_Table_initC : FnScope ["self", "columns", "held", "at", "name", "texts"] ["self", "columns"] (defScope s_Table_initC) := ⟨rfl, rfl, rfl, by decide +kernel, rfl, by decide +kernel, by decide +kernel⟩
theorem sc_Table_namesC : FnScope ["self"] ["self"] (defScope s_Table_namesC) := ⟨rfl, rfl, rfl, by decide +kernel, rfl, by decide +kernel, by decide +kernel⟩
theorem sc_Table_add : FnScope ["self", "other", "name"] ["self", "other"] (defScope s_Table_add) := ⟨rfl, rfl, rfl, by decide +kernel, rfl, by decide +kernel, by decide +kernel⟩
theorem sc_Table_only : FnScope ["self", "rows", "name", "at"] ["self", "rows"] (defScope s_Table_only) := ⟨rfl, rfl, rfl, by decide +kernel, rfl, by decide +kernel, by decide +kernel⟩
theorem sc_Table_lenC : FnScope ["self"] ["self"] (defScope s_Table_lenC) := ⟨rfl, rfl, rfl, by decide +kernel, rfl, by decide +kernel, by decide +kernel⟩
theorem sc_l_copied : FnScope ["_law_columns_here", "_law_label", "_law_texts"] ["_law_columns_here"] (defScope s_l_copied) := ⟨rfl, rfl, rfl, by decide +kernel, rfl, by decide +kernel, by decide +kernel⟩
theorem sc_Table_eqC : FnScope ["self", "other"] ["self", "other"] (defScope s_Table_eqC) := ⟨rfl, rfl, rfl, by decide +kernel, rfl, by decide +kernel, by decide +kernel⟩
theorem sc_l_is_as : FnScope ["_law_table", "_law_columns_here", "_law_labels", "_law_many", "_law_at", "_law_one", "_law_twice", "_law_label", "_law_texts"] ["_law_table", "_law_columns_here"] (defScope s_l_is_as) := ⟨rfl, rfl, rfl, by decide +kernel, rfl, by decide +kernel, by decide +kernel⟩
theorem sc_l_is_word : FnScope ["_law_thing", "_law_sign"] ["_law_thing"] (defScope s_l_is_word) := ⟨rfl, rfl, rfl, by decide +kernel, rfl, by decide +kernel, by decide +kernel⟩
theorem sc_l_put : FnScope ["_law_columns_here", "_law_thing", "_law_texts", "_law_found", "_law_label", "_law_some"] ["_law_columns_here", "_law_thing", "_law_texts"] (defScope s_l_put) := ⟨rfl, rfl, rfl, by decide +kernel, rfl, by decide +kernel, by decide +kernel⟩
theorem sc_Table_setitemX : FnScope ["self", "name", "texts"] ["self", "name", "texts"] (defScope s_Table_setitemX) := ⟨rfl, rfl, rfl, by decide +kernel, rfl, by decide +kernel, by decide +kernel⟩
theorem sc_l_of : FnScope ["_law_bag_here", "_law_some"] ["_law_bag_here", "_law_some"] (defScope s_l_of) := ⟨rfl, rfl, rfl, by decide +kernel, rfl, by decide +kernel, by decide +kernel⟩
theorem sc_l_digits : FnScope ["_law_bag_here", "_law_least", "_law_most", "_law_found", "_law_turn"] ["_law_bag_here", "_law_least", "_law_most"] (defScope s_l_digits) := ⟨rfl, rfl, rfl, by decide +kernel, rfl, by decide +kernel, by decide +kernel⟩
theorem sc_l_number : FnScope ["_law_bag_here", "_law_most", "_law_sign", "_law_before"] ["_law_bag_here", "_law_most"] (defScope s_l_number) := ⟨rfl, rfl, rfl, by decide +kernel, rfl, by decide +kernel, by decide +kernel⟩
theorem sc_l_signs : FnScope ["_law_some"] [] (defScope s_l_signs) := ⟨rfl, rfl, rfl, by decide +kernel, rfl, by decide +kernel, by decide +kernel⟩
theorem sc_l_text : FnScope ["_law_bag_here", "_law_road", "_law_turn"] ["_law_bag_here"] (defScope s_l_text) := ⟨rfl, rfl, rfl, by decide +kernel, rfl, by decide +kernel, by decide +kernel⟩
theorem sc_l_word : FnScope ["_law_bag_here", "_law_at", "_law_most", "_law_letters", "_law_some", "_law_turn"] ["_law_bag_here", "_law_at", "_law_most"] (defScope s_l_word) := ⟨rfl, rfl, rfl, by decide +kernel, rfl, by decide +kernel, by decide +kernel⟩
theorem sc_l_words : FnScope ["_law_bag_here", "_law_many", "_law_side", "_law_at"] ["_law_bag_here", "_law_many"] (defScope s_l_words) := ⟨rfl, rfl, rfl, by decide +kernel, rfl, by decide +kernel, by decide +kernel⟩
theorem sc_l_name : FnScope ["_law_bag_here", "_law_columns_here", "_law_label", "_law_road", "_law_sign"] ["_law_bag_here", "_law_columns_here"] (defScope s_l_name) := ⟨rfl, rfl, rfl, by decide +kernel, rfl, by decide +kernel, by decide +kernel⟩
theorem sc_l_columns : FnScope ["_law_bag_here", "_law_most", "_law_labels", "_law_size", "_law_label", "_law_turn"] ["_law_bag_here", "_law_most"] (defScope s_l_columns) := ⟨rfl, rfl, rfl, by decide +kernel, rfl, by decide +kernel, by decide +kernel⟩
theorem sc_l_right : FnScope ["_law_bag_here", "_law_columns_here", "_law_table", "_law_size", "_law_first", "_law_before", "_law_turn", "_law_thing", "_law_many", "_law_texts", "_law_handed", "_law_part", "_law_held", "_law_shown", "e", "_law_k"] ["_law_bag_here"] (defScope s_l_right) := ⟨rfl, rfl, rfl, by decide +kernel, rfl, by decide +kernel, by decide +kernel⟩
theorem sc_l_bag : FnScope ["_law_script", "_law_at", "_law_cell", "_law_row"] ["_law_script", "_law_at"] (defScope s_l_bag) := ⟨rfl, rfl, rfl, by decide +kernel, rfl, by decide +kernel, by decide +kernel⟩
theorem sc_law : FnScope ["_law_script", "_law_at"] ["_law_script"] (defScope s_law) := ⟨rfl, rfl, rfl, by decide +kernel, rfl, by decide +kernel, by decide +kernel⟩
theorem sc_BadTable_init : FnScope ["self", "part"] ["self", "part"] (defScope s_BadTable_init) := ⟨rfl, rfl, rfl, by decide +kernel, rfl, by decide +kernel, by decide +kernel⟩
structure Ad where
  cl : Nm
  a_l_take : Addr
  d_l_take : FuncData
  a_Table_getitemC : Addr
  d_Table_getitemC : FuncData
  a_Table_containsC : Addr
  d_Table_containsC : FuncData
  a_Table_row_at : Addr
  d_Table_row_at : FuncData
  a_is_word : Addr
  d_is_word : FuncData
  a_Table_initC : Addr
  d_Table_initC : FuncData
  a_Table_namesC : Addr
  d_Table_namesC : FuncData
  a_Table_add : Addr
  d_Table_add : FuncData
  a_Table_only : Addr
  d_Table_only : FuncData
  a_Table_lenC : Addr
  d_Table_lenC : FuncData
  a_l_copied : Addr
  d_l_copied : FuncData
  a_Table_eqC : Addr
  d_Table_eqC : FuncData
  a_l_is_as : Addr
  d_l_is_as : FuncData
  a_l_is_word : Addr
  d_l_is_word : FuncData
  a_l_put : Addr
  d_l_put : FuncData
  a_Table_setitemX : Addr
  d_Table_setitemX : FuncData
  a_l_of : Addr
  d_l_of : FuncData
  a_l_digits : Addr
  d_l_digits : FuncData
  a_l_number : Addr
  d_l_number : FuncData
  a_l_signs : Addr
  d_l_signs : FuncData
  a_l_text : Addr
  d_l_text : FuncData
  a_l_word : Addr
  d_l_word : FuncData
  a_l_words : Addr
  d_l_words : FuncData
  a_l_name : Addr
  d_l_name : FuncData
  a_l_columns : Addr
  d_l_columns : FuncData
  a_l_right : Addr
  d_l_right : FuncData
  a_l_bag : Addr
  d_l_bag : FuncData
  a_law : Addr
  d_law : FuncData
  a_BadTable_init : Addr
  d_BadTable_init : FuncData
structure Txt (K : PySem.W.Frag) (mg : Str → Option Value) (A : Ad) : Prop where
  f_l_take : Fun K "_law_take" "_law_take" s_l_take A.a_l_take A.d_l_take
  b_l_take : Binds K A.d_l_take ["_law_bag_here", "_law_many"] []
  m_l_take : mg "_law_take" = some (.ref A.a_l_take)
  kp_l_take : PySem.W.keepIn K (.ref A.a_l_take) = true
  f_Table_getitemC : Fun K "__getitem__" "Table.__getitem__" s_Table_getitemC A.a_Table_getitemC A.d_Table_getitemC
  b_Table_getitemC : Binds K A.d_Table_getitemC ["self", "name"] []
  h_Table_getitemC : Spc K A.cl "Table" "__getitem__" A.a_Table_getitemC
  f_Table_containsC : Fun K "__contains__" "Table.__contains__" s_Table_containsC A.a_Table_containsC A.d_Table_containsC
  b_Table_containsC : Binds K A.d_Table_containsC ["self", "name"] []
  h_Table_containsC : Spc K A.cl "Table" "__contains__" A.a_Table_containsC
  f_Table_row_at : Fun K "row_at" "Table.row_at" s_Table_row_at A.a_Table_row_at A.d_Table_row_at
  b_Table_row_at : Binds K A.d_Table_row_at ["self", "at"] []
  h_Table_row_at : Meth K (A.cl "Table") "row_at" A.a_Table_row_at
  f_is_word : Fun K "is_word" "is_word" s_is_word A.a_is_word A.d_is_word
  b_is_word : Binds K A.d_is_word ["thing"] []
  m_is_word : mg "is_word" = some (.ref A.a_is_word)
  kp_is_word : PySem.W.keepIn K (.ref A.a_is_word) = true
  f_Table_initC : Fun K "__init__" "Table.__init__" s_Table_initC A.a_Table_initC A.d_Table_initC
  b_Table_initC : Binds K A.d_Table_initC ["self", "columns"] []
  h_Table_initC : Mk K (A.cl "Table") A.a_Table_initC
  f_Table_namesC : Fun K "names" "Table.names" s_Table_namesC A.a_Table_namesC A.d_Table_namesC
  b_Table_namesC : Binds K A.d_Table_namesC ["self"] []
  h_Table_namesC : Meth K (A.cl "Table") "names" A.a_Table_namesC
  f_Table_add : Fun K "__add__" "Table.__add__" s_Table_add A.a_Table_add A.d_Table_add
  b_Table_add : Binds K A.d_Table_add ["self", "other"] []
  h_Table_add : Spc K A.cl "Table" "__add__" A.a_Table_add
  f_Table_only : Fun K "only" "Table.only" s_Table_only A.a_Table_only A.d_Table_only
  b_Table_only : Binds K A.d_Table_only ["self", "rows"] []
  h_Table_only : Meth K (A.cl "Table") "only" A.a_Table_only
  f_Table_lenC : Fun K "__len__" "Table.__len__" s_Table_lenC A.a_Table_lenC A.d_Table_lenC
  b_Table_lenC : Binds K A.d_Table_lenC ["self"] []
  h_Table_lenC : Spc K A.cl "Table" "__len__" A.a_Table_lenC
  f_l_copied : Fun K "_law_copied" "_law_copied" s_l_copied A.a_l_copied A.d_l_copied
  b_l_copied : Binds K A.d_l_copied ["_law_columns_here"] []
  m_l_copied : mg "_law_copied" = some (.ref A.a_l_copied)
  kp_l_copied : PySem.W.keepIn K (.ref A.a_l_copied) = true
  f_Table_eqC : Fun K "__eq__" "Table.__eq__" s_Table_eqC A.a_Table_eqC A.d_Table_eqC
  b_Table_eqC : Binds K A.d_Table_eqC ["self", "other"] []
  h_Table_eqC : Spc K A.cl "Table" "__eq__" A.a_Table_eqC
  f_l_is_as : Fun K "_law_is_as" "_law_is_as" s_l_is_as A.a_l_is_as A.d_l_is_as
  b_l_is_as : Binds K A.d_l_is_as ["_law_table", "_law_columns_here"] []
  m_l_is_as : mg "_law_is_as" = some (.ref A.a_l_is_as)
  kp_l_is_as : PySem.W.keepIn K (.ref A.a_l_is_as) = true
  f_l_is_word : Fun K "_law_is_word" "_law_is_word" s_l_is_word A.a_l_is_word A.d_l_is_word
  b_l_is_word : Binds K A.d_l_is_word ["_law_thing"] []
  m_l_is_word : mg "_law_is_word" = some (.ref A.a_l_is_word)
  kp_l_is_word : PySem.W.keepIn K (.ref A.a_l_is_word) = true
  f_l_put : Fun K "_law_put" "_law_put" s_l_put A.a_l_put A.d_l_put
  b_l_put : Binds K A.d_l_put ["_law_columns_here", "_law_thing", "_law_texts"] []
  m_l_put : mg "_law_put" = some (.ref A.a_l_put)
  kp_l_put : PySem.W.keepIn K (.ref A.a_l_put) = true
  f_Table_setitemX : Fun K "__setitem__" "Table.__setitem__" s_Table_setitemX A.a_Table_setitemX A.d_Table_setitemX
  b_Table_setitemX : Binds K A.d_Table_setitemX ["self", "name", "texts"] []
  h_Table_setitemX : Spc K A.cl "Table" "__setitem__" A.a_Table_setitemX
  f_l_of : Fun K "_law_of" "_law_of" s_l_of A.a_l_of A.d_l_of
  b_l_of : Binds K A.d_l_of ["_law_bag_here", "_law_some"] []
  m_l_of : mg "_law_of" = some (.ref A.a_l_of)
  kp_l_of : PySem.W.keepIn K (.ref A.a_l_of) = true
  f_l_digits : Fun K "_law_digits" "_law_digits" s_l_digits A.a_l_digits A.d_l_digits
  b_l_digits : Binds K A.d_l_digits ["_law_bag_here", "_law_least", "_law_most"] []
  m_l_digits : mg "_law_digits" = some (.ref A.a_l_digits)
  kp_l_digits : PySem.W.keepIn K (.ref A.a_l_digits) = true
  f_l_number : Fun K "_law_number" "_law_number" s_l_number A.a_l_number A.d_l_number
  b_l_number : Binds K A.d_l_number ["_law_bag_here", "_law_most"] []
  m_l_number : mg "_law_number" = some (.ref A.a_l_number)
  kp_l_number : PySem.W.keepIn K (.ref A.a_l_number) = true
  f_l_signs : Fun K "_law_signs" "_law_signs" s_l_signs A.a_l_signs A.d_l_signs
  b_l_signs : Binds K A.d_l_signs [] []
  m_l_signs : mg "_law_signs" = some (.ref A.a_l_signs)
  kp_l_signs : PySem.W.keepIn K (.ref A.a_l_signs) = true
  f_l_text : Fun K "_law_text" "_law_text" s_l_text A.a_l_text A.d_l_text
  b_l_text : Binds K A.d_l_text ["_law_bag_here"] []
  m_l_text : mg "_law_text" = some (.ref A.a_l_text)
  kp_l_text : PySem.W.keepIn K (.ref A.a_l_text) = true
  f_l_word : Fun K "_law_word" "_law_word" s_l_word A.a_l_word A.d_l_word
  b_l_word : Binds K A.d_l_word ["_law_bag_here", "_law_at", "_law_most"] []
  m_l_word : mg "_law_word" = some (.ref A.a_l_word)
  kp_l_word : PySem.W.keepIn K (.ref A.a_l_word) = true
  f_l_words : Fun K "_law_words" "_law_words" s_l_words A.a_l_words A.d_l_words
  b_l_words : Binds K A.d_l_words ["_law_bag_here", "_law_many"] []
  m_l_words : mg "_law_words" = some (.ref A.a_l_words)
  kp_l_words : PySem.W.keepIn K (.ref A.a_l_words) = true
  f_l_name : Fun K "_law_name" "_law_name" s_l_name A.a_l_name A.d_l_name
  b_l_name : Binds K A.d_l_name ["_law_bag_here", "_law_columns_here"] []
  m_l_name : mg "_law_name" = some (.ref A.a_l_name)
  kp_l_name : PySem.W.keepIn K (.ref A.a_l_name) = true
  f_l_columns : Fun K "_law_columns" "_law_columns" s_l_columns A.a_l_columns A.d_l_columns
  b_l_columns : Binds K A.d_l_columns ["_law_bag_here", "_law_most"] []
  m_l_columns : mg "_law_columns" = some (.ref A.a_l_columns)
  kp_l_columns : PySem.W.keepIn K (.ref A.a_l_columns) = true
  f_l_right : Fun K "_law_right" "_law_right" s_l_right A.a_l_right A.d_l_right
  b_l_right : Binds K A.d_l_right ["_law_bag_here"] []
  m_l_right : mg "_law_right" = some (.ref A.a_l_right)
  kp_l_right : PySem.W.keepIn K (.ref A.a_l_right) = true
  f_l_bag : Fun K "_law_bag" "_law_bag" s_l_bag A.a_l_bag A.d_l_bag
  b_l_bag : Binds K A.d_l_bag ["_law_script", "_law_at"] []
  m_l_bag : mg "_law_bag" = some (.ref A.a_l_bag)
  kp_l_bag : PySem.W.keepIn K (.ref A.a_l_bag) = true
  f_law : Fun K "law" "law" s_law A.a_law A.d_law
  b_law : Binds K A.d_law ["_law_script"] []
  m_law : mg "law" = some (.ref A.a_law)
  kp_law : PySem.W.keepIn K (.ref A.a_law) = true
  c_Table : Cls K (A.cl "Table")
  m_Table : mg "Table" = some (.ref (A.cl "Table"))
  r_Table : ClX.CRead K (A.cl "Table") (.type "type")
  n_Table_held : NoAttr K (A.cl "Table") "held"
  n_Table_many : NoAttr K (A.cl "Table") "many"
  i_Table : IsiOwn K A.cl "Table" isi_of_Table
  ne_Table : NeO K A.cl "Table"
  fi_Table_getitemC : PySem.W.fnIn K A.a_Table_getitemC = true
  sf_Table : PySem.W.selfFirst K (A.cl "Table") = true
  nq_Table : PySem.W.noSeq K (A.cl "Table") = true
  f_BadTable_init : Fun K "__init__" "BadTable.__init__" s_BadTable_init A.a_BadTable_init A.d_BadTable_init
  b_BadTable_init : Binds K A.d_BadTable_init ["self", "part"] []
  xo_BadTable : OexC K (A.cl "BadTable")
  xi_BadTable : PySem.W.findIn K (.ref (A.cl "BadTable")) "__init__" = some (some (.ref A.a_BadTable_init))
  xt_BadTable : PySem.W.typeIn K (.ref A.a_BadTable_init) = some (.type "function")
  xn_BadTable : ∀ f ∈ (["part"] : List Str), PySem.W.findIn K (.ref (A.cl "BadTable")) f = some none
  xr_GuessError : ClX.CRead K (A.cl "GuessError") (.type "type")
  xb_GuessError : PySem.W.findCls K (.ref (A.cl "GuessError")) (.type "type") "__init__" = some (.val (.builtin "ValueError.__init__"))
  xc_BadTable : XfC K (A.cl "BadTable")
  ex_BadTable : ExcC K (A.cl "BadTable")
  em_BadTable_BadTable : PySem.W.exmOne K (.ref (A.cl "BadTable")) (.ref (A.cl "BadTable")) = some true
  kx_BadTable_GuessError : PySem.W.kitOne K (.ref (A.cl "BadTable")) (.ref (A.cl "GuessError")) = some true
  kx_BadTable_NoColumn : PySem.W.kitOne K (.ref (A.cl "BadTable")) (.ref (A.cl "NoColumn")) = some false
  m_GuessError : mg "GuessError" = some (.ref (A.cl "GuessError"))
  m_BadTable : mg "BadTable" = some (.ref (A.cl "BadTable"))
  m_NoColumn : mg "NoColumn" = some (.ref (A.cl "NoColumn"))
  z_abs : mg "abs" = none
  z_all : mg "all" = none
  z_enumerate : mg "enumerate" = none
  z_int : mg "int" = none
  z_isinstance : mg "isinstance" = none
  z_len : mg "len" = none
  z_list : mg "list" = none
  z_max : mg "max" = none
  z_min : mg "min" = none
  z_range : mg "range" = none
  z_repr : mg "repr" = none
  z_str : mg "str" = none
  z_tuple : mg "tuple" = none
  g_LETTERS : ∃ t, mg "LETTERS" = some (.str ⟨[97, 98, 99, 100, 101, 102, 103, 104, 105, 106, 107, 108, 109, 110, 111, 112, 113, 114, 115, 116, 117, 118, 119, 120, 121, 122].toArray⟩ t)
section
variable {P : Program} {w : World} {K : PySem.W.Frag} {mg : Str → Option Value} {base : Heap} {A : Ad}
theorem Txt.fl_held_Table (T : Txt K mg A) : FldOk K A.cl "held" ["Table"] := (fld_cons T.c_Table T.n_Table_held fld_nil)
theorem Txt.fl_many_Table (T : Txt K mg A) : FldOk K A.cl "many" ["Table"] := (fld_cons T.c_Table T.n_Table_many fld_nil)
theorem xk_BadTable (T : Txt K mg A) : G.FnOk P w K mg base CX0 1 A.a_BadTable_init A.d_BadTable_init ["self", "part"] (spXi K (A.cl "BadTable") ["part"]) := by
  have nd := sc_BadTable_init.nd
  refine xi_1 (k := 0) (ts := [tC (.str "not a table: "), tFmtD K (tVar 1)]) T.f_BadTable_init sc_BadTable_init rfl (fun σ H y1 e1 p1 t ht => ?_) (Nat.le_of_ble_eq_true rfl) fun cdv A' outer s H E hr => ?_
  · simp only [List.mem_cons, List.not_mem_nil, or_false] at ht
    rcases ht with rfl | rfl
    · exact pl_c (by decide)
    · exact pl_fmt e1 p1
  · exact (pss_cons (ps_expr (pe_ginit T.m_GuessError T.xr_GuessError T.xb_GuessError (pa_cons (pv 0) (pa_cons (pe_joined (.cons pe_str (.cons (pe_fmtD hr (pv 1)) .nil))) pa_nil)))) (pss_cons (ps_ost (pv 0) (pv 1)) pss_nil))
theorem ok_l_take (T : Txt K mg A) : FnD P w K A.cl mg base 1 A.a_l_take A.d_l_take ["_law_bag_here", "_law_many"] sp_l_take := by
  have nd := sc_l_take.nd
  refine fn_d (k := 0) (td := td_l_take) T.f_l_take sc_l_take len_l_take pure_l_take fun cdv A' outer s H E hr => ?_
  exact (dss_cons (ds_if (dt_cmp od_gt (de_ix (dv 0) de_int) de_int (nomark _)) (dss_cons (ds_set 2 nd (de_op od_mod (de_callTy cd_int T.z_int boot_int_ (da_cons (de_ix (dv 0) de_int) da_nil)) (dv 1)))
      (dss_cons (ds_asg (de_op od_fdiv (de_ix (dv 0) de_int) (dv 1)) (dg_sub (dv 0) de_int st_list))
      (dss_one (ds_ret (dv 2))))) dss_nil)
      (dss_cons (ds_asg (de_op od_add (de_ix (dv 0) de_int) de_int) (dg_sub (dv 0) de_int st_list))
      (dss_cons (ds_set 3 nd (de_op od_mod (de_callTy cd_int T.z_int boot_int_ (da_cons (de_op od_pow (de_op od_add (de_ix (dv 0) de_int) (de_op od_mul de_int (de_ix (dv 0) de_int))) de_int) da_nil)) de_int))
      (dss_cons (ds_set 3 nd (de_op od_mod (de_callTy cd_int T.z_int boot_int_ (da_cons (de_op od_pow (de_op od_add (dv 3) (de_op od_mul de_int (de_ix (dv 0) de_int))) de_int) da_nil)) de_int))
      (dss_one (ds_ret (de_op od_mod (de_callTy cd_int T.z_int boot_int_ (da_cons (de_op od_fdiv (dv 3) de_int) da_nil)) (dv 1))))))))
theorem ok_Table_getitemC (T : Txt K mg A) : FnD P w K A.cl mg base 1 A.a_Table_getitemC A.d_Table_getitemC ["self", "name"] sp_Table_getitemC := by
  have nd := sc_Table_getitemC.nd
  refine fn_d (k := 0) (td := td_Table_getitemC) T.f_Table_getitemC sc_Table_getitemC len_Table_getitemC pure_Table_getitemC fun cdv A' outer s H E hr => ?_
  exact (dss_cons (ds_if (PW.pt (dw_or (dt_not (dt_val (de_callB (cd_isi isi_str) T.z_isinstance boot_isinstance_ (da_cons (dv 1) (da_cons (de_bltn T.z_str boot_str_ (v := .ty "str") rfl (fun _ => .ty "str")) da_nil))))) (dw_or1 (dt_notinK hr (dv 1) (de_fld (dv 0) T.fl_held_Table) rfl)))) (dss_one ds_never) dss_nil)
      (dss_one (ds_ret (de_callTy cd_listC T.z_list boot_list_ (da_cons (de_getK hr (de_fld (dv 0) T.fl_held_Table) (dv 1)) da_nil)))))
theorem ce_Table_getitemC_2 (T : Txt K mg A) : Cee P w K A.cl mg base CX0 1 A.a_Table_getitemC [] (pos2 sp_Table_getitemC []) := Cee.posD (ok_Table_getitemC T) T.b_Table_getitemC .nil fun _ => .nil
theorem ok_Table_containsC (T : Txt K mg A) : FnD P w K A.cl mg base 1 A.a_Table_containsC A.d_Table_containsC ["self", "name"] sp_Table_containsC := by
  have nd := sc_Table_containsC.nd
  refine fn_d (k := 0) (td := td_Table_containsC) T.f_Table_containsC sc_Table_containsC len_Table_containsC pure_Table_containsC fun cdv A' outer s H E hr => ?_
  exact (dss_one (ds_ret (de_and (de_callB (cd_isi isi_str) T.z_isinstance boot_isinstance_ (da_cons (dv 1) (da_cons (de_bltn T.z_str boot_str_ (v := .ty "str") rfl (fun _ => .ty "str")) da_nil))) (de_one (de_inK hr (dv 1) (de_fld (dv 0) T.fl_held_Table) rfl)))))
theorem ce_Table_containsC_2 (T : Txt K mg A) : Cee P w K A.cl mg base CX0 1 A.a_Table_containsC [] (pos2 sp_Table_containsC []) := Cee.posD (ok_Table_containsC T) T.b_Table_containsC .nil fun _ => .nil
theorem ok_Table_row_at (T : Txt K mg A) : FnD P w K A.cl mg base 1 A.a_Table_row_at A.d_Table_row_at ["self", "at"] sp_Table_row_at := by
  have nd := sc_Table_row_at.nd
  refine fn_d (k := 0) (td := td_Table_row_at) T.f_Table_row_at sc_Table_row_at len_Table_row_at pure_Table_row_at fun cdv A' outer s H E hr => ?_
  exact (dss_cons (ds_if (dt_not (dt_chain od_le od_lt de_int (dv 1) (de_fld (dv 0) T.fl_many_Table))) (dss_one ds_never) dss_nil)
      (dss_one (ds_ret (de_callTy cd_tuple T.z_tuple boot_tuple_ (da_cons (de_lockE (de_fz (de_lcU nd (dic_keys (de_fld (dv 0) T.fl_held_Table)) (blkOk_by (own := [("name", 2)]) (N := ["self", "at", "name"]) (sc := defScope s_Table_row_at) (by decide +kernel)) (fun _ _ _ _ _ => (do_name 2 nd)) (fun _ _ _ _ _ => dts_nil) (fun _ _ _ _ _ => (de_ix (de_getK hr (de_fld (dv 0) T.fl_held_Table) (dv 2)) (dv 1)))))) da_nil)))))
theorem ce_Table_row_at_2 (T : Txt K mg A) : Cee P w K A.cl mg base CX0 1 A.a_Table_row_at [] (pos2 sp_Table_row_at []) := Cee.posD (ok_Table_row_at T) T.b_Table_row_at .nil fun _ => .nil
theorem ok_is_word (T : Txt K mg A) : FnD P w K A.cl mg base 1 A.a_is_word A.d_is_word ["thing"] sp_is_word := by
  have nd := sc_is_word.nd
  refine fn_d (k := 0) (td := td_is_word) T.f_is_word sc_is_word len_is_word pure_is_word fun cdv A' outer s H E hr => ?_
  exact (dss_cons (ds_if (PW.pt (dw_or (dt_not (dt_val (de_callB (cd_isi isi_str) T.z_isinstance boot_isinstance_ (da_cons (dv 0) (da_cons (de_bltn T.z_str boot_str_ (v := .ty "str") rfl (fun _ => .ty "str")) da_nil))))) (dw_or1 (dt_not (dt_chain od_le od_le de_int (de_callB cd_len T.z_len boot_len_ (da_cons (dv 0) da_nil)) de_int))))) (dss_one (ds_ret de_bl)) dss_nil)
      (dss_one (ds_ret (de_callB cd_all T.z_all boot_all_ (da_cons (de_fz (de_lc nd (di_str (dv 0)) (blkOk_by (own := [("sign", 1)]) (N := ["thing", "sign"]) (sc := defScope s_is_word) (by decide +kernel)) (fun _ _ _ _ _ => (do_name 1 nd)) (fun _ _ _ _ _ => dts_nil) (fun _ _ _ _ _ => (de_cmp od_in (dv 1) (de_gstr T.g_LETTERS) rfl)))) da_nil)))))
theorem ok_Table_initC (T : Txt K mg A) : FnD P w K A.cl mg base 2 A.a_Table_initC A.d_Table_initC ["self", "columns"] sp_Table_initC := by
  have nd := sc_Table_initC.nd
  refine fn_d (k := 1) (td := td_Table_initC) T.f_Table_initC sc_Table_initC len_Table_initC pure_Table_initC fun cdv A' outer s H E hr => ?_
  exact (dss_cons (ds_if (dt_cmp (od_eq hr) (de_callB cd_len T.z_len boot_len_ (da_cons (dv 1) da_nil)) de_int (nomark _)) (dss_one ds_never) dss_nil)
      (dss_cons (ds_set 2 nd de_newK)
      (dss_cons (ds_fld (dv 0) (de_callB cd_len T.z_len boot_len_ (da_cons (de_ix (de_ix (dv 1) de_int) de_int) da_nil)) T.fl_many_Table)
      (dss_cons (ds_forC PassesOwn.never (dic_enum T.z_enumerate (da_cons (dv 1) da_nil)) (dg_tup (dgs_cons (dg_name 3 nd) (dgs_cons (dg_tup (dgs_cons (dg_name 4 nd) (dgs_cons (dg_name 5 nd) dgs_nil))) dgs_nil))) (dss_cons (ds_if (PW.pt (dw_or (dt_not (dt_val (de_call (ok_is_word T) (hr.mono (by decide)) T.m_is_word T.f_is_word.kp T.b_is_word .nil (fun _ => .nil) (da_cons (dv 4) da_nil)))) (dw_or (dt_inK hr (dv 4) (dv 2) rfl) (dw_or1 (dt_cmp (od_ne hr) (de_callB cd_len T.z_len boot_len_ (da_cons (dv 5) da_nil)) (de_fld (dv 0) T.fl_many_Table) (nomark _)))))) (dss_one ds_never) dss_nil)
      (dss_one (ds_putK hr (dv 2) (dv 4) (de_callTy cd_list T.z_list boot_list_ (da_cons (dv 5) da_nil))))))
      (dss_one (ds_fld (dv 0) (dv 2) T.fl_held_Table))))))
theorem ce_Table_initC_2 (T : Txt K mg A) : Cee P w K A.cl mg base CX0 2 A.a_Table_initC [] (pos2 sp_Table_initC []) := Cee.posD (ok_Table_initC T) T.b_Table_initC .nil fun _ => .nil
theorem ok_Table_namesC (T : Txt K mg A) : FnD P w K A.cl mg base 1 A.a_Table_namesC A.d_Table_namesC ["self"] sp_Table_namesC := by
  have nd := sc_Table_namesC.nd
  refine fn_d (k := 0) (td := td_Table_namesC) T.f_Table_namesC sc_Table_namesC len_Table_namesC pure_Table_namesC fun cdv A' outer s H E hr => ?_
  exact (dss_one (ds_ret (de_callTy cd_listKC T.z_list boot_list_ (da_cons (de_fld (dv 0) T.fl_held_Table) da_nil))))
theorem ce_Table_namesC_1 (T : Txt K mg A) : Cee P w K A.cl mg base CX0 1 A.a_Table_namesC [] (pos2 sp_Table_namesC []) := Cee.posD (ok_Table_namesC T) T.b_Table_namesC .nil fun _ => .nil
theorem ok_Table_add (T : Txt K mg A) : FnD P w K A.cl mg base 4 A.a_Table_add A.d_Table_add ["self", "other"] sp_Table_add := by
  have nd := sc_Table_add.nd
  refine fn_d (k := 3) (td := td_Table_add) T.f_Table_add sc_Table_add len_Table_add pure_Table_add fun cdv A' outer s H E hr => ?_
  exact (dss_cons (ds_if (dt_not (dt_val (de_callB (cd_isiO T.i_Table) T.z_isinstance boot_isinstance_ (da_cons (dv 1) (da_cons (de_clsn T.m_Table) da_nil))))) (dss_one ds_never) dss_nil)
      (dss_cons (ds_if (dt_cmp (od_neC hr) (de_meth0 (ce_Table_namesC_1 T) (hr.mono (by decide)) pass0 T.c_Table T.h_Table_namesC (dv 0) dk_nil) (de_meth0 (ce_Table_namesC_1 T) (hr.mono (by decide)) pass0 T.c_Table T.h_Table_namesC (dv 1) dk_nil) (nomark _)) (dss_one ds_never) dss_nil)
      (dss_one (ds_ret (de_make (ce_Table_initC_2 T) T.h_Table_initC (hr.mono (by decide)) pass0 T.m_Table (da_cons (de_lockE (de_fz (de_lcU nd (dic_keys (de_fld (dv 0) T.fl_held_Table)) (blkOk_by (own := [("name", 2)]) (N := ["self", "other", "name"]) (sc := defScope s_Table_add) (by decide +kernel)) (fun _ _ _ _ _ => (do_name 2 nd)) (fun _ _ _ _ _ => dts_nil) (fun _ _ _ _ _ => (de_tup (da_cons (dv 2) (da_cons (de_op od_add (de_getK hr (de_fld (dv 0) T.fl_held_Table) (dv 2)) (de_getK hr (de_fld (dv 1) T.fl_held_Table) (dv 2))) da_nil))))))) da_nil) dk_nil)))))
theorem ce_Table_add_2 (T : Txt K mg A) : Cee P w K A.cl mg base CX0 4 A.a_Table_add [] (pos2 sp_Table_add []) := Cee.posD (ok_Table_add T) T.b_Table_add .nil fun _ => .nil
theorem ok_Table_only (T : Txt K mg A) : FnD P w K A.cl mg base 4 A.a_Table_only A.d_Table_only ["self", "rows"] sp_Table_only := by
  have nd := sc_Table_only.nd
  refine fn_d (k := 3) (td := td_Table_only) T.f_Table_only sc_Table_only len_Table_only pure_Table_only fun cdv A' outer s H E hr => ?_
  exact (dss_one (ds_ret (de_make (ce_Table_initC_2 T) T.h_Table_initC (hr.mono (by decide)) pass0 T.m_Table (da_cons (de_lockE (de_fz (de_lcU nd (dic_keys (de_fld (dv 0) T.fl_held_Table)) (blkOk_by (own := [("name", 2)]) (N := ["self", "rows", "name", "at"]) (sc := defScope s_Table_only) (by decide +kernel)) (fun _ _ _ _ _ => (do_name 2 nd)) (fun _ _ _ _ _ => dts_nil) (fun _ _ _ _ _ => (de_tup (da_cons (dv 2) (da_cons (de_fz (de_lcU nd (dic_list (dv 1)) (blk_in (blkOk_by (own := [("at", 3)]) (N := ["self", "rows", "name", "at"]) (sc := ({ kind := PySem.ScopeKind.function, names := [ (PySem.Str.ofString ".0", PySem.NameKind.local), (PySem.Str.ofString "name", PySem.NameKind.cell), (PySem.Str.ofString "rows", PySem.NameKind.free), (PySem.Str.ofString "self", PySem.NameKind.free)], isGenerator := false, isCoroutine := false, more := [] : PySem.Scope })) (by decide +kernel))) (fun _ _ _ _ _ => (do_name 3 nd)) (fun _ _ _ _ _ => dts_nil) (fun _ _ _ _ _ => (de_ix (de_getK hr (de_fld (dv 0) T.fl_held_Table) (dv 2)) (dv 3))))) da_nil))))))) da_nil) dk_nil)))
theorem ce_Table_only_2 (T : Txt K mg A) : Cee P w K A.cl mg base CX0 4 A.a_Table_only [] (pos2 sp_Table_only []) := Cee.posD (ok_Table_only T) T.b_Table_only .nil fun _ => .nil
theorem ok_Table_lenC (T : Txt K mg A) : FnD P w K A.cl mg base 1 A.a_Table_lenC A.d_Table_lenC ["self"] sp_Table_lenC := by
  have nd := sc_Table_lenC.nd
  refine fn_d (k := 0) (td := td_Table_lenC) T.f_Table_lenC sc_Table_lenC len_Table_lenC pure_Table_lenC fun cdv A' outer s H E hr => ?_
  exact (dss_one (ds_ret (de_callB cd_len T.z_len boot_len_ (da_cons (de_ix (de_listV T.z_list (de_fld (dv 0) T.fl_held_Table)) de_int) da_nil))))
theorem ce_Table_lenC_1 (T : Txt K mg A) : Cee P w K A.cl mg base CX0 1 A.a_Table_lenC [] (pos2 sp_Table_lenC []) := Cee.posD (ok_Table_lenC T) T.b_Table_lenC .nil fun _ => .nil
theorem ok_l_copied (T : Txt K mg A) : FnD P w K A.cl mg base 1 A.a_l_copied A.d_l_copied ["_law_columns_here"] sp_l_copied := by
  have nd := sc_l_copied.nd
  refine fn_d (k := 0) (td := td_l_copied) T.f_l_copied sc_l_copied len_l_copied pure_l_copied fun cdv A' outer s H E hr => ?_
  exact (dss_one (ds_ret (de_lc nd (di_list (dv 0)) (blkOk_by (own := [("_law_label", 1), ("_law_texts", 2)]) (N := ["_law_columns_here", "_law_label", "_law_texts"]) (sc := defScope s_l_copied) (by decide +kernel)) (fun _ _ _ _ _ => (do_tup (dos_cons (do_name 1 nd) (dos_cons (do_name 2 nd) dos_nil)))) (fun _ _ _ _ _ => dts_nil) (fun _ _ _ _ _ => (de_tup (da_cons (dv 1) (da_cons (de_callTy cd_listC T.z_list boot_list_ (da_cons (dv 2) da_nil)) da_nil)))))))
theorem ok_Table_eqC (T : Txt K mg A) : FnD P w K A.cl mg base 2 A.a_Table_eqC A.d_Table_eqC ["self", "other"] sp_Table_eqC := by
  have nd := sc_Table_eqC.nd
  refine fn_d (k := 1) (td := td_Table_eqC) T.f_Table_eqC sc_Table_eqC len_Table_eqC pure_Table_eqC fun cdv A' outer s H E hr => ?_
  exact (dss_one (ds_ret (de_and (de_callB (cd_isiO T.i_Table) T.z_isinstance boot_isinstance_ (da_cons (dv 1) (da_cons (de_clsn T.m_Table) da_nil))) (de_and (de_cmp (od_eqC hr) (de_meth0 (ce_Table_namesC_1 T) (hr.mono (by decide)) pass0 T.c_Table T.h_Table_namesC (dv 0) dk_nil) (de_meth0 (ce_Table_namesC_1 T) (hr.mono (by decide)) pass0 T.c_Table T.h_Table_namesC (dv 1) dk_nil) (nomark _)) (de_one (de_cmp (od_eqDic hr) (de_fld (dv 0) T.fl_held_Table) (de_fld (dv 1) T.fl_held_Table) (nomark _)))))))
theorem ce_Table_eqC_2 (T : Txt K mg A) : Cee P w K A.cl mg base CX0 2 A.a_Table_eqC [] (pos2 sp_Table_eqC []) := Cee.posD (ok_Table_eqC T) T.b_Table_eqC .nil fun _ => .nil
theorem ok_l_is_as (T : Txt K mg A) : FnD P w K A.cl mg base 5 A.a_l_is_as A.d_l_is_as ["_law_table", "_law_columns_here"] sp_l_is_as := by
  have nd := sc_l_is_as.nd
  refine fn_d (k := 4) (td := td_l_is_as) T.f_l_is_as sc_l_is_as len_l_is_as pure_l_is_as fun cdv A' outer s H E hr => ?_
  exact (dss_cons (ds_setLcF 2 nd (di_list (dv 1)) (blkOk_by (own := [("_law_label", 7), ("_law_texts", 8)]) (N := ["_law_table", "_law_columns_here", "_law_labels", "_law_many", "_law_at", "_law_one", "_law_twice", "_law_label", "_law_texts"]) (sc := defScope s_l_is_as) (by decide +kernel)) (fun _ _ _ _ _ => (do_tup (dos_cons (do_name 7 nd) (dos_cons (do_name 8 nd) dos_nil)))) (fun _ _ _ _ _ => dts_nil) (fun _ _ _ _ _ => (dv 7)) (sw_true rfl rfl rfl (by decide +kernel)))
      (dss_cons (ds_if (PW.pt (dw_or (dt_cmp (od_neC hr) (de_meth0 (ce_Table_namesC_1 T) (hr.mono (by decide)) pass0 T.c_Table T.h_Table_namesC (dv 0) dk_nil) (dv 2) (nomark _)) (dw_or1 (dt_cmp (od_ne hr) (de_callB (cd_lenO (ce_Table_lenC_1 T) (hr.mono (by decide)) pass0 T.h_Table_lenC) T.z_len boot_len_ (da_cons (dv 0) da_nil)) (de_callB cd_len T.z_len boot_len_ (da_cons (de_ix (de_ix (dv 1) de_int) de_int) da_nil)) (nomark _))))) (dss_one (ds_ret de_bl)) dss_nil)
      (dss_cons (ds_if (dt_cmp (od_neA (ce_Table_eqC_2 T) (hr.mono (by decide)) pass0 T.h_Table_eqC T.ne_Table) (dv 0) (de_make (ce_Table_initC_2 T) T.h_Table_initC (hr.mono (by decide)) pass0 T.m_Table (da_cons (de_call (ok_l_copied T) (hr.mono (by decide)) T.m_l_copied T.f_l_copied.kp T.b_l_copied .nil (fun _ => .nil) (da_cons (dv 1) da_nil)) da_nil) dk_nil) (nomark _)) (dss_one (ds_ret de_bl)) dss_nil)
      (dss_cons (ds_set 3 nd (de_callB (cd_lenO (ce_Table_lenC_1 T) (hr.mono (by decide)) pass0 T.h_Table_lenC) T.z_len boot_len_ (da_cons (dv 0) da_nil)))
      (dss_cons (ds_for PassesOwn.never (di_list (de_ifExp (dt_cmp od_gt (dv 3) de_int (nomark _)) (de_lst (da_cons de_int (da_cons (de_op od_sub (dv 3) de_int) da_nil))) (de_lst da_nil))) (dg_name 4 nd) (dss_cons (ds_par 5 6 nd (da_cons (de_meth (ce_Table_only_2 T) (hr.mono (by decide)) pass0 T.c_Table T.h_Table_only (dv 0) (da_cons (de_lst (da_cons (dv 4) da_nil)) da_nil) dk_nil) (da_cons (de_op (od_binO (ce_Table_add_2 T) (hr.mono (by decide)) pass0 T.sf_Table T.h_Table_add) (dv 0) (dv 0)) da_nil)))
      (dss_cons (ds_if (dt_cmp (od_ne hr) (de_callTy cd_list T.z_list boot_list_ (da_cons (de_meth (ce_Table_row_at_2 T) (hr.mono (by decide)) pass0 T.c_Table T.h_Table_row_at (dv 0) (da_cons (dv 4) da_nil) dk_nil) da_nil)) (de_fz (de_lc nd (di_list (dv 1)) (blkOk_by (own := [("_law_label", 7), ("_law_texts", 8)]) (N := ["_law_table", "_law_columns_here", "_law_labels", "_law_many", "_law_at", "_law_one", "_law_twice", "_law_label", "_law_texts"]) (sc := defScope s_l_is_as) (by decide +kernel)) (fun _ _ _ _ _ => (do_tup (dos_cons (do_name 7 nd) (dos_cons (do_name 8 nd) dos_nil)))) (fun _ _ _ _ _ => dts_nil) (fun _ _ _ _ _ => (de_ix (dv 8) (dv 4))))) (nomark _)) (dss_one (ds_ret de_bl)) dss_nil)
      (dss_one (ds_for PassesOwn.never (di_list (dv 1)) (dg_tup (dgs_cons (dg_name 7 nd) (dgs_cons (dg_name 8 nd) dgs_nil))) (dss_one (ds_if (PW.pt (dw_or (dt_cmp (od_neC hr) (de_ixO (ce_Table_getitemC_2 T) (hr.mono (by decide)) pass0 T.h_Table_getitemC T.fi_Table_getitemC (dv 5) (dv 7)) (de_lst (da_cons (de_ix (dv 8) (dv 4)) da_nil)) (nomark _)) (dw_or1 (dt_cmp (od_neC hr) (de_ixO (ce_Table_getitemC_2 T) (hr.mono (by decide)) pass0 T.h_Table_getitemC T.fi_Table_getitemC (dv 6) (dv 7)) (de_op od_add (dv 8) (dv 8)) (nomark _))))) (dss_one (ds_ret de_bl)) dss_nil)))))))
      (dss_one (ds_ret (de_callB cd_all T.z_all boot_all_ (da_cons (de_fz (de_lc nd (di_list (dv 1)) (blkOk_by (own := [("_law_label", 7), ("_law_texts", 8)]) (N := ["_law_table", "_law_columns_here", "_law_labels", "_law_many", "_law_at", "_law_one", "_law_twice", "_law_label", "_law_texts"]) (sc := defScope s_l_is_as) (by decide +kernel)) (fun _ _ _ _ _ => (do_tup (dos_cons (do_name 7 nd) (dos_cons (do_name 8 nd) dos_nil)))) (fun _ _ _ _ _ => dts_nil) (fun _ _ _ _ _ => (de_and (de_cmp (od_eqC hr) (de_ixO (ce_Table_getitemC_2 T) (hr.mono (by decide)) pass0 T.h_Table_getitemC T.fi_Table_getitemC (dv 0) (dv 7)) (dv 8) (nomark _)) (de_one (de_cmp (od_inO (ce_Table_containsC_2 T) (hr.mono (by decide)) pass0 T.h_Table_containsC) (dv 7) (dv 0) rfl)))))) da_nil)))))))))
theorem ok_l_is_word (T : Txt K mg A) : FnD P w K A.cl mg base 1 A.a_l_is_word A.d_l_is_word ["_law_thing"] sp_l_is_word := by
  have nd := sc_l_is_word.nd
  refine fn_d (k := 0) (td := td_l_is_word) T.f_l_is_word sc_l_is_word len_l_is_word pure_l_is_word fun cdv A' outer s H E hr => ?_
  exact (dss_cons (ds_if (PW.pt (dw_or (dt_not (dt_val (de_callB (cd_isi isi_str) T.z_isinstance boot_isinstance_ (da_cons (dv 0) (da_cons (de_bltn T.z_str boot_str_ (v := .ty "str") rfl (fun _ => .ty "str")) da_nil))))) (dw_or1 (dt_not (dt_chain od_le od_le de_int (de_callB cd_len T.z_len boot_len_ (da_cons (dv 0) da_nil)) de_int))))) (dss_one (ds_ret de_bl)) dss_nil)
      (dss_one (ds_ret (de_callB cd_all T.z_all boot_all_ (da_cons (de_fz (de_lc nd (di_str (dv 0)) (blkOk_by (own := [("_law_sign", 1)]) (N := ["_law_thing", "_law_sign"]) (sc := defScope s_l_is_word) (by decide +kernel)) (fun _ _ _ _ _ => (do_name 1 nd)) (fun _ _ _ _ _ => dts_nil) (fun _ _ _ _ _ => (de_cmp od_in (dv 1) (de_str (l := [97, 98, 99, 100, 101, 102, 103, 104, 105, 106, 107, 108, 109, 110, 111, 112, 113, 114, 115, 116, 117, 118, 119, 120, 121, 122])) rfl)))) da_nil)))))
theorem ok_l_put (T : Txt K mg A) : FnD P w K A.cl mg base 1 A.a_l_put A.d_l_put ["_law_columns_here", "_law_thing", "_law_texts"] sp_l_put := by
  have nd := sc_l_put.nd
  refine fn_d (k := 0) (td := td_l_put) T.f_l_put sc_l_put len_l_put pure_l_put fun cdv A' outer s H E hr => ?_
  exact (dss_cons (ds_setLcF 3 nd (di_list (dv 0)) (blkOk_by (own := [("_law_label", 4), ("_law_some", 5)]) (N := ["_law_columns_here", "_law_thing", "_law_texts", "_law_found", "_law_label", "_law_some"]) (sc := defScope s_l_put) (by decide +kernel)) (fun _ _ _ _ _ => (do_tup (dos_cons (do_name 4 nd) (dos_cons (do_name 5 nd) dos_nil)))) (fun _ _ _ _ _ => dts_nil) (fun _ _ _ _ _ => (de_tup (da_cons (dv 4) (da_cons (de_ifExp (dt_cmp (od_eq hr) (dv 4) (dv 1) (nomark _)) (dv 2) (dv 5)) da_nil)))) (sw_true rfl rfl rfl (by decide +kernel)))
      (dss_cons (ds_if (dt_cmp od_in (dv 1) (de_fz (de_lc nd (di_list (dv 0)) (blkOk_by (own := [("_law_label", 4), ("_law_some", 5)]) (N := ["_law_columns_here", "_law_thing", "_law_texts", "_law_found", "_law_label", "_law_some"]) (sc := defScope s_l_put) (by decide +kernel)) (fun _ _ _ _ _ => (do_tup (dos_cons (do_name 4 nd) (dos_cons (do_name 5 nd) dos_nil)))) (fun _ _ _ _ _ => dts_nil) (fun _ _ _ _ _ => (dv 4)))) rfl) (dss_one (ds_ret (dv 3))) dss_nil)
      (dss_one (ds_ret (de_op od_add (dv 3) (de_lst (da_cons (de_tup (da_cons (dv 1) (da_cons (dv 2) da_nil))) da_nil)))))))
theorem ok_Table_setitemX (T : Txt K mg A) : G.FnOk P w K mg base (L2.CX P w) 3 A.a_Table_setitemX A.d_Table_setitemX ["self", "name", "texts"] (lowSp K A.cl sp_Table_setitemX) := by
  have nd := sc_Table_setitemX.nd
  refine fn_dX (k := 2) (td := td_Table_setitemX) T.f_Table_setitemX sc_Table_setitemX len_Table_setitemX pure_Table_setitemX fun cdv A' outer s H E F0 Ex W hr tkX fw => ?_
  exact (dss_cons (ds_if (PW.pt (dw_or (dt_not (dt_val (de_call (ok_is_word T) (hr.mono (by decide)) T.m_is_word T.f_is_word.kp T.b_is_word .nil (fun _ => .nil) (da_cons (dv 1) da_nil)))) (dw_or1 (dt_cmp (od_ne hr) (de_callB cd_len T.z_len boot_len_ (da_cons (dv 2) da_nil)) (de_fld (dv 0) T.fl_many_Table) (nomark _))))) (dss_one (ds_raise tkX fw T.xo_BadTable T.xi_BadTable T.xt_BadTable T.xn_BadTable (xk_BadTable T) (hr.mono (by decide)) T.b_BadTable_init T.m_BadTable (da_cons (dv 1) da_nil))) dss_nil)
      (dss_one (ds_putK hr (de_fld (dv 0) T.fl_held_Table) (dv 1) (de_callTy cd_list T.z_list boot_list_ (da_cons (dv 2) da_nil)))))
theorem ce_Table_setitemX_3 (T : Txt K mg A) : Cee P w K A.cl mg base (L2.CX P w) 3 A.a_Table_setitemX [] (pos2 sp_Table_setitemX []) := Cee.posD (ok_Table_setitemX T) T.b_Table_setitemX .nil fun _ => .nil
theorem ok_l_of (T : Txt K mg A) : FnD P w K A.cl mg base 2 A.a_l_of A.d_l_of ["_law_bag_here", "_law_some"] sp_l_of := by
  have nd := sc_l_of.nd
  refine fn_d (k := 1) (td := td_l_of) T.f_l_of sc_l_of len_l_of pure_l_of fun cdv A' outer s H E hr => ?_
  exact (dss_one (ds_ret (de_ix (dv 1) (de_call (ok_l_take T) (hr.mono (by decide)) T.m_l_take T.f_l_take.kp T.b_l_take .nil (fun _ => .nil) (da_cons (dv 0) (da_cons (de_callB cd_len T.z_len boot_len_ (da_cons (dv 1) da_nil)) da_nil))))))
theorem ok_l_digits (T : Txt K mg A) : FnD P w K A.cl mg base 3 A.a_l_digits A.d_l_digits ["_law_bag_here", "_law_least", "_law_most"] sp_l_digits := by
  have nd := sc_l_digits.nd
  refine fn_d (k := 2) (td := td_l_digits) T.f_l_digits sc_l_digits len_l_digits pure_l_digits fun cdv A' outer s H E hr => ?_
  exact (dss_cons (ds_set 3 nd (de_str (l := [])))
      (dss_cons (ds_for PassesOwn.never (di_rng1 T.z_range (da_cons (de_op od_add (dv 1) (de_call (ok_l_take T) (hr.mono (by decide)) T.m_l_take T.f_l_take.kp T.b_l_take .nil (fun _ => .nil) (da_cons (dv 0) (da_cons (de_op od_add (de_op od_sub (dv 2) (dv 1)) de_int) da_nil)))) da_nil)) (dg_name 4 nd) (dss_one (ds_set 3 nd (de_op od_add (dv 3) (de_call (ok_l_of T) (hr.mono (by decide)) T.m_l_of T.f_l_of.kp T.b_l_of .nil (fun _ => .nil) (da_cons (dv 0) (da_cons (de_str (l := [48, 48, 48, 49, 50, 51, 52, 53, 54, 55, 56, 57])) da_nil)))))))
      (dss_one (ds_ret (dv 3)))))
theorem ok_l_number (T : Txt K mg A) : FnD P w K A.cl mg base 4 A.a_l_number A.d_l_number ["_law_bag_here", "_law_most"] sp_l_number := by
  have nd := sc_l_number.nd
  refine fn_d (k := 3) (td := td_l_number) T.f_l_number sc_l_number len_l_number pure_l_number fun cdv A' outer s H E hr => ?_
  exact (dss_cons (ds_set 2 nd (de_call (ok_l_of T) (hr.mono (by decide)) T.m_l_of T.f_l_of.kp T.b_l_of .nil (fun _ => .nil) (da_cons (dv 0) (da_cons (de_lst (da_cons (de_str (l := [])) (da_cons (de_str (l := [])) (da_cons (de_str (l := [])) (da_cons (de_str (l := [45])) (da_cons (de_str (l := [43])) da_nil)))))) da_nil))))
      (dss_cons (ds_set 3 nd (de_call (ok_l_digits T) (hr.mono (by decide)) T.m_l_digits T.f_l_digits.kp T.b_l_digits .nil (fun _ => .nil) (da_cons (dv 0) (da_cons de_int (da_cons (dv 1) da_nil)))))
      (dss_cons (ds_if (dt_cmp (od_eq hr) (de_call (ok_l_take T) (hr.mono (by decide)) T.m_l_take T.f_l_take.kp T.b_l_take .nil (fun _ => .nil) (da_cons (dv 0) (da_cons de_int da_nil))) de_int (nomark _)) (dss_one (ds_ret (de_op od_add (dv 2) (dv 3)))) dss_nil)
      (dss_one (ds_ret (de_op od_add (de_op od_add (de_op od_add (dv 2) (dv 3)) (de_str (l := [46]))) (de_call (ok_l_digits T) (hr.mono (by decide)) T.m_l_digits T.f_l_digits.kp T.b_l_digits .nil (fun _ => .nil) (da_cons (dv 0) (da_cons de_int (da_cons (dv 1) da_nil))))))))))
theorem ok_l_signs (T : Txt K mg A) : FnD P w K A.cl mg base 1 A.a_l_signs A.d_l_signs [] sp_l_signs := by
  have nd := sc_l_signs.nd
  refine fn_d (k := 0) (td := td_l_signs) T.f_l_signs sc_l_signs len_l_signs pure_l_signs fun cdv A' outer s H E hr => ?_
  exact (dss_cons (ds_set 0 nd (de_str (l := [32, 33, 34, 35, 36, 38, 39, 40, 41, 42, 43, 44, 45, 46, 47, 48, 49, 50, 51, 52, 53, 54, 55, 56, 57, 58, 59, 60, 61, 62, 63, 64, 65, 66, 67, 68, 69, 70, 71, 72, 73, 74, 75, 76, 77, 78, 79, 80, 81, 82, 83, 84, 85, 86, 87, 88, 89, 90, 91, 92, 93, 94, 95])))
      (dss_one (ds_ret (de_op od_add (dv 0) (de_str (l := [96, 97, 98, 99, 100, 101, 102, 103, 104, 105, 106, 107, 108, 109, 110, 111, 112, 113, 114, 115, 116, 117, 118, 119, 120, 121, 122, 123, 124, 125, 126]))))))
theorem ok_l_text (T : Txt K mg A) : FnD P w K A.cl mg base 5 A.a_l_text A.d_l_text ["_law_bag_here"] sp_l_text := by
  have nd := sc_l_text.nd
  refine fn_d (k := 4) (td := td_l_text) T.f_l_text sc_l_text len_l_text pure_l_text fun cdv A' outer s H E hr => ?_
  exact (dss_cons (ds_set 1 nd (de_call (ok_l_take T) (hr.mono (by decide)) T.m_l_take T.f_l_take.kp T.b_l_take .nil (fun _ => .nil) (da_cons (dv 0) (da_cons de_int da_nil))))
      (dss_cons (ds_if (dt_cmp (od_eq hr) (dv 1) de_int (nomark _)) (dss_one (ds_ret (de_bm PySem.F.plainAttrs_str PySem.F.slot_str_join PySem.F.type_str_join md_join (de_str (l := [])) (da_cons (de_fz (de_lc nd (di_rng1 T.z_range (da_cons (de_call (ok_l_take T) (hr.mono (by decide)) T.m_l_take T.f_l_take.kp T.b_l_take .nil (fun _ => .nil) (da_cons (dv 0) (da_cons de_int da_nil))) da_nil)) (blkOk_by (own := [("_law_turn", 2)]) (N := ["_law_bag_here", "_law_road", "_law_turn"]) (sc := defScope s_l_text) (by decide +kernel)) (fun _ _ _ _ _ => (do_name 2 nd)) (fun _ _ _ _ _ => dts_nil) (fun _ _ _ _ _ => (de_call (ok_l_of T) (hr.mono (by decide)) T.m_l_of T.f_l_of.kp T.b_l_of .nil (fun _ => .nil) (da_cons (dv 0) (da_cons (de_call0 (ok_l_signs T) (hr.mono (by decide)) T.m_l_signs T.f_l_signs.kp T.b_l_signs .nil (fun _ => .nil)) da_nil)))))) da_nil)))) dss_nil)
      (dss_cons (ds_if (dt_cmp (od_eq hr) (dv 1) de_int (nomark _)) (dss_one (ds_ret (de_bm PySem.F.plainAttrs_str PySem.F.slot_str_join PySem.F.type_str_join md_join (de_str (l := [])) (da_cons (de_fz (de_lc nd (di_rng1 T.z_range (da_cons (de_call (ok_l_take T) (hr.mono (by decide)) T.m_l_take T.f_l_take.kp T.b_l_take .nil (fun _ => .nil) (da_cons (dv 0) (da_cons de_int da_nil))) da_nil)) (blkOk_by (own := [("_law_turn", 2)]) (N := ["_law_bag_here", "_law_road", "_law_turn"]) (sc := defScope s_l_text) (by decide +kernel)) (fun _ _ _ _ _ => (do_name 2 nd)) (fun _ _ _ _ _ => dts_nil) (fun _ _ _ _ _ => (de_call (ok_l_of T) (hr.mono (by decide)) T.m_l_of T.f_l_of.kp T.b_l_of .nil (fun _ => .nil) (da_cons (dv 0) (da_cons (de_str (l := [48, 48, 49, 57, 43, 45, 46, 32])) da_nil)))))) da_nil)))) dss_nil)
      (dss_cons (ds_if (dt_cmp (od_eq hr) (dv 1) de_int (nomark _)) (dss_one (ds_ret (de_call (ok_l_of T) (hr.mono (by decide)) T.m_l_of T.f_l_of.kp T.b_l_of .nil (fun _ => .nil) (da_cons (dv 0) (da_cons (de_lst (da_cons (de_str (l := [])) (da_cons (de_str (l := [78, 65])) (da_cons (de_str (l := [121, 101, 115])) (da_cons (de_str (l := [110, 111])) (da_cons (de_str (l := [120])) (da_cons (de_str (l := [116, 114, 117, 101])) (da_cons (de_str (l := [45])) (da_cons (de_str (l := [49])) (da_cons (de_str (l := [48])) (da_cons (de_str (l := [48, 48])) (da_cons (de_str (l := [48, 49])) (da_cons (de_str (l := [49, 46, 48])) (da_cons (de_str (l := [45, 48])) (da_cons (de_str (l := [43, 49])) da_nil))))))))))))))) da_nil))))) dss_nil)
      (dss_one (ds_ret (de_call (ok_l_number T) (hr.mono (by decide)) T.m_l_number T.f_l_number.kp T.b_l_number .nil (fun _ => .nil) (da_cons (dv 0) (da_cons de_int da_nil)))))))))
theorem ok_l_word (T : Txt K mg A) : FnD P w K A.cl mg base 3 A.a_l_word A.d_l_word ["_law_bag_here", "_law_at", "_law_most"] sp_l_word := by
  have nd := sc_l_word.nd
  refine fn_d (k := 2) (td := td_l_word) T.f_l_word sc_l_word len_l_word pure_l_word fun cdv A' outer s H E hr => ?_
  exact (dss_cons (ds_set 3 nd (de_str (l := [97, 98, 99, 100, 101, 102, 103, 104, 105, 106, 107, 108, 109, 110, 111, 112, 113, 114, 115, 116, 117, 118, 119, 120, 121, 122])))
      (dss_cons (ds_set 4 nd (de_bm PySem.F.plainAttrs_str PySem.F.slot_str_join PySem.F.type_str_join md_join (de_str (l := [])) (da_cons (de_fz (de_lc nd (di_rng1 T.z_range (da_cons (de_call (ok_l_take T) (hr.mono (by decide)) T.m_l_take T.f_l_take.kp T.b_l_take .nil (fun _ => .nil) (da_cons (dv 0) (da_cons de_int da_nil))) da_nil)) (blkOk_by (own := [("_law_turn", 5)]) (N := ["_law_bag_here", "_law_at", "_law_most", "_law_letters", "_law_some", "_law_turn"]) (sc := defScope s_l_word) (by decide +kernel)) (fun _ _ _ _ _ => (do_name 5 nd)) (fun _ _ _ _ _ => dts_nil) (fun _ _ _ _ _ => (de_call (ok_l_of T) (hr.mono (by decide)) T.m_l_of T.f_l_of.kp T.b_l_of .nil (fun _ => .nil) (da_cons (dv 0) (da_cons (dv 3) da_nil)))))) da_nil)))
      (dss_one (ds_ret (de_ifExp (dt_cmp (od_eq hr) (dv 2) de_int (nomark _)) (de_op od_add (de_ix (de_str (l := [99, 103, 104, 105, 106, 108, 110])) (dv 1)) (dv 4)) (de_op od_add (dv 4) (de_ix (de_str (l := [99, 103, 104, 105, 106, 108, 110])) (dv 1))))))))
theorem ok_l_words (T : Txt K mg A) : FnD P w K A.cl mg base 4 A.a_l_words A.d_l_words ["_law_bag_here", "_law_many"] sp_l_words := by
  have nd := sc_l_words.nd
  refine fn_d (k := 3) (td := td_l_words) T.f_l_words sc_l_words len_l_words pure_l_words fun cdv A' outer s H E hr => ?_
  exact (dss_cons (ds_set 2 nd (de_call (ok_l_take T) (hr.mono (by decide)) T.m_l_take T.f_l_take.kp T.b_l_take .nil (fun _ => .nil) (da_cons (dv 0) (da_cons de_int da_nil))))
      (dss_one (ds_ret (de_fz (de_lc nd (di_rng1 T.z_range (da_cons (dv 1) da_nil)) (blkOk_by (own := [("_law_at", 3)]) (N := ["_law_bag_here", "_law_many", "_law_side", "_law_at"]) (sc := defScope s_l_words) (by decide +kernel)) (fun _ _ _ _ _ => (do_name 3 nd)) (fun _ _ _ _ _ => dts_nil) (fun _ _ _ _ _ => (de_call (ok_l_word T) (hr.mono (by decide)) T.m_l_word T.f_l_word.kp T.b_l_word .nil (fun _ => .nil) (da_cons (dv 0) (da_cons (dv 3) (da_cons (dv 2) da_nil))))))))))
theorem ok_l_name (T : Txt K mg A) : FnD P w K A.cl mg base 5 A.a_l_name A.d_l_name ["_law_bag_here", "_law_columns_here"] sp_l_name := by
  have nd := sc_l_name.nd
  refine fn_d (k := 4) (td := td_l_name) T.f_l_name sc_l_name len_l_name pure_l_name fun cdv A' outer s H E hr => ?_
  exact (dss_cons (ds_par 2 3 nd (da_cons (de_ix (de_call (ok_l_of T) (hr.mono (by decide)) T.m_l_of T.f_l_of.kp T.b_l_of .nil (fun _ => .nil) (da_cons (dv 0) (da_cons (dv 1) da_nil))) de_int) (da_cons (de_call (ok_l_take T) (hr.mono (by decide)) T.m_l_take T.f_l_take.kp T.b_l_take .nil (fun _ => .nil) (da_cons (dv 0) (da_cons de_int da_nil))) da_nil)))
      (dss_cons (ds_if (dt_cmp od_lt (dv 3) de_int (nomark _)) (dss_one (ds_ret (dv 2))) dss_nil)
      (dss_cons (ds_if (dt_cmp od_lt (dv 3) de_int (nomark _)) (dss_one (ds_ret (de_ix (de_call (ok_l_words T) (hr.mono (by decide)) T.m_l_words T.f_l_words.kp T.b_l_words .nil (fun _ => .nil) (da_cons (dv 0) (da_cons de_int da_nil))) (de_call (ok_l_take T) (hr.mono (by decide)) T.m_l_take T.f_l_take.kp T.b_l_take .nil (fun _ => .nil) (da_cons (dv 0) (da_cons de_int da_nil)))))) dss_nil)
      (dss_cons (ds_set 4 nd (de_call (ok_l_of T) (hr.mono (by decide)) T.m_l_of T.f_l_of.kp T.b_l_of .nil (fun _ => .nil) (da_cons (dv 0) (da_cons (de_call0 (ok_l_signs T) (hr.mono (by decide)) T.m_l_signs T.f_l_signs.kp T.b_l_signs .nil (fun _ => .nil)) da_nil))))
      (dss_one (ds_ret (de_call (ok_l_of T) (hr.mono (by decide)) T.m_l_of T.f_l_of.kp T.b_l_of .nil (fun _ => .nil) (da_cons (dv 0) (da_cons (de_lst (da_cons de_non (da_cons de_bl (da_cons de_int (da_cons (de_str (l := [])) (da_cons (de_op od_add (dv 2) (dv 4)) (da_cons (de_op od_mul (dv 2) de_int) (da_cons (de_lst (da_cons (dv 2) da_nil)) (da_cons (de_tup (da_cons (dv 2) da_nil)) (da_cons (de_bm0 PySem.F.plainAttrs_str PySem.F.slot_str_upper PySem.F.type_str_upper md_upper (dv 2)) (da_cons (dv 4) da_nil))))))))))) da_nil)))))))))
theorem ok_l_columns (T : Txt K mg A) : FnD P w K A.cl mg base 6 A.a_l_columns A.d_l_columns ["_law_bag_here", "_law_most"] sp_l_columns := by
  have nd := sc_l_columns.nd
  refine fn_d (k := 5) (td := td_l_columns) T.f_l_columns sc_l_columns len_l_columns pure_l_columns fun cdv A' outer s H E hr => ?_
  exact (dss_cons (ds_asg (de_tup (da_cons (de_call (ok_l_words T) (hr.mono (by decide)) T.m_l_words T.f_l_words.kp T.b_l_words .nil (fun _ => .nil) (da_cons (dv 0) (da_cons (de_op od_add de_int (de_call (ok_l_take T) (hr.mono (by decide)) T.m_l_take T.f_l_take.kp T.b_l_take .nil (fun _ => .nil) (da_cons (dv 0) (da_cons de_int da_nil)))) da_nil))) (da_cons (de_call (ok_l_take T) (hr.mono (by decide)) T.m_l_take T.f_l_take.kp T.b_l_take .nil (fun _ => .nil) (da_cons (dv 0) (da_cons (de_op od_add (dv 1) de_int) da_nil))) da_nil))) (dg_tup (dgs_cons (dg_name 2 nd) (dgs_cons (dg_name 3 nd) dgs_nil))))
      (dss_one (ds_ret (de_fz (de_lc nd (di_list (dv 2)) (blkOk_by (own := [("_law_label", 4)]) (N := ["_law_bag_here", "_law_most", "_law_labels", "_law_size", "_law_label", "_law_turn"]) (sc := defScope s_l_columns) (by decide +kernel)) (fun _ _ _ _ _ => (do_name 4 nd)) (fun _ _ _ _ _ => dts_nil) (fun _ _ _ _ _ => (de_tup (da_cons (dv 4) (da_cons (de_fz (de_lc nd (di_rng1 T.z_range (da_cons (dv 3) da_nil)) (blk_in (blkOk_by (own := [("_law_turn", 5)]) (N := ["_law_bag_here", "_law_most", "_law_labels", "_law_size", "_law_label", "_law_turn"]) (sc := ({ kind := PySem.ScopeKind.function, names := [ (PySem.Str.ofString ".0", PySem.NameKind.local), (PySem.Str.ofString "_law_label", PySem.NameKind.local), (PySem.Str.ofString "range", PySem.NameKind.globalImplicit), (PySem.Str.ofString "_law_bag_here", PySem.NameKind.free), (PySem.Str.ofString "_law_size", PySem.NameKind.free)], isGenerator := false, isCoroutine := false, more := [] : PySem.Scope })) (by decide +kernel))) (fun _ _ _ _ _ => (do_name 5 nd)) (fun _ _ _ _ _ => dts_nil) (fun _ _ _ _ _ => (de_call (ok_l_text T) (hr.mono (by decide)) T.m_l_text T.f_l_text.kp T.b_l_text .nil (fun _ => .nil) (da_cons (dv 0) da_nil))))) da_nil)))))))))
theorem ok_l_right (T : Txt K mg A) : FnD P w K A.cl mg base 7 A.a_l_right A.d_l_right ["_law_bag_here"] sp_l_right := by
  have nd := sc_l_right.nd
  refine fn_d (k := 6) (td := td_l_right) T.f_l_right sc_l_right len_l_right pure_l_right fun cdv A' outer s H E hr => ?_
  exact (dss_cons (ds_set 1 nd (de_call (ok_l_columns T) (hr.mono (by decide)) T.m_l_columns T.f_l_columns.kp T.b_l_columns .nil (fun _ => .nil) (da_cons (dv 0) (da_cons de_int da_nil))))
      (dss_cons (ds_par 2 3 nd (da_cons (de_make (ce_Table_initC_2 T) T.h_Table_initC (hr.mono (by decide)) pass0 T.m_Table (da_cons (de_call (ok_l_copied T) (hr.mono (by decide)) T.m_l_copied T.f_l_copied.kp T.b_l_copied .nil (fun _ => .nil) (da_cons (dv 1) da_nil)) da_nil) dk_nil) (da_cons (de_callB cd_len T.z_len boot_len_ (da_cons (de_ix (de_ix (dv 1) de_int) de_int) da_nil)) da_nil)))
      (dss_cons (ds_par 4 5 nd (da_cons (dv 1) (da_cons (de_meth (ce_Table_only_2 T) (hr.mono (by decide)) pass0 T.c_Table T.h_Table_only (dv 2) (da_cons (de_listR T.z_list T.z_range (dv 3)) da_nil) dk_nil) da_nil)))
      (dss_cons (ds_for PassesOwn.never (di_rng1 T.z_range (da_cons (de_op od_add de_int (de_call (ok_l_take T) (hr.mono (by decide)) T.m_l_take T.f_l_take.kp T.b_l_take .nil (fun _ => .nil) (da_cons (dv 0) (da_cons de_int da_nil)))) da_nil)) (dg_name 6 nd) (dss_cons (ds_set 7 nd (de_call (ok_l_name T) (hr.mono (by decide)) T.m_l_name T.f_l_name.kp T.b_l_name .nil (fun _ => .nil) (da_cons (dv 0) (da_cons (dv 1) da_nil))))
      (dss_cons (ds_set 8 nd (de_ifExp (dt_cmp od_gt (de_call (ok_l_take T) (hr.mono (by decide)) T.m_l_take T.f_l_take.kp T.b_l_take .nil (fun _ => .nil) (da_cons (dv 0) (da_cons de_int da_nil))) de_int (nomark _)) (dv 3) (de_call (ok_l_take T) (hr.mono (by decide)) T.m_l_take T.f_l_take.kp T.b_l_take .nil (fun _ => .nil) (da_cons (dv 0) (da_cons de_int da_nil)))))
      (dss_cons (ds_setLcF 9 nd (di_rng1 T.z_range (da_cons (dv 8) da_nil)) (blkOk_by (own := [("_law_k", 15)]) (N := ["_law_bag_here", "_law_columns_here", "_law_table", "_law_size", "_law_first", "_law_before", "_law_turn", "_law_thing", "_law_many", "_law_texts", "_law_handed", "_law_part", "_law_held", "_law_shown", "e", "_law_k"]) (sc := defScope s_l_right) (by decide +kernel)) (fun _ _ _ _ _ => (do_name 15 nd)) (fun _ _ _ _ _ => dts_nil) (fun _ _ _ _ _ => (de_call (ok_l_text T) (hr.mono (by decide)) T.m_l_text T.f_l_text.kp T.b_l_text .nil (fun _ => .nil) (da_cons (dv 0) da_nil))) (sw_true rfl rfl rfl (by decide +kernel)))
      (dss_cons (ds_par3 10 11 12 nd (da_cons (de_callTy cd_listC T.z_list boot_list_ (da_cons (dv 9) da_nil)) (da_cons de_non (da_cons (de_meth0 (ce_Table_namesC_1 T) (hr.mono (by decide)) pass0 T.c_Table T.h_Table_namesC (dv 2) dk_nil) da_nil))))
      (dss_cons (ds_set 13 nd (de_callB (cd_reprC hr.gd hr.units) T.z_repr boot_repr_ (da_cons (dv 12) da_nil)))
      (dss_cons (ds_try (i := 14) (hN := nd) takes0 finw_none ⟨rfl, by decide, .inl T.m_BadTable⟩ (exs_cons T.em_BadTable_BadTable exs_nil) (fun W pn xe F0 Ex sb tkX po fw => (dss_one (ds_asg (dv 10) (dg_subX tkX fw (ce_Table_setitemX_3 T) (hr.mono (by decide)) T.h_Table_setitemX T.nq_Table (dv 2) (dv 7)))))
      (fun a dd oe c fs ds pn F0 hz hv hd rf lk => by
        obtain rfl := caught1 lk (by decide)
        exact (dss_cons (ds_if (PW.pt (dw_or (dt_not (dt_val (de_xis hz hv hd T.ex_BadTable (ck_of T.ex_BadTable.hd) T.z_isinstance (dv 14) (xis_own T.m_GuessError) rel_ref T.kx_BadTable_GuessError))) (dw_or1 (dt_val (de_xis hz hv hd T.ex_BadTable (ck_of T.ex_BadTable.hd) T.z_isinstance (dv 14) (xis_own T.m_NoColumn) rel_ref T.kx_BadTable_NoColumn))))) (dss_one (ds_ret de_bl)) dss_nil)
      (dss_one (ds_set 11 nd (de_lst (da_cons (de_xf hz hv hd rf T.xc_BadTable (T.xn_BadTable "part" (by decide)) (dv 14)) da_nil)))))))
      (dss_cons (ds_if (PW.pt (dw_or (dt_cmp (od_neC hr) (dv 10) (dv 9) (nomark _)) (dw_or1 (dt_cmp (od_ne hr) (de_callB (cd_reprC hr.gd hr.units) T.z_repr boot_repr_ (da_cons (dv 12) da_nil)) (dv 13) (nomark _))))) (dss_one (ds_ret de_bl)) dss_nil)
      (dss_cons (ds_expr (de_bm PySem.F.plainAttrs_list PySem.F.slot_list_append PySem.F.type_list_append md_append (dv 10) (da_cons (de_str (l := [108, 97, 116, 101, 114])) da_nil)))
      (dss_cons (ds_expr (de_bm0 PySem.F.plainAttrs_list PySem.F.slot_list_reverse PySem.F.type_list_reverse md_reverse (dv 10)))
      (dss_cons (ds_if (PW.pt (dw_or (dt_not (dt_val (de_call (ok_l_is_word T) (hr.mono (by decide)) T.m_l_is_word T.f_l_is_word.kp T.b_l_is_word .nil (fun _ => .nil) (da_cons (dv 7) da_nil)))) (dw_or1 (dt_cmp (od_ne hr) (dv 8) (dv 3) (nomark _))))) (dss_one (ds_if (PW.pt (dw_or (dt_cmp od_isN (dv 11) de_non (nomark _)) (dw_or1 (dt_cmp (od_ne hr) (de_callB (cd_repr hr.gd hr.units) T.z_repr boot_repr_ (da_cons (dv 11) da_nil)) (de_callB (cd_repr hr.gd hr.units) T.z_repr boot_repr_ (da_cons (de_lst (da_cons (dv 7) da_nil)) da_nil)) (nomark _))))) (dss_one (ds_ret de_bl)) dss_nil)) (dss_cons (ds_if (dt_cmp od_notN (dv 11) de_non (nomark _)) (dss_one (ds_ret de_bl)) dss_nil)
      (dss_one (ds_set 1 nd (de_call (ok_l_put T) (hr.mono (by decide)) T.m_l_put T.f_l_put.kp T.b_l_put .nil (fun _ => .nil) (da_cons (dv 1) (da_cons (dv 7) (da_cons (dv 9) da_nil))))))))
      (dss_one (ds_if (PW.pt (dw_or (dt_not (dt_val (de_call (ok_l_is_as T) (hr.mono (by decide)) T.m_l_is_as T.f_l_is_as.kp T.b_l_is_as .nil (fun _ => .nil) (da_cons (dv 2) (da_cons (dv 1) da_nil))))) (dw_or1 (dt_not (dt_val (de_call (ok_l_is_as T) (hr.mono (by decide)) T.m_l_is_as T.f_l_is_as.kp T.b_l_is_as .nil (fun _ => .nil) (da_cons (dv 5) (da_cons (dv 4) da_nil)))))))) (dss_one (ds_ret de_bl)) dss_nil)))))))))))))
      (dss_one (ds_ret de_bl))))))
theorem ok_l_bag (T : Txt K mg A) : FnD P w K A.cl mg base 1 A.a_l_bag A.d_l_bag ["_law_script", "_law_at"] sp_l_bag := by
  have nd := sc_l_bag.nd
  refine fn_d (k := 0) (td := td_l_bag) T.f_l_bag sc_l_bag len_l_bag pure_l_bag fun cdv A' outer s H E hr => ?_
  exact (dss_cons (ds_set 2 nd (de_ifExp (dt_cmp od_lt (dv 1) (de_callB cd_len T.z_len boot_len_ (da_cons (dv 0) da_nil)) (nomark _)) (de_ix (dv 0) (dv 1)) de_int))
      (dss_cons (ds_set 3 nd (de_ifExp (dt_cmp od_ge (de_callB cd_abs T.z_abs boot_abs_ (da_cons (dv 2) da_nil)) (de_op od_pow de_int de_int) (nomark _)) (de_callB cd_abs T.z_abs boot_abs_ (da_cons (dv 2) da_nil)) de_int))
      (dss_one (ds_ret (de_lstC (da_cons (dv 3) (da_cons (de_op od_add (de_op od_add (de_op od_mul (de_op od_mod (de_callTy cd_int T.z_int boot_int_ (da_cons (dv 2) da_nil)) de_int) de_int) (de_op od_mul de_int (dv 1))) de_int) (da_cons de_int da_nil))))))))
theorem ok_law (T : Txt K mg A) : FnD P w K A.cl mg base 8 A.a_law A.d_law ["_law_script"] sp_law := by
  have nd := sc_law.nd
  refine fn_d (k := 7) (td := td_law) T.f_law sc_law len_law pure_law fun cdv A' outer s H E hr => ?_
  exact (dss_cons (ds_for PassesOwn.never (di_rng1 T.z_range (da_cons (de_callB cd_max T.z_max boot_max_ (da_cons de_int (da_cons (de_callB cd_min T.z_min boot_min_ (da_cons de_int (da_cons (de_callB cd_len T.z_len boot_len_ (da_cons (dv 0) da_nil)) da_nil))) da_nil))) da_nil)) (dg_name 1 nd) (dss_one (ds_if (dt_not (dt_val (de_call (ok_l_right T) (hr.mono (by decide)) T.m_l_right T.f_l_right.kp T.b_l_right .nil (fun _ => .nil) (da_cons (de_call (ok_l_bag T) (hr.mono (by decide)) T.m_l_bag T.f_l_bag.kp T.b_l_bag .nil (fun _ => .nil) (da_cons (dv 0) (da_cons (dv 1) da_nil))) da_nil)))) (dss_one (ds_ret de_bl)) dss_nil)))
      (dss_one (ds_ret de_bl)))
end
theorem all_mk {l : PySem.W.OpenLaw} {w : World} {K : PySem.W.Frag} {h : Heap} {mg : Str → Option Value} {fa : Addr} (X : K.In h) (G : h.Ns mainGlobals mg) (hfa : mg "law" = some (.ref fa))
    {C_Table : Addr}
    {f_l_take : Addr} {d_l_take : FuncData}
    {f_Table_getitemC : Addr} {d_Table_getitemC : FuncData}
    {f_Table_containsC : Addr} {d_Table_containsC : FuncData}
    {f_Table_row_at : Addr} {d_Table_row_at : FuncData}
    {f_is_word : Addr} {d_is_word : FuncData}
    {f_Table_initC : Addr} {d_Table_initC : FuncData}
    {f_Table_namesC : Addr} {d_Table_namesC : FuncData}
    {f_Table_add : Addr} {d_Table_add : FuncData}
    {f_Table_only : Addr} {d_Table_only : FuncData}
    {f_Table_lenC : Addr} {d_Table_lenC : FuncData}
    {f_l_copied : Addr} {d_l_copied : FuncData}
    {f_Table_eqC : Addr} {d_Table_eqC : FuncData}
    {f_l_is_as : Addr} {d_l_is_as : FuncData}
    {f_l_is_word : Addr} {d_l_is_word : FuncData}
    {f_l_put : Addr} {d_l_put : FuncData}
    {f_Table_setitemX : Addr} {d_Table_setitemX : FuncData}
    {f_l_of : Addr} {d_l_of : FuncData}
    {f_l_digits : Addr} {d_l_digits : FuncData}
    {f_l_number : Addr} {d_l_number : FuncData}
    {f_l_signs : Addr} {d_l_signs : FuncData}
    {f_l_text : Addr} {d_l_text : FuncData}
    {f_l_word : Addr} {d_l_word : FuncData}
    {f_l_words : Addr} {d_l_words : FuncData}
    {f_l_name : Addr} {d_l_name : FuncData}
    {f_l_columns : Addr} {d_l_columns : FuncData}
    {f_l_right : Addr} {d_l_right : FuncData}
    {f_l_bag : Addr} {d_l_bag : FuncData}
    {f_law : Addr} {d_law : FuncData}
    {C_GuessError : Addr}
    {C_BadTable : Addr}
    {C_NoColumn : Addr}
    {f_BadTable_init : Addr} {d_BadTable_init : FuncData}
    (a_Table : PySem.W.nsIn K mainGlobals "Table" = some (some (.ref C_Table)))
    (pg_Table : PySem.W.plainGet K C_Table Str.empty = true)
    (hd_Table : PySem.W.hasDictIn K C_Table = true)
    (po_Table : PySem.W.plainOver K C_Table = true)
    (sa_Table : PySem.W.findIn K (.ref C_Table) "__setattr__" = some (some (.builtin "object.__setattr__")))
    (rd_Table : PySem.W.readsIn K C_Table (.type "type") = true)
    (ga_Table : PySem.W.specialIn K (.ref C_Table) "__getattribute__" = some (some (.builtin "type.__getattribute__")))
    (n_Table_held : PySem.W.findIn K (.ref C_Table) "held" = some none)
    (n_Table_many : PySem.W.findIn K (.ref C_Table) "many" = some none)
    (ne_Table : PySem.W.findIn K (.ref C_Table) "__ne__" = some (some (.builtin "object.__ne__")))
    (om_Table : PySem.W.mroIn K C_Table (.type "object") = some true)
    (sf_Table : PySem.W.selfFirst K C_Table = true)
    (nq_Table : PySem.W.noSeq K C_Table = true)
    (a_l_take : PySem.W.nsIn K mainGlobals "_law_take" = some (some (.ref f_l_take)))
    (F_l_take : FunD K "_law_take" "_law_take" (defArgs s_l_take) (defBody s_l_take) (defScope s_l_take) [] [] f_l_take d_l_take)
    (a_Table_getitemC : PySem.W.findIn K (.ref C_Table) "__getitem__" = some (some (.ref f_Table_getitemC)))
    (fn_Table_getitemC : PySem.W.isFn K (.ref f_Table_getitemC) = true)
    (fi_Table_getitemC : PySem.W.fnIn K f_Table_getitemC = true)
    (F_Table_getitemC : FunD K "__getitem__" "Table.__getitem__" (defArgs s_Table_getitemC) (defBody s_Table_getitemC) (defScope s_Table_getitemC) [] [] f_Table_getitemC d_Table_getitemC)
    (a_Table_containsC : PySem.W.findIn K (.ref C_Table) "__contains__" = some (some (.ref f_Table_containsC)))
    (fn_Table_containsC : PySem.W.isFn K (.ref f_Table_containsC) = true)
    (F_Table_containsC : FunD K "__contains__" "Table.__contains__" (defArgs s_Table_containsC) (defBody s_Table_containsC) (defScope s_Table_containsC) [] [] f_Table_containsC d_Table_containsC)
    (a_Table_row_at : PySem.W.findIn K (.ref C_Table) "row_at" = some (some (.ref f_Table_row_at)))
    (fn_Table_row_at : PySem.W.isFn K (.ref f_Table_row_at) = true)
    (F_Table_row_at : FunD K "row_at" "Table.row_at" (defArgs s_Table_row_at) (defBody s_Table_row_at) (defScope s_Table_row_at) [] [] f_Table_row_at d_Table_row_at)
    (a_is_word : PySem.W.nsIn K mainGlobals "is_word" = some (some (.ref f_is_word)))
    (F_is_word : FunD K "is_word" "is_word" (defArgs s_is_word) (defBody s_is_word) (defScope s_is_word) [] [] f_is_word d_is_word)
    (a_Table_initC : PySem.W.findIn K (.ref C_Table) "__init__" = some (some (.ref f_Table_initC)))
    (fn_Table_initC : PySem.W.isFn K (.ref f_Table_initC) = true)
    (mk_Table_initC : PySem.W.makesIn K C_Table = true)
    (kc_Table_initC : PySem.W.keepIn K (.ref C_Table) = true)
    (F_Table_initC : FunD K "__init__" "Table.__init__" (defArgs s_Table_initC) (defBody s_Table_initC) (defScope s_Table_initC) [] [] f_Table_initC d_Table_initC)
    (a_Table_namesC : PySem.W.findIn K (.ref C_Table) "names" = some (some (.ref f_Table_namesC)))
    (fn_Table_namesC : PySem.W.isFn K (.ref f_Table_namesC) = true)
    (F_Table_namesC : FunD K "names" "Table.names" (defArgs s_Table_namesC) (defBody s_Table_namesC) (defScope s_Table_namesC) [] [] f_Table_namesC d_Table_namesC)
    (a_Table_add : PySem.W.findIn K (.ref C_Table) "__add__" = some (some (.ref f_Table_add)))
    (fn_Table_add : PySem.W.isFn K (.ref f_Table_add) = true)
    (F_Table_add : FunD K "__add__" "Table.__add__" (defArgs s_Table_add) (defBody s_Table_add) (defScope s_Table_add) [] [] f_Table_add d_Table_add)
    (a_Table_only : PySem.W.findIn K (.ref C_Table) "only" = some (some (.ref f_Table_only)))
    (fn_Table_only : PySem.W.isFn K (.ref f_Table_only) = true)
    (F_Table_only : FunD K "only" "Table.only" (defArgs s_Table_only) (defBody s_Table_only) (defScope s_Table_only) [] [] f_Table_only d_Table_only)
    (a_Table_lenC : PySem.W.findIn K (.ref C_Table) "__len__" = some (some (.ref f_Table_lenC)))
    (fn_Table_lenC : PySem.W.isFn K (.ref f_Table_lenC) = true)
    (F_Table_lenC : FunD K "__len__" "Table.__len__" (defArgs s_Table_lenC) (defBody s_Table_lenC) (defScope s_Table_lenC) [] [] f_Table_lenC d_Table_lenC)
    (a_l_copied : PySem.W.nsIn K mainGlobals "_law_copied" = some (some (.ref f_l_copied)))
    (F_l_copied : FunD K "_law_copied" "_law_copied" (defArgs s_l_copied) (defBody s_l_copied) (defScope s_l_copied) [] [] f_l_copied d_l_copied)
    (a_Table_eqC : PySem.W.findIn K (.ref C_Table) "__eq__" = some (some (.ref f_Table_eqC)))
    (fn_Table_eqC : PySem.W.isFn K (.ref f_Table_eqC) = true)
    (F_Table_eqC : FunD K "__eq__" "Table.__eq__" (defArgs s_Table_eqC) (defBody s_Table_eqC) (defScope s_Table_eqC) [] [] f_Table_eqC d_Table_eqC)
    (a_l_is_as : PySem.W.nsIn K mainGlobals "_law_is_as" = some (some (.ref f_l_is_as)))
    (F_l_is_as : FunD K "_law_is_as" "_law_is_as" (defArgs s_l_is_as) (defBody s_l_is_as) (defScope s_l_is_as) [] [] f_l_is_as d_l_is_as)
    (a_l_is_word : PySem.W.nsIn K mainGlobals "_law_is_word" = some (some (.ref f_l_is_word)))
    (F_l_is_word : FunD K "_law_is_word" "_law_is_word" (defArgs s_l_is_word) (defBody s_l_is_word) (defScope s_l_is_word) [] [] f_l_is_word d_l_is_word)
    (a_l_put : PySem.W.nsIn K mainGlobals "_law_put" = some (some (.ref f_l_put)))
    (F_l_put : FunD K "_law_put" "_law_put" (defArgs s_l_put) (defBody s_l_put) (defScope s_l_put) [] [] f_l_put d_l_put)
    (a_Table_setitemX : PySem.W.findIn K (.ref C_Table) "__setitem__" = some (some (.ref f_Table_setitemX)))
    (fn_Table_setitemX : PySem.W.isFn K (.ref f_Table_setitemX) = true)
    (F_Table_setitemX : FunD K "__setitem__" "Table.__setitem__" (defArgs s_Table_setitemX) (defBody s_Table_setitemX) (defScope s_Table_setitemX) [] [] f_Table_setitemX d_Table_setitemX)
    (a_l_of : PySem.W.nsIn K mainGlobals "_law_of" = some (some (.ref f_l_of)))
    (F_l_of : FunD K "_law_of" "_law_of" (defArgs s_l_of) (defBody s_l_of) (defScope s_l_of) [] [] f_l_of d_l_of)
    (a_l_digits : PySem.W.nsIn K mainGlobals "_law_digits" = some (some (.ref f_l_digits)))
    (F_l_digits : FunD K "_law_digits" "_law_digits" (defArgs s_l_digits) (defBody s_l_digits) (defScope s_l_digits) [] [] f_l_digits d_l_digits)
    (a_l_number : PySem.W.nsIn K mainGlobals "_law_number" = some (some (.ref f_l_number)))
    (F_l_number : FunD K "_law_number" "_law_number" (defArgs s_l_number) (defBody s_l_number) (defScope s_l_number) [] [] f_l_number d_l_number)
    (a_l_signs : PySem.W.nsIn K mainGlobals "_law_signs" = some (some (.ref f_l_signs)))
    (F_l_signs : FunD K "_law_signs" "_law_signs" (defArgs s_l_signs) (defBody s_l_signs) (defScope s_l_signs) [] [] f_l_signs d_l_signs)
    (a_l_text : PySem.W.nsIn K mainGlobals "_law_text" = some (some (.ref f_l_text)))
    (F_l_text : FunD K "_law_text" "_law_text" (defArgs s_l_text) (defBody s_l_text) (defScope s_l_text) [] [] f_l_text d_l_text)
    (a_l_word : PySem.W.nsIn K mainGlobals "_law_word" = some (some (.ref f_l_word)))
    (F_l_word : FunD K "_law_word" "_law_word" (defArgs s_l_word) (defBody s_l_word) (defScope s_l_word) [] [] f_l_word d_l_word)
    (a_l_words : PySem.W.nsIn K mainGlobals "_law_words" = some (some (.ref f_l_words)))
    (F_l_words : FunD K "_law_words" "_law_words" (defArgs s_l_words) (defBody s_l_words) (defScope s_l_words) [] [] f_l_words d_l_words)
    (a_l_name : PySem.W.nsIn K mainGlobals "_law_name" = some (some (.ref f_l_name)))
    (F_l_name : FunD K "_law_name" "_law_name" (defArgs s_l_name) (defBody s_l_name) (defScope s_l_name) [] [] f_l_name d_l_name)
    (a_l_columns : PySem.W.nsIn K mainGlobals "_law_columns" = some (some (.ref f_l_columns)))
    (F_l_columns : FunD K "_law_columns" "_law_columns" (defArgs s_l_columns) (defBody s_l_columns) (defScope s_l_columns) [] [] f_l_columns d_l_columns)
    (a_l_right : PySem.W.nsIn K mainGlobals "_law_right" = some (some (.ref f_l_right)))
    (F_l_right : FunD K "_law_right" "_law_right" (defArgs s_l_right) (defBody s_l_right) (defScope s_l_right) [] [] f_l_right d_l_right)
    (a_l_bag : PySem.W.nsIn K mainGlobals "_law_bag" = some (some (.ref f_l_bag)))
    (F_l_bag : FunD K "_law_bag" "_law_bag" (defArgs s_l_bag) (defBody s_l_bag) (defScope s_l_bag) [] [] f_l_bag d_l_bag)
    (a_law : PySem.W.nsIn K mainGlobals "law" = some (some (.ref f_law)))
    (F_law : FunD K "law" "law" (defArgs s_law) (defBody s_law) (defScope s_law) [] [] f_law d_law)
    (i_Table_NoneType : PySem.W.kitOne K (.type "NoneType") (.ref C_Table) = some false)
    (i_Table_bool : PySem.W.kitOne K (.type "bool") (.ref C_Table) = some false)
    (i_Table_int : PySem.W.kitOne K (.type "int") (.ref C_Table) = some false)
    (i_Table_str : PySem.W.kitOne K (.type "str") (.ref C_Table) = some false)
    (i_Table_list : PySem.W.kitOne K (.type "list") (.ref C_Table) = some false)
    (i_Table_tuple : PySem.W.kitOne K (.type "tuple") (.ref C_Table) = some false)
    (i_Table_dict : PySem.W.kitOne K (.type "dict") (.ref C_Table) = some false)
    (i_Table_Table : PySem.W.kitOne K (.ref C_Table) (.ref C_Table) = some true)
    (ic_Table_Table : PySem.W.findIn K (.ref C_Table) "__class__" = some (some (.builtin "object.__class__")))
    (in_Table_Table : PySem.W.specialIn K (.builtin "object.__class__") "__get__" = some (some (.builtin "getset_descriptor.__get__")))
    (it_Table_Table : PySem.W.takesIn K (.builtin "object.__class__") = some true)
    (im_Table_Table : PySem.W.mroIn K C_Table (.type "object") = some true)
    (a_GuessError : PySem.W.nsIn K mainGlobals "GuessError" = some (some (.ref C_GuessError)))
    (a_BadTable : PySem.W.nsIn K mainGlobals "BadTable" = some (some (.ref C_BadTable)))
    (a_NoColumn : PySem.W.nsIn K mainGlobals "NoColumn" = some (some (.ref C_NoColumn)))
    (xi_BadTable : PySem.W.findIn K (.ref C_BadTable) "__init__" = some (some (.ref f_BadTable_init)))
    (xt_BadTable : PySem.W.typeIn K (.ref f_BadTable_init) = some (.type "function"))
    (F_BadTable_init : FunD K "__init__" "BadTable.__init__" (defArgs s_BadTable_init) (defBody s_BadTable_init) (defScope s_BadTable_init) [] [] f_BadTable_init d_BadTable_init)
    (xq_BadTable : PySem.W.excInitIn K C_BadTable [.type "ValueError", .type "Exception", .type "BaseException", .type "object"] "ValueError.__new__" = true)
    (xh_BadTable : PySem.W.hasDictIn K C_BadTable = true)
    (xsa_BadTable : PySem.W.findIn K (.ref C_BadTable) "__setattr__" = some (some (.builtin "object.__setattr__")))
    (xex_BadTable : PySem.W.subIn K (.ref C_BadTable) (.type "BaseException") = some true)
    (xty_BadTable : PySem.W.typeIn K (.ref C_BadTable) = some (.type "type"))
    (xkp_BadTable : PySem.W.keepIn K (.ref C_BadTable) = true)
    (xn_BadTable_part : PySem.W.findIn K (.ref C_BadTable) "part" = some none)
    (xrd_GuessError : PySem.W.readsIn K C_GuessError (.type "type") = true)
    (xga_GuessError : PySem.W.specialIn K (.ref C_GuessError) "__getattribute__" = some (some (.builtin "type.__getattribute__")))
    (xb_GuessError : PySem.W.findCls K (.ref C_GuessError) (.type "type") "__init__" = some (.val (.builtin "ValueError.__init__")))
    (eg_BadTable : PySem.W.findIn K (.ref C_BadTable) "__getattribute__" = some (some (.builtin "BaseException.__getattribute__")))
    (ek_BadTable : PySem.W.findIn K (.ref C_BadTable) "__getattr__" = some none)
    (es_BadTable : PySem.W.subIn K (.ref C_BadTable) (.type "BaseException") = some true)
    (ed_BadTable : PySem.W.hasDictIn K C_BadTable = true)
    (ea_BadTable : PySem.W.findIn K (.ref C_BadTable) "__class__" = some (some (.builtin "object.__class__")))
    (en_BadTable : PySem.W.specialIn K (.builtin "object.__class__") "__get__" = some (some (.builtin "getset_descriptor.__get__")))
    (et_BadTable : PySem.W.takesIn K (.builtin "object.__class__") = some true)
    (em_BadTable : PySem.W.mroIn K C_BadTable (.type "object") = some true)
    (hs_BadTable : PySem.W.subIn K (.ref C_BadTable) (.type "BaseException") = some true)
    (hh_BadTable : PySem.W.hasDictIn K C_BadTable = true)
    (ht_BadTable : PySem.W.typeIn K (.ref C_BadTable) = some (.type "type"))
    (es_BadTable_BadTable : PySem.W.subIn K (.ref C_BadTable) (.ref C_BadTable) = some true)
    (kx_BadTable_GuessError : PySem.W.kitOne K (.ref C_BadTable) (.ref C_GuessError) = some true)
    (kx_BadTable_NoColumn : PySem.W.kitOne K (.ref C_BadTable) (.ref C_NoColumn) = some false)
    (z_abs : PySem.W.nsIn K mainGlobals "abs" = some none)
    (z_all : PySem.W.nsIn K mainGlobals "all" = some none)
    (z_enumerate : PySem.W.nsIn K mainGlobals "enumerate" = some none)
    (z_int : PySem.W.nsIn K mainGlobals "int" = some none)
    (z_isinstance : PySem.W.nsIn K mainGlobals "isinstance" = some none)
    (z_len : PySem.W.nsIn K mainGlobals "len" = some none)
    (z_list : PySem.W.nsIn K mainGlobals "list" = some none)
    (z_max : PySem.W.nsIn K mainGlobals "max" = some none)
    (z_min : PySem.W.nsIn K mainGlobals "min" = some none)
    (z_range : PySem.W.nsIn K mainGlobals "range" = some none)
    (z_repr : PySem.W.nsIn K mainGlobals "repr" = some none)
    (z_str : PySem.W.nsIn K mainGlobals "str" = some none)
    (z_tuple : PySem.W.nsIn K mainGlobals "tuple" = some none)
    (g_LETTERS : ∃ t, PySem.W.nsIn K mainGlobals "LETTERS" = some (some (.str ⟨[97, 98, 99, 100, 101, 102, 103, 104, 105, 106, 107, 108, 109, 110, 111, 112, 113, 114, 115, 116, 117, 118, 119, 120, 121, 122].toArray⟩ t))) :
    ∃ fd : FuncData, (∀ (s : Shared) (v : Value), BindsTo s fd ⟨[v], []⟩ [("_law_script", v)]) ∧ ∀ base : Heap, K.In base → base.Ns mainGlobals mg → _root_.G.FnOk l.prog w K mg base CX0 8 fa fd ["_law_script"] (lowSp K (fun _ => 0) sp_law) := by
  have e := hfa.symm.trans (PySem.W.mg_of X G a_law)
  cases e
  obtain ⟨cl, e_Table, e_GuessError, e_BadTable, e_NoColumn⟩ : ∃ cl : Nm, cl "Table" = C_Table ∧ cl "GuessError" = C_GuessError ∧ cl "BadTable" = C_BadTable ∧ cl "NoColumn" = C_NoColumn := ⟨nm1 "Table" C_Table (nm1 "GuessError" C_GuessError (nm1 "BadTable" C_BadTable (nm1 "NoColumn" C_NoColumn (fun _ => 0)))), by simp [nm1], by simp [nm1], by simp [nm1], by simp [nm1]⟩
  subst e_Table
  subst e_GuessError
  subst e_BadTable
  subst e_NoColumn
  have F_BadTable_init := fun_ofD F_BadTable_init
  have b_BadTable_init := F_BadTable_init.binds (ps := ["self", "part"]) fun _ _ _ _ _ _ us hl => match us, hl with | [_, _], _ => rfl
  have B_law := FunD.bindsA (ps := ["_law_script"]) F_law fun _ _ _ _ _ _ us hl => match us, hl with | [_], _ => rfl
  have k_l_take := F_l_take.kp
  have F_l_take := fun_ofD F_l_take
  have b_l_take := F_l_take.binds (ps := ["_law_bag_here", "_law_many"]) fun _ _ _ _ _ _ us hl => match us, hl with | [_, _], _ => rfl
  have k_Table_getitemC := F_Table_getitemC.kp
  have F_Table_getitemC := fun_ofD F_Table_getitemC
  have b_Table_getitemC := F_Table_getitemC.binds (ps := ["self", "name"]) fun _ _ _ _ _ _ us hl => match us, hl with | [_, _], _ => rfl
  have k_Table_containsC := F_Table_containsC.kp
  have F_Table_containsC := fun_ofD F_Table_containsC
  have b_Table_containsC := F_Table_containsC.binds (ps := ["self", "name"]) fun _ _ _ _ _ _ us hl => match us, hl with | [_, _], _ => rfl
  have k_Table_row_at := F_Table_row_at.kp
  have F_Table_row_at := fun_ofD F_Table_row_at
  have b_Table_row_at := F_Table_row_at.binds (ps := ["self", "at"]) fun _ _ _ _ _ _ us hl => match us, hl with | [_, _], _ => rfl
  have k_is_word := F_is_word.kp
  have F_is_word := fun_ofD F_is_word
  have b_is_word := F_is_word.binds (ps := ["thing"]) fun _ _ _ _ _ _ us hl => match us, hl with | [_], _ => rfl
  have k_Table_initC := F_Table_initC.kp
  have F_Table_initC := fun_ofD F_Table_initC
  have b_Table_initC := F_Table_initC.binds (ps := ["self", "columns"]) fun _ _ _ _ _ _ us hl => match us, hl with | [_, _], _ => rfl
  have k_Table_namesC := F_Table_namesC.kp
  have F_Table_namesC := fun_ofD F_Table_namesC
  have b_Table_namesC := F_Table_namesC.binds (ps := ["self"]) fun _ _ _ _ _ _ us hl => match us, hl with | [_], _ => rfl
  have k_Table_add := F_Table_add.kp
  have F_Table_add := fun_ofD F_Table_add
  have b_Table_add := F_Table_add.binds (ps := ["self", "other"]) fun _ _ _ _ _ _ us hl => match us, hl with | [_, _], _ => rfl
  have k_Table_only := F_Table_only.kp
  have F_Table_only := fun_ofD F_Table_only
  have b_Table_only := F_Table_only.binds (ps := ["self", "rows"]) fun _ _ _ _ _ _ us hl => match us, hl with | [_, _], _ => rfl
  have k_Table_lenC := F_Table_lenC.kp
  have F_Table_lenC := fun_ofD F_Table_lenC
  have b_Table_lenC := F_Table_lenC.binds (ps := ["self"]) fun _ _ _ _ _ _ us hl => match us, hl with | [_], _ => rfl
  have k_l_copied := F_l_copied.kp
  have F_l_copied := fun_ofD F_l_copied
  have b_l_copied := F_l_copied.binds (ps := ["_law_columns_here"]) fun _ _ _ _ _ _ us hl => match us, hl with | [_], _ => rfl
  have k_Table_eqC := F_Table_eqC.kp
  have F_Table_eqC := fun_ofD F_Table_eqC
  have b_Table_eqC := F_Table_eqC.binds (ps := ["self", "other"]) fun _ _ _ _ _ _ us hl => match us, hl with | [_, _], _ => rfl
  have k_l_is_as := F_l_is_as.kp
  have F_l_is_as := fun_ofD F_l_is_as
  have b_l_is_as := F_l_is_as.binds (ps := ["_law_table", "_law_columns_here"]) fun _ _ _ _ _ _ us hl => match us, hl with | [_, _], _ => rfl
  have k_l_is_word := F_l_is_word.kp
  have F_l_is_word := fun_ofD F_l_is_word
  have b_l_is_word := F_l_is_word.binds (ps := ["_law_thing"]) fun _ _ _ _ _ _ us hl => match us, hl with | [_], _ => rfl
  have k_l_put := F_l_put.kp
  have F_l_put := fun_ofD F_l_put
  have b_l_put := F_l_put.binds (ps := ["_law_columns_here", "_law_thing", "_law_texts"]) fun _ _ _ _ _ _ us hl => match us, hl with | [_, _, _], _ => rfl
  have k_Table_setitemX := F_Table_setitemX.kp
  have F_Table_setitemX := fun_ofD F_Table_setitemX
  have b_Table_setitemX := F_Table_setitemX.binds (ps := ["self", "name", "texts"]) fun _ _ _ _ _ _ us hl => match us, hl with | [_, _, _], _ => rfl
  have k_l_of := F_l_of.kp
  have F_l_of := fun_ofD F_l_of
  have b_l_of := F_l_of.binds (ps := ["_law_bag_here", "_law_some"]) fun _ _ _ _ _ _ us hl => match us, hl with | [_, _], _ => rfl
  have k_l_digits := F_l_digits.kp
  have F_l_digits := fun_ofD F_l_digits
  have b_l_digits := F_l_digits.binds (ps := ["_law_bag_here", "_law_least", "_law_most"]) fun _ _ _ _ _ _ us hl => match us, hl with | [_, _, _], _ => rfl
  have k_l_number := F_l_number.kp
  have F_l_number := fun_ofD F_l_number
  have b_l_number := F_l_number.binds (ps := ["_law_bag_here", "_law_most"]) fun _ _ _ _ _ _ us hl => match us, hl with | [_, _], _ => rfl
  have k_l_signs := F_l_signs.kp
  have F_l_signs := fun_ofD F_l_signs
  have b_l_signs := F_l_signs.binds (ps := []) fun _ _ _ _ _ _ us hl => match us, hl with | [], _ => rfl
  have k_l_text := F_l_text.kp
  have F_l_text := fun_ofD F_l_text
  have b_l_text := F_l_text.binds (ps := ["_law_bag_here"]) fun _ _ _ _ _ _ us hl => match us, hl with | [_], _ => rfl
  have k_l_word := F_l_word.kp
  have F_l_word := fun_ofD F_l_word
  have b_l_word := F_l_word.binds (ps := ["_law_bag_here", "_law_at", "_law_most"]) fun _ _ _ _ _ _ us hl => match us, hl with | [_, _, _], _ => rfl
  have k_l_words := F_l_words.kp
  have F_l_words := fun_ofD F_l_words
  have b_l_words := F_l_words.binds (ps := ["_law_bag_here", "_law_many"]) fun _ _ _ _ _ _ us hl => match us, hl with | [_, _], _ => rfl
  have k_l_name := F_l_name.kp
  have F_l_name := fun_ofD F_l_name
  have b_l_name := F_l_name.binds (ps := ["_law_bag_here", "_law_columns_here"]) fun _ _ _ _ _ _ us hl => match us, hl with | [_, _], _ => rfl
  have k_l_columns := F_l_columns.kp
  have F_l_columns := fun_ofD F_l_columns
  have b_l_columns := F_l_columns.binds (ps := ["_law_bag_here", "_law_most"]) fun _ _ _ _ _ _ us hl => match us, hl with | [_, _], _ => rfl
  have k_l_right := F_l_right.kp
  have F_l_right := fun_ofD F_l_right
  have b_l_right := F_l_right.binds (ps := ["_law_bag_here"]) fun _ _ _ _ _ _ us hl => match us, hl with | [_], _ => rfl
  have k_l_bag := F_l_bag.kp
  have F_l_bag := fun_ofD F_l_bag
  have b_l_bag := F_l_bag.binds (ps := ["_law_script", "_law_at"]) fun _ _ _ _ _ _ us hl => match us, hl with | [_, _], _ => rfl
  have k_law := F_law.kp
  have F_law := fun_ofD F_law
  have b_law := F_law.binds (ps := ["_law_script"]) fun _ _ _ _ _ _ us hl => match us, hl with | [_], _ => rfl
  have T : Txt K mg ⟨cl, f_l_take, d_l_take, f_Table_getitemC, d_Table_getitemC, f_Table_containsC, d_Table_containsC, f_Table_row_at, d_Table_row_at, f_is_word, d_is_word, f_Table_initC, d_Table_initC, f_Table_namesC, d_Table_namesC, f_Table_add, d_Table_add, f_Table_only, d_Table_only, f_Table_lenC, d_Table_lenC, f_l_copied, d_l_copied, f_Table_eqC, d_Table_eqC, f_l_is_as, d_l_is_as, f_l_is_word, d_l_is_word, f_l_put, d_l_put, f_Table_setitemX, d_Table_setitemX, f_l_of, d_l_of, f_l_digits, d_l_digits, f_l_number, d_l_number, f_l_signs, d_l_signs, f_l_text, d_l_text, f_l_word, d_l_word, f_l_words, d_l_words, f_l_name, d_l_name, f_l_columns, d_l_columns, f_l_right, d_l_right, f_l_bag, d_l_bag, fa, d_law, f_BadTable_init, d_BadTable_init⟩ := {
    f_l_take := F_l_take
    b_l_take := b_l_take
    m_l_take := PySem.W.mg_of X G a_l_take
    kp_l_take := k_l_take
    f_Table_getitemC := F_Table_getitemC
    b_Table_getitemC := b_Table_getitemC
    h_Table_getitemC := ⟨a_Table_getitemC, fn_Table_getitemC⟩
    f_Table_containsC := F_Table_containsC
    b_Table_containsC := b_Table_containsC
    h_Table_containsC := ⟨a_Table_containsC, fn_Table_containsC⟩
    f_Table_row_at := F_Table_row_at
    b_Table_row_at := b_Table_row_at
    h_Table_row_at := ⟨a_Table_row_at, fn_Table_row_at, k_Table_row_at⟩
    f_is_word := F_is_word
    b_is_word := b_is_word
    m_is_word := PySem.W.mg_of X G a_is_word
    kp_is_word := k_is_word
    f_Table_initC := F_Table_initC
    b_Table_initC := b_Table_initC
    h_Table_initC := ⟨mk_Table_initC, a_Table_initC, fn_Table_initC, kc_Table_initC⟩
    f_Table_namesC := F_Table_namesC
    b_Table_namesC := b_Table_namesC
    h_Table_namesC := ⟨a_Table_namesC, fn_Table_namesC, k_Table_namesC⟩
    f_Table_add := F_Table_add
    b_Table_add := b_Table_add
    h_Table_add := ⟨a_Table_add, fn_Table_add⟩
    f_Table_only := F_Table_only
    b_Table_only := b_Table_only
    h_Table_only := ⟨a_Table_only, fn_Table_only, k_Table_only⟩
    f_Table_lenC := F_Table_lenC
    b_Table_lenC := b_Table_lenC
    h_Table_lenC := ⟨a_Table_lenC, fn_Table_lenC⟩
    f_l_copied := F_l_copied
    b_l_copied := b_l_copied
    m_l_copied := PySem.W.mg_of X G a_l_copied
    kp_l_copied := k_l_copied
    f_Table_eqC := F_Table_eqC
    b_Table_eqC := b_Table_eqC
    h_Table_eqC := ⟨a_Table_eqC, fn_Table_eqC⟩
    f_l_is_as := F_l_is_as
    b_l_is_as := b_l_is_as
    m_l_is_as := PySem.W.mg_of X G a_l_is_as
    kp_l_is_as := k_l_is_as
    f_l_is_word := F_l_is_word
    b_l_is_word := b_l_is_word
    m_l_is_word := PySem.W.mg_of X G a_l_is_word
    kp_l_is_word := k_l_is_word
    f_l_put := F_l_put
    b_l_put := b_l_put
    m_l_put := PySem.W.mg_of X G a_l_put
    kp_l_put := k_l_put
    f_Table_setitemX := F_Table_setitemX
    b_Table_setitemX := b_Table_setitemX
    h_Table_setitemX := ⟨a_Table_setitemX, fn_Table_setitemX⟩
    f_l_of := F_l_of
    b_l_of := b_l_of
    m_l_of := PySem.W.mg_of X G a_l_of
    kp_l_of := k_l_of
    f_l_digits := F_l_digits
    b_l_digits := b_l_digits
    m_l_digits := PySem.W.mg_of X G a_l_digits
    kp_l_digits := k_l_digits
    f_l_number := F_l_number
    b_l_number := b_l_number
    m_l_number := PySem.W.mg_of X G a_l_number
    kp_l_number := k_l_number
    f_l_signs := F_l_signs
    b_l_signs := b_l_signs
    m_l_signs := PySem.W.mg_of X G a_l_signs
    kp_l_signs := k_l_signs
    f_l_text := F_l_text
    b_l_text := b_l_text
    m_l_text := PySem.W.mg_of X G a_l_text
    kp_l_text := k_l_text
    f_l_word := F_l_word
    b_l_word := b_l_word
    m_l_word := PySem.W.mg_of X G a_l_word
    kp_l_word := k_l_word
    f_l_words := F_l_words
    b_l_words := b_l_words
    m_l_words := PySem.W.mg_of X G a_l_words
    kp_l_words := k_l_words
    f_l_name := F_l_name
    b_l_name := b_l_name
    m_l_name := PySem.W.mg_of X G a_l_name
    kp_l_name := k_l_name
    f_l_columns := F_l_columns
    b_l_columns := b_l_columns
    m_l_columns := PySem.W.mg_of X G a_l_columns
    kp_l_columns := k_l_columns
    f_l_right := F_l_right
    b_l_right := b_l_right
    m_l_right := PySem.W.mg_of X G a_l_right
    kp_l_right := k_l_right
    f_l_bag := F_l_bag
    b_l_bag := b_l_bag
    m_l_bag := PySem.W.mg_of X G a_l_bag
    kp_l_bag := k_l_bag
    f_law := F_law
    b_law := b_law
    m_law := PySem.W.mg_of X G a_law
    kp_law := k_law
    c_Table := ⟨pg_Table, hd_Table, po_Table, sa_Table⟩
    m_Table := PySem.W.mg_of X G a_Table
    r_Table := ⟨rd_Table, ga_Table⟩
    n_Table_held := n_Table_held
    n_Table_many := n_Table_many
    ne_Table := ⟨ne_Table, om_Table⟩
    fi_Table_getitemC := fi_Table_getitemC
    sf_Table := sf_Table
    nq_Table := nq_Table
    i_Table := ⟨fun z hz => by
      simp only [List.mem_cons, List.not_mem_nil, or_false] at hz
      rcases hz with rfl | rfl | rfl | rfl | rfl | rfl | rfl
      · exact i_Table_NoneType
      · exact i_Table_bool
      · exact i_Table_int
      · exact i_Table_str
      · exact i_Table_list
      · exact i_Table_tuple
      · exact i_Table_dict
      , fun z hz => by
      simp only [isi_of_Table, List.mem_cons, List.not_mem_nil, or_false] at hz
      rcases hz with rfl
      · exact ⟨⟨⟨pg_Table, hd_Table, po_Table, sa_Table⟩, ic_Table_Table, in_Table_Table, it_Table_Table, im_Table_Table⟩, i_Table_Table⟩
      ⟩
    f_BadTable_init := F_BadTable_init
    b_BadTable_init := b_BadTable_init
    xo_BadTable := oexC_of xq_BadTable xh_BadTable xsa_BadTable xex_BadTable xty_BadTable xkp_BadTable
    xi_BadTable := xi_BadTable
    xt_BadTable := xt_BadTable
    xn_BadTable := (nf_cons xn_BadTable_part nf_nil)
    xr_GuessError := ⟨xrd_GuessError, xga_GuessError⟩
    xb_GuessError := xb_GuessError
    xc_BadTable := ⟨eg_BadTable, ek_BadTable, es_BadTable, ed_BadTable⟩
    ex_BadTable := ⟨eg_BadTable, ek_BadTable, es_BadTable, ed_BadTable, ea_BadTable, en_BadTable, et_BadTable, em_BadTable⟩
    em_BadTable_BadTable := PySem.W.exm_ref hs_BadTable hh_BadTable ht_BadTable es_BadTable_BadTable
    kx_BadTable_GuessError := kx_BadTable_GuessError
    kx_BadTable_NoColumn := kx_BadTable_NoColumn
    m_GuessError := PySem.W.mg_of X G a_GuessError
    m_BadTable := PySem.W.mg_of X G a_BadTable
    m_NoColumn := PySem.W.mg_of X G a_NoColumn
    z_abs := PySem.W.mg_none_of X G z_abs
    z_all := PySem.W.mg_none_of X G z_all
    z_enumerate := PySem.W.mg_none_of X G z_enumerate
    z_int := PySem.W.mg_none_of X G z_int
    z_isinstance := PySem.W.mg_none_of X G z_isinstance
    z_len := PySem.W.mg_none_of X G z_len
    z_list := PySem.W.mg_none_of X G z_list
    z_max := PySem.W.mg_none_of X G z_max
    z_min := PySem.W.mg_none_of X G z_min
    z_range := PySem.W.mg_none_of X G z_range
    z_repr := PySem.W.mg_none_of X G z_repr
    z_str := PySem.W.mg_none_of X G z_str
    z_tuple := PySem.W.mg_none_of X G z_tuple
    g_LETTERS := ⟨g_LETTERS.choose, PySem.W.mg_of X G g_LETTERS.choose_spec⟩
  }
  exact ⟨d_law, fun s v => B_law s [v] rfl, fun base _ _ => (ok_law T).imp fun _ _ _ _ => law_cl⟩
theorem facts {l : PySem.W.OpenLaw} {w : World} {K : PySem.W.Frag} {h : Heap} {mg : Str → Option Value} {f : Addr} (X : K.In h) (G : h.Ns mainGlobals mg) (hfa : mg ("law" : Str) = some (.ref f)) (c : SaysX fa fn K) :
    ∃ fd : FuncData, (∀ (s : Shared) (v : Value), BindsTo s fd ⟨[v], []⟩ [("_law_script", v)]) ∧ ∀ base : Heap, K.In base → base.Ns mainGlobals mg → _root_.G.FnOk l.prog w K mg base CX0 8 f fd ["_law_script"] (lowSp K (fun _ => 0) sp_law) := by
  have a_Table : PySem.W.nsIn K mainGlobals "Table" = some (some (.ref 172)) := of_decide_eq_true (c.fact 0 0 (l := fa0) rfl rfl)
  have pg_Table : PySem.W.plainGet K 172 Str.empty = true := of_decide_eq_true (c.fact 0 1 (l := fa0) rfl rfl)
  have hd_Table : PySem.W.hasDictIn K 172 = true := of_decide_eq_true (c.fact 0 2 (l := fa0) rfl rfl)
  have po_Table : PySem.W.plainOver K 172 = true := of_decide_eq_true (c.fact 0 3 (l := fa0) rfl rfl)
  have sa_Table : PySem.W.findIn K (.ref 172) "__setattr__" = some (some (.builtin "object.__setattr__")) := of_decide_eq_true (c.fact 0 4 (l := fa0) rfl rfl)
  have rd_Table : PySem.W.readsIn K 172 (.type "type") = true := of_decide_eq_true (c.fact 0 5 (l := fa0) rfl rfl)
  have ga_Table : PySem.W.specialIn K (.ref 172) "__getattribute__" = some (some (.builtin "type.__getattribute__")) := of_decide_eq_true (c.fact 0 6 (l := fa0) rfl rfl)
  have n_Table_held : PySem.W.findIn K (.ref 172) "held" = some none := of_decide_eq_true (c.fact 0 7 (l := fa0) rfl rfl)
  have n_Table_many : PySem.W.findIn K (.ref 172) "many" = some none := of_decide_eq_true (c.fact 0 8 (l := fa0) rfl rfl)
  have ne_Table : PySem.W.findIn K (.ref 172) "__ne__" = some (some (.builtin "object.__ne__")) := of_decide_eq_true (c.fact 0 9 (l := fa0) rfl rfl)
  have om_Table : PySem.W.mroIn K 172 (.type "object") = some true := of_decide_eq_true (c.fact 0 10 (l := fa0) rfl rfl)
  have sf_Table : PySem.W.selfFirst K 172 = true := of_decide_eq_true (c.fact 0 11 (l := fa0) rfl rfl)
  have nq_Table : PySem.W.noSeq K 172 = true := of_decide_eq_true (c.fact 0 12 (l := fa0) rfl rfl)
  have a_l_take : PySem.W.nsIn K mainGlobals "_law_take" = some (some (.ref 190)) := of_decide_eq_true (c.fact 0 13 (l := fa0) rfl rfl)
  obtain ⟨d_l_take, F_l_take⟩ := c.fun_ 0 (d := ⟨190, "_law_take", "_law_take", s_l_take, [], []⟩) rfl
  have a_Table_getitemC : PySem.W.findIn K (.ref 172) "__getitem__" = some (some (.ref 140)) := of_decide_eq_true (c.fact 0 14 (l := fa0) rfl rfl)
  have fn_Table_getitemC : PySem.W.isFn K (.ref 140) = true := of_decide_eq_true (c.fact 0 15 (l := fa0) rfl rfl)
  have fi_Table_getitemC : PySem.W.fnIn K 140 = true := of_decide_eq_true (c.fact 0 16 (l := fa0) rfl rfl)
  obtain ⟨d_Table_getitemC, F_Table_getitemC⟩ := c.fun_ 1 (d := ⟨140, "__getitem__", "Table.__getitem__", s_Table_getitemC, [], []⟩) rfl
  have a_Table_containsC : PySem.W.findIn K (.ref 172) "__contains__" = some (some (.ref 133)) := of_decide_eq_true (c.fact 0 17 (l := fa0) rfl rfl)
  have fn_Table_containsC : PySem.W.isFn K (.ref 133) = true := of_decide_eq_true (c.fact 0 18 (l := fa0) rfl rfl)
  obtain ⟨d_Table_containsC, F_Table_containsC⟩ := c.fun_ 2 (d := ⟨133, "__contains__", "Table.__contains__", s_Table_containsC, [], []⟩) rfl
  have a_Table_row_at : PySem.W.findIn K (.ref 172) "row_at" = some (some (.ref 152)) := of_decide_eq_true (c.fact 0 19 (l := fa0) rfl rfl)
  have fn_Table_row_at : PySem.W.isFn K (.ref 152) = true := of_decide_eq_true (c.fact 0 20 (l := fa0) rfl rfl)
  obtain ⟨d_Table_row_at, F_Table_row_at⟩ := c.fun_ 3 (d := ⟨152, "row_at", "Table.row_at", s_Table_row_at, [], []⟩) rfl
  have a_is_word : PySem.W.nsIn K mainGlobals "is_word" = some (some (.ref 91)) := of_decide_eq_true (c.fact 0 21 (l := fa0) rfl rfl)
  obtain ⟨d_is_word, F_is_word⟩ := c.fun_ 4 (d := ⟨91, "is_word", "is_word", s_is_word, [], []⟩) rfl
  have a_Table_initC : PySem.W.findIn K (.ref 172) "__init__" = some (some (.ref 105)) := of_decide_eq_true (c.fact 0 22 (l := fa0) rfl rfl)
  have fn_Table_initC : PySem.W.isFn K (.ref 105) = true := of_decide_eq_true (c.fact 0 23 (l := fa0) rfl rfl)
  have mk_Table_initC : PySem.W.makesIn K 172 = true := of_decide_eq_true (c.fact 0 24 (l := fa0) rfl rfl)
  have kc_Table_initC : PySem.W.keepIn K (.ref 172) = true := of_decide_eq_true (c.fact 0 25 (l := fa0) rfl rfl)
  obtain ⟨d_Table_initC, F_Table_initC⟩ := c.fun_ 5 (d := ⟨105, "__init__", "Table.__init__", s_Table_initC, [], []⟩) rfl
  have a_Table_namesC : PySem.W.findIn K (.ref 172) "names" = some (some (.ref 112)) := of_decide_eq_true (c.fact 0 26 (l := fa0) rfl rfl)
  have fn_Table_namesC : PySem.W.isFn K (.ref 112) = true := of_decide_eq_true (c.fact 0 27 (l := fa0) rfl rfl)
  obtain ⟨d_Table_namesC, F_Table_namesC⟩ := c.fun_ 6 (d := ⟨112, "names", "Table.names", s_Table_namesC, [], []⟩) rfl
  have a_Table_add : PySem.W.findIn K (.ref 172) "__add__" = some (some (.ref 162)) := of_decide_eq_true (c.fact 0 28 (l := fa0) rfl rfl)
  have fn_Table_add : PySem.W.isFn K (.ref 162) = true := of_decide_eq_true (c.fact 0 29 (l := fa0) rfl rfl)
  obtain ⟨d_Table_add, F_Table_add⟩ := c.fun_ 7 (d := ⟨162, "__add__", "Table.__add__", s_Table_add, [], []⟩) rfl
  have a_Table_only : PySem.W.findIn K (.ref 172) "only" = some (some (.ref 157)) := of_decide_eq_true (c.fact 0 30 (l := fa0) rfl rfl)
  have fn_Table_only : PySem.W.isFn K (.ref 157) = true := of_decide_eq_true (c.fact 0 31 (l := fa0) rfl rfl)
  obtain ⟨d_Table_only, F_Table_only⟩ := c.fun_ 8 (d := ⟨157, "only", "Table.only", s_Table_only, [], []⟩) rfl
  have a_Table_lenC : PySem.W.findIn K (.ref 172) "__len__" = some (some (.ref 119)) := of_decide_eq_true (c.fact 0 32 (l := fa0) rfl rfl)
  have fn_Table_lenC : PySem.W.isFn K (.ref 119) = true := of_decide_eq_true (c.fact 0 33 (l := fa0) rfl rfl)
  obtain ⟨d_Table_lenC, F_Table_lenC⟩ := c.fun_ 9 (d := ⟨119, "__len__", "Table.__len__", s_Table_lenC, [], []⟩) rfl
  have a_l_copied : PySem.W.nsIn K mainGlobals "_law_copied" = some (some (.ref 243)) := of_decide_eq_true (c.fact 0 34 (l := fa0) rfl rfl)
  obtain ⟨d_l_copied, F_l_copied⟩ := c.fun_ 10 (d := ⟨243, "_law_copied", "_law_copied", s_l_copied, [], []⟩) rfl
  have a_Table_eqC : PySem.W.findIn K (.ref 172) "__eq__" = some (some (.ref 169)) := of_decide_eq_true (c.fact 0 35 (l := fa0) rfl rfl)
  have fn_Table_eqC : PySem.W.isFn K (.ref 169) = true := of_decide_eq_true (c.fact 0 36 (l := fa0) rfl rfl)
  obtain ⟨d_Table_eqC, F_Table_eqC⟩ := c.fun_ 11 (d := ⟨169, "__eq__", "Table.__eq__", s_Table_eqC, [], []⟩) rfl
  have a_l_is_as : PySem.W.nsIn K mainGlobals "_law_is_as" = some (some (.ref 265)) := of_decide_eq_true (c.fact 0 37 (l := fa0) rfl rfl)
  obtain ⟨d_l_is_as, F_l_is_as⟩ := c.fun_ 12 (d := ⟨265, "_law_is_as", "_law_is_as", s_l_is_as, [], []⟩) rfl
  have a_l_is_word : PySem.W.nsIn K mainGlobals "_law_is_word" = some (some (.ref 248)) := of_decide_eq_true (c.fact 0 38 (l := fa0) rfl rfl)
  obtain ⟨d_l_is_word, F_l_is_word⟩ := c.fun_ 13 (d := ⟨248, "_law_is_word", "_law_is_word", s_l_is_word, [], []⟩) rfl
  have a_l_put : PySem.W.nsIn K mainGlobals "_law_put" = some (some (.ref 260)) := of_decide_eq_true (c.fact 0 39 (l := fa0) rfl rfl)
  obtain ⟨d_l_put, F_l_put⟩ := c.fun_ 14 (d := ⟨260, "_law_put", "_law_put", s_l_put, [], []⟩) rfl
  have a_Table_setitemX : PySem.W.findIn K (.ref 172) "__setitem__" = some (some (.ref 147)) := of_decide_eq_true (c.fact 1 0 (l := fa1) rfl rfl)
  have fn_Table_setitemX : PySem.W.isFn K (.ref 147) = true := of_decide_eq_true (c.fact 1 1 (l := fa1) rfl rfl)
  obtain ⟨d_Table_setitemX, F_Table_setitemX⟩ := c.fun_ 15 (d := ⟨147, "__setitem__", "Table.__setitem__", s_Table_setitemX, [], []⟩) rfl
  have a_l_of : PySem.W.nsIn K mainGlobals "_law_of" = some (some (.ref 197)) := of_decide_eq_true (c.fact 1 2 (l := fa1) rfl rfl)
  obtain ⟨d_l_of, F_l_of⟩ := c.fun_ 16 (d := ⟨197, "_law_of", "_law_of", s_l_of, [], []⟩) rfl
  have a_l_digits : PySem.W.nsIn K mainGlobals "_law_digits" = some (some (.ref 211)) := of_decide_eq_true (c.fact 1 3 (l := fa1) rfl rfl)
  obtain ⟨d_l_digits, F_l_digits⟩ := c.fun_ 17 (d := ⟨211, "_law_digits", "_law_digits", s_l_digits, [], []⟩) rfl
  have a_l_number : PySem.W.nsIn K mainGlobals "_law_number" = some (some (.ref 218)) := of_decide_eq_true (c.fact 1 4 (l := fa1) rfl rfl)
  obtain ⟨d_l_number, F_l_number⟩ := c.fun_ 18 (d := ⟨218, "_law_number", "_law_number", s_l_number, [], []⟩) rfl
  have a_l_signs : PySem.W.nsIn K mainGlobals "_law_signs" = some (some (.ref 204)) := of_decide_eq_true (c.fact 1 5 (l := fa1) rfl rfl)
  obtain ⟨d_l_signs, F_l_signs⟩ := c.fun_ 19 (d := ⟨204, "_law_signs", "_law_signs", s_l_signs, [], []⟩) rfl
  have a_l_text : PySem.W.nsIn K mainGlobals "_law_text" = some (some (.ref 223)) := of_decide_eq_true (c.fact 1 6 (l := fa1) rfl rfl)
  obtain ⟨d_l_text, F_l_text⟩ := c.fun_ 20 (d := ⟨223, "_law_text", "_law_text", s_l_text, [], []⟩) rfl
  have a_l_word : PySem.W.nsIn K mainGlobals "_law_word" = some (some (.ref 228)) := of_decide_eq_true (c.fact 1 7 (l := fa1) rfl rfl)
  obtain ⟨d_l_word, F_l_word⟩ := c.fun_ 21 (d := ⟨228, "_law_word", "_law_word", s_l_word, [], []⟩) rfl
  have a_l_words : PySem.W.nsIn K mainGlobals "_law_words" = some (some (.ref 233)) := of_decide_eq_true (c.fact 1 8 (l := fa1) rfl rfl)
  obtain ⟨d_l_words, F_l_words⟩ := c.fun_ 22 (d := ⟨233, "_law_words", "_law_words", s_l_words, [], []⟩) rfl
  have a_l_name : PySem.W.nsIn K mainGlobals "_law_name" = some (some (.ref 255)) := of_decide_eq_true (c.fact 1 9 (l := fa1) rfl rfl)
  obtain ⟨d_l_name, F_l_name⟩ := c.fun_ 23 (d := ⟨255, "_law_name", "_law_name", s_l_name, [], []⟩) rfl
  have a_l_columns : PySem.W.nsIn K mainGlobals "_law_columns" = some (some (.ref 238)) := of_decide_eq_true (c.fact 1 10 (l := fa1) rfl rfl)
  obtain ⟨d_l_columns, F_l_columns⟩ := c.fun_ 24 (d := ⟨238, "_law_columns", "_law_columns", s_l_columns, [], []⟩) rfl
  have a_l_right : PySem.W.nsIn K mainGlobals "_law_right" = some (some (.ref 270)) := of_decide_eq_true (c.fact 1 11 (l := fa1) rfl rfl)
  obtain ⟨d_l_right, F_l_right⟩ := c.fun_ 25 (d := ⟨270, "_law_right", "_law_right", s_l_right, [], []⟩) rfl
  have a_l_bag : PySem.W.nsIn K mainGlobals "_law_bag" = some (some (.ref 183)) := of_decide_eq_true (c.fact 1 12 (l := fa1) rfl rfl)
  obtain ⟨d_l_bag, F_l_bag⟩ := c.fun_ 26 (d := ⟨183, "_law_bag", "_law_bag", s_l_bag, [], []⟩) rfl
  have a_law : PySem.W.nsIn K mainGlobals "law" = some (some (.ref 277)) := of_decide_eq_true (c.fact 1 13 (l := fa1) rfl rfl)
  obtain ⟨d_law, F_law⟩ := c.fun_ 27 (d := ⟨277, "law", "law", s_law, [], []⟩) rfl
  have i_Table_NoneType : PySem.W.kitOne K (.type "NoneType") (.ref 172) = some false := of_decide_eq_true (c.fact 1 14 (l := fa1) rfl rfl)
  have i_Table_bool : PySem.W.kitOne K (.type "bool") (.ref 172) = some false := of_decide_eq_true (c.fact 1 15 (l := fa1) rfl rfl)
  have i_Table_int : PySem.W.kitOne K (.type "int") (.ref 172) = some false := of_decide_eq_true (c.fact 1 16 (l := fa1) rfl rfl)
  have i_Table_str : PySem.W.kitOne K (.type "str") (.ref 172) = some false := of_decide_eq_true (c.fact 1 17 (l := fa1) rfl rfl)
  have i_Table_list : PySem.W.kitOne K (.type "list") (.ref 172) = some false := of_decide_eq_true (c.fact 1 18 (l := fa1) rfl rfl)
  have i_Table_tuple : PySem.W.kitOne K (.type "tuple") (.ref 172) = some false := of_decide_eq_true (c.fact 1 19 (l := fa1) rfl rfl)
  have i_Table_dict : PySem.W.kitOne K (.type "dict") (.ref 172) = some false := of_decide_eq_true (c.fact 1 20 (l := fa1) rfl rfl)
  have i_Table_Table : PySem.W.kitOne K (.ref 172) (.ref 172) = some true := of_decide_eq_true (c.fact 1 21 (l := fa1) rfl rfl)
  have ic_Table_Table : PySem.W.findIn K (.ref 172) "__class__" = some (some (.builtin "object.__class__")) := of_decide_eq_true (c.fact 1 22 (l := fa1) rfl rfl)
  have in_Table_Table : PySem.W.specialIn K (.builtin "object.__class__") "__get__" = some (some (.builtin "getset_descriptor.__get__")) := of_decide_eq_true (c.fact 1 23 (l := fa1) rfl rfl)
  have it_Table_Table : PySem.W.takesIn K (.builtin "object.__class__") = some true := of_decide_eq_true (c.fact 1 24 (l := fa1) rfl rfl)
  have im_Table_Table : PySem.W.mroIn K 172 (.type "object") = some true := of_decide_eq_true (c.fact 1 25 (l := fa1) rfl rfl)
  have a_GuessError : PySem.W.nsIn K mainGlobals "GuessError" = some (some (.ref 24)) := of_decide_eq_true (c.fact 1 26 (l := fa1) rfl rfl)
  have a_BadTable : PySem.W.nsIn K mainGlobals "BadTable" = some (some (.ref 44)) := of_decide_eq_true (c.fact 1 27 (l := fa1) rfl rfl)
  have a_NoColumn : PySem.W.nsIn K mainGlobals "NoColumn" = some (some (.ref 63)) := of_decide_eq_true (c.fact 1 28 (l := fa1) rfl rfl)
  have xi_BadTable : PySem.W.findIn K (.ref 44) "__init__" = some (some (.ref 41)) := of_decide_eq_true (c.fact 1 29 (l := fa1) rfl rfl)
  have xt_BadTable : PySem.W.typeIn K (.ref 41) = some (.type "function") := of_decide_eq_true (c.fact 1 30 (l := fa1) rfl rfl)
  obtain ⟨d_BadTable_init, F_BadTable_init⟩ := c.fun_ 28 (d := ⟨41, "__init__", "BadTable.__init__", s_BadTable_init, [], []⟩) rfl
  have xq_BadTable : PySem.W.excInitIn K 44 [.type "ValueError", .type "Exception", .type "BaseException", .type "object"] "ValueError.__new__" = true := of_decide_eq_true (c.fact 1 31 (l := fa1) rfl rfl)
  have xh_BadTable : PySem.W.hasDictIn K 44 = true := of_decide_eq_true (c.fact 1 32 (l := fa1) rfl rfl)
  have xsa_BadTable : PySem.W.findIn K (.ref 44) "__setattr__" = some (some (.builtin "object.__setattr__")) := of_decide_eq_true (c.fact 1 33 (l := fa1) rfl rfl)
  have xex_BadTable : PySem.W.subIn K (.ref 44) (.type "BaseException") = some true := of_decide_eq_true (c.fact 1 34 (l := fa1) rfl rfl)
  have xty_BadTable : PySem.W.typeIn K (.ref 44) = some (.type "type") := of_decide_eq_true (c.fact 1 35 (l := fa1) rfl rfl)
  have xkp_BadTable : PySem.W.keepIn K (.ref 44) = true := of_decide_eq_true (c.fact 1 36 (l := fa1) rfl rfl)
  have xn_BadTable_part : PySem.W.findIn K (.ref 44) "part" = some none := of_decide_eq_true (c.fact 1 37 (l := fa1) rfl rfl)
  have xrd_GuessError : PySem.W.readsIn K 24 (.type "type") = true := of_decide_eq_true (c.fact 1 38 (l := fa1) rfl rfl)
  have xga_GuessError : PySem.W.specialIn K (.ref 24) "__getattribute__" = some (some (.builtin "type.__getattribute__")) := of_decide_eq_true (c.fact 1 39 (l := fa1) rfl rfl)
  have xb_GuessError : PySem.W.findCls K (.ref 24) (.type "type") "__init__" = some (.val (.builtin "ValueError.__init__")) := valX_ok (c.fact 2 0 (l := fa2) rfl rfl)
  have eg_BadTable : PySem.W.findIn K (.ref 44) "__getattribute__" = some (some (.builtin "BaseException.__getattribute__")) := of_decide_eq_true (c.fact 2 1 (l := fa2) rfl rfl)
  have ek_BadTable : PySem.W.findIn K (.ref 44) "__getattr__" = some none := of_decide_eq_true (c.fact 2 2 (l := fa2) rfl rfl)
  have es_BadTable : PySem.W.subIn K (.ref 44) (.type "BaseException") = some true := of_decide_eq_true (c.fact 2 3 (l := fa2) rfl rfl)
  have ed_BadTable : PySem.W.hasDictIn K 44 = true := of_decide_eq_true (c.fact 2 4 (l := fa2) rfl rfl)
  have ea_BadTable : PySem.W.findIn K (.ref 44) "__class__" = some (some (.builtin "object.__class__")) := of_decide_eq_true (c.fact 2 5 (l := fa2) rfl rfl)
  have en_BadTable : PySem.W.specialIn K (.builtin "object.__class__") "__get__" = some (some (.builtin "getset_descriptor.__get__")) := of_decide_eq_true (c.fact 2 6 (l := fa2) rfl rfl)
  have et_BadTable : PySem.W.takesIn K (.builtin "object.__class__") = some true := of_decide_eq_true (c.fact 2 7 (l := fa2) rfl rfl)
  have em_BadTable : PySem.W.mroIn K 44 (.type "object") = some true := of_decide_eq_true (c.fact 2 8 (l := fa2) rfl rfl)
  have hs_BadTable : PySem.W.subIn K (.ref 44) (.type "BaseException") = some true := of_decide_eq_true (c.fact 2 9 (l := fa2) rfl rfl)
  have hh_BadTable : PySem.W.hasDictIn K 44 = true := of_decide_eq_true (c.fact 2 10 (l := fa2) rfl rfl)
  have ht_BadTable : PySem.W.typeIn K (.ref 44) = some (.type "type") := of_decide_eq_true (c.fact 2 11 (l := fa2) rfl rfl)
  have es_BadTable_BadTable : PySem.W.subIn K (.ref 44) (.ref 44) = some true := of_decide_eq_true (c.fact 2 12 (l := fa2) rfl rfl)
  have kx_BadTable_GuessError : PySem.W.kitOne K (.ref 44) (.ref 24) = some true := of_decide_eq_true (c.fact 2 13 (l := fa2) rfl rfl)
  have kx_BadTable_NoColumn : PySem.W.kitOne K (.ref 44) (.ref 63) = some false := of_decide_eq_true (c.fact 2 14 (l := fa2) rfl rfl)
  have z_abs : PySem.W.nsIn K mainGlobals "abs" = some none := of_decide_eq_true (c.fact 2 15 (l := fa2) rfl rfl)
  have z_all : PySem.W.nsIn K mainGlobals "all" = some none := of_decide_eq_true (c.fact 2 16 (l := fa2) rfl rfl)
  have z_enumerate : PySem.W.nsIn K mainGlobals "enumerate" = some none := of_decide_eq_true (c.fact 2 17 (l := fa2) rfl rfl)
  have z_int : PySem.W.nsIn K mainGlobals "int" = some none := of_decide_eq_true (c.fact 2 18 (l := fa2) rfl rfl)
  have z_isinstance : PySem.W.nsIn K mainGlobals "isinstance" = some none := of_decide_eq_true (c.fact 2 19 (l := fa2) rfl rfl)
  have z_len : PySem.W.nsIn K mainGlobals "len" = some none := of_decide_eq_true (c.fact 2 20 (l := fa2) rfl rfl)
  have z_list : PySem.W.nsIn K mainGlobals "list" = some none := of_decide_eq_true (c.fact 2 21 (l := fa2) rfl rfl)
  have z_max : PySem.W.nsIn K mainGlobals "max" = some none := of_decide_eq_true (c.fact 2 22 (l := fa2) rfl rfl)
  have z_min : PySem.W.nsIn K mainGlobals "min" = some none := of_decide_eq_true (c.fact 2 23 (l := fa2) rfl rfl)
  have z_range : PySem.W.nsIn K mainGlobals "range" = some none := of_decide_eq_true (c.fact 2 24 (l := fa2) rfl rfl)
  have z_repr : PySem.W.nsIn K mainGlobals "repr" = some none := of_decide_eq_true (c.fact 2 25 (l := fa2) rfl rfl)
  have z_str : PySem.W.nsIn K mainGlobals "str" = some none := of_decide_eq_true (c.fact 2 26 (l := fa2) rfl rfl)
  have z_tuple : PySem.W.nsIn K mainGlobals "tuple" = some none := of_decide_eq_true (c.fact 2 27 (l := fa2) rfl rfl)
  have g_LETTERS : ∃ t, PySem.W.nsIn K mainGlobals "LETTERS" = some (some (.str ⟨[97, 98, 99, 100, 101, 102, 103, 104, 105, 106, 107, 108, 109, 110, 111, 112, 113, 114, 115, 116, 117, 118, 119, 120, 121, 122].toArray⟩ t)) := strX_ok (c.fact 2 28 (l := fa2) rfl rfl)
  exact all_mk X G hfa a_Table pg_Table hd_Table po_Table sa_Table rd_Table ga_Table n_Table_held n_Table_many ne_Table om_Table sf_Table nq_Table a_l_take F_l_take a_Table_getitemC fn_Table_getitemC fi_Table_getitemC F_Table_getitemC a_Table_containsC fn_Table_containsC F_Table_containsC a_Table_row_at fn_Table_row_at F_Table_row_at a_is_word F_is_word a_Table_initC fn_Table_initC mk_Table_initC kc_Table_initC F_Table_initC a_Table_namesC fn_Table_namesC F_Table_namesC a_Table_add fn_Table_add F_Table_add a_Table_only fn_Table_only F_Table_only a_Table_lenC fn_Table_lenC F_Table_lenC a_l_copied F_l_copied a_Table_eqC fn_Table_eqC F_Table_eqC a_l_is_as F_l_is_as a_l_is_word F_l_is_word a_l_put F_l_put a_Table_setitemX fn_Table_setitemX F_Table_setitemX a_l_of F_l_of a_l_digits F_l_digits a_l_number F_l_number a_l_signs F_l_signs a_l_text F_l_text a_l_word F_l_word a_l_words F_l_words a_l_name F_l_name a_l_columns F_l_columns a_l_right F_l_right a_l_bag F_l_bag a_law F_law i_Table_NoneType i_Table_bool i_Table_int i_Table_str i_Table_list i_Table_tuple i_Table_dict i_Table_Table ic_Table_Table in_Table_Table it_Table_Table im_Table_Table a_GuessError a_BadTable a_NoColumn xi_BadTable xt_BadTable F_BadTable_init xq_BadTable xh_BadTable xsa_BadTable xex_BadTable xty_BadTable xkp_BadTable xn_BadTable_part xrd_GuessError xga_GuessError xb_GuessError eg_BadTable ek_BadTable es_BadTable ed_BadTable ea_BadTable en_BadTable et_BadTable em_BadTable hs_BadTable hh_BadTable ht_BadTable es_BadTable_BadTable kx_BadTable_GuessError kx_BadTable_NoColumn z_abs z_all z_enumerate z_int z_isinstance z_len z_list z_max z_min z_range z_repr z_str z_tuple g_LETTERS
end Lw
open PySem PySem.W PySem.Calls PyProof.Rows
set_option maxRecDepth 100000 in
set_option maxHeartbeats 0 in
theorem PySem.Challenge.cw_guessedkinds_k41_tables_changed_holds : PySem.Challenge.rw_guessedkinds_k41_tables_changed.Holds := by
  refine Lw.pre ?_
  · refine G.walk_G (l := PySem.Challenge.rw_guessedkinds_k41_tables_changed) (n := 63) (k := 8) (x := "_law_script") (CX := L2.CX0) rfl (by decide) (by kernel_rfl) ⟨rfl, by decide, by decide⟩ ?F (fun _ _ _ _ z => z)
    intro w mg fa h Y Gn hmg0
    obtain ⟨K, KX, c⟩ := Y
    have hmg : mg ("law" : PySem.Str) = some (.ref fa) := by
      have e : (HandSHeadRun.topDef (OpenLaw.row PySem.Challenge.rw_guessedkinds_k41_tables_changed).prog 27).name = ("law" : PySem.Str) := by kernel_rfl
      rw [← e]
      exact hmg0
    obtain ⟨fd, hb, hF⟩ := Lw.facts (l := PySem.Challenge.rw_guessedkinds_k41_tables_changed) (w := w) KX Gn hmg c
    exact ⟨K, fd, [], G.lowSp K (fun _ => 0) G.sp_law, KX, nofun, nofun, nofun, hb, fun H a ns hl _ hS => G.law_in ns hl hS, fun base h1 h2 _ => hF base h1 h2⟩
