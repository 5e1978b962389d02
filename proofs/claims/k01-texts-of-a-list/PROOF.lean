import PyProof.Rows.All
import Wide.All
import OpenK.AllK
import Wide.FinOn
import HandS.ForMost
import HandS.Lambda
import HandS.WordsExc
import HandS.Defaults
import HandS.ExcInit
import KE.KDictKeyed
import HandS.Rev
import HandS.Wide
import HandS.StrMore
import HandS.TupAny
import HandS.IsInst
import HandS.MakeKwOnly
import HandS.ClsMeth
import HandS.Star
import KE.KOpsOwn
import HandS.FStr
import HandS.Style
import PyProof.P3Eq
import KE.KFmtOwn
import HandS.OwnEq
import HandS.DictComp
import HandS.Property
import KE.GoesEnum
import KE.GoesZip
import HandS.SetKeys
import HandS.ExcField
import KE.KExcIs
import HandS.ExcIs
import KE.KExcInit
import KE.KExcLine
import HandS.RaiseMore
import KE.KCallOwn
import HandS.NoneIn
import HandS.More
import HandS.Iter
import HandS.DictEq
import HandS.Text
import HandS.RaiseFrom
import HandS.ExcValue
import KE.GoesComp
import PyProof.DictDisplay
import HandS.TryOnly
import KE.KRevSl
import HandS.Deep
import HandS.WordsDict
import HandS.List
import KE.KDictCopyH
import PyProof.Rows.TupTab
import KE.KDictDisplayH
import HandS.TupLen
import PyProof.ListStr
import HandS.EndTab
import HandS.HeadEnd
import HandS.Ends
import HandS.Words
import HandS.Head0
import HandS.Head1
import HandS.Head2
import HandS.HeadHook1
import HandS.HeadHook2
import HandS.HeadHook4
import KE.RegKIsAll
import PySem.Challenge.RW_guessedkinds_k01_texts_of_a_list
set_option Elab.async false
set_option linter.all false
set_option maxRecDepth 100000
set_option maxHeartbeats 4000000
set_option maxHeartbeats 4000000
namespace G
open PySem PySem.Spec PyProof.Rows L2
/-! ### the head by one run in the kernel: facts of the module's things at told places -/
abbrev FaX := PySem.W.Frag → Bool
/-- a def: its place, its statement, its defaults -/
structure DefG where
  ad : Addr
  nm : Str
  ql : Str
  st : Stmt
  dfl : List V := []
  kwd : List (Str × V) := []
def seenF (K : PySem.W.Frag) (a : Addr) : He.FnW := (K.lookup a).bind fun o => match o with
  | ⟨_, _, .func z, _⟩ => some (z.name, z.qualname, z.params, z.body, z.scope, z.globals, z.closure, z.builtins)
  | _ => none
def DefG.tells (d : DefG) : He.FnW := some (d.nm, d.ql, defArgs d.st, .stmts (defBody d.st), defScope d.st, mainGlobals, [], builtinsNs)
def DefG.good (K : PySem.W.Frag) (d : DefG) : Bool := PySem.W.keepIn K (.ref d.ad) && ((K.lookup d.ad).any fun o => match o with
  | ⟨_, _, .func z, _⟩ => PySem.W.codeIn K z.code d.ql && (He.dflB K z.defaults d.dfl && He.kwdB K z.kwdefaults d.kwd)
  | _ => false)
theorem DefG.funD {K : PySem.W.Frag} {d : DefG} (e : seenF K d.ad = d.tells) (c : d.good K = true) : ∃ z, FunD K d.nm d.ql (defArgs d.st) (defBody d.st) (defScope d.st) d.dfl d.kwd d.ad z := by
  unfold DefG.good at c
  rw [Bool.and_eq_true] at c
  obtain ⟨kp, c⟩ := c
  unfold seenF at e
  cases hl : K.lookup d.ad with
  | none => rw [hl] at c; cases c
  | some o =>
    rw [hl] at c e
    obtain ⟨oc, od, dt, sl⟩ := o
    cases dt with
    | func z =>
      obtain ⟨z1, z2, z3, z4, z5, z6, z7, z8, z9, z10, z11, z12, z13, z14, z15⟩ := z
      have e' : (some (z1, z2, z3, z4, z5, z6, z7, z15) : He.FnW) = some (d.nm, d.ql, defArgs d.st, .stmts (defBody d.st), defScope d.st, mainGlobals, [], builtinsNs) := e
      injection e' with e'
      simp only [Prod.mk.injEq] at e'
      obtain ⟨rfl, rfl, rfl, rfl, rfl, rfl, rfl, rfl⟩ := e'
      have c' : (PySem.W.codeIn K z13 d.ql && (He.dflB K z8 d.dfl && He.kwdB K z9 d.kwd)) = true := c
      simp only [Bool.and_eq_true] at c'
      exact ⟨_, ⟨oc, od, z8, z9, z10, z11, z12, z13, z14, sl, rfl, hl, c'.1, He.dflB_ok c'.2.1, He.kwdB_ok c'.2.2⟩, kp⟩
    | _ => cases c
theorem fun_ofD {K : PySem.W.Frag} {x q : Str} {st : Stmt} {f : Addr} {z : FuncData} (F : FunD K x q (defArgs st) (defBody st) (defScope st) [] [] f z) : Fun K x q st f z := by
  obtain ⟨oc, od, dV, kV, doc, pm, an, cdv, ct, sl, e, lk, hc, hd, _⟩ := F.ex
  rcases hd with ⟨_, rfl⟩ | ⟨h, _⟩
  · exact ⟨⟨oc, od, kV, doc, pm, an, cdv, ct, sl, e, lk, hc⟩, F.kp⟩
  · exact absurd rfl h
def obsX (as : List Addr) (fa : List (List FaX)) (fn : List DefG) (g : Addr → Option Obj) : Bool × List He.FnW :=
  ((fa.all fun l => l.all fun f => f (He.frG g as)) && (fn.all fun d => d.good (He.frG g as)), fn.map fun d => seenF (He.frG g as) d.ad)
def SaysX (fa : List (List FaX)) (fn : List DefG) (K : PySem.W.Frag) : Prop := ((fa.all fun l => l.all fun f => f K) && (fn.all fun d => d.good K), fn.map fun d => seenF K d.ad) = (true, fn.map DefG.tells)
def hookX (as : List Addr) (fa : List (List FaX)) (fn : List DefG) : PySem.W.Hook where
  α := Bool × List He.FnW
  obs := fun s => obsX as fa fn s.heap.get?
  val := fun _ => (true, fn.map DefG.tells)
  says := fun _ h => ∃ K : PySem.W.Frag, K.In h ∧ SaysX fa fn K
  of := fun _ _ e => ⟨_, He.frG_in, e⟩
  keeps := fun _ _ _ ⟨K, hK, c⟩ k => ⟨K, PySem.W.Frag.In.keeps hK k, c⟩
theorem obsX_eq {as : List Addr} {fa : List (List FaX)} {fn : List DefG} {g : Addr → Option Obj} {s : Shared} (h : ∀ a, g a = s.heap.get? a) : obsX as fa fn g = (hookX as fa fn).obs s := by
  have e : g = s.heap.get? := funext h
  rw [e]
  rfl
section
variable {fa : List (List FaX)} {fn : List DefG} {K : PySem.W.Frag}
theorem SaysX.fact (c : SaysX fa fn K) (i j : Nat) {l : List FaX} {f : FaX} (h : fa[i]? = some l := by rfl) (h2 : l[j]? = some f := by rfl) : f K = true := by
  have c1 : ((fa.all fun l => l.all fun f => f K) && (fn.all fun d => d.good K)) = true := congrArg Prod.fst c
  rw [Bool.and_eq_true] at c1
  exact List.all_eq_true.mp (List.all_eq_true.mp c1.1 l (List.mem_of_getElem? h)) f (List.mem_of_getElem? h2)
theorem SaysX.fun_ (c : SaysX fa fn K) (i : Nat) {d : DefG} (h : fn[i]? = some d := by rfl) : ∃ z, FunD K d.nm d.ql (defArgs d.st) (defBody d.st) (defScope d.st) d.dfl d.kwd d.ad z := by
  have c1 : ((fa.all fun l => l.all fun f => f K) && (fn.all fun d => d.good K)) = true := congrArg Prod.fst c
  rw [Bool.and_eq_true] at c1
  have c2 : fn.map (fun d => seenF K d.ad) = fn.map DefG.tells := congrArg Prod.snd c
  have c3 := congrArg (fun l => l[i]?) c2
  simp only [List.getElem?_map, h, Option.map_some, Option.some.injEq] at c3
  exact DefG.funD c3 (List.all_eq_true.mp c1.2 d (List.mem_of_getElem? h))
end
/-! the same, empty tables left out and told -/
def tabB (g : Addr → Option Obj) (tb : List Addr) : Bool := tb.all fun P => match g P with
  | some o => He.emptyTab o
  | none => false
def obsT (as : List Addr) (fa : List (List FaX)) (fn : List DefG) (tb : List Addr) (g : Addr → Option Obj) : Bool × List He.FnW :=
  (((fa.all fun l => l.all fun f => f (He.frT g as)) && (fn.all fun d => d.good (He.frT g as))) && tabB g tb, fn.map fun d => seenF (He.frT g as) d.ad)
def SaysT (tb : List Addr) (h : Heap) (K : PySem.W.Frag) : Prop := ∀ P ∈ tb, K.lookup P = none ∧ h.get? P = some { cls := .none, data := .fields #[] }
theorem obsT_of {as : List Addr} {fa : List (List FaX)} {fn : List DefG} {tb : List Addr} {h : Heap} (e : obsT as fa fn tb h.get? = (true, fn.map DefG.tells)) : SaysX fa fn (He.frT h.get? as) ∧ SaysT tb h (He.frT h.get? as) := by
  have e1 : (((fa.all fun l => l.all fun f => f (He.frT h.get? as)) && (fn.all fun d => d.good (He.frT h.get? as))) && tabB h.get? tb) = true := congrArg Prod.fst e
  have e2 : fn.map (fun d => seenF (He.frT h.get? as) d.ad) = fn.map DefG.tells := congrArg Prod.snd e
  rw [Bool.and_eq_true] at e1
  refine ⟨?_, fun P hP => ?_⟩
  · unfold SaysX
    rw [e1.1, e2]
  · have e3 := List.all_eq_true.mp e1.2 P hP
    cases q : h.get? P with
    | none => rw [q] at e3; cases e3
    | some o =>
      rw [q] at e3
      exact ⟨He.frT_none q e3, by rw [He.emptyTab_eq e3]⟩
def hookT (as : List Addr) (fa : List (List FaX)) (fn : List DefG) (tb : List Addr) : PySem.W.Hook where
  α := Bool × List He.FnW
  obs := fun s => obsT as fa fn tb s.heap.get?
  val := fun _ => (true, fn.map DefG.tells)
  says := fun _ h => ∃ K : PySem.W.Frag, K.In h ∧ SaysX fa fn K ∧ SaysT tb h K
  of := fun _ _ e => ⟨_, He.frT_in, obsT_of e⟩
  keeps := fun _ _ _ ⟨K, hK, c, t⟩ k => ⟨K, PySem.W.Frag.In.keeps hK k, c, fun P hP => ⟨(t P hP).1, k _ _ (t P hP).2⟩⟩
theorem obsT_eq {as : List Addr} {fa : List (List FaX)} {fn : List DefG} {tb : List Addr} {g : Addr → Option Obj} {s : Shared} (h : ∀ a, g a = s.heap.get? a) : obsT as fa fn tb g = (hookT as fa fn tb).obs s := by
  have e : g = s.heap.get? := funext h
  rw [e]
  rfl
/-! facts that are no equations one can decide -/
def getX (K : PySem.W.Frag) (C : Addr) (x : Str) (g : String) (p : Addr) : Bool := match PySem.W.findCls K (.ref C) (.type "type") x with
  | some (.get a b c d) => decide (a = .builtin g ∧ b = .ref p ∧ c = .none ∧ d = .ref C)
  | _ => false
theorem getX_ok {K : PySem.W.Frag} {C p : Addr} {x : Str} {g : String} (h : getX K C x g p = true) : PySem.W.findCls K (.ref C) (.type "type") x = some (.get (.builtin g) (.ref p) .none (.ref C)) := by
  unfold getX at h
  split at h
  · rename_i a b c d e
    obtain ⟨rfl, rfl, rfl, rfl⟩ := of_decide_eq_true h
    exact e
  · cases h
def valX (K : PySem.W.Frag) (c : Value) (x : Str) (v : Value) : Bool := match PySem.W.findCls K c (.type "type") x with
  | some (.val a) => decide (a = v)
  | _ => false
theorem valX_ok {K : PySem.W.Frag} {c v : Value} {x : Str} (h : valX K c x v = true) : PySem.W.findCls K c (.type "type") x = some (.val v) := by
  unfold valX at h
  split at h
  · rename_i a e
    have := of_decide_eq_true h
    subst this
    exact e
  · cases h
def recX (K : PySem.W.Frag) (p : Addr) (T : String) (f : Addr) : Bool := match PySem.W.recIn K p T with
  | some (a :: _) => decide (a = .ref f)
  | _ => false
theorem recX_ok {K : PySem.W.Frag} {p f : Addr} {T : String} (h : recX K p T f = true) : ∃ rest, PySem.W.recIn K p T = some (.ref f :: rest) := by
  unfold recX at h
  split at h
  · rename_i a r e
    have := of_decide_eq_true h
    subst this
    exact ⟨r, e⟩
  · cases h
def intX (K : PySem.W.Frag) (x : Str) (i : Int) : Bool := match PySem.W.nsIn K mainGlobals x with
  | some (some (.int j _)) => decide (j = i)
  | _ => false
theorem intX_ok {K : PySem.W.Frag} {x : Str} {i : Int} (h : intX K x i = true) : ∃ t, PySem.W.nsIn K mainGlobals x = some (some (.int i t)) := by
  unfold intX at h
  split at h
  · rename_i j t e
    have := of_decide_eq_true h
    subst this
    exact ⟨t, e⟩
  · cases h
def strX (K : PySem.W.Frag) (x z : Str) : Bool := match PySem.W.nsIn K mainGlobals x with
  | some (some (.str y _)) => decide (y = z)
  | _ => false
theorem strX_ok {K : PySem.W.Frag} {x z : Str} (h : strX K x z = true) : ∃ t, PySem.W.nsIn K mainGlobals x = some (some (.str z t)) := by
  unfold strX at h
  split at h
  · rename_i j t e
    have := of_decide_eq_true h
    subst this
    exact ⟨t, e⟩
  · cases h
def tupX (K : PySem.W.Frag) (a : Addr) (vs : List V) : Bool := (K.lookup a).any fun o => match o with
  | ⟨.type c, _, .seq its _, _⟩ => decide (c = "tuple") && (Nat.ble its.size 1000 && He.relAll vs its.toList)
  | _ => false
theorem tupX_ok {K : PySem.W.Frag} {a : Addr} {vs : List V} (h : tupX K a vs = true) : ∃ (o : Obj) (its : Array Value) (n : Nat), K.lookup a = some o ∧ o.cls = .type "tuple" ∧ o.data = .seq its n ∧ its.size ≤ sizeLine ∧ Vals vs its.toList := by
  unfold tupX at h
  cases hl : K.lookup a with
  | none => rw [hl] at h; cases h
  | some o =>
    rw [hl] at h
    obtain ⟨oc, od, dt, sl⟩ := o
    cases oc with
    | type c =>
      cases dt with
      | seq its n =>
        have h' : (decide (c = "tuple") && (Nat.ble its.size 1000 && He.relAll vs its.toList)) = true := h
        simp only [Bool.and_eq_true] at h'
        have e := of_decide_eq_true h'.1
        subst e
        exact ⟨_, its, n, rfl, rfl, rfl, Nat.le_trans (Nat.le_of_ble_eq_true h'.2.1) (by decide), He.relAll_ok h'.2.2⟩
      | _ => cases h
    | _ => cases dt <;> cases h
/-- the code object of the function at f -/
def codeX (K : PySem.W.Frag) (f c : Addr) : Bool := match K.lookup f with
  | some ⟨_, _, .func z, _⟩ => decide (z.code = .ref c)
  | _ => false
end G
namespace Lw
open PySem PySem.Spec PyProof.Rows L2 G
def top (i : Nat) : Stmt := PySem.Challenge.pw_guessedkinds_k01_texts_of_a_list.main.body.getD i (.Pass ⟨0, 0, 0, 0⟩)
abbrev s_Machine_next_state : Stmt := (inClass (top 13) 5)
abbrev s_Machine_state_after : Stmt := (inClass (top 13) 6)
abbrev s_Machine_contains : Stmt := (inClass (top 13) 11)
abbrev s_l_take : Stmt := (top 17)
abbrev s_l_of : Stmt := (top 18)
abbrev s_l_signs : Stmt := (top 19)
abbrev s_l_near : Stmt := (top 23)
abbrev s_l_digits : Stmt := (top 20)
abbrev s_l_number : Stmt := (top 21)
abbrev s_l_text : Stmt := (top 22)
abbrev s_Machine_bool : Stmt := (inClass (top 13) 13)
abbrev s_Machine_init : Stmt := (inClass (top 13) 0)
abbrev s_sign_classes : Stmt := (top 3)
abbrev s_merged : Stmt := (top 7)
abbrev s_numbered : Stmt := (top 6)
abbrev s_refined : Stmt := (top 5)
abbrev s_useful_states : Stmt := (top 4)
abbrev s_finished : Stmt := (top 8)
abbrev s_explored : Stmt := (top 12)
abbrev s_grown : Stmt := (top 14)
abbrev s_Machine_listing : Stmt := (inClass (top 13) 2)
abbrev s_l_right : Stmt := (top 24)
abbrev s_l_bag : Stmt := (top 16)
abbrev s_law : Stmt := (top 25)
def fa0 : List FaX := [
  fun K => decide (PySem.W.nsIn K mainGlobals "Machine" = some (some (.ref 238))),
  fun K => decide (PySem.W.plainGet K 238 Str.empty = true),
  fun K => decide (PySem.W.hasDictIn K 238 = true),
  fun K => decide (PySem.W.plainOver K 238 = true),
  fun K => decide (PySem.W.findIn K (.ref 238) "__setattr__" = some (some (.builtin "object.__setattr__"))),
  fun K => decide (PySem.W.readsIn K 238 (.type "type") = true),
  fun K => decide (PySem.W.specialIn K (.ref 238) "__getattribute__" = some (some (.builtin "type.__getattribute__"))),
  fun K => decide (PySem.W.findIn K (.ref 238) "accepting" = some none),
  fun K => decide (PySem.W.findIn K (.ref 238) "signs" = some none),
  fun K => decide (PySem.W.findIn K (.ref 238) "table" = some none),
  fun K => decide (PySem.W.findIn K (.ref 238) "next_state" = some (some (.ref 136))),
  fun K => decide (PySem.W.isFn K (.ref 136) = true),
  fun K => decide (PySem.W.findIn K (.ref 238) "state_after" = some (some (.ref 143))),
  fun K => decide (PySem.W.isFn K (.ref 143) = true),
  fun K => decide (PySem.W.findIn K (.ref 238) "__contains__" = some (some (.ref 172))),
  fun K => decide (PySem.W.isFn K (.ref 172) = true),
  fun K => decide (PySem.W.nsIn K mainGlobals "_law_take" = some (some (.ref 261))),
  fun K => decide (PySem.W.nsIn K mainGlobals "_law_of" = some (some (.ref 268))),
  fun K => decide (PySem.W.nsIn K mainGlobals "_law_signs" = some (some (.ref 275))),
  fun K => decide (PySem.W.nsIn K mainGlobals "_law_near" = some (some (.ref 301))),
  fun K => decide (PySem.W.nsIn K mainGlobals "_law_digits" = some (some (.ref 282))),
  fun K => decide (PySem.W.nsIn K mainGlobals "_law_number" = some (some (.ref 289))),
  fun K => decide (PySem.W.nsIn K mainGlobals "_law_text" = some (some (.ref 294))),
  fun K => decide (PySem.W.findIn K (.ref 238) "__bool__" = some (some (.ref 186))),
  fun K => decide (PySem.W.isFn K (.ref 186) = true),
  fun K => decide (PySem.W.findIn K (.ref 238) "__init__" = some (some (.ref 93))),
  fun K => decide (PySem.W.isFn K (.ref 93) = true),
  fun K => decide (PySem.W.makesIn K 238 = true),
  fun K => decide (PySem.W.keepIn K (.ref 238) = true),
  fun K => decide (PySem.W.nsIn K mainGlobals "sign_classes" = some (some (.ref 28))),
  fun K => decide (PySem.W.nsIn K mainGlobals "merged" = some (some (.ref 50))),
  fun K => decide (PySem.W.nsIn K mainGlobals "numbered" = some (some (.ref 45))),
  fun K => decide (PySem.W.nsIn K mainGlobals "refined" = some (some (.ref 38))),
  fun K => decide (PySem.W.nsIn K mainGlobals "useful_states" = some (some (.ref 33))),
  fun K => decide (PySem.W.nsIn K mainGlobals "finished" = some (some (.ref 55))),
  fun K => decide (PySem.W.nsIn K mainGlobals "explored" = some (some (.ref 79))),
  fun K => decide (PySem.W.nsIn K mainGlobals "grown" = some (some (.ref 247))),
  fun K => getX K 238 "listing" "staticmethod.__get__" 110,
  fun K => recX K 110 "staticmethod" 108,
  fun K => decide (codeX K 108 107 = true)]
def fa1 : List FaX := [
  fun K => decide (PySem.W.codeHdIn K 107 105 = true),
  fun K => decide (PySem.W.nsIn K mainGlobals "_law_right" = some (some (.ref 306))),
  fun K => decide (PySem.W.nsIn K mainGlobals "_law_bag" = some (some (.ref 254))),
  fun K => decide (PySem.W.nsIn K mainGlobals "law" = some (some (.ref 313))),
  fun K => decide (PySem.W.nsIn K mainGlobals "abs" = some none),
  fun K => decide (PySem.W.nsIn K mainGlobals "any" = some none),
  fun K => decide (PySem.W.nsIn K mainGlobals "bool" = some none),
  fun K => decide (PySem.W.nsIn K mainGlobals "enumerate" = some none),
  fun K => decide (PySem.W.nsIn K mainGlobals "int" = some none),
  fun K => decide (PySem.W.nsIn K mainGlobals "isinstance" = some none),
  fun K => decide (PySem.W.nsIn K mainGlobals "len" = some none),
  fun K => decide (PySem.W.nsIn K mainGlobals "list" = some none),
  fun K => decide (PySem.W.nsIn K mainGlobals "max" = some none),
  fun K => decide (PySem.W.nsIn K mainGlobals "min" = some none),
  fun K => decide (PySem.W.nsIn K mainGlobals "range" = some none),
  fun K => decide (PySem.W.nsIn K mainGlobals "reversed" = some none),
  fun K => decide (PySem.W.nsIn K mainGlobals "str" = some none),
  fun K => decide (PySem.W.nsIn K mainGlobals "tuple" = some none),
  fun K => strX K "ALL_SIGNS" ⟨[32, 33, 34, 35, 36, 38, 39, 40, 41, 42, 43, 44, 45, 46, 47, 48, 49, 50, 51, 52, 53, 54, 55, 56, 57, 58, 59, 60, 61, 62, 63, 64, 65, 66, 67, 68, 69, 70, 71, 72, 73, 74, 75, 76, 77, 78, 79, 80, 81, 82, 83, 84, 85, 86, 87, 88, 89, 90, 91, 92, 93, 94, 95, 96, 97, 98, 99, 100, 101, 102, 103, 104, 105, 106, 107, 108, 109, 110, 111, 112, 113, 114, 115, 116, 117, 118, 119, 120, 121, 122, 123, 124, 125, 126].toArray⟩]
def fa : List (List FaX) := [fa0, fa1]
def fn0 : List DefG := [
  ⟨136, "next_state", "Machine.next_state", s_Machine_next_state, [], []⟩,
  ⟨143, "state_after", "Machine.state_after", s_Machine_state_after, [], []⟩,
  ⟨172, "__contains__", "Machine.__contains__", s_Machine_contains, [], []⟩,
  ⟨261, "_law_take", "_law_take", s_l_take, [], []⟩,
  ⟨268, "_law_of", "_law_of", s_l_of, [], []⟩,
  ⟨275, "_law_signs", "_law_signs", s_l_signs, [], []⟩,
  ⟨301, "_law_near", "_law_near", s_l_near, [], []⟩,
  ⟨282, "_law_digits", "_law_digits", s_l_digits, [], []⟩,
  ⟨289, "_law_number", "_law_number", s_l_number, [], []⟩,
  ⟨294, "_law_text", "_law_text", s_l_text, [], []⟩,
  ⟨186, "__bool__", "Machine.__bool__", s_Machine_bool, [], []⟩,
  ⟨93, "__init__", "Machine.__init__", s_Machine_init, [], []⟩,
  ⟨28, "sign_classes", "sign_classes", s_sign_classes, [], []⟩,
  ⟨50, "merged", "merged", s_merged, [], []⟩,
  ⟨45, "numbered", "numbered", s_numbered, [], []⟩,
  ⟨38, "refined", "refined", s_refined, [], []⟩,
  ⟨33, "useful_states", "useful_states", s_useful_states, [], []⟩,
  ⟨55, "finished", "finished", s_finished, [], []⟩,
  ⟨79, "explored", "explored", s_explored, [], []⟩,
  ⟨247, "grown", "grown", s_grown, [], []⟩,
  ⟨108, "listing", "Machine.listing", s_Machine_listing, [], []⟩,
  ⟨306, "_law_right", "_law_right", s_l_right, [], []⟩,
  ⟨254, "_law_bag", "_law_bag", s_l_bag, [], []⟩,
  ⟨313, "law", "law", s_law, [], []⟩]
def fn : List DefG := fn0
def as0 : List Addr := [3, 2, 238, 136, 143, 172, 261, 268, 275, 301, 282, 289, 294, 186, 93, 28, 50, 45, 38, 33, 55, 79, 247, 110, 108, 306, 254, 313, 107, 105, 6, 4, 21, 62, 69, 74, 237, 135, 142, 171]
def as1 : List Addr := [260, 267, 274, 300, 281, 288, 293, 185, 92, 27, 49, 44, 37, 32, 54, 78, 246, 109, 305, 253, 312, 104, 106, 15, 16, 17, 18, 19, 20, 22, 23, 24, 25, 26, 29, 30, 31, 34, 35, 36]
def as2 : List Addr := [39, 40, 41, 42, 43, 46, 47, 48, 51, 52, 53, 56, 57, 58, 59, 60, 61, 63, 64, 65, 66, 67, 68, 70, 71, 72, 73, 75, 76, 77, 87, 88, 89, 90, 91, 94, 95, 96, 97, 98]
def as3 : List Addr := [99, 100, 101, 102, 103, 111, 112, 113, 114, 115, 116, 117, 118, 119, 120, 121, 122, 123, 124, 125, 126, 127, 128, 129, 130, 131, 132, 133, 134, 137, 138, 139, 140, 141, 144, 145, 146, 147, 148, 149]
def as4 : List Addr := [150, 151, 152, 153, 154, 155, 156, 157, 158, 159, 160, 161, 162, 163, 164, 165, 166, 167, 168, 169, 170, 173, 174, 175, 176, 177, 178, 179, 180, 181, 182, 183, 184, 187, 188, 189, 190, 191, 192, 193]
def as5 : List Addr := [194, 195, 196, 197, 198, 199, 200, 201, 202, 203, 204, 205, 206, 207, 208, 209, 210, 211, 212, 213, 214, 215, 216, 217, 218, 219, 220, 221, 222, 223, 224, 225, 226, 227, 228, 229, 230, 231, 232, 233]
def as6 : List Addr := [234, 235, 236, 239, 240, 243, 244, 245, 248, 249, 250, 251, 252, 255, 256, 257, 258, 259, 262, 263, 264, 265, 266, 269, 270, 271, 272, 273, 276, 277, 278, 279, 280, 283, 284, 285, 286, 287, 290, 291]
def as7 : List Addr := [292, 295, 296, 297, 298, 299, 302, 303, 304, 307, 308, 309, 310, 311]
def as : List Addr := as0 ++ as1 ++ as2 ++ as3 ++ as4 ++ as5 ++ as6 ++ as7
def hxN0 : List PySem.Str := ["_wall", "__name__", "ALL_SIGNS", "sign_classes", "useful_states", "refined", "numbered", "merged", "finished", "is_dead", "is_accepting", "product", "explored", "Machine", "grown", "_law_bag", "_law_take", "_law_of", "_law_signs", "_law_digits", "_law_number", "_law_text", "_law_near", "_law_right"]
def names : List PySem.Str := hxN0
abbrev R : PySem.W.OpenRow := PySem.W.OpenLaw.row PySem.Challenge.rw_guessedkinds_k01_texts_of_a_list
abbrev qv : Program := PySem.W.view R.prog [25]
abbrev hk : PySem.W.Hook := hookT as fa fn [105]
def ob (s : PySem.W.SharedT) : Bool × List He.FnW := obsT as fa fn [105] (HandSHeadRun.getT s)
theorem ob_eq (s : PySem.W.SharedT) : ob s = hk.obs s.abs := obsT_eq (HandSHeadRun.getT_eq s)
theorem run (w : World) : HandSHeadRun.RunEq R qv hk ob 60000 names w := by
  intro os
  kernel_rfl
end Lw
open PySem PySem.W PySem.Calls PyProof.Rows in
set_option maxRecDepth 100000 in
set_option maxHeartbeats 0 in
theorem Lw.pre (hc : PySem.W.WalkO Lw.qv Lw.names (PySem.W.XL Lw.qv []) Lw.hk.says (OpenLaw.row PySem.Challenge.rw_guessedkinds_k01_texts_of_a_list).toRowW (HandSHeadRun.topDef (OpenLaw.row PySem.Challenge.rw_guessedkinds_k01_texts_of_a_list).prog 25) [] fun f vs => PySem.call f vs) : PySem.Challenge.rw_guessedkinds_k01_texts_of_a_list.Holds := by
  w_on; o_law
  refine HandSHeadRun.head_any (r := OpenLaw.row PySem.Challenge.rw_guessedkinds_k01_texts_of_a_list) (q := Lw.qv) (H := Lw.hk) (ob := Lw.ob) (M := 60000) (loose := Lw.names) (d := HandSHeadRun.topDef (OpenLaw.row PySem.Challenge.rw_guessedkinds_k01_texts_of_a_list).prog 25) (kwd := []) Lw.ob_eq
    (by kernel_rfl) (fun s => by kernel_rfl) Lw.run (by kernel_rfl) (by kernel_rfl) (by kernel_rfl) (by rfl) (by first | assumption | decide +kernel) (by decide +kernel) ⟨rfl, rfl, rfl, rfl, rfl, by decide +kernel⟩ ?hw hc
  w_witness2
/-! room where nothing is being shown; defs that ask for it -/
namespace G
open PySem PySem.Spec PyProof.Rows L2
structure Room (k : Nat) (A : Around) : Prop where
  r : L2.Room k A
  gd : A.guards = some []
instance {k : Nat} {A : Around} : CoeOut (Room k A) (L2.Room k A) := ⟨Room.r⟩
section
variable {j k : Nat} {A : Around}
theorem Room.mono (h : Room k A) (l : j ≤ k) : Room j A := ⟨h.r.mono l, h.gd⟩
theorem Room.deeper (h : Room (k + 1) A) (env : Env) : Room k (A.deeper env) := ⟨h.r.deeper env, h.gd⟩
theorem Room.in1 (h : Room (k + 1) A) : Room k A.in1 := ⟨h.r.in1, h.gd⟩
theorem make_guards {C : Addr} {us : List Value} {kw : List (Str × Value)} (h : A.guards = some []) : (A.under (.builtin "type.__call__" ⟨.ref C :: us, kw⟩)).guards = some [] := by
  first | rfl | simp [Around.under, Code.guards, Code.isGuard, guardIds, pushGuards, h]
theorem Room.make (h : Room (k + 1) A) (C : Addr) (us : List Value) (kw : List (Str × Value)) : Room k (A.under (.builtin "type.__call__" ⟨.ref C :: us, kw⟩)) := ⟨h.r.make C us kw, make_guards h.gd⟩
theorem Room.depth (h : Room k A) : A.depth < recursionLimit := h.r.depth
theorem Room.units (h : Room k A) : A.units + 64 < cLine := h.r.units
theorem Room.un (h : Room k A) : A.units + 16 * k + 200 < cLine := h.r.un
theorem Room.hd (h : Room k A) : A.handled = none := h.r.hd
end
/-- a def's promise, asked where nothing is being shown -/
structure FnOk (P : Program) (w : World) (K : PySem.W.Frag) (mg : Str → Option Value) (base : Heap) (CX : CXT) (k : Nat) (f : Addr) (fd : FuncData) (ps : List Str) (sp : Sp) : Prop where
  len : ∀ vs H Q E, sp vs H Q E → vs.length = ps.length
  run : ∀ (A : Around) (outer : List Env) (s : Shared) (H : Hp) (args : Args) (us : List Value) (vs : List V) (Q : VK) (E : XK),
    Room k A → Env0 P w K mg base A outer s H → BindsTo s fd args (ps.zip us) → Vals vs us → sp vs H Q E → codeAny (model P w) A (.call (.ref f) args) (CR CX outer P w H s Q E) s
section
variable {P : Program} {w : World} {K : PySem.W.Frag} {mg : Str → Option Value} {base : Heap} {CX : CXT} {j k : Nat} {f : Addr} {fd : FuncData} {N ps : List Str} {sp sp' : Sp}
theorem FnOk.mono (F : FnOk P w K mg base CX j f fd ps sp) (h : j ≤ k) : FnOk P w K mg base CX k f fd ps sp :=
  ⟨F.len, fun A outer s H args us vs Q E hr e0 hb r q => F.run A outer s H args us vs Q E (hr.mono h) e0 hb r q⟩
theorem fn_any {name qual : Str} {params : Arguments} {body : List Stmt} {scope : Scope} {dV kV doc pm cdv ct oc : Value} {an od : Option Addr} {osl : Array (Option Value)}
    (lk : K.lookup f = some ⟨oc, od, .func (PySem.W.fnOf name qual params body scope dV kV doc pm an cdv ct), osl⟩) (hcd : PySem.W.codeIn K cdv qual = true) (S : FnScope N ps scope) (len : ∀ vs H Q E, sp vs H Q E → vs.length = ps.length)
    (hbody : ∀ (A : Around) (outer : List Env) (s : Shared) (H : Hp) (vs : List V) (Q : VK) (E : XK), Room k (A.deeper (envOfC qual scope s.heap.objs.size f cdv)) → sp vs H Q E →
      ∃ t, PSs (cxOf CX P w K mg base N qual scope f cdv A outer s H E) body t ∧ t { nx := fun _ H' => Q .non H', rt := Q } (L2.start N vs) H) :
    FnOk P w K mg base CX (k + 1) f (PySem.W.fnOf name qual params body scope dV kV doc pm an cdv ct) ps sp :=
  ⟨len, fun A outer s H args us vs Q E hr e0 hb r q => LamX.run_ofS lk hcd S hr.r e0 hb r (len vs H Q E q) fun hr' => hbody A outer s H vs Q E ⟨hr', hr.gd⟩ q⟩
theorem funOk {x qual : Str} {st : Stmt} (F : Fun K x qual st f fd) (S : FnScope N ps (defScope st)) (len : ∀ vs H Q E, sp vs H Q E → vs.length = ps.length)
    (hbody : ∀ (cdv : Value) (A : Around) (outer : List Env) (s : Shared) (H : Hp) (vs : List V) (Q : VK) (E : XK), Room k (A.deeper (envOfC qual (defScope st) s.heap.objs.size f cdv)) → sp vs H Q E →
      ∃ t, PSs (cxOf CX0 P w K mg base N qual (defScope st) f cdv A outer s H E).nox (defBody st) t ∧ t { nx := fun _ H' => Q .non H', rt := Q } (L2.start N vs) H) : FnOk P w K mg base CX0 (k + 1) f fd ps sp := by
  obtain ⟨oc, od, kV, doc, pm, an, cdv, ct, osl, e, lk, hcd⟩ := F.ex
  subst e
  refine fn_any lk hcd S len fun A outer s H vs Q E hr q => ?_
  obtain ⟨t, h1, h2⟩ := hbody cdv A outer s H vs Q E hr q
  exact ⟨t, h1.nox, h2⟩
end
/-! ### calls of such defs -/
section
variable {X : Cx} {CX : CXT} {k : Nat} {f : Addr} {fd : FuncData} {ps : List Str} {sp : Sp} {ds : List Value} {dvs : List V} {E : XK} {pins : List (Addr × Obj)} {σ : L2.St} {H : Hp} {s : Shared} {x : Str} {p pos : Pos} {e : Expr} {es : List Expr} {t : TA}
theorem fn_run {us : List Value} {vs : List V} {Q : VK} (F : FnOk X.prog X.w X.K X.mg X.base CX k f fd ps sp) (hr : Room k X.A) (hb : Binds X.K fd ps ds) (hd : Vals dvs ds) (hx : Passes CX X E) (I : Inv X pins σ H s) (r : Vals vs us)
    (h : sp (vs ++ dvs) H Q E) : wpAny (model X.prog X.w) X.A (call (.ref f) us) (EP X pins σ Q) X.xe s := by
  have r2 := r.append hd
  have hl : (us ++ ds).length = ps.length := r2.length.symm.trans (F.len _ _ _ _ h)
  refine wpAny_call (codeAny_mono (F.run X.A X.stack s H ⟨us, []⟩ (us ++ ds) (vs ++ dvs) Q E hr I.env0 (hb s us I.kIn hl) r2 h) fun res s' hq => ?_)
  cases res with
  | error er => exact hx pins σ H s er s' I hq
  | ok fl =>
    cases fl with
    | ret u => exact I.after hq
    | next => exact hq.elim
    | brk => exact hq.elim
    | cont => exact hq.elim
theorem pe_callG (F : FnOk X.prog X.w X.K X.mg X.base CX k f fd ps sp) (hr : Room k X.A) (hg : Gl X x) (hm : X.mg x = some (.ref f)) (hk : PySem.W.keepIn X.K (.ref f) = true) (hb : Binds X.K fd ps ds) (hd : Vals dvs ds)
    (hx : Passes CX X E) (ha : PA X (e :: es) t) (hdb : (x == ("__debug__" : Str)) = false) (he : starEach (e :: es) X.env = (false, eval e X.env) :: starEach es X.env) (hpl : (backTo pos (starEach es X.env)).any (·.1) = false) :
    PE X (.Call (.Name x p) (e :: es) [] pos) (tCall sp dvs E t) := by
  refine ⟨fun pins s σ H Q I h => wpAny_Call_Name_kw (ld_glob I hg hm ?_ hdb)⟩
  exact PySem.W.callWith_K (h₀ := X.base) I.ok.mod.kin hk (thn (ha.run pos pins s σ H _ I h) fun us s1 ⟨vs, H1, I1, r, q⟩ => ⟨I1.kIn, fn_run F hr hb hd hx I1 r q⟩) he hpl
theorem pe_callG0 (F : FnOk X.prog X.w X.K X.mg X.base CX k f fd ps sp) (hr : Room k X.A) (hg : Gl X x) (hm : X.mg x = some (.ref f)) (hk : PySem.W.keepIn X.K (.ref f) = true) (hb : Binds X.K fd ps ds) (hd : Vals dvs ds)
    (hx : Passes CX X E) (hdb : (x == ("__debug__" : Str)) = false) : PE X (.Call (.Name x p) [] [] pos) (tCall sp dvs E tNil) := by
  refine ⟨fun pins s σ H Q I h => wpAny_Call_Name_kw (ld_glob I hg hm ?_ hdb)⟩
  exact PySem.W.callWith_K0 I.kIn hk (fn_run (us := []) F hr hb hd hx I .nil h)
end
end G
/-! data trees over the abstract heap: what never changes again is a tree, what changes is a cell -/
namespace G
open PySem PySem.Spec PyProof.Rows L2

inductive D where
  | non
  | bl (b : Bool)
  | int (i : Int)
  | str (l : List Nat)
  | ref (a : Addr)
  | ty (n : String)
  | cls (c : String)
  | tup (ds : List D)
  | lst (ds : List D)
  | rol (ds : List D)
  | dic (kvs : List (Key × D))
  | dct (kvs : List (List Key × D))
  | ins (c : String) (fs : List (Str × D))

/-- the classes' addresses, by name -/
abbrev Nm := String → Addr

section
variable (K : PySem.W.Frag) (cl : Nm) (F : Hp)
mutual
inductive Rep : V → D → Prop
  | non : Rep .non .non
  | bl (b : Bool) : Rep (.bl b) (.bl b)
  | int (i : Int) : Rep (.int i) (.int i)
  | str (l : List Nat) : Rep (.str ⟨l.toArray⟩) (.str l)
  | ref (a : Addr) : Rep (.ref a) (.ref a)
  | ty (n : String) : Rep (.ty n) (.ty n)
  | cls (c : String) : Rep (.ref (cl c)) (.cls c)
  | tup {a : Addr} {xs : List V} {ds : List D} : SqT K F a xs → RepL xs ds → Rep (.ref a) (.tup ds)
  | lst {a : Addr} {xs : List V} {ds : List D} : F a = some (.lst xs) → RepL xs ds → Rep (.ref a) (.lst ds)
  | rol {a : Addr} {xs : List V} {ds : List D} : SqL K F a xs → RepL xs ds → Rep (.ref a) (.rol ds)
  | dic {a : Addr} {o : Obj} {kvs : List (Key × V)} {ds : List (Key × D)} : F a = some (.frz o (.dK kvs)) → RepK kvs ds → Rep (.ref a) (.dic ds)
  | dct {a : Addr} {kvs : List (List Key × V)} {ds : List (List Key × D)} : F a = some (.dT kvs) → RepT kvs ds → Rep (.ref a) (.dct ds)
  | ins {a dx : Addr} {c : String} {fs : List (Str × V)} {ds : List (Str × D)} : F a = some (.ins (cl c) dx fs) → RepF fs ds → Rep (.ref a) (.ins c ds)
inductive RepL : List V → List D → Prop
  | nil : RepL [] []
  | cons {v : V} {d : D} {vs : List V} {ds : List D} : Rep v d → RepL vs ds → RepL (v :: vs) (d :: ds)
inductive RepK : List (Key × V) → List (Key × D) → Prop
  | nil : RepK [] []
  | cons {k : Key} {v : V} {d : D} {vs : List (Key × V)} {ds : List (Key × D)} : Rep v d → RepK vs ds → RepK ((k, v) :: vs) ((k, d) :: ds)
inductive RepT : List (List Key × V) → List (List Key × D) → Prop
  | nil : RepT [] []
  | cons {k : List Key} {v : V} {d : D} {vs : List (List Key × V)} {ds : List (List Key × D)} : Rep v d → RepT vs ds → RepT ((k, v) :: vs) ((k, d) :: ds)
inductive RepF : List (Str × V) → List (Str × D) → Prop
  | nil : RepF [] []
  | cons {k : Str} {v : V} {d : D} {vs : List (Str × V)} {ds : List (Str × D)} : Rep v d → RepF vs ds → RepF ((k, v) :: vs) ((k, d) :: ds)
end
end

theorem sqT_mono {K : PySem.W.Frag} {F F' : Hp} {a : Addr} {xs : List V} (e : Same F F') (h : SqT K F a xs) : SqT K F' a xs := by
  rcases h with (h | ⟨o, h⟩) | h
  · exact .inl (.inl (e _ _ h))
  · exact .inl (.inr ⟨o, e _ _ h⟩)
  · exact .inr h

section
variable {K : PySem.W.Frag} {cl : Nm} {F F' : Hp}
mutual
theorem Rep.mono (s : Same F F') : ∀ {v : V} {d : D}, Rep K cl F v d → Rep K cl F' v d
  | _, _, .non => .non
  | _, _, .bl b => .bl b
  | _, _, .int i => .int i
  | _, _, .str x => .str x
  | _, _, .ref a => .ref a
  | _, _, .ty n => .ty n
  | _, _, .cls c => .cls c
  | _, _, .tup h r => .tup (sqT_mono s h) (RepL.mono s r)
  | _, _, .lst h r => .lst (s _ _ h) (RepL.mono s r)
  | _, _, .rol h r => .rol (s.seq h) (RepL.mono s r)
  | _, _, .dic h r => .dic (s _ _ h) (RepK.mono s r)
  | _, _, .dct h r => .dct (s _ _ h) (RepT.mono s r)
  | _, _, .ins h r => .ins (s _ _ h) (RepF.mono s r)
theorem RepL.mono (s : Same F F') : ∀ {vs : List V} {ds : List D}, RepL K cl F vs ds → RepL K cl F' vs ds
  | _, _, .nil => .nil
  | _, _, .cons h r => .cons (Rep.mono s h) (RepL.mono s r)
theorem RepK.mono (s : Same F F') : ∀ {vs : List (Key × V)} {ds : List (Key × D)}, RepK K cl F vs ds → RepK K cl F' vs ds
  | _, _, .nil => .nil
  | _, _, .cons h r => .cons (Rep.mono s h) (RepK.mono s r)
theorem RepT.mono (s : Same F F') : ∀ {vs : List (List Key × V)} {ds : List (List Key × D)}, RepT K cl F vs ds → RepT K cl F' vs ds
  | _, _, .nil => .nil
  | _, _, .cons h r => .cons (Rep.mono s h) (RepT.mono s r)
theorem RepF.mono (s : Same F F') : ∀ {vs : List (Str × V)} {ds : List (Str × D)}, RepF K cl F vs ds → RepF K cl F' vs ds
  | _, _, .nil => .nil
  | _, _, .cons h r => .cons (Rep.mono s h) (RepF.mono s r)
end
theorem RepL.length : ∀ {vs : List V} {ds : List D}, RepL K cl F vs ds → vs.length = ds.length
  | _, _, .nil => rfl
  | _, _, .cons _ r => congrArg (· + 1) (RepL.length r)
theorem RepL.get : ∀ {vs : List V} {ds : List D} {i : Nat} {d : D}, RepL K cl F vs ds → ds[i]? = some d → ∃ v, vs[i]? = some v ∧ Rep K cl F v d
  | _, _, _, _, .nil, e => by simp at e
  | _, _, 0, _, .cons h _, e => by simp at e; subst e; exact ⟨_, rfl, h⟩
  | _, _, i + 1, d, .cons _ r, e => by
    obtain ⟨v, h1, h2⟩ := RepL.get (i := i) (d := d) r (by simpa using e)
    exact ⟨v, by simpa using h1, h2⟩
theorem RepL.append : ∀ {vs ws : List V} {ds es : List D}, RepL K cl F vs ds → RepL K cl F ws es → RepL K cl F (vs ++ ws) (ds ++ es)
  | _, _, _, _, .nil, s => s
  | _, _, _, _, .cons r t, s => .cons r (RepL.append t s)
theorem RepL.take : ∀ {vs : List V} {ds : List D} (n : Nat), RepL K cl F vs ds → RepL K cl F (vs.take n) (ds.take n)
  | _, _, 0, _ => .nil
  | _, _, _ + 1, .nil => .nil
  | _, _, n + 1, .cons r t => .cons r (RepL.take n t)
theorem RepL.drop : ∀ {vs : List V} {ds : List D} (n : Nat), RepL K cl F vs ds → RepL K cl F (vs.drop n) (ds.drop n)
  | _, _, 0, r => r
  | _, _, _ + 1, .nil => .nil
  | _, _, n + 1, .cons _ t => RepL.drop n t
theorem RepL.set {v : V} {d : D} (h : Rep K cl F v d) : ∀ {vs : List V} {ds : List D} (i : Nat), RepL K cl F vs ds → RepL K cl F (vs.set i v) (ds.set i d)
  | _, _, _, .nil => .nil
  | _, _, 0, .cons _ t => .cons h t
  | _, _, i + 1, .cons q t => .cons q (RepL.set h i t)
theorem RepL.reverse : ∀ {vs : List V} {ds : List D}, RepL K cl F vs ds → RepL K cl F vs.reverse ds.reverse
  | _, _, .nil => .nil
  | _, _, .cons r t => by
    rw [List.reverse_cons, List.reverse_cons]
    exact (RepL.reverse t).append (.cons r .nil)
theorem RepF.get : ∀ {vs : List (Str × V)} {ds : List (Str × D)} {f : Str} {d : D}, RepF K cl F vs ds → ds.lookup f = some d → ∃ v, vs.lookup f = some v ∧ Rep K cl F v d
  | _, _, _, _, .nil, e => by simp at e
  | _, _, f, d, .cons (k := k) h r, e => by
    by_cases c : f = k
    · subst c
      rw [List.lookup_cons_self] at e
      cases e
      exact ⟨_, List.lookup_cons_self, h⟩
    · have c' : (f == k) = false := by simpa using c
      rw [List.lookup_cons, c'] at e
      obtain ⟨v, h1, h2⟩ := RepF.get r e
      exact ⟨v, by rw [List.lookup_cons, c']; exact h1, h2⟩
theorem RepF.none_of : ∀ {vs : List (Str × V)} {ds : List (Str × D)} {f : Str}, RepF K cl F vs ds → ds.lookup f = none → vs.lookup f = none
  | _, _, _, .nil, _ => rfl
  | _, _, f, .cons (k := k) h r, e => by
    by_cases c : f = k
    · subst c
      rw [List.lookup_cons_self] at e
      cases e
    · have c' : (f == k) = false := by simpa using c
      rw [List.lookup_cons, c'] at e
      rw [List.lookup_cons, c']
      exact RepF.none_of r e
end

/-! ### keys that are tuples of whole numbers and of such tuples -/
mutual
def nk : D → Option NestedKey
  | .int i => some (.num i)
  | .bl b => some (.num (if b = true then 1 else 0))
  | .tup ds => (nkL ds).map .tup
  | _ => none
def nkL : List D → Option (List NestedKey)
  | [] => some []
  | d :: ds => match nk d, nkL ds with
    | some k, some ks => some (k :: ks)
    | _, _ => none
end
mutual
/-- hash(k), k without texts -/
def hashN : NestedKey → Int
  | .none => reduceHash 0xFCA86420
  | .num i => hashInt i
  | .text _ => 0
  | .tup ks => reduceHash (Builtin.Tuple.tupleHashOf (hashNs ks))
def hashNs : List NestedKey → List Int
  | [] => []
  | k :: ks => hashN k :: hashNs ks
end
mutual
theorem nk_hash (w : World) : ∀ {d : D} {k : NestedKey}, nk d = some k → k.hash w = hashN k
  | .int i, _, e => by unfold nk at e; cases e; rfl
  | .bl b, _, e => by unfold nk at e; cases e; rfl
  | .tup ds, _, e => by
    unfold nk at e
    obtain ⟨ks, e1, rfl⟩ := Option.map_eq_some_iff.mp e
    unfold NestedKey.hash hashN
    rw [nkL_hash w e1]
  | .non, _, e => by unfold nk at e; cases e
  | .str _, _, e => by unfold nk at e; cases e
  | .ref _, _, e => by unfold nk at e; cases e
  | .ty _, _, e => by unfold nk at e; cases e
  | .cls _, _, e => by unfold nk at e; cases e
  | .lst _, _, e => by unfold nk at e; cases e
  | .rol _, _, e => by unfold nk at e; cases e
  | .dic _, _, e => by unfold nk at e; cases e
  | .dct _, _, e => by unfold nk at e; cases e
  | .ins _ _, _, e => by unfold nk at e; cases e
theorem nkL_hash (w : World) : ∀ {ds : List D} {ks : List NestedKey}, nkL ds = some ks → NestedKey.hashes w ks = hashNs ks
  | [], _, e => by unfold nkL at e; cases e; rfl
  | d :: ds, _, e => by
    unfold nkL at e
    cases e1 : nk d with
    | none => rw [e1] at e; cases e
    | some k =>
      cases e2 : nkL ds with
      | none => rw [e1, e2] at e; cases e
      | some ks =>
        rw [e1, e2] at e
        cases e
        unfold NestedKey.hashes hashNs
        rw [nk_hash w e1, nkL_hash w e2]
end
/-- at d: a dict whose keys are such tuples (the keys, where their tuples stand), its values -/
def kdo (d : Addr) (ks : List (NestedKey × Addr)) (vs : List V) : HO := .ext fun h => ∃ (us : List Value) (o : Obj) (es : Array DictEntry) (ep : Nat), (d == sysModules) = false ∧ Vals vs us ∧ h.get? d = some o ∧ o.ExactDict ∧ o.data = .dict es ep ∧ es.toList = (ks.zip us).map fun x => ⟨hashN x.1.1, .ref x.1.2, x.2⟩
inductive RepN (K : PySem.W.Frag) (cl : Nm) (F : Hp) : List (NestedKey × Addr) → List V → List (D × D) → Prop
  | nil : RepN K cl F [] [] []
  | cons {k : NestedKey} {a : Addr} {v : V} {kd d : D} {ks : List (NestedKey × Addr)} {vs : List V} {ds : List (D × D)} : Rep K cl F (.ref a) kd → (∃ xs, kd = .tup xs) → nk kd = some k → k.depth ≤ 8 → Rep K cl F v d → RepN K cl F ks vs ds → RepN K cl F ((k, a) :: ks) (v :: vs) ((kd, d) :: ds)
theorem RepN.mono {K : PySem.W.Frag} {cl : Nm} {F F' : Hp} (s : Same F F') : ∀ {ks : List (NestedKey × Addr)} {vs : List V} {ds : List (D × D)}, RepN K cl F ks vs ds → RepN K cl F' ks vs ds
  | _, _, _, .nil => .nil
  | _, _, _, .cons h1 h2 h3 h4 h5 r => .cons (h1.mono s) h2 h3 h4 (h5.mono s) (r.mono s)
/-! ### cells -/
inductive Cell where
  | lst (ds : List D)
  | dic (kvs : List (Key × D))
  | dct (kvs : List (List Key × D))
  | ins (c : String) (fs : List (Str × D))
  /-- a table of the code objects of lambdas of this name -/
  | tbl (q : String)
  /-- a dict that is walked: locked for the while -/
  | dil (o : Obj) (vs : List (Key × V)) (kvs : List (Key × D))
  /-- an exception that is held as a value: where it stands, its class, its fields -/
  | exc (e : Addr) (c : String) (fs : List (Str × D))
  /-- a dict whose keys are nested tuples of whole numbers, and where it stands -/
  | dN (p : Addr) (kvs : List (D × D))
abbrev Cl := Addr → Option Cell
def updC (C : Cl) (a : Addr) (c : Cell) : Cl := fun b => if b = a then some c else C b
theorem updC_same {C : Cl} {a : Addr} {c : Cell} : updC C a c a = some c := by unfold updC; rw [if_pos rfl]
theorem updC_ne {C : Cl} {a b : Addr} {c : Cell} (h : b ≠ a) : updC C a c b = C b := by unfold updC; rw [if_neg h]
theorem updC_updC {C : Cl} {a : Addr} {c c' : Cell} : updC (updC C a c) a c' = updC C a c' := by
  funext b; unfold updC; split <;> rfl
def delC (C : Cl) (a : Addr) : Cl := fun b => if b = a then none else C b
def SubC (C C' : Cl) : Prop := ∀ a c, C a = some c → C' a = some c
theorem SubC.refl (C : Cl) : SubC C C := fun _ _ h => h
theorem SubC.trans {A B C : Cl} (h : SubC A B) (k : SubC B C) : SubC A C := fun a c e => k a c (h a c e)
theorem SubC.new {C C' : Cl} {p : Addr} {c : Cell} (h : SubC C C') (e : C p = none) : SubC C (updC C' p c) := fun a x q => by
  by_cases z : a = p
  · subst z; rw [e] at q; cases q
  · rw [updC_ne z]; exact h a x q

inductive CRep (K : PySem.W.Frag) (cl : Nm) (F : Hp) : HO → Cell → Prop
  | lst {xs : List V} {ds : List D} : RepL K cl F xs ds → CRep K cl F (.lst xs) (.lst ds)
  | dic {kvs : List (Key × V)} {ds : List (Key × D)} : RepK K cl F kvs ds → CRep K cl F (.dK kvs) (.dic ds)
  | dct {kvs : List (List Key × V)} {ds : List (List Key × D)} : RepT K cl F kvs ds → CRep K cl F (.dT kvs) (.dct ds)
  | ins {c : String} {dx : Addr} {fs : List (Str × V)} {ds : List (Str × D)} : RepF K cl F fs ds → CRep K cl F (.ins (cl c) dx fs) (.ins c ds)
  | dil {o : Obj} {kvs : List (Key × V)} {ds : List (Key × D)} : RepK K cl F kvs ds → CRep K cl F (.frz o (.dK kvs)) (.dil o kvs ds)
  | exc {e d : Addr} {c : String} {fs : List (Str × V)} {ds : List (Str × D)} : F d = some (exd d fs) → RepF K cl F fs ds → CRep K cl F (exo e (cl c) (some d)) (.exc e c ds)
  | dN {p : Addr} {ks : List (NestedKey × Addr)} {vs : List V} {ds : List (D × D)} : RepN K cl F ks vs ds → (ks.map (·.1)).Nodup → CRep K cl F (kdo p ks vs) (.dN p ds)
  | tbl {ps : Array Value} {q : String} : TriplesOk ps.toList → (∀ (pos : Pos) (cv : Value), codeAmong pos ps.toList = some cv → ∃ c, cv = .ref c ∧ F c = some (LamX.CodeO c q)) → CRep K cl F (.tbl ps) (.tbl q)
theorem CRep.mono {K : PySem.W.Frag} {cl : Nm} {F F' : Hp} {o : HO} {c : Cell} (s : Same F F') : CRep K cl F o c → CRep K cl F' o c
  | .lst r => .lst (r.mono s)
  | .dic r => .dic (r.mono s)
  | .dct r => .dct (r.mono s)
  | .ins r => .ins (r.mono s)
  | .dil r => .dil (r.mono s)
  | .exc h r => .exc (s _ _ h) (r.mono s)
  | .dN r n => .dN (r.mono s) n
  | .tbl t h => .tbl t fun pos cv e => let ⟨c, e1, e2⟩ := h pos cv e; ⟨c, e1, s _ _ e2⟩

structure RC (K : PySem.W.Frag) (cl : Nm) (C : Cl) (F H : Hp) : Prop where
  sub : Same F H
  cel : ∀ a c, C a = some c → F a = none ∧ ∃ o, H a = some o ∧ CRep K cl F o c
  tab : ∀ a q, C a = some (.tbl q) → a = cl q
section
variable {K : PySem.W.Frag} {cl : Nm} {C C' : Cl} {F F' H H' : Hp}
theorem same_upd {H : Hp} {p : Addr} {o : HO} (h : H p = none) : Same H (upd H p o) := fun b x e => by
  rw [upd_ne (ne_of_none e h)]
  exact e
theorem RC.freeF (R : RC K cl C F H) {p : Addr} (h : H p = none) : F p = none := R.sub.free h
theorem RC.freeC (R : RC K cl C F H) {p : Addr} (h : H p = none) : C p = none := by
  cases e : C p with
  | none => rfl
  | some c =>
    obtain ⟨_, o, q, _⟩ := R.cel p c e
    rw [h] at q; cases q
/-- a new tree -/
theorem RC.new (R : RC K cl C F H) {p : Addr} {o : HO} (h : H p = none) : RC K cl C (upd F p o) (upd H p o) where
  sub := fun b x e => by
    by_cases z : b = p
    · subst z; rw [upd_same] at e ⊢; exact e
    · rw [upd_ne z] at e ⊢; exact R.sub b x e
  cel := fun a c e => by
    obtain ⟨f, x, hx, r⟩ := R.cel a c e
    have z : a ≠ p := ne_of_none hx h
    exact ⟨by rw [upd_ne z]; exact f, x, by rw [upd_ne z]; exact hx, r.mono (same_upd (R.freeF h))⟩
  tab := R.tab
/-- a new thing that is not looked at again -/
theorem RC.over (R : RC K cl C F H) (s : Same H H') : RC K cl C F H' where
  sub := R.sub.trans s
  cel := fun a c e => by
    obtain ⟨f, x, hx, r⟩ := R.cel a c e
    exact ⟨f, x, s _ _ hx, r⟩
  tab := R.tab
/-- a new cell -/
theorem RC.cell (R : RC K cl C F H) {p : Addr} {o : HO} {c : Cell} (h : H p = none) (r : CRep K cl F o c) (ht : ∀ q, c = .tbl q → p = cl q := by nofun) : RC K cl (updC C p c) F (upd H p o) where
  sub := R.sub.trans (same_upd h)
  cel := fun a x e => by
    by_cases z : a = p
    · subst z
      rw [updC_same] at e; cases e
      exact ⟨R.freeF h, o, upd_same, r⟩
    · rw [updC_ne z] at e
      obtain ⟨f, x', hx, r'⟩ := R.cel a x e
      exact ⟨f, x', by rw [upd_ne z]; exact hx, r'⟩
  tab := fun a q e => by
    by_cases z : a = p
    · subst z
      rw [updC_same] at e; cases e
      exact ht q rfl
    · rw [updC_ne z] at e
      exact R.tab a q e
/-- a cell is written -/
theorem RC.put (R : RC K cl C F H) {p : Addr} {o : HO} {c c0 : Cell} (h : C p = some c0) (r : CRep K cl F o c) (ht : ∀ q, c = .tbl q → p = cl q := by nofun) : RC K cl (updC C p c) F (upd H p o) where
  sub := fun b x e => by
    have z : b ≠ p := ne_of_none e (R.cel p c0 h).1
    rw [upd_ne z]; exact R.sub b x e
  cel := fun a x e => by
    by_cases z : a = p
    · subst z
      rw [updC_same] at e; cases e
      exact ⟨(R.cel a c0 h).1, o, upd_same, r⟩
    · rw [updC_ne z] at e
      obtain ⟨f, x', hx, r'⟩ := R.cel a x e
      exact ⟨f, x', by rw [upd_ne z]; exact hx, r'⟩
  tab := fun a q e => by
    by_cases z : a = p
    · subst z
      rw [updC_same] at e; cases e
      exact ht q rfl
    · rw [updC_ne z] at e
      exact R.tab a q e
/-- cells are forgotten -/
theorem RC.drop (R : RC K cl C F H) (s : SubC C' C) : RC K cl C' F H := ⟨R.sub, fun a c e => R.cel a c (s a c e), fun a q e => R.tab a q (s a _ e)⟩
/-- a cell becomes a tree -/
theorem RC.freeze (R : RC K cl C F H) {p : Addr} {o : HO} {c : Cell} (h : C p = some c) (ho : H p = some o) : RC K cl (delC C p) (upd F p o) H ∧ Same F (upd F p o) := by
  have f := (R.cel p c h).1
  refine ⟨⟨fun b x e => ?_, fun a x e => ?_, fun a q e => ?_⟩, same_upd f⟩
  · by_cases z : b = p
    · subst z; rw [upd_same] at e; rw [← e]; exact ho
    · rw [upd_ne z] at e; exact R.sub b x e
  · unfold delC at e
    by_cases z : a = p
    · rw [if_pos z] at e; cases e
    · rw [if_neg z] at e
      obtain ⟨f', x', hx, r'⟩ := R.cel a x e
      exact ⟨by rw [upd_ne z]; exact f', x', hx, r'.mono (same_upd f)⟩
  · unfold delC at e
    by_cases z : a = p
    · rw [if_pos z] at e; cases e
    · rw [if_neg z] at e
      exact R.tab a q e
end

/-- the classes' addresses, and the trees that stood at the start -/
structure NmB where
  f : Nm
  bs : Hp
instance : Coe NmB Nm := ⟨NmB.f⟩
instance : CoeFun NmB (fun _ => String → Addr) := ⟨NmB.f⟩
abbrev nb (cl : Nm) : NmB := ⟨cl, fun _ => none⟩
/-! ### slots -/
abbrev DEnv := List (Option D)
structure RS (K : PySem.W.Frag) (cl : NmB) (ρ : DEnv) (C : Cl) (F : Hp) (σ : L2.St) (H : Hp) : Prop where
  rc : RC K cl C F H
  len : ρ.length = σ.length
  env : ∀ (i : Nat) (d : D), ρ[i]? = some (some d) → ∃ v, σ[i]? = some (some v) ∧ Rep K cl F v d
  bs : Same cl.bs F
section
variable {K : PySem.W.Frag} {cl : NmB} {C C' : Cl} {F F' H H' : Hp} {ρ : DEnv} {σ : L2.St}
theorem RS.next (R : RS K cl ρ C F σ H) (s : Same F F') (r : RC K cl C' F' H') : RS K cl ρ C' F' σ H' :=
  ⟨r, R.len, fun i d e => let ⟨v, h1, h2⟩ := R.env i d e; ⟨v, h1, h2.mono s⟩, R.bs.trans s⟩
theorem RS.set (R : RS K cl ρ C F σ H) {v : V} {d : D} (i : Nat) (h : Rep K cl F v d) : RS K cl (ρ.set i (some d)) C F (σ.set i (some v)) H where
  rc := R.rc
  bs := R.bs
  len := by rw [List.length_set, List.length_set]; exact R.len
  env := fun j e q => by
    by_cases z : i = j
    · subst z
      have hl : i < ρ.length := by
        have := (List.getElem?_eq_some_iff.mp q).1
        simpa using this
      rw [List.getElem?_set_self hl] at q
      cases q
      exact ⟨v, List.getElem?_set_self (by rw [← R.len]; exact hl), h⟩
    · rw [List.getElem?_set_ne z] at q
      obtain ⟨u, h1, h2⟩ := R.env j e q
      exact ⟨u, by rw [List.getElem?_set_ne z]; exact h1, h2⟩
theorem RS.unset (R : RS K cl ρ C F σ H) (i : Nat) {x : Option V} : RS K cl (ρ.set i none) C F (σ.set i x) H where
  rc := R.rc
  bs := R.bs
  len := by rw [List.length_set, List.length_set]; exact R.len
  env := fun j e q => by
    by_cases z : i = j
    · subst z
      by_cases hl : i < ρ.length
      · rw [List.getElem?_set_self hl] at q
        cases q
      · rw [List.getElem?_eq_none (by simpa using hl)] at q; cases q
    · rw [List.getElem?_set_ne z] at q
      obtain ⟨u, h1, h2⟩ := R.env j e q
      exact ⟨u, by rw [List.getElem?_set_ne z]; exact h1, h2⟩
end
theorem szl {n : Nat} (h : n ≤ 16000000) : n ≤ sizeLine := Nat.le_trans h (by rw [sizeLine_eq]; decide)
end G
namespace G
open PySem PySem.Spec PyProof.Rows L2

abbrev DQ := D → Cl → Prop
abbrev DE := DEnv → Cl → DQ → Prop
abbrev DT := DEnv → Cl → (Bool → Cl → Prop) → Prop
abbrev DA := DEnv → Cl → (List D → Cl → Prop) → Prop
structure DEnds where
  nx : DEnv → Cl → Prop
  rt : DQ
  bk : DEnv → Cl → Prop := fun _ _ => False
  ct : DEnv → Cl → Prop := fun _ _ => False
abbrev DS := DEnds → DEnv → Cl → Prop
/-- an exception's class, its fields -/
abbrev DX := String → List (Str × D) → Cl → Prop
abbrev DSp := List D → Cl → DQ → DX → Prop

section
variable (K : PySem.W.Frag) (cl : Nm)
def Fin (F : Hp) (Qd : DQ) (Q : VK) : Prop := ∀ v d C H F', Same F F' → RC K cl C F' H → Rep K cl F' v d → Qd d C → Q v H
end
section
variable (K : PySem.W.Frag) (cl : NmB)
def lowE (td : DE) : TE := fun σ H Q => ∃ ρ C F Qd, RS K cl ρ C F σ H ∧ td ρ C Qd ∧ Fin K cl F Qd Q
def lowT (td : DT) : TT := fun σ H Q => ∃ ρ C F Qd, RS K cl ρ C F σ H ∧ td ρ C Qd ∧ ∀ b C H F', Same F F' → RC K cl C F' H → Qd b C → Q b H
def lowA (td : DA) : TA := fun σ H Q => ∃ ρ C F Qd, RS K cl ρ C F σ H ∧ td ρ C Qd ∧ ∀ vs ds C H F', Same F F' → RC K cl C F' H → RepL K cl F' vs ds → Qd ds C → Q vs H
structure FinS (F : Hp) (Dd : DEnds) (De : Ends) : Prop where
  nx : ∀ ρ C F' σ H, Same F F' → RS K cl ρ C F' σ H → Dd.nx ρ C → De.nx σ H
  bk : ∀ ρ C F' σ H, Same F F' → RS K cl ρ C F' σ H → Dd.bk ρ C → De.bk σ H
  ct : ∀ ρ C F' σ H, Same F F' → RS K cl ρ C F' σ H → Dd.ct ρ C → De.ct σ H
  rt : ∀ v d C F' H, Same F F' → RC K cl C F' H → Rep K cl F' v d → Dd.rt d C → De.rt v H
def lowS (td : DS) : TS := fun De σ H => ∃ ρ C F Dd, RS K cl ρ C F σ H ∧ td Dd ρ C ∧ FinS K cl F Dd De
end
section
variable (K : PySem.W.Frag) (cl : Nm)
/-- an exception of a class of one's own, as it lies -/
def ExcRep (F : Hp) (c : String) (ds : List (Str × D)) (cv : Value) (d : Option Addr) (H : Hp) : Prop := cv = .ref (cl c) ∧ ∃ dd fs, d = some dd ∧ H dd = some (.xd fs) ∧ RepF K cl F fs ds
def FinX (F : Hp) (Ed : DX) (E : XK) : Prop := ∀ c ds cv d C H F', Same F F' → RC K cl C F' H → ExcRep K cl F' c ds cv d H → Ed c ds C → E cv d H
def lowSp (sp : DSp) : Sp := fun vs H Q E => ∃ ds C F Qd Ed, RC K cl C F H ∧ RepL K cl F vs ds ∧ sp ds C Qd Ed ∧ Fin K cl F Qd Q ∧ FinX K cl F Ed E
end

section
variable {K : PySem.W.Frag} {cl : Nm} {F F' : Hp}
theorem Fin.at {Qd : DQ} {Q : VK} (k : Fin K cl F Qd Q) (s : Same F F') : Fin K cl F' Qd Q := fun v d C H F2 s2 => k v d C H F2 (s.trans s2)
theorem FinX.at {Ed : DX} {E : XK} (k : FinX K cl F Ed E) (s : Same F F') : FinX K cl F' Ed E := fun c ds cv d C H F2 s2 => k c ds cv d C H F2 (s.trans s2)
theorem FinS.at {cl : NmB} {Dd : DEnds} {De : Ends} (k : FinS K cl F Dd De) (s : Same F F') : FinS K cl F' Dd De :=
  ⟨fun ρ C F2 σ H s2 => k.nx ρ C F2 σ H (s.trans s2), fun ρ C F2 σ H s2 => k.bk ρ C F2 σ H (s.trans s2), fun ρ C F2 σ H s2 => k.ct ρ C F2 σ H (s.trans s2), fun v d C F2 H s2 => k.rt v d C F2 H (s.trans s2)⟩
end

/-! ### the judgements -/
abbrev PEd (X : Cx) (cl : NmB) (e : Expr) (t : DE) : Prop := PE X e (lowE X.K cl t)
abbrev PTd (X : Cx) (cl : NmB) (e : Expr) (t : DT) : Prop := PT X e (lowT X.K cl t)
abbrev PAd (X : Cx) (cl : NmB) (es : List Expr) (t : DA) : Prop := PA X es (lowA X.K cl t)
abbrev PSd (X : Cx) (cl : NmB) (st : Stmt) (t : DS) : Prop := PS X st (lowS X.K cl t)
abbrev PSsd (X : Cx) (cl : NmB) (st : List Stmt) (t : DS) : Prop := PSs X st (lowS X.K cl t)

section
variable {X : Cx}
theorem weakE {e : Expr} {t t' : TE} (h : PE X e t) (w : ∀ σ H Q, t' σ H Q → t σ H Q) : PE X e t' := ⟨fun pins s σ H Q I q => h.run pins s σ H Q I (w σ H Q q)⟩
theorem weakT {e : Expr} {t t' : TT} (h : PT X e t) (w : ∀ σ H Q, t' σ H Q → t σ H Q) : PT X e t' := ⟨fun pins s σ H Q I q => h.run pins s σ H Q I (w σ H Q q)⟩
theorem weakW {e : Expr} {t t' : TT} (h : PW X e t) (w : ∀ σ H Q, t' σ H Q → t σ H Q) : PW X e t' := ⟨fun wh pins s σ H Q I q => h.run wh pins s σ H Q I (w σ H Q q)⟩
theorem weakA {e : List Expr} {t t' : TA} (h : PA X e t) (w : ∀ σ H Q, t' σ H Q → t σ H Q) : PA X e t' := ⟨fun p pins s σ H Q I q => h.run p pins s σ H Q I (w σ H Q q)⟩
theorem weakS {e : Stmt} {t t' : TS} (h : PS X e t) (w : ∀ D σ H, t' D σ H → t D σ H) : PS X e t' := ⟨fun pins s σ H D I q => h.run pins s σ H D I (w D σ H q)⟩
theorem weakSs {e : List Stmt} {t t' : TS} (h : PSs X e t) (w : ∀ D σ H, t' D σ H → t D σ H) : PSs X e t' := ⟨fun pins s σ H D I q => h.run pins s σ H D I (w D σ H q)⟩
end

/-! ### names, constants -/
def dVar (i : Nat) : DE := fun ρ C Q => ∃ d, ρ[i]? = some (some d) ∧ Q d C
def dC (d : D) : DE := fun _ C Q => Q d C
section
variable {X : Cx} {cl : NmB} {pos : Pos}
theorem dv (i : Nat) {x : Str} (hN : X.N[i]? = some x := by rfl) (hv : Vis X.env.scope x := by first | exact Or.inl rfl | exact Or.inr (Or.inl rfl) | exact Or.inr (Or.inr rfl)) (hd : (x == ("__debug__" : Str)) = false := by decide)
    (hcd : (x == ("__classdict__" : Str)) = false := by decide) : PEd X cl (.Name x pos) (dVar i) := by
  refine weakE (pv i hN hv hd hcd) fun σ H Q ⟨ρ, C, F, Qd, R, ⟨d, e, q⟩, k⟩ => ?_
  obtain ⟨v, ev, rv⟩ := R.env i d e
  exact ⟨v, ev, k v d C H F (Same.refl F) R.rc rv q⟩
theorem de_const {e : Expr} {v : V} {d : D} (h : PE X e (tC v)) (r : ∀ F, Rep X.K cl F v d) : PEd X cl e (dC d) :=
  weakE h fun σ H Q ⟨ρ, C, F, Qd, R, q, k⟩ => k v d C H F (Same.refl F) R.rc (r F) q
theorem de_int {i j} : PEd X cl (.Constant (.int i) j pos) (dC (.int i)) := de_const pe_int fun _ => .int i
theorem de_bl {b j} : PEd X cl (.Constant (.bool b) j pos) (dC (.bl b)) := de_const pe_bl fun _ => .bl b
theorem de_non {j} : PEd X cl (.Constant .none j pos) (dC .non) := de_const pe_non fun _ => .non
theorem de_str {x : Str} {l : List Nat} {j} (h : x = ⟨l.toArray⟩ := by decide +kernel) : PEd X cl (.Constant (.str x) j pos) (dC (.str l)) := by
  subst h
  exact de_const pe_str fun _ => .str l
theorem de_glob {x : Str} {v : V} {u : Value} {d : D} (hm : X.mg x = some u) (r : RelV v u) (h : ∀ F, Rep X.K cl F v d) (hg : Gl X x := by rfl) (hd : (x == ("__debug__" : Str)) = false := by decide) : PEd X cl (.Name x pos) (dC d) :=
  de_const (pe_glob hg hm r hd) h
theorem de_bltn {x : Str} {v : V} {u : Value} {d : D} (hm : X.mg x = none) (hv : bootBuiltins x = some u) (r : RelV v u) (h : ∀ F, Rep X.K cl F v d) (hg : Gl X x := by rfl) (hn : x ≠ "__name__" := by decide) (hd : (x == ("__debug__" : Str)) = false := by decide) : PEd X cl (.Name x pos) (dC d) :=
  de_const (pe_bltn hg hm hv r hn hd) h
end

/-! ### operators -/
abbrev RD2 := D → D → Cl → DQ → Prop
section
variable (K : PySem.W.Frag) (cl : Nm)
def lowR (rd : RD2) : R2 := fun x y H Q => ∃ dx dy C F Qd, RC K cl C F H ∧ Rep K cl F x dx ∧ Rep K cl F y dy ∧ rd dx dy C Qd ∧ Fin K cl F Qd Q
end
abbrev OpD (X : Cx) (cl : Nm) (f : Value → Value → Sem Value) (rd : RD2) : Prop := OpR X f (lowR X.K cl rd)
def dOp (rd : RD2) (ta tb : DE) : DE := fun ρ C Q => ta ρ C fun x C1 => tb ρ C1 fun y C2 => rd x y C2 Q
section
variable {X : Cx} {cl : NmB} {a b : Expr} {ta tb : DE} {pos : Pos} {K : PySem.W.Frag}
theorem low_op {rd : RD2} {σ : L2.St} {H : Hp} {Q : VK} (h : lowE K cl (dOp rd ta tb) σ H Q) : tOp (lowR K cl rd) (lowE K cl ta) (lowE K cl tb) σ H Q := by
  obtain ⟨ρ, C, F, Qd, R, h, k⟩ := h
  refine ⟨ρ, C, F, _, R, h, fun v d C1 H1 F1 s1 R1 r1 q1 => ?_⟩
  refine ⟨ρ, C1, F1, _, R.next s1 R1, q1, fun w e C2 H2 F2 s2 R2 r2 q2 => ?_⟩
  exact ⟨d, e, C2, F2, Qd, R2, r1.mono s2, r2, q2, k.at (s1.trans s2)⟩
theorem de_op {op : Operator} {rd : RD2} (ho : OpD X cl (binaryOp op) rd) (ha : PEd X cl a ta) (hb : PEd X cl b tb) : PEd X cl (.BinOp a op b pos) (dOp rd ta tb) :=
  weakE (pe_op ho ha hb) fun _ _ _ h => low_op h
theorem de_cmp {op : CmpOp} {rd : RD2} (ho : OpD X cl (compareOp op) rd) (ha : PEd X cl a ta) (hb : PEd X cl b tb) (hm : behindInMarks op b = false) : PEd X cl (.Compare a [op] [b] pos) (dOp rd ta tb) :=
  weakE (pe_cmpR ho ha hb hm) fun _ _ _ h => low_op h
/-- a value that is a truth value, as a test -/
def dTest (t : DE) : DT := fun ρ C Q => t ρ C fun x C1 => ∃ k, x = .bl k ∧ Q k C1
theorem low_test {t : DE} {σ : L2.St} {H : Hp} {Q : Bool → Hp → Prop} (h : lowT K cl (dTest t) σ H Q) : lowE K cl t σ H fun x H1 => ∃ k, x = .bl k ∧ Q k H1 := by
  obtain ⟨ρ, C, F, Qd, R, h, k⟩ := h
  refine ⟨ρ, C, F, _, R, h, fun v d C1 H1 F1 s1 R1 r1 q1 => ?_⟩
  obtain ⟨b, rfl, q⟩ := q1
  cases r1
  exact ⟨b, rfl, k b C1 H1 F1 s1 R1 q⟩
theorem low_test_op {rd : RD2} {σ : L2.St} {H : Hp} {Q : Bool → Hp → Prop} (h : lowT K cl (dTest (dOp rd ta tb)) σ H Q) : tTest (tOp (lowR K cl rd) (lowE K cl ta) (lowE K cl tb)) σ H Q := low_op (low_test h)
theorem dt_cmp {op : CmpOp} {rd : RD2} (ho : OpD X cl (compareOp op) rd) (ha : PEd X cl a ta) (hb : PEd X cl b tb) (hm : behindInMarks op b = false) : PTd X cl (.Compare a [op] [b] pos) (dTest (dOp rd ta tb)) :=
  weakT (pt_cmpR ho ha hb hm) fun _ _ _ h => low_test_op h
theorem dt_val {e : Expr} {t : DE} (h : PEd X cl e t) (he : ∀ whole, isTrue e X.env whole = (do let v ← whole; standAt e.pos; holding [v] (truthy v)) := by intro _; rfl) : PTd X cl e (dTest t) :=
  weakT (pt_val h he) fun _ _ _ h => low_test h
variable {c : Expr} {tc : DE}
/-- one-place operators -/
abbrev RD1 := D → Cl → DQ → Prop
def lowR1 (K : PySem.W.Frag) (cl : Nm) (rd : RD1) : V → Hp → VK → Prop := fun x H Q => ∃ dx C F Qd, RC K cl C F H ∧ Rep K cl F x dx ∧ rd dx C Qd ∧ Fin K cl F Qd Q
def dUn (rd : RD1) (ta : DE) : DE := fun ρ C Q => ta ρ C fun x C1 => rd x C1 Q
theorem low_un {rd : RD1} {σ : L2.St} {H : Hp} {Q : VK} (h : lowE K cl (dUn rd ta) σ H Q) : tUn (lowR1 K cl rd) (lowE K cl ta) σ H Q := by
  obtain ⟨ρ, C, F, Qd, R, h, k⟩ := h
  exact ⟨ρ, C, F, _, R, h, fun v d C1 H1 F1 s1 R1 r1 q1 => ⟨d, C1, F1, Qd, R1, r1, q1, k.at s1⟩⟩
theorem de_un {op : UnaryOp} {rd : RD1} (ho : UnR X (unaryOp op) (lowR1 X.K cl rd)) (ha : PEd X cl a ta) : PEd X cl (.UnaryOp op a pos) (dUn rd ta) :=
  weakE (pe_un ho ha) fun _ _ _ h => low_un h
end

/-! ### and, or, not, if -/
section
variable {X : Cx} {cl : NmB} {a b : Expr} {rest : List Expr} {ta tb : DE} {tA tB : DT} {pos : Pos} {K : PySem.W.Frag}
def dAnd (t u : DT) : DT := fun ρ C Q => t ρ C fun c C1 => if c = true then u ρ C1 Q else Q false C1
def dOr (t u : DT) : DT := fun ρ C Q => t ρ C fun c C1 => if c = true then Q true C1 else u ρ C1 Q
def dNot (t : DT) : DT := fun ρ C Q => t ρ C fun c C1 => Q (!c) C1
abbrev PWd (X : Cx) (cl : NmB) (e : Expr) (t : DT) : Prop := PW X e (lowT X.K cl t)
theorem dw_and1 (h : PTd X cl a tA) : PWd X cl (.BoolOp .And [a] pos) tA := pw_and1 h
theorem dw_or1 (h : PTd X cl a tA) : PWd X cl (.BoolOp .Or [a] pos) tA := pw_or1 h
theorem dw_and (ha : PTd X cl a tA) (hb : PWd X cl (.BoolOp .And (b :: rest) pos) tB) : PWd X cl (.BoolOp .And (a :: b :: rest) pos) (dAnd tA tB) := by
  refine weakW (pw_and ha hb) fun σ H Q ⟨ρ, C, F, Qd, R, h, k⟩ => ?_
  refine ⟨ρ, C, F, _, R, h, fun c C1 H1 F1 s1 R1 q1 => ?_⟩
  cases c with
  | true =>
    rw [if_pos rfl] at q1 ⊢
    exact ⟨ρ, C1, F1, Qd, R.next s1 R1, q1, fun b C2 H2 F2 s2 => k b C2 H2 F2 (s1.trans s2)⟩
  | false =>
    rw [if_neg Bool.false_ne_true] at q1 ⊢
    exact k false C1 H1 F1 s1 R1 q1
theorem dw_or (ha : PTd X cl a tA) (hb : PWd X cl (.BoolOp .Or (b :: rest) pos) tB) : PWd X cl (.BoolOp .Or (a :: b :: rest) pos) (dOr tA tB) := by
  refine weakW (pw_or ha hb) fun σ H Q ⟨ρ, C, F, Qd, R, h, k⟩ => ?_
  refine ⟨ρ, C, F, _, R, h, fun c C1 H1 F1 s1 R1 q1 => ?_⟩
  cases c with
  | true =>
    rw [if_pos rfl] at q1 ⊢
    exact k true C1 H1 F1 s1 R1 q1
  | false =>
    rw [if_neg Bool.false_ne_true] at q1 ⊢
    exact ⟨ρ, C1, F1, Qd, R.next s1 R1, q1, fun b C2 H2 F2 s2 => k b C2 H2 F2 (s1.trans s2)⟩
theorem dt_not (h : PTd X cl a tA) : PTd X cl (.UnaryOp .Not a pos) (dNot tA) := by
  refine weakT (pt_not h) fun σ H Q ⟨ρ, C, F, Qd, R, h, k⟩ => ?_
  exact ⟨ρ, C, F, _, R, h, fun c C1 H1 F1 s1 R1 q1 => k _ C1 H1 F1 s1 R1 q1⟩
/-- as values, all but the last a truth value -/
def dAndV (ta tb : DE) : DE := fun ρ C Q => ta ρ C fun x C1 => ∃ c, x = .bl c ∧ if c = true then tb ρ C1 Q else Q (.bl false) C1
def dOrV (ta tb : DE) : DE := fun ρ C Q => ta ρ C fun x C1 => ∃ c, x = .bl c ∧ if c = true then Q (.bl true) C1 else tb ρ C1 Q
def dNotV (ta : DE) : DE := fun ρ C Q => ta ρ C fun x C1 => ∃ c, x = .bl c ∧ Q (.bl (!c)) C1
theorem de_one {op : BoolOp} (h : PEd X cl a ta) : PEd X cl (.BoolOp op [a] pos) ta := pe_one h
theorem de_and (ha : PEd X cl a ta) (hb : PEd X cl (.BoolOp .And (b :: rest) pos) tb) : PEd X cl (.BoolOp .And (a :: b :: rest) pos) (dAndV ta tb) := by
  refine weakE (pe_and ha hb) fun σ H Q ⟨ρ, C, F, Qd, R, h, k⟩ => ?_
  refine ⟨ρ, C, F, _, R, h, fun v d C1 H1 F1 s1 R1 r1 q1 => ?_⟩
  obtain ⟨c, rfl, q1⟩ := q1
  cases r1
  refine ⟨c, rfl, ?_⟩
  cases c with
  | true =>
    rw [if_pos rfl] at q1 ⊢
    exact ⟨ρ, C1, F1, Qd, R.next s1 R1, q1, k.at s1⟩
  | false =>
    rw [if_neg Bool.false_ne_true] at q1 ⊢
    exact k _ _ C1 H1 F1 s1 R1 (.bl false) q1
theorem de_not (h : PEd X cl a ta) : PEd X cl (.UnaryOp .Not a pos) (dNotV ta) := by
  refine weakE (pe_not h) fun σ H Q ⟨ρ, C, F, Qd, R, h, k⟩ => ?_
  refine ⟨ρ, C, F, _, R, h, fun v d C1 H1 F1 s1 R1 r1 q1 => ?_⟩
  obtain ⟨c, rfl, q1⟩ := q1
  cases r1
  exact ⟨c, rfl, k _ _ C1 H1 F1 s1 R1 (.bl _) q1⟩
def dIf (t : DT) (ta tb : DE) : DE := fun ρ C Q => t ρ C fun c C1 => if c = true then ta ρ C1 Q else tb ρ C1 Q
theorem de_ifExp {c : Expr} (hc : PTd X cl c tA) (ha : PEd X cl a ta) (hb : PEd X cl b tb) : PEd X cl (.IfExp c a b pos) (dIf tA ta tb) := by
  refine weakE (pe_ifExp hc ha hb) fun σ H Q ⟨ρ, C, F, Qd, R, h, k⟩ => ?_
  refine ⟨ρ, C, F, _, R, h, fun c C1 H1 F1 s1 R1 q1 => ?_⟩
  cases c with
  | true =>
    rw [if_pos rfl] at q1 ⊢
    exact ⟨ρ, C1, F1, Qd, R.next s1 R1, q1, k.at s1⟩
  | false =>
    rw [if_neg Bool.false_ne_true] at q1 ⊢
    exact ⟨ρ, C1, F1, Qd, R.next s1 R1, q1, k.at s1⟩
end

/-! ### arguments, displays -/
def dNil : DA := fun _ C Q => Q [] C
def dCons (ta : DE) (tr : DA) : DA := fun ρ C Q => ta ρ C fun x C1 => tr ρ C1 fun xs C2 => Q (x :: xs) C2
def dTup (t : DA) : DE := fun ρ C Q => t ρ C fun xs C1 => xs.length ≤ sizeLine ∧ Q (.tup xs) C1
def dLst (t : DA) : DE := fun ρ C Q => t ρ C fun xs C1 => xs.length ≤ sizeLine ∧ Q (.lst xs) C1
/-- a list that is to be changed -/
def dLstC (t : DA) : DE := fun ρ C Q => t ρ C fun xs C1 => xs.length ≤ sizeLine ∧ ∀ p, C1 p = none → Q (.ref p) (updC C1 p (.lst xs))
section
variable {X : Cx} {cl : NmB} {e : Expr} {es : List Expr} {te : DE} {t : DA} {pos : Pos} {K : PySem.W.Frag}
theorem da_nil : PAd X cl [] dNil := weakA pa_nil fun σ H Q ⟨ρ, C, F, Qd, R, h, k⟩ => k [] [] C H F (Same.refl F) R.rc .nil h
theorem low_cons {σ : L2.St} {H : Hp} {Q : List V → Hp → Prop} (h : lowA K cl (dCons te t) σ H Q) : tCons (lowE K cl te) (lowA K cl t) σ H Q := by
  obtain ⟨ρ, C, F, Qd, R, h, k⟩ := h
  refine ⟨ρ, C, F, _, R, h, fun v d C1 H1 F1 s1 R1 r1 q1 => ?_⟩
  refine ⟨ρ, C1, F1, _, R.next s1 R1, q1, fun vs ds C2 H2 F2 s2 R2 r2 q2 => ?_⟩
  exact k _ _ C2 H2 F2 (s1.trans s2) R2 (.cons (r1.mono s2) r2) q2
theorem da_cons (ha : PEd X cl e te) (hr : PAd X cl es t) (hs : starEach (e :: es) X.env = (false, eval e X.env) :: starEach es X.env := by rfl) : PAd X cl (e :: es) (dCons te t) :=
  weakA (pa_cons ha hr hs) fun _ _ _ h => low_cons h
theorem de_tup {x1} (h : PAd X cl es t) : PEd X cl (.Tuple es x1 pos) (dTup t) := by
  refine weakE (pe_tup h) fun σ H Q ⟨ρ, C, F, Qd, R, h, k⟩ => ?_
  refine ⟨ρ, C, F, _, R, h, fun vs ds C1 H1 F1 s1 R1 r1 ⟨z, q1⟩ => ⟨by rw [r1.length]; exact z, fun p np => ?_⟩⟩
  have s2 := same_upd (o := .tup vs) (R1.freeF np)
  exact k _ _ C1 _ _ (s1.trans s2) (R1.new np) (.tup (.of upd_same) (r1.mono s2)) q1
theorem de_lst (h : PAd X cl es t) : PEd X cl (.List es pos) (dLst t) := by
  refine weakE (pe_lst h) fun σ H Q ⟨ρ, C, F, Qd, R, h, k⟩ => ?_
  refine ⟨ρ, C, F, _, R, h, fun vs ds C1 H1 F1 s1 R1 r1 ⟨z, q1⟩ => ⟨by rw [r1.length]; exact z, fun p np => ?_⟩⟩
  have s2 := same_upd (o := .lst vs) (R1.freeF np)
  exact k _ _ C1 _ _ (s1.trans s2) (R1.new np) (.lst upd_same (r1.mono s2)) q1
theorem de_lstC (h : PAd X cl es t) : PEd X cl (.List es pos) (dLstC t) := by
  refine weakE (pe_lst h) fun σ H Q ⟨ρ, C, F, Qd, R, h, k⟩ => ?_
  refine ⟨ρ, C, F, _, R, h, fun vs ds C1 H1 F1 s1 R1 r1 ⟨z, q1⟩ => ⟨by rw [r1.length]; exact z, fun p np => ?_⟩⟩
  exact k _ _ _ _ _ s1 (R1.cell np (.lst r1)) (.ref p) (q1 p (R1.freeC np))
end

/-! ### ghosts: a cell becomes a tree, cells are forgotten -/
inductive Gh : D → Cl → D → Cl → Prop
  | same {d : D} {C : Cl} : Gh d C d C
  | drop {d : D} {C C' : Cl} : SubC C' C → Gh d C d C'
  | lst {a : Addr} {C : Cl} {ds : List D} : C a = some (.lst ds) → Gh (.ref a) C (.lst ds) (delC C a)
  | dct {a : Addr} {C : Cl} {ds : List (List Key × D)} : C a = some (.dct ds) → Gh (.ref a) C (.dct ds) (delC C a)
  | ins {a : Addr} {C : Cl} {c : String} {ds : List (Str × D)} : C a = some (.ins c ds) → Gh (.ref a) C (.ins c ds) (delC C a)
  | trans {d d1 d2 : D} {C C1 C2 : Cl} : Gh d C d1 C1 → Gh d1 C1 d2 C2 → Gh d C d2 C2
theorem Gh.ok {K : PySem.W.Frag} {cl : Nm} {F H : Hp} {d d' : D} {C C' : Cl} {v : V} (g : Gh d C d' C') : RC K cl C F H → Rep K cl F v d → ∃ F', Same F F' ∧ RC K cl C' F' H ∧ Rep K cl F' v d' := by
  induction g generalizing F with
  | same => exact fun R r => ⟨F, Same.refl F, R, r⟩
  | drop s => exact fun R r => ⟨F, Same.refl F, R.drop s, r⟩
  | lst h =>
    intro R r
    cases r
    obtain ⟨_, o, ho, c⟩ := R.cel _ _ h
    cases c with
    | lst rl =>
      obtain ⟨R', s⟩ := R.freeze h ho
      exact ⟨_, s, R', .lst upd_same (rl.mono s)⟩
  | dct h =>
    intro R r
    cases r
    obtain ⟨_, o, ho, c⟩ := R.cel _ _ h
    cases c with
    | dct rl =>
      obtain ⟨R', s⟩ := R.freeze h ho
      exact ⟨_, s, R', .dct upd_same (rl.mono s)⟩
  | ins h =>
    intro R r
    cases r
    obtain ⟨_, o, ho, c⟩ := R.cel _ _ h
    cases c with
    | ins rl =>
      obtain ⟨R', s⟩ := R.freeze h ho
      exact ⟨_, s, R', .ins upd_same (rl.mono s)⟩
  | trans _ _ i1 i2 =>
    intro R r
    obtain ⟨F1, s1, R1, r1⟩ := i1 R r
    obtain ⟨F2, s2, R2, r2⟩ := i2 R1 r1
    exact ⟨F2, s1.trans s2, R2, r2⟩
end G
namespace G
open PySem PySem.Spec PyProof.Rows L2

/-! ### blocks and small statements -/
def dNext : DS := fun D ρ C => D.nx ρ C
def dSeq (t u : DS) : DS := fun D ρ C => t { D with nx := u D } ρ C
def dDrop (te : DE) : DS := fun D ρ C => te ρ C fun _ C1 => D.nx ρ C1
def dRet (te : DE) : DS := fun D ρ C => te ρ C D.rt
def dIfS (c : DT) (t u : DS) : DS := fun D ρ C => c ρ C fun b C1 => if b = true then t D ρ C1 else u D ρ C1
section
variable {X : Cx} {cl : NmB} {st : Stmt} {rest : List Stmt} {t u : DS} {e : Expr} {te : DE} {pos : Pos}
theorem dss_nil : PSsd X cl [] dNext := weakSs pss_nil fun De σ H ⟨ρ, C, F, Dd, R, h, k⟩ => k.nx ρ C F σ H (Same.refl F) R h
theorem dss_cons (h1 : PSd X cl st t) (h2 : PSsd X cl rest u) : PSsd X cl (st :: rest) (dSeq t u) := by
  refine weakSs (pss_cons h1 h2) fun De σ H ⟨ρ, C, F, Dd, R, h, k⟩ => ?_
  exact ⟨ρ, C, F, { Dd with nx := u Dd }, R, h, ⟨fun ρ' C' F' σ' H' s R' q => ⟨ρ', C', F', Dd, R', q, k.at s⟩, k.bk, k.ct, k.rt⟩⟩
theorem dss_one (h1 : PSd X cl st t) : PSsd X cl [st] t := pss_one h1
theorem ds_expr (he : PEd X cl e te) (hs : swapsWith e none pos.line X.env = pure false := by rfl) : PSd X cl (.Expr e pos) (dDrop te) := by
  refine weakS (ps_expr he hs) fun De σ H ⟨ρ, C, F, Dd, R, h, k⟩ => ?_
  exact ⟨ρ, C, F, _, R, h, fun v d C1 H1 F1 s1 R1 r1 q1 => k.nx ρ C1 F1 σ H1 s1 (R.next s1 R1) q1⟩
theorem ds_ret (he : PEd X cl e te) : PSd X cl (.Return (some e) pos) (dRet te) := by
  refine weakS (ps_ret he) fun De σ H ⟨ρ, C, F, Dd, R, h, k⟩ => ?_
  exact ⟨ρ, C, F, _, R, h, fun v d C1 H1 F1 s1 R1 r1 q1 => k.rt v d C1 F1 H1 s1 R1 r1 q1⟩
theorem ds_if {c : Expr} {a b : List Stmt} {tc : DT} (hc : PTd X cl c tc) (ha : PSsd X cl a t) (hb : PSsd X cl b u) : PSd X cl (.If c a b pos) (dIfS tc t u) := by
  refine weakS (ps_if hc ha hb) fun De σ H ⟨ρ, C, F, Dd, R, h, k⟩ => ?_
  refine ⟨ρ, C, F, _, R, h, fun d C1 H1 F1 s1 R1 q1 => ?_⟩
  cases d with
  | true =>
    rw [if_pos rfl] at q1 ⊢
    exact ⟨ρ, C1, F1, Dd, R.next s1 R1, q1, k.at s1⟩
  | false =>
    rw [if_neg Bool.false_ne_true] at q1 ⊢
    exact ⟨ρ, C1, F1, Dd, R.next s1 R1, q1, k.at s1⟩
end

/-! ### a name, seen otherwise -/
def dView (i : Nat) (t : DS) : DS := fun D ρ C => ∃ d d' C', ρ[i]? = some (some d) ∧ Gh d C d' C' ∧ t D (ρ.set i (some d')) C'
theorem set_own {α : Type} : ∀ {l : List α} {i : Nat} {x : α}, l[i]? = some x → l.set i x = l
  | [], _, _, h => by simp at h
  | a :: l, 0, x, h => by
    have e : a = x := Option.some.inj h
    rw [e]; rfl
  | a :: l, i + 1, x, h => by
    have e := set_own (l := l) (i := i) (x := x) (by simpa using h)
    show a :: l.set i x = a :: l
    rw [e]
theorem dss_view {X : Cx} {cl : NmB} {sts : List Stmt} {t : DS} (i : Nat) (h : PSsd X cl sts t) : PSsd X cl sts (dView i t) := by
  refine weakSs h fun De σ H ⟨ρ, C, F, Dd, R, ⟨d, d', C', e, g, q⟩, k⟩ => ?_
  obtain ⟨v, ev, rv⟩ := R.env i d e
  obtain ⟨F', s, R', r'⟩ := g.ok R.rc rv
  refine ⟨_, C', F', Dd, ?_, q, k.at s⟩
  have := (R.next s R').set i r'
  rw [set_own ev] at this
  exact this

/-! ### targets -/
abbrev DG := D → DEnv → Cl → (DEnv → Cl → Prop) → Prop
abbrev DGs := List D → DEnv → Cl → (DEnv → Cl → Prop) → Prop
def lowG (K : PySem.W.Frag) (cl : NmB) (g : DG) : TG := fun v σ H Q => ∃ d ρ C F Qd, RS K cl ρ C F σ H ∧ Rep K cl F v d ∧ g d ρ C Qd ∧ ∀ ρ' C' F' σ' H', Same F F' → RS K cl ρ' C' F' σ' H' → Qd ρ' C' → Q σ' H'
def lowGs (K : PySem.W.Frag) (cl : NmB) (g : DGs) : TGs := fun v σ H Q => ∃ d ρ C F Qd, RS K cl ρ C F σ H ∧ RepL K cl F v d ∧ g d ρ C Qd ∧ ∀ ρ' C' F' σ' H', Same F F' → RS K cl ρ' C' F' σ' H' → Qd ρ' C' → Q σ' H'
abbrev PGd (X : Cx) (cl : NmB) (tg : Expr) (g : DG) : Prop := PG X tg (lowG X.K cl g)
abbrev PGsd (X : Cx) (cl : NmB) (tg : List Expr) (g : DGs) : Prop := PGs X tg (lowGs X.K cl g)
theorem weakG {X : Cx} {e : Expr} {t t' : TG} (h : PG X e t) (w : ∀ v σ H Q, t' v σ H Q → t v σ H Q) : PG X e t' := ⟨fun pins s σ H v u Q I r q => h.run pins s σ H v u Q I r (w v σ H Q q)⟩
theorem weakGs {X : Cx} {e : List Expr} {t t' : TGs} (h : PGs X e t) (w : ∀ v σ H Q, t' v σ H Q → t v σ H Q) : PGs X e t' := ⟨fun pins s σ H v u Q I r q => h.run pins s σ H v u Q I r (w v σ H Q q)⟩
def dName (i : Nat) : DG := fun d ρ C Q => Q (ρ.set i (some d)) C
def dgNil : DGs := fun ds ρ C Q => ds = [] ∧ Q ρ C
def dgCons (t : DG) (u : DGs) : DGs := fun ds ρ C Q => ∃ d r, ds = d :: r ∧ t d ρ C fun ρ' C' => u r ρ' C' Q
def dgTup (n : Nat) (t : DGs) : DG := fun d ρ C Q => ∃ ds, d = .tup ds ∧ ds.length = n ∧ t ds ρ C Q
section
variable {X : Cx} {cl : NmB} {pos : Pos}
theorem dg_name (i : Nat) {x : Str} (hN : X.N.Nodup) (hi : X.N[i]? = some x := by rfl) (hx : Loc X.env.scope x := by first | exact Or.inl rfl | exact Or.inr rfl) (hf : X.fn x = true ∨ X.env.scope.names.lookup x = some .local := by first | exact .inl rfl | exact .inr rfl | assumption) : PGd X cl (.Name x pos) (dName i) := by
  refine weakG (pg_name hN hi hx hf) fun v σ H Q ⟨d, ρ, C, F, Qd, R, r, q, k⟩ => ?_
  exact k _ C F _ H (Same.refl F) (R.set i r) q
theorem dgs_nil : PGsd X cl [] dgNil := by
  refine weakGs pgs_nil fun v σ H Q ⟨d, ρ, C, F, Qd, R, r, ⟨e, q⟩, k⟩ => ?_
  subst e
  cases r
  exact ⟨rfl, k ρ C F σ H (Same.refl F) R q⟩
theorem dgs_cons {e : Expr} {es : List Expr} {t : DG} {u : DGs} (h1 : PGd X cl e t) (h2 : PGsd X cl es u)
    (hs : (assignEach (e :: es) X.env).map (·.2) = assign e X.env :: (assignEach es X.env).map (·.2) := by rfl) : PGsd X cl (e :: es) (dgCons t u) := by
  refine weakGs (pgs_cons h1 h2 hs) fun v σ H Q ⟨ds, ρ, C, F, Qd, R, r, ⟨d, r', e, q⟩, k⟩ => ?_
  subst e
  cases r with
  | cons rd rr =>
    refine ⟨_, _, rfl, d, ρ, C, F, _, R, rd, q, fun ρ1 C1 F1 σ1 H1 s1 R1 q1 => ?_⟩
    exact ⟨r', ρ1, C1, F1, Qd, R1, rr.mono s1, q1, fun ρ2 C2 F2 σ2 H2 s2 => k ρ2 C2 F2 σ2 H2 (s1.trans s2)⟩
theorem dg_tup {es : List Expr} {j : Nat} {t : DGs} {n : Nat} (h : PGsd X cl es t) (hc : X.calm = true := by rfl)
    (hn : (assignEach es X.env).length = n := by rfl) (hst : (assignEach es X.env).findIdx? (·.1) = none := by rfl) : PGd X cl (.Tuple es j pos) (dgTup n t) := by
  refine weakG (pg_tup hc h hn hst) fun v σ H Q ⟨d, ρ, C, F, Qd, R, r, ⟨ds, e, hl, q⟩, k⟩ => ?_
  subst e
  cases r with
  | tup hq rl => exact ⟨_, _, rfl, sqT_mono R.rc.sub hq, rl.length.trans hl, ds, ρ, C, F, Qd, R, rl, q, k⟩
/-- o[i] = v -/
abbrev RSet := D → D → D → Cl → (Cl → Prop) → Prop
def lowSet (K : PySem.W.Frag) (cl : Nm) (rd : RSet) : TSet := fun o i v H Q => ∃ dO dI dV C F Qd, RC K cl C F H ∧ Rep K cl F o dO ∧ Rep K cl F i dI ∧ Rep K cl F v dV ∧ rd dO dI dV C Qd ∧ ∀ C' F' H', Same F F' → RC K cl C' F' H' → Qd C' → Q H'
abbrev SetD (X : Cx) (cl : Nm) (rd : RSet) : Prop := PSet X (lowSet X.K cl rd)
def dgSub (to ti : DE) (rd : RSet) : DG := fun d ρ C Q => to ρ C fun o C1 => ti ρ C1 fun i C2 => rd o i d C2 fun C3 => Q ρ C3
theorem dg_sub {o i : Expr} {to ti : DE} {rd : RSet} (ho : PEd X cl o to) (hi : PEd X cl i ti) (hs : SetD X cl rd)
    (ha : ∀ v, assign (.Subscript o i pos) X.env v = (do
      let ov ← holding [v] (eval o X.env)
      let iv ← holding [v, ov] (eval i X.env)
      standAt pos
      holding [v, ov, iv] (setItem ov iv v)
      release [v, ov, iv] []) := by intro _; rfl) : PGd X cl (.Subscript o i pos) (dgSub to ti rd) := by
  refine weakG (pg_sub ho hi hs ha) fun v σ H Q ⟨d, ρ, C, F, Qd, R, r, q, k⟩ => ?_
  refine ⟨ρ, C, F, _, R, q, fun vo dO C1 H1 F1 s1 R1 r1 q1 => ?_⟩
  refine ⟨ρ, C1, F1, _, R.next s1 R1, q1, fun vi dI C2 H2 F2 s2 R2 r2 q2 => ?_⟩
  refine ⟨dO, dI, d, C2, F2, _, R2, r1.mono s2, r2, r.mono (s1.trans s2), q2, fun C3 F3 H3 s3 R3 q3 => ?_⟩
  exact k ρ C3 F3 σ H3 (s1.trans (s2.trans s3)) (R.next (s1.trans (s2.trans s3)) R3) q3
/-- target = value -/
def dAsg (te : DE) (g : DG) : DS := fun D ρ C => te ρ C fun x C1 => g x ρ C1 D.nx
theorem ds_asg {tg e : Expr} {te : DE} {g : DG} (he : PEd X cl e te) (hg : PGd X cl tg g) (hs : swapsWithSole [tg] e pos.line X.env = pure false := by rfl) (hw : swappedStores [tg] e X.env = pure none := by rfl)
    (h1 : (assignEach [tg] X.env).map (·.2) = [assign tg X.env] := by rfl) : PSd X cl (.Assign [tg] e pos) (dAsg te g) := by
  refine weakS (ps_asg he hg hs hw h1) fun De σ H ⟨ρ, C, F, Dd, R, h, k⟩ => ?_
  refine ⟨ρ, C, F, _, R, h, fun v d C1 H1 F1 s1 R1 r1 q1 => ?_⟩
  exact ⟨d, ρ, C1, F1, _, R.next s1 R1, r1, q1, fun ρ2 C2 F2 σ2 H2 s2 R2 q2 => k.nx ρ2 C2 F2 σ2 H2 (s1.trans s2) R2 q2⟩
theorem ds_set (i : Nat) {x : Str} {e : Expr} {te : DE} {pos' : Pos} (hN : X.N.Nodup) (he : PEd X cl e te) (hi : X.N[i]? = some x := by rfl) (hx : Loc X.env.scope x := by first | exact Or.inl rfl | exact Or.inr rfl) (hs : swapsWith e (some (.Name x pos')) pos.line X.env = pure false := by rfl) (hf : X.fn x = true ∨ X.env.scope.names.lookup x = some .local := by first | exact .inl rfl | exact .inr rfl | assumption) :
    PSd X cl (.Assign [.Name x pos'] e pos) (dAsg te (dName i)) := by
  refine weakS (ps_set hN hi hx he hs hf) fun De σ H ⟨ρ, C, F, Dd, R, h, k⟩ => ?_
  refine ⟨ρ, C, F, _, R, h, fun v d C1 H1 F1 s1 R1 r1 q1 => ?_⟩
  exact k.nx _ C1 F1 _ H1 s1 ((R.next s1 R1).set i r1) q1
/-- a, b = x, y with plain names: stored from the right; no tuple is made -/
def dPar (i j : Nat) (t : DA) : DS := fun D ρ C => t ρ C fun ds C2 => ∃ v w, ds = [v, w] ∧ D.nx ((ρ.set i (some v)).set j (some w)) C2
theorem ds_par (i j : Nat) {x y : Str} {a b : Expr} {t : DA} {px py pt : Pos} {kt k2 pt2} (hN : X.N.Nodup) (ha : PAd X cl [a, b] t) (hij : i ≠ j := by decide) (hc : X.calm = true := by rfl) (hi : X.N[i]? = some x := by rfl) (hj : X.N[j]? = some y := by rfl)
    (hx : X.env.scope.names.lookup x = some .local := by rfl) (hy : X.env.scope.names.lookup y = some .local := by rfl)
    (hw : swappedStores [.Tuple [.Name x px, .Name y py] kt pt] (.Tuple [a, b] k2 pt2) X.env = pure (some [x, y]) := by rfl)
    (hs : swapsWithSole [.Tuple [.Name x px, .Name y py] kt pt] (.Tuple [a, b] k2 pt2) pos.line X.env = pure false := by rfl) :
    PSd X cl (.Assign [.Tuple [.Name x px, .Name y py] kt pt] (.Tuple [a, b] k2 pt2) pos) (dPar i j t) := by
  refine weakS (ps_par hc hN hi hj hij hx hy ha hw hs) fun De σ H ⟨ρ, C, F, Dd, R, h, k⟩ => ?_
  refine ⟨ρ, C, F, _, R, h, fun vs ds C1 H1 F1 s1 R1 r1 ⟨v, w, e, q1⟩ => ?_⟩
  subst e
  cases r1 with
  | cons ra rr =>
    cases rr with
    | cons rb rn =>
      cases rn
      exact ⟨_, _, rfl, k.nx _ C1 F1 _ H1 s1 (((R.next s1 R1).set i ra).set j rb) q1⟩
/-! ### loops -/
def dWhile (c : DT) (tb : DS) : DS := fun D ρ C => ∃ W : Nat → DEnv → Cl → Prop, (∃ m, W m ρ C) ∧ ∀ m ρ C, W m ρ C →
  c ρ C fun b C1 => if b = true then tb { D with nx := fun ρ' C' => ∃ m', m' < m ∧ W m' ρ' C', ct := fun ρ' C' => ∃ m', m' < m ∧ W m' ρ' C', bk := D.nx } ρ C1 else D.nx ρ C1
theorem ds_while {c : Expr} {body : List Stmt} {tc : DT} {tb : DS} (hp : PassesOwn (model X.prog X.w) X.A X.env X.xe) (hc : PTd X cl c tc) (hb : PSsd X cl body tb) : PSd X cl (.While c body [] pos) (dWhile tc tb) := by
  refine weakS (ps_while hp hc hb) fun De σ H ⟨ρ, C, F, Dd, R, ⟨W, ⟨m0, w0⟩, turn⟩, k⟩ => ?_
  refine ⟨fun m σ H => ∃ ρ C F', Same F F' ∧ RS X.K cl ρ C F' σ H ∧ W m ρ C, ⟨m0, ρ, C, F, Same.refl F, R, w0⟩, ?_⟩
  rintro m σ1 H1 ⟨ρ1, C1, F1, s1, R1, w1⟩
  refine ⟨ρ1, C1, F1, _, R1, turn m ρ1 C1 w1, fun b C2 H2 F2 s2 R2 q2 => ?_⟩
  cases b with
  | true =>
    rw [if_pos rfl] at q2 ⊢
    have again : ∀ ρ' C' F' σ' H', Same F2 F' → RS X.K cl ρ' C' F' σ' H' → (∃ m', m' < m ∧ W m' ρ' C') → ∃ m', m' < m ∧ ∃ ρ C F', Same F F' ∧ RS X.K cl ρ C F' σ' H' ∧ W m' ρ C := fun ρ' C' F' σ' H' s' R' ⟨m', lt, w'⟩ => ⟨m', lt, ρ', C', F', s1.trans (s2.trans s'), R', w'⟩
    refine ⟨fun σ' H' => ∃ m', m' < m ∧ ∃ ρ C F', Same F F' ∧ RS X.K cl ρ C F' σ' H' ∧ W m' ρ C, fun σ' H' z => z, ρ1, C2, F2, _, R1.next s2 R2, q2, ?_⟩
    exact ⟨again, fun ρ' C' F' σ' H' s' => k.nx ρ' C' F' σ' H' (s1.trans (s2.trans s')), again, (k.at (s1.trans s2)).rt⟩
  | false =>
    rw [if_neg Bool.false_ne_true] at q2 ⊢
    exact k.nx ρ1 C2 F2 σ1 H2 (s1.trans s2) (R1.next s2 R2) q2
/-- J yields the items xs, one a turn -/
def Walk (K : PySem.W.Frag) (cl : Nm) (J : It) (xs : List D) (F : Hp) : Prop := ∀ i C F1 H, Same F F1 → RC K cl C F1 H →
  (∀ x, xs[i]? = some x → J.go i H ∧ ∀ v H', J.yld i H v H' → ∃ F2, Same F1 F2 ∧ RC K cl C F2 H' ∧ Rep K cl F2 v x) ∧ (xs.length = i → J.stop i H)
theorem Walk.at {K : PySem.W.Frag} {J : It} {xs : List D} {F F' : Hp} (w : Walk K cl J xs F) (s : Same F F') : Walk K cl J xs F' := fun i C F1 H s1 => w i C F1 H (s.trans s1)
abbrev DI := DEnv → Cl → (List D → Cl → Prop) → Prop
def lowI (K : PySem.W.Frag) (cl : NmB) (wi : DI) : TI := fun σ H R => ∃ ρ C F Qd, RS K cl ρ C F σ H ∧ wi ρ C Qd ∧ ∀ J xs C' H' F', Same F F' → RC K cl C' F' H' → Walk K cl J xs F' → Qd xs C' → R J H'
abbrev PId (X : Cx) (cl : NmB) (tg iter : Expr) (wi : DI) : Prop := PI X tg iter (lowI X.K cl wi)
theorem weakI {tg iter : Expr} {t t' : TI} (h : PI X tg iter t) (w : ∀ σ H Q, t' σ H Q → t σ H Q) : PI X tg iter t' := ⟨fun pins s σ H Q I q => h.run pins s σ H Q I (w σ H Q q)⟩
def dFor (wi : DI) (g : DG) (tb : DS) : DS := fun D ρ C => wi ρ C fun xs C1 => ∃ Pv : Nat → DEnv → Cl → Prop, Pv 0 ρ C1 ∧
  (∀ i x ρ C, xs[i]? = some x → Pv i ρ C → g x ρ C fun ρ2 C2 => tb { D with nx := Pv (i + 1), ct := Pv (i + 1), bk := D.nx } ρ2 C2) ∧ ∀ ρ C, Pv xs.length ρ C → D.nx ρ C
theorem ds_for {tg iter : Expr} {body : List Stmt} {wi : DI} {g : DG} {tb : DS} (hp : PassesOwn (model X.prog X.w) X.A X.env X.xe) (hi : PId X cl tg iter wi) (hg : PGd X cl tg g) (hb : PSsd X cl body tb) (hc : X.calm = true := by rfl)
    (hs : ∀ x, foldedSetIterable iter X.env x = pure x := by intro _; rfl) : PSd X cl (.For tg iter body [] pos) (dFor wi g tb) := by
  refine weakS (ps_for hp hc hi hg hb hs) fun De σ H ⟨ρ, C, F, Dd, R, h, k⟩ => ?_
  refine ⟨ρ, C, F, _, R, h, fun J xs C1 H1 F1 s1 R1 wk ⟨Pv, p0, ps, pd⟩ => ?_⟩
  refine ⟨fun i m σ H => m = xs.length - i ∧ i ≤ xs.length ∧ ∃ ρ C F', Same F1 F' ∧ RS X.K cl ρ C F' σ H ∧ Pv i ρ C, ⟨xs.length, by simp, Nat.zero_le _, ρ, C1, F1, Same.refl F1, R.next s1 R1, p0⟩, ?_⟩
  rintro i m σ2 H2 ⟨rfl, hi, ρ2, C2, F2, s2, R2, p2⟩
  obtain ⟨wy, we⟩ := wk i C2 F2 H2 s2 R2.rc
  by_cases hlt : i < xs.length
  · obtain ⟨go, yl⟩ := wy _ (List.getElem?_eq_getElem hlt)
    have again : ∀ ρ' C' F' σ' H', Same F1 F' → RS X.K cl ρ' C' F' σ' H' → Pv (i + 1) ρ' C' → ∃ ρ C F', Same F1 F' ∧ RS X.K cl ρ C F' σ' H' ∧ Pv (i + 1) ρ C := fun ρ' C' F' σ' H' s' R' p' => ⟨ρ', C', F', s', R', p'⟩
    refine .inr ⟨go, fun σ' H' => ∃ ρ C F', Same F1 F' ∧ RS X.K cl ρ C F' σ' H' ∧ Pv (i + 1) ρ C, fun σ' H' z => ⟨xs.length - (i + 1), by omega, rfl, hlt, z⟩, fun v H3 y => ?_⟩
    obtain ⟨F3, s3, R3, r3⟩ := yl v H3 y
    refine ⟨_, ρ2, C2, F3, _, R2.next s3 R3, r3, ps i _ ρ2 C2 (List.getElem?_eq_getElem hlt) p2, fun ρ4 C4 F4 σ4 H4 s4 R4 q4 => ?_⟩
    have sb : Same F1 F4 := s2.trans (s3.trans s4)
    exact ⟨ρ4, C4, F4, _, R4, q4, ⟨fun ρ' C' F' σ' H' s' => again ρ' C' F' σ' H' (sb.trans s'), fun ρ' C' F' σ' H' s' => k.nx ρ' C' F' σ' H' (s1.trans (sb.trans s')), fun ρ' C' F' σ' H' s' => again ρ' C' F' σ' H' (sb.trans s'), (k.at (s1.trans sb)).rt⟩⟩
  · have e : i = xs.length := by omega
    subst e
    exact .inl ⟨we rfl, k.nx ρ2 C2 F2 σ2 H2 (s1.trans s2) R2 (pd ρ2 C2 p2)⟩
end
end G
namespace G
open PySem PySem.Spec PyProof.Rows L2

/-! ### what is walked -/
section
variable {X : Cx} {cl : NmB} {tg e : Expr} {te : DE} {K : PySem.W.Frag}
/-- the items of a list that stands -/
def lstOf : D → Option (List D)
  | .lst ds => some ds
  | .rol ds => some ds
  | _ => none
theorem Rep.asL {F : Hp} {v : V} {d : D} {ds : List D} (r : Rep K cl F v d) (h : lstOf d = some ds) : ∃ a xs, v = .ref a ∧ SqL K F a xs ∧ RepL K cl F xs ds := by
  cases r with
  | lst h1 h2 => cases h; exact ⟨_, _, rfl, .of h1, h2⟩
  | rol h1 h2 => cases h; exact ⟨_, _, rfl, h1, h2⟩
  | _ => cases h
theorem walk_list {F : Hp} {a : Addr} {xs : List V} {ds : List D} (h : SqL K F a xs) (r : RepL K cl F xs ds) : Walk K cl (Itl K a) ds F := by
  intro i C F1 H s R
  have h1 : SqL K H a xs := R.sub.seq (s.seq h)
  refine ⟨fun x hx => ?_, fun hi => ⟨xs, h1, by rw [r.length]; exact Nat.le_of_eq hi⟩⟩
  obtain ⟨v, hv, rv⟩ := r.get hx
  refine ⟨⟨xs, v, h1, hv⟩, fun v' H' ⟨e, y⟩ => ?_⟩
  subst e
  have e2 := y xs h1
  rw [hv] at e2
  cases e2
  exact ⟨F1, Same.refl F1, R, rv.mono s⟩
theorem walk_tup {F : Hp} {a : Addr} {xs : List V} {ds : List D} (h : SqT K F a xs) (r : RepL K cl F xs ds) : Walk K cl (Itt K a) ds F := by
  intro i C F1 H s R
  have h1 : SqT K H a xs := sqT_mono R.sub (sqT_mono s h)
  refine ⟨fun x hx => ?_, fun hi => ⟨xs, h1, by rw [r.length]; exact Nat.le_of_eq hi⟩⟩
  obtain ⟨v, hv, rv⟩ := r.get hx
  refine ⟨⟨xs, v, h1, hv⟩, fun v' H' ⟨e, y⟩ => ?_⟩
  subst e
  have e2 := y xs h1
  rw [hv] at e2
  cases e2
  exact ⟨F1, Same.refl F1, R, rv.mono s⟩
def diList (te : DE) : DI := fun ρ C R => te ρ C fun x C1 => ∃ xs, lstOf x = some xs ∧ R xs C1
theorem di_list (he : PEd X cl e te) : PId X cl tg e (diList te) := by
  refine weakI (pi_list he) fun σ H R ⟨ρ, C, F, Rd, RR, h, k⟩ => ?_
  refine ⟨ρ, C, F, _, RR, h, fun v d C1 H1 F1 s1 R1 r1 ⟨xs, e, q1⟩ => ?_⟩
  obtain ⟨a, vs, rfl, hs, rl⟩ := r1.asL e
  exact ⟨a, rfl, ⟨vs, R1.sub.seq hs⟩, k _ xs C1 H1 F1 s1 R1 (walk_list hs rl) q1⟩
def diTup (te : DE) : DI := fun ρ C R => te ρ C fun x C1 => ∃ xs, x = .tup xs ∧ R xs C1
theorem di_tup (he : PEd X cl e te) : PId X cl tg e (diTup te) := by
  refine weakI (pi_tup he) fun σ H R ⟨ρ, C, F, Rd, RR, h, k⟩ => ?_
  refine ⟨ρ, C, F, _, RR, h, fun v d C1 H1 F1 s1 R1 r1 ⟨xs, e, q1⟩ => ?_⟩
  subst e
  cases r1 with
  | tup hs rl => exact ⟨_, rfl, ⟨_, sqT_mono R1.sub hs⟩, k _ xs C1 H1 F1 s1 R1 (walk_tup hs rl) q1⟩
/-- the signs of a text -/
def signs (x : List Nat) : List D := x.map fun c => .str [c]
theorem walk_str {F : Hp} (x : List Nat) : Walk K cl (Its ⟨x.toArray⟩) (signs x) F := by
  intro i C F1 H s R
  refine ⟨fun d hd => ?_, fun hi => show x.toArray.size ≤ i from Nat.le_of_eq (by simpa [signs] using hi)⟩
  unfold signs at hd
  rw [List.getElem?_map] at hd
  cases hc : x[i]? with
  | none => rw [hc] at hd; cases hd
  | some c =>
    rw [hc] at hd
    have e : D.str [c] = d := Option.some.inj hd
    subst e
    have hc' : x.toArray[i]? = some c := by rw [List.getElem?_toArray]; exact hc
    refine ⟨(Array.getElem?_eq_some_iff.mp hc').1, fun v H' ⟨e, c', hx, ev⟩ => ?_⟩
    subst e
    rw [hc'] at hx; cases hx
    subst ev
    exact ⟨F1, Same.refl F1, R, .str [c]⟩
def diStr (te : DE) : DI := fun ρ C R => te ρ C fun x C1 => ∃ z, x = .str z ∧ R (signs z) C1
theorem di_str (he : PEd X cl e te) : PId X cl tg e (diStr te) := by
  refine weakI (pi_str he) fun σ H R ⟨ρ, C, F, Rd, RR, h, k⟩ => ?_
  refine ⟨ρ, C, F, _, RR, h, fun v d C1 H1 F1 s1 R1 r1 ⟨z, e, q1⟩ => ?_⟩
  subst e
  cases r1
  exact ⟨_, rfl, k _ _ C1 H1 F1 s1 R1 (walk_str z) q1⟩
/-- lo, lo + 1, .. -/
def ranged (lo : Int) (n : Nat) : List D := (List.range n).map fun (i : Nat) => .int (lo + (i : Int))
theorem ranged_get {lo : Int} {n i : Nat} {d : D} (h : (ranged lo n)[i]? = some d) : i < n ∧ d = .int (lo + (i : Int)) := by
  unfold ranged at h
  rw [List.getElem?_map] at h
  by_cases hi : i < n
  · rw [List.getElem?_range hi] at h
    exact ⟨hi, (Option.some.inj h).symm⟩
  · rw [List.getElem?_eq_none (by simpa using hi)] at h; cases h
theorem ranged_length (lo : Int) (n : Nat) : (ranged lo n).length = n := by unfold ranged; simp
theorem walk_range {F : Hp} (lo : Int) (n : Nat) : Walk K cl (Itr lo n) (ranged lo n) F := by
  intro i C F1 H s R
  refine ⟨fun d hd => ?_, fun hi => by rw [ranged_length] at hi; exact Nat.le_of_eq hi⟩
  obtain ⟨hi, rfl⟩ := ranged_get hd
  refine ⟨hi, fun v H' ⟨e, ev⟩ => ?_⟩
  subst e
  subst ev
  exact ⟨F1, Same.refl F1, R, .int _⟩
def diRng1 (t : DA) : DI := fun ρ C R => t ρ C fun ds C1 => ∃ j : Int, ds = [.int j] ∧ (-(2 ^ 62) ≤ j ∧ j < 2 ^ 62) ∧ R (ranged 0 j.toNat) C1
theorem di_rng1 {a : Expr} {t : DA} {p pos : Pos} (hm : X.mg "range" = none) (ha : PAd X cl [a] t) (hg : Gl X "range" := by rfl) (hs : starEach [a] X.env = [(false, eval a X.env)] := by rfl) : PId X cl tg (.Call (.Name "range" p) [a] [] pos) (diRng1 t) := by
  refine weakI (pi_range1 hg hm ha hs) fun σ H R ⟨ρ, C, F, Rd, RR, h, k⟩ => ?_
  refine ⟨ρ, C, F, _, RR, h, fun vs ds C1 H1 F1 s1 R1 r1 ⟨j, e, b, q1⟩ => ?_⟩
  subst e
  cases r1 with
  | cons r rr =>
    cases rr
    cases r
    exact ⟨j, rfl, b.1, b.2, k _ _ C1 H1 F1 s1 R1 (walk_range 0 _) q1⟩
/-- pairs of a place and an item -/
def numbered (k : Nat) : List D → List D
  | [] => []
  | d :: ds => .tup [.int (k : Int), d] :: numbered (k + 1) ds
theorem numbered_length : ∀ (k : Nat) (ds : List D), (numbered k ds).length = ds.length
  | _, [] => rfl
  | k, _ :: ds => congrArg (· + 1) (numbered_length (k + 1) ds)
theorem numbered_get : ∀ {k i : Nat} {ds : List D} {x : D}, (numbered k ds)[i]? = some x → ∃ d, ds[i]? = some d ∧ x = .tup [.int ((k + i : Nat) : Int), d]
  | _, _, [], _, h => by simp [numbered] at h
  | k, 0, d :: ds, x, h => by
    have e : D.tup [.int (k : Int), d] = x := Option.some.inj h
    exact ⟨d, rfl, e.symm⟩
  | k, i + 1, d :: ds, x, h => by
    obtain ⟨d', h1, h2⟩ := numbered_get (k := k + 1) (i := i) (ds := ds) (x := x) (by simpa [numbered] using h)
    refine ⟨d', by simpa using h1, ?_⟩
    rw [h2, show k + 1 + i = k + (i + 1) by omega]
end
end G
namespace G
open PySem PySem.Spec PyProof.Rows L2

/-! ### a comprehension's own targets -/
def wipeD (ρ : DEnv) : List Nat → DEnv
  | [] => ρ
  | v :: vs => (wipeD ρ vs).set v none
section
variable {K : PySem.W.Frag} {cl : NmB} {C : Cl} {F H : Hp} {ρ : DEnv} {σ : L2.St}
theorem RS.wipe (R : RS K cl ρ C F σ H) : ∀ vs : List Nat, RS K cl (wipeD ρ vs) C F (wipe σ vs) H
  | [] => R
  | v :: vs => (R.wipe vs).unset v
theorem wipe_set {x : Option V} {i : Nat} : ∀ {vs : List Nat}, i ∈ vs → wipe (σ.set i x) vs = wipe σ vs
  | [], h => by simp at h
  | v :: vs, h => by
    unfold L2.wipe
    by_cases e : i = v
    · subst e
      by_cases hi : i ∈ vs
      · rw [wipe_set hi]
      · rw [wipe_comm hi, List.set_set]
    · have hi : i ∈ vs := by
        rcases List.mem_cons.mp h with z | z
        · exact absurd z e
        · exact z
      rw [wipe_set hi]
where
  wipe_comm {x : Option V} {i : Nat} {σ : L2.St} : ∀ {vs : List Nat}, i ∉ vs → wipe (σ.set i x) vs = (wipe σ vs).set i x
    | [], _ => rfl
    | v :: vs, h => by
      unfold L2.wipe
      have h1 : i ≠ v := fun z => h (by simp [z])
      have h2 : i ∉ vs := fun z => h (List.mem_cons_of_mem _ z)
      rw [wipe_comm h2, List.set_comm _ _ h1]
end
def lowO (K : PySem.W.Frag) (cl : NmB) (vs : List Nat) (g : DG) : TG := fun v σ H Q => ∃ d ρ C F Qd, RS K cl ρ C F σ H ∧ Rep K cl F v d ∧ g d ρ C Qd ∧ ∀ ρ' C' F' σ' H', Same F F' → RS K cl ρ' C' F' σ' H' → wipe σ' vs = wipe σ vs → Qd ρ' C' → Q σ' H'
def lowOs (K : PySem.W.Frag) (cl : NmB) (vs : List Nat) (g : DGs) : TGs := fun v σ H Q => ∃ d ρ C F Qd, RS K cl ρ C F σ H ∧ RepL K cl F v d ∧ g d ρ C Qd ∧ ∀ ρ' C' F' σ' H', Same F F' → RS K cl ρ' C' F' σ' H' → wipe σ' vs = wipe σ vs → Qd ρ' C' → Q σ' H'
abbrev POd (X : Cx) (cl : NmB) (vs : List Nat) (tg : Expr) (g : DG) : Prop := PG X tg (lowO X.K cl vs g)
abbrev POsd (X : Cx) (cl : NmB) (vs : List Nat) (tg : List Expr) (g : DGs) : Prop := PGs X tg (lowOs X.K cl vs g)
section
variable {X : Cx} {cl : NmB} {pos : Pos} {vs : List Nat}
theorem do_name (i : Nat) {x : Str} (hN : X.N.Nodup) (hi : X.N[i]? = some x := by rfl) (hx : Loc X.env.scope x := by first | exact Or.inl rfl | exact Or.inr rfl) (hv : i ∈ vs := by decide) (hf : X.fn x = true ∨ X.env.scope.names.lookup x = some .local := by first | exact .inl rfl | exact .inr rfl | assumption) : POd X cl vs (.Name x pos) (dName i) := by
  refine weakG (pg_name hN hi hx hf) fun v σ H Q ⟨d, ρ, C, F, Qd, R, r, q, k⟩ => ?_
  exact k _ C F _ H (Same.refl F) (R.set i r) (wipe_set hv) q
theorem dos_nil : POsd X cl vs [] dgNil := by
  refine weakGs pgs_nil fun v σ H Q ⟨d, ρ, C, F, Qd, R, r, ⟨e, q⟩, k⟩ => ?_
  subst e
  cases r
  exact ⟨rfl, k ρ C F σ H (Same.refl F) R rfl q⟩
theorem dos_cons {e : Expr} {es : List Expr} {t : DG} {u : DGs} (h1 : POd X cl vs e t) (h2 : POsd X cl vs es u)
    (hs : (assignEach (e :: es) X.env).map (·.2) = assign e X.env :: (assignEach es X.env).map (·.2) := by rfl) : POsd X cl vs (e :: es) (dgCons t u) := by
  refine weakGs (pgs_cons h1 h2 hs) fun v σ H Q ⟨ds, ρ, C, F, Qd, R, r, ⟨d, r', e, q⟩, k⟩ => ?_
  subst e
  cases r with
  | cons rd rr =>
    refine ⟨_, _, rfl, d, ρ, C, F, _, R, rd, q, fun ρ1 C1 F1 σ1 H1 s1 R1 w1 q1 => ?_⟩
    exact ⟨r', ρ1, C1, F1, Qd, R1, rr.mono s1, q1, fun ρ2 C2 F2 σ2 H2 s2 R2 w2 => k ρ2 C2 F2 σ2 H2 (s1.trans s2) R2 (w2.trans w1)⟩
theorem do_tup {es : List Expr} {j : Nat} {t : DGs} {n : Nat} (h : POsd X cl vs es t) (hc : X.calm = true := by rfl)
    (hn : (assignEach es X.env).length = n := by rfl) (hst : (assignEach es X.env).findIdx? (·.1) = none := by rfl) : POd X cl vs (.Tuple es j pos) (dgTup n t) := by
  refine weakG (pg_tup hc h hn hst) fun v σ H Q ⟨d, ρ, C, F, Qd, R, r, ⟨ds, e, hl, q⟩, k⟩ => ?_
  subst e
  cases r with
  | tup hq rl => exact ⟨_, _, rfl, sqT_mono R.rc.sub hq, rl.length.trans hl, ds, ρ, C, F, Qd, R, rl, q, k⟩

/-! ### list comprehensions -/
abbrev PTsd (X : Cx) (cl : NmB) (ifs : List Expr) (t : DT) : Prop := PTs X ifs (lowT X.K cl t)
def dYes : DT := fun _ C Q => Q true C
theorem dts_nil : PTsd X cl [] dYes := ⟨fun pins s σ H Q I ⟨ρ, C, F, Qd, R, q, k⟩ => pts_nil.run pins s σ H Q I (k true C H F (Same.refl F) R.rc q)⟩
theorem dts_one {c : Expr} {t : DT} (h : PTd X cl c t) : PTsd X cl [c] t := pts_one h
/-- the list is a cell while it grows -/
def dLc (wi : DI) (g : DG) (tt : DT) (te : DE) (vs : List Nat) : DE := fun ρ C Q => wi ρ C fun xs C1 => ∀ p, C1 p = none → ∃ Pv : Nat → Cl → Prop, Pv 0 (updC C1 p (.lst [])) ∧
  (∀ i x C, xs[i]? = some x → Pv i C → g x (wipeD ρ vs) C fun ρ2 C2 => tt ρ2 C2 fun b C3 =>
    if b = true then te ρ2 C3 fun y C4 => ∃ acc, C4 p = some (.lst acc) ∧ acc.length < sizeLine ∧ Pv (i + 1) (updC C4 p (.lst (acc ++ [y]))) else Pv (i + 1) C3) ∧
  ∀ C, Pv xs.length C → Q (.ref p) C
theorem low_lc {K : PySem.W.Frag} {wi : DI} {g : DG} {tt : DT} {te : DE} {σ : L2.St} {H : Hp} {Q : VK} (h : lowE K cl (dLc wi g tt te vs) σ H Q) :
    tLc (lowI K cl wi) (lowO K cl vs g) (lowT K cl tt) (lowE K cl te) vs σ H Q := by
  obtain ⟨ρ, C, F, Qd, R, h, k⟩ := h
  refine ⟨ρ, C, F, _, R, h, fun J xs C1 H1 F1 s1 R1 wk q1 p np => ?_⟩
  obtain ⟨Pv, p0, ps, pd⟩ := q1 p (R1.freeC np)
  refine ⟨fun i m H => m = xs.length - i ∧ i ≤ xs.length ∧ ∃ C F', Same F1 F' ∧ RC K cl C F' H ∧ Pv i C, ⟨xs.length, by simp, Nat.zero_le _, _, F1, Same.refl F1, R1.cell np (.lst .nil), p0⟩, ?_⟩
  rintro i m H2 ⟨rfl, hi, C2, F2, s2, R2, p2⟩
  obtain ⟨wy, we⟩ := wk i C2 F2 H2 s2 R2
  by_cases hlt : i < xs.length
  · obtain ⟨go, yl⟩ := wy _ (List.getElem?_eq_getElem hlt)
    refine .inr ⟨go, fun H' => ∃ C F', Same F1 F' ∧ RC K cl C F' H' ∧ Pv (i + 1) C, fun H' z => ⟨xs.length - (i + 1), by omega, rfl, hlt, z⟩, fun v H3 y => ?_⟩
    obtain ⟨F3, s3, R3, r3⟩ := yl v H3 y
    have Rw : RS K cl (wipeD ρ vs) C2 F3 (wipe σ vs) H3 := (R.wipe vs).next (s1.trans (s2.trans s3)) R3
    refine ⟨_, _, C2, F3, _, Rw, r3, ps i _ C2 (List.getElem?_eq_getElem hlt) p2, fun ρ4 C4 F4 σ4 H4 s4 R4 w4 q4 => ⟨?_, ?_⟩⟩
    · rw [w4, wipe_wipe]
    refine ⟨ρ4, C4, F4, _, R4, q4, fun b C5 H5 F5 s5 R5 q5 => ?_⟩
    have sb : Same F1 F5 := s2.trans (s3.trans (s4.trans s5))
    cases b with
    | false =>
      rw [if_neg Bool.false_ne_true] at q5
      exact iteF ⟨C5, F5, sb, R5, q5⟩
    | true =>
      rw [if_pos rfl] at q5
      refine iteT ⟨ρ4, C5, F5, _, R4.next s5 R5, q5, fun u d C6 H6 F6 s6 R6 r6 ⟨acc, ha, hl, q6⟩ => ?_⟩
      obtain ⟨_, o, ho, cr⟩ := R6.cel p _ ha
      cases cr with
      | lst rl =>
        exact ⟨_, ho, by rw [rl.length]; exact hl, _, F6, sb.trans s6, R6.put ha (.lst (rl.append (.cons r6 .nil))), q6⟩
  · have e : i = xs.length := by omega
    subst e
    exact .inl ⟨we rfl, k (.ref p) (.ref p) C2 H2 F2 (s1.trans s2) R2 (.ref p) (pd C2 p2)⟩
where
  wipe_wipe {σ : L2.St} : ∀ {vs : List Nat}, wipe (wipe σ vs) vs = wipe σ vs
    | [] => rfl
    | v :: vs => by
      have e : wipe (wipe σ (v :: vs)) (v :: vs) = wipe (wipe σ (v :: vs)) (v :: vs) := rfl
      show (wipe ((wipe σ vs).set v none) vs).set v none = (wipe σ vs).set v none
      by_cases hv : v ∈ vs
      · rw [wipe_set hv, wipe_wipe]
      · rw [wipe_set.wipe_comm hv, wipe_wipe, List.set_set]
theorem de_lc {elt tg iter : Expr} {ifs : List Expr} {scope : Scope} {own : List (Str × Nat)} {wi : DI} {g : DG} {tt : DT} {te : DE} (hN : X.N.Nodup) (hi : PId X cl tg iter wi) (ok : BlkOk X.N X.env.scope scope own)
    (hg : ∀ (s : Shared) (H : Hp) (C : Addr) (l : List (Str × Addr)) (fp : List Addr), POd (X.blk s H scope (compEnvC scope l C X.env) fp) cl vs tg g) (ht : ∀ (s : Shared) (H : Hp) (C : Addr) (l : List (Str × Addr)) (fp : List Addr), PTsd (X.blk s H scope (compEnvC scope l C X.env) fp) cl ifs tt)
    (he : ∀ (s : Shared) (H : Hp) (C : Addr) (l : List (Str × Addr)) (fp : List Addr), PEd (X.blk s H scope (compEnvC scope l C X.env) fp) cl elt te) (hv : own.map (·.2) = vs := by rfl) (hc : X.calm = true := by rfl) (hs : ∀ x, foldedSetIterable iter X.env x = pure x := by intro _; rfl) :
    PEd X cl (.ListComp elt [⟨tg, iter, ifs, 0⟩] scope pos) (dLc wi g tt te vs) := by
  subst hv
  exact weakE (pe_lc hc hN hi ok hg ht he hs) fun _ _ _ h => low_lc h
/-- name = [..] on one line, the name a plain local -/
theorem ds_setLc (i : Nat) {y : Str} {py : Pos} {elt tg iter : Expr} {ifs : List Expr} {scope : Scope} {own : List (Str × Nat)} {spos : Pos} {wi : DI} {g : DG} {tt : DT} {te : DE} (hN : X.N.Nodup) (hi : PId X cl tg iter wi) (ok : BlkOk X.N X.env.scope scope own)
    (hg : ∀ (s : Shared) (H : Hp) (C : Addr) (l : List (Str × Addr)) (fp : List Addr), POd (X.blk s H scope (compEnvC scope l C X.env) fp) cl vs tg g) (ht : ∀ (s : Shared) (H : Hp) (C : Addr) (l : List (Str × Addr)) (fp : List Addr), PTsd (X.blk s H scope (compEnvC scope l C X.env) fp) cl ifs tt)
    (he : ∀ (s : Shared) (H : Hp) (C : Addr) (l : List (Str × Addr)) (fp : List Addr), PEd (X.blk s H scope (compEnvC scope l C X.env) fp) cl elt te) (hsw : swapsWith (.ListComp elt [⟨tg, iter, ifs, 0⟩] scope pos) (some (.Name y py)) spos.line X.env = pure true) (hv : own.map (·.2) = vs := by rfl) (hc : X.calm = true := by rfl) (hy : X.N[i]? = some y := by rfl) (hyl : X.env.scope.names.lookup y = some .local := by rfl) (hs : ∀ x, foldedSetIterable iter X.env x = pure x := by intro _; rfl) :
    PSd X cl (.Assign [.Name y py] (.ListComp elt [⟨tg, iter, ifs, 0⟩] scope pos) spos) (dAsg (dLc wi g tt te vs) (dName i)) := by
  subst hv
  refine weakS (ps_setLc (g := lowO X.K cl (own.map (·.2)) g) (tt := lowT X.K cl tt) (te := lowE X.K cl te) hc hN hy hyl hsw hi ok hg ht he hs) fun De σ H ⟨ρ, C, F, Dd, R, h, k⟩ => ?_
  exact low_lc ⟨ρ, C, F, _, R, h, fun v d C1 H1 F1 s1 R1 r1 q1 => k.nx _ C1 F1 _ H1 s1 ((R.next s1 R1).set i r1) q1⟩
end

/-- a list that has just been made, seen as a tree -/
def dFz (t : DE) : DE := fun ρ C Q => t ρ C fun d C1 => ∃ a ds, d = .ref a ∧ C1 a = some (.lst ds) ∧ Q (.lst ds) (delC C1 a)
theorem delC_new {C : Cl} {p : Addr} {c : Cell} (h : C p = none) : delC (updC C p c) p = C := by
  funext b
  unfold delC
  by_cases e : b = p
  · rw [if_pos e, e, h]
  · rw [if_neg e, updC_ne e]
section
variable {X : Cx} {cl : NmB} {pos : Pos} {K : PySem.W.Frag}
theorem low_fz {t : DE} {σ : L2.St} {H : Hp} {Q : VK} (h : lowE K cl (dFz t) σ H Q) : lowE K cl t σ H Q := by
  obtain ⟨ρ, C, F, Qd, R, h, k⟩ := h
  refine ⟨ρ, C, F, _, R, h, fun v d C1 H1 F1 s1 R1 r1 ⟨a, ds, e, hc, q⟩ => ?_⟩
  subst e
  obtain ⟨F2, s2, R2, r2⟩ := (Gh.lst hc).ok R1 r1
  exact k v _ _ H1 F2 (s1.trans s2) R2 r2 q
theorem de_fz {e : Expr} {t : DE} (h : PEd X cl e t) : PEd X cl e (dFz t) := weakE h fun _ _ _ h => low_fz h
end
theorem ds_setLcF {X : Cx} {cl : NmB} {pos : Pos} (i : Nat) {y : Str} {py : Pos} {elt tg iter : Expr} {ifs : List Expr} {scope : Scope} {own : List (Str × Nat)} {spos : Pos} {vs : List Nat} {wi : DI} {g : DG} {tt : DT} {te : DE} (hN : X.N.Nodup) (hi : PId X cl tg iter wi) (ok : BlkOk X.N X.env.scope scope own)
    (hg : ∀ (s : Shared) (H : Hp) (C : Addr) (l : List (Str × Addr)) (fp : List Addr), POd (X.blk s H scope (compEnvC scope l C X.env) fp) cl vs tg g) (ht : ∀ (s : Shared) (H : Hp) (C : Addr) (l : List (Str × Addr)) (fp : List Addr), PTsd (X.blk s H scope (compEnvC scope l C X.env) fp) cl ifs tt)
    (he : ∀ (s : Shared) (H : Hp) (C : Addr) (l : List (Str × Addr)) (fp : List Addr), PEd (X.blk s H scope (compEnvC scope l C X.env) fp) cl elt te) (hsw : swapsWith (.ListComp elt [⟨tg, iter, ifs, 0⟩] scope pos) (some (.Name y py)) spos.line X.env = pure true) (hv : own.map (·.2) = vs := by rfl) (hc : X.calm = true := by rfl) (hy : X.N[i]? = some y := by rfl) (hyl : X.env.scope.names.lookup y = some .local := by rfl) (hs : ∀ x, foldedSetIterable iter X.env x = pure x := by intro _; rfl) :
    PSd X cl (.Assign [.Name y py] (.ListComp elt [⟨tg, iter, ifs, 0⟩] scope pos) spos) (dAsg (dFz (dLc wi g tt te vs)) (dName i)) := by
  subst hv
  refine weakS (ps_setLc (g := lowO X.K cl (own.map (·.2)) g) (tt := lowT X.K cl tt) (te := lowE X.K cl te) hc hN hy hyl hsw hi ok hg ht he hs) fun De σ H ⟨ρ, C, F, Dd, R, h, k⟩ => ?_
  exact low_lc (low_fz ⟨ρ, C, F, _, R, h, fun v d C1 H1 F1 s1 R1 r1 q1 => k.nx _ C1 F1 _ H1 s1 ((R.next s1 R1).set i r1) q1⟩)
/-- a comprehension whose elements are told one by one, each leaving the cells as they are -/
theorem lc_map {xs : List D} {C1 : Cl} {ρ : DEnv} {g : DG} {te : DE} {vs : List Nat} {Q : DQ} (f : D → D) (hl : xs.length ≤ sizeLine)
    (h : ∀ (i : Nat) (x : D) (C : Cl) (N : DQ), xs[i]? = some x → SubC C1 C → N (f x) C → g x (wipeD ρ vs) C fun ρ2 C2 => te ρ2 C2 N) (hq : Q (.lst (xs.map f)) C1) :
    ∀ p, C1 p = none → ∃ Pv : Nat → Cl → Prop, Pv 0 (updC C1 p (.lst [])) ∧
      (∀ i x C, xs[i]? = some x → Pv i C → g x (wipeD ρ vs) C fun ρ2 C2 => dYes ρ2 C2 fun b C3 =>
        if b = true then te ρ2 C3 fun y C4 => ∃ acc, C4 p = some (.lst acc) ∧ acc.length < sizeLine ∧ Pv (i + 1) (updC C4 p (.lst (acc ++ [y]))) else Pv (i + 1) C3) ∧
      ∀ C, Pv xs.length C → ∃ a ds, D.ref p = .ref a ∧ C a = some (.lst ds) ∧ Q (.lst ds) (delC C a) := by
  intro p np
  refine ⟨fun i C => C = updC C1 p (.lst ((xs.take i).map f)), by simp, fun i x C hx e => ?_, fun C e => ?_⟩
  · subst e
    refine h i x _ _ hx ((SubC.refl C1).new np) ⟨_, updC_same, ?_, ?_⟩
    · have := (List.getElem?_eq_some_iff.mp hx).1
      rw [List.length_map, List.length_take]
      omega
    · show updC (updC C1 p _) p _ = updC C1 p (.lst ((xs.take (i + 1)).map f))
      rw [updC_updC, List.take_add_one, hx, List.map_append]
      rfl
  · subst e
    refine ⟨p, _, rfl, updC_same, ?_⟩
    rw [delC_new np, List.take_length]
    exact hq
/-- .. with a test -/
theorem lc_filter {xs : List D} {C1 : Cl} {ρ : DEnv} {g : DG} {tt : DT} {te : DE} {vs : List Nat} {Q : DQ} (f : D → Option D) (hl : xs.length ≤ sizeLine)
    (h : ∀ (i : Nat) (x : D) (C : Cl) (N : DQ) (S : Cl → Prop), xs[i]? = some x → SubC C1 C → (∀ y, f x = some y → N y C) → (f x = none → S C) → g x (wipeD ρ vs) C fun ρ2 C2 => tt ρ2 C2 fun b C3 => if b = true then te ρ2 C3 N else S C3) (hq : Q (.lst (xs.filterMap f)) C1) :
    ∀ p, C1 p = none → ∃ Pv : Nat → Cl → Prop, Pv 0 (updC C1 p (.lst [])) ∧
      (∀ i x C, xs[i]? = some x → Pv i C → g x (wipeD ρ vs) C fun ρ2 C2 => tt ρ2 C2 fun b C3 =>
        if b = true then te ρ2 C3 fun y C4 => ∃ acc, C4 p = some (.lst acc) ∧ acc.length < sizeLine ∧ Pv (i + 1) (updC C4 p (.lst (acc ++ [y]))) else Pv (i + 1) C3) ∧
      ∀ C, Pv xs.length C → ∃ a ds, D.ref p = .ref a ∧ C a = some (.lst ds) ∧ Q (.lst ds) (delC C a) := by
  intro p np
  refine ⟨fun i C => C = updC C1 p (.lst ((xs.take i).filterMap f)), by simp, fun i x C hx e => ?_, fun C e => ?_⟩
  · subst e
    have hi := (List.getElem?_eq_some_iff.mp hx).1
    have step : (xs.take (i + 1)).filterMap f = (xs.take i).filterMap f ++ (f x).toList := by
      rw [List.take_add_one, hx, List.filterMap_append]
      cases e : f x <;> simp [e]
    refine h i x _ _ _ hx ((SubC.refl C1).new np) (fun y ey => ⟨_, updC_same, ?_, ?_⟩) fun en => ?_
    · have := List.length_filterMap_le f (xs.take i)
      rw [List.length_take] at this
      omega
    · show updC (updC C1 p _) p _ = updC C1 p (.lst ((xs.take (i + 1)).filterMap f))
      rw [updC_updC, step, ey]
      rfl
    · show updC C1 p _ = updC C1 p (.lst ((xs.take (i + 1)).filterMap f))
      rw [step, en]
      simp
  · subst e
    refine ⟨p, _, rfl, updC_same, ?_⟩
    rw [delC_new np, List.take_length]
    exact hq

/-! ### calls -/
abbrev RDC := List D → Cl → DQ → Prop
def lowC (K : PySem.W.Frag) (cl : Nm) (rd : RDC) : List V → Hp → VK → Prop := fun xs H Q => ∃ ds C F Qd, RC K cl C F H ∧ RepL K cl F xs ds ∧ rd ds C Qd ∧ Fin K cl F Qd Q
abbrev CallD (X : Cx) (cl : Nm) (f : Value) (rd : RDC) : Prop := CallR X f (lowC X.K cl rd)
def dCB (rd : RDC) (t : DA) : DE := fun ρ C Q => t ρ C fun ds C1 => rd ds C1 Q
abbrev RDM := D → List D → Cl → DQ → Prop
def lowM (K : PySem.W.Frag) (cl : Nm) (rd : RDM) : V → List V → Hp → VK → Prop := fun x xs H Q => ∃ dx ds C F Qd, RC K cl C F H ∧ Rep K cl F x dx ∧ RepL K cl F xs ds ∧ rd dx ds C Qd ∧ Fin K cl F Qd Q
abbrev MtD (X : Cx) (cl : Nm) (id : String) (rd : RDM) : Prop := MtR X id (lowM X.K cl rd)
/-- the value is of that built-in type -/
def tyD (T : String) (d : D) (C : Cl) : Prop := match d with
  | .str _ => T = "str"
  | .int _ => T = "int"
  | .lst _ => T = "list"
  | .rol _ => T = "list"
  | .dct _ => T = "dict"
  | .ref a => (T = "list" ∧ ∃ ds, C a = some (.lst ds)) ∨ (T = "dict" ∧ ((∃ ds, C a = some (.dic ds)) ∨ ∃ ds, C a = some (.dct ds)))
  | _ => False
theorem tyD_ok {K : PySem.W.Frag} {cl : Nm} {T : String} {d : D} {v : V} {C : Cl} {F H : Hp} (R : RC K cl C F H) (r : Rep K cl F v d) (h : tyD T d C) : tyV K T v H := by
  cases r with
  | str x => exact h
  | int x => exact h
  | lst h1 _ => exact .inl ⟨h, _, .of (R.sub _ _ h1)⟩
  | rol h1 _ => exact .inl ⟨h, _, R.sub.seq h1⟩
  | dic h1 _ => exact h.elim
  | dct h1 _ => exact .inr (.inr (.inl ⟨h, .inr ⟨_, R.sub _ _ h1⟩⟩))
  | ref a =>
    rcases h with ⟨e, ds, hc⟩ | ⟨e, ⟨ds, hc⟩ | ⟨ds, hc⟩⟩
    · obtain ⟨_, o, ho, c⟩ := R.cel _ _ hc
      cases c
      exact .inl ⟨e, _, .of ho⟩
    · obtain ⟨_, o, ho, c⟩ := R.cel _ _ hc
      cases c
      exact .inr (.inr (.inl ⟨e, .inl ⟨_, ho⟩⟩))
    · obtain ⟨_, o, ho, c⟩ := R.cel _ _ hc
      cases c
      exact .inr (.inr (.inl ⟨e, .inr ⟨_, ho⟩⟩))
  | _ => exact h.elim
def dBM (T : String) (rd : RDM) (to : DE) (t : DA) : DE := fun ρ C Q => to ρ C fun x C1 => tyD T x C1 ∧ t ρ C1 fun ds C2 => rd x ds C2 Q
def dBM0 (T : String) (rd : RDM) (to : DE) : DE := fun ρ C Q => to ρ C fun x C1 => tyD T x C1 ∧ rd x [] C1 Q
def dCall (sp : DSp) (ds : List D) (t : DA) : DE := fun ρ C Q => t ρ C fun xs C1 => sp (xs ++ ds) C1 Q fun _ _ _ => False
section
variable {X : Cx} {cl : NmB} {e o : Expr} {es : List Expr} {t : DA} {to : DE} {pos cpos apos p : Pos} {K : PySem.W.Frag} {x name : Str}
theorem low_cb {rd : RDC} {σ : L2.St} {H : Hp} {Q : VK} (h : lowE K cl (dCB rd t) σ H Q) : tCB (lowC K cl rd) (lowA K cl t) σ H Q := by
  obtain ⟨ρ, C, F, Qd, R, h, k⟩ := h
  exact ⟨ρ, C, F, _, R, h, fun vs ds C1 H1 F1 s1 R1 r1 q1 => ⟨ds, C1, F1, Qd, R1, r1, q1, k.at s1⟩⟩
theorem de_callB {rd : RDC} {id : String} (hc : CallD X cl (.builtin id) rd) (hm : X.mg x = none) (hv : bootBuiltins x = some (.builtin id)) (ha : PAd X cl (e :: es) t) (hg : Gl X x := by rfl) (hn : x ≠ "__name__" := by decide) (hdb : (x == ("__debug__" : Str)) = false := by decide)
    (he : starEach (e :: es) X.env = (false, eval e X.env) :: starEach es X.env := by rfl) (hpl : (backTo pos (starEach es X.env)).any (·.1) = false := by rfl) : PEd X cl (.Call (.Name x p) (e :: es) [] pos) (dCB rd t) :=
  weakE (pe_callB hc hg hm hv ha hn hdb he hpl) fun _ _ _ h => low_cb h
theorem de_callTy {rd : RDC} {T : String} (hc : CallD X cl (.type T) rd) (hm : X.mg x = none) (hv : bootBuiltins x = some (.type T)) (ha : PAd X cl (e :: es) t) (hg : Gl X x := by rfl) (hn : x ≠ "__name__" := by decide) (hdb : (x == ("__debug__" : Str)) = false := by decide)
    (he : starEach (e :: es) X.env = (false, eval e X.env) :: starEach es X.env := by rfl) (hpl : (backTo pos (starEach es X.env)).any (·.1) = false := by rfl) : PEd X cl (.Call (.Name x p) (e :: es) [] pos) (dCB rd t) :=
  weakE (pe_callTy hc hg hm hv ha hn hdb he hpl) fun _ _ _ h => low_cb h
theorem de_bm {rd : RDM} {T id : String} (pa : PlainAttrs T) (slot : Slot T name id) (hty : typeOf (.builtin id) = pure (.type "method_descriptor")) (hm : MtD X cl id rd) (ho : PEd X cl o to) (ha : PAd X cl (e :: es) t)
    (hbase : attributeBase o name X.env (eval o X.env) = eval o X.env := by rfl)
    (hfew : ((backTo cpos (starEach (e :: es) X.env)).all (fun x => !x.1) && (backToKw cpos (keywordEach [] X.env)).all (fun x => x.1.isSome)
      && decide ((e :: es).length + ([] : List Keyword).length + (if ([] : List Keyword).isEmpty then 0 else 1) < 30)) = true := by rfl)
    (hline : (apos.endLine == cpos.line) = true := by rfl) (hs : starEach (e :: es) X.env = (false, eval e X.env) :: starEach es X.env := by rfl) (hplain : (backTo cpos (starEach es X.env)).any (·.1) = false := by rfl) : PEd X cl (.Call (.Attribute o name apos) (e :: es) [] cpos) (dBM T rd to t) := by
  refine weakE (pe_bm pa slot hty hm ho ha hbase hfew hline hs hplain) fun σ H Q ⟨ρ, C, F, Qd, R, h, k⟩ => ?_
  refine ⟨ρ, C, F, _, R, h, fun v d C1 H1 F1 s1 R1 r1 ⟨ty, q1⟩ => ⟨tyD_ok R1 r1 ty, ?_⟩⟩
  exact ⟨ρ, C1, F1, _, R.next s1 R1, q1, fun vs ds C2 H2 F2 s2 R2 r2 q2 => ⟨d, ds, C2, F2, Qd, R2, r1.mono s2, r2, q2, k.at (s1.trans s2)⟩⟩
variable {f : Addr} {fd : FuncData} {ps : List Str} {sp : DSp} {n : Nat}
/-- a def that lets nothing out -/
abbrev FnD (P : Program) (w : World) (K : PySem.W.Frag) (cl : Nm) (mg : Str → Option Value) (base : Heap) (n : Nat) (f : Addr) (fd : FuncData) (ps : List Str) (sp : DSp) : Prop := FnOk P w K mg base CX0 n f fd ps (lowSp K cl sp)
theorem de_call {dv : List Value} {vs : List V} {ds : List D} (FG : FnD X.prog X.w X.K cl X.mg X.base n f fd ps sp) (hr : Room n X.A) (hm : X.mg x = some (.ref f)) (hk : PySem.W.keepIn X.K (.ref f) = true) (hb : Binds X.K fd ps dv) (hd : Vals vs dv) (hv : ∀ F, RepL X.K cl F vs ds)
    (ha : PAd X cl (e :: es) t) (hg : Gl X x := by rfl) (hdb : (x == ("__debug__" : Str)) = false := by decide) (he : starEach (e :: es) X.env = (false, eval e X.env) :: starEach es X.env := by rfl) (hpl : (backTo pos (starEach es X.env)).any (·.1) = false := by rfl) :
    PEd X cl (.Call (.Name x p) (e :: es) [] pos) (dCall sp ds t) := by
  refine weakE (pe_callG (E := E0) FG hr hg hm hk hb hd pass0 ha hdb he hpl) fun σ H Q ⟨ρ, C, F, Qd, R, h, k⟩ => ?_
  refine ⟨ρ, C, F, _, R, h, fun us es C1 H1 F1 s1 R1 r1 q1 => ?_⟩
  exact ⟨es ++ ds, C1, F1, Qd, _, R1, r1.append (hv F1), q1, k.at s1, fun _ _ _ _ _ _ _ _ _ _ z => z.elim⟩
theorem de_call0 {dv : List Value} {vs : List V} {ds : List D} (FG : FnD X.prog X.w X.K cl X.mg X.base n f fd ps sp) (hr : Room n X.A) (hm : X.mg x = some (.ref f)) (hk : PySem.W.keepIn X.K (.ref f) = true) (hb : Binds X.K fd ps dv) (hd : Vals vs dv) (hv : ∀ F, RepL X.K cl F vs ds)
    (hg : Gl X x := by rfl) (hdb : (x == ("__debug__" : Str)) = false := by decide) :
    PEd X cl (.Call (.Name x p) [] [] pos) (dCall sp ds dNil) := by
  refine weakE (pe_callG0 (E := E0) FG hr hg hm hk hb hd pass0 hdb) fun σ H Q ⟨ρ, C, F, Qd, R, h, k⟩ => ?_
  exact ⟨ds, C, F, Qd, _, R.rc, hv F, h, k, fun _ _ _ _ _ _ _ _ _ _ z => z.elim⟩
end

/-! ### a def -/
def startD (N : List Str) (ds : List D) : DEnv := ds.map some ++ List.replicate (N.length - ds.length) none
/-- what a def's body is to reach -/
def endsD (Q : DQ) : DEnds := { nx := fun _ C => ∃ C', SubC C' C ∧ Q .non C', rt := fun d C => ∃ d' C', Gh d C d' C' ∧ Q d' C' }
theorem RS.startB {K : PySem.W.Frag} {cl : NmB} {C : Cl} {F H : Hp} {vs : List V} {ds : List D} (N : List Str) (R : RC K cl C F H) (r : RepL K cl F vs ds) (hb : Same cl.bs F) : RS K cl (startD N ds) C F (start N vs) H where
  rc := R
  bs := hb
  len := by unfold startD L2.start; simp [r.length]
  env := fun i d e => by
    unfold startD at e
    unfold L2.start
    by_cases h : i < ds.length
    · rw [List.getElem?_append_left (by simpa using h), List.getElem?_map] at e
      cases q : ds[i]? with
      | none => rw [q] at e; cases e
      | some d' =>
        rw [q] at e
        have e' : d' = d := Option.some.inj (Option.some.inj e)
        subst e'
        obtain ⟨v, hv, rv⟩ := r.get q
        refine ⟨v, ?_, rv⟩
        rw [List.getElem?_append_left (by simpa [r.length] using h), List.getElem?_map, hv]
        rfl
    · rw [List.getElem?_append_right (by simpa using h), List.getElem?_replicate] at e
      split at e <;> cases e
theorem RS.start {K : PySem.W.Frag} {cl : Nm} {C : Cl} {F H : Hp} {vs : List V} {ds : List D} (N : List Str) (R : RC K cl C F H) (r : RepL K cl F vs ds) : RS K (nb cl) (startD N ds) C F (start N vs) H := RS.startB N R r fun _ _ z => nomatch z
section
variable {P : Program} {w : World} {K : PySem.W.Frag} {cl : Nm} {mg : Str → Option Value} {base : Heap}
theorem fn_d {x qual : Str} {st : Stmt} {f : Addr} {fd : FuncData} {N ps : List Str} {k : Nat} {sp : DSp} {td : DS} (Fu : Fun K x qual st f fd) (S : FnScope N ps (defScope st)) (len : ∀ ds C Q E, sp ds C Q E → ds.length = ps.length)
    (pure : ∀ ds C Q E, sp ds C Q E → td (endsD Q) (startD N ds) C)
    (body : ∀ (cdv : Value) (A : Around) (outer : List Env) (s : Shared) (H : Hp) (E : XK), Room k (A.deeper (envOfC qual (defScope st) s.heap.objs.size f cdv)) → PSsd (cxOf CX0 P w K mg base N qual (defScope st) f cdv A outer s H E).nox (nb cl) (defBody st) td) :
    FnD P w K cl mg base (k + 1) f fd ps sp := by
  refine funOk Fu S (fun vs H Q E ⟨ds, C, F, Qd, Ed, R, r, h, _, _⟩ => r.length.trans (len ds C Qd Ed h)) fun cdv A outer s H vs Q E hr ⟨ds, C, F, Qd, Ed, R, r, h, kq, kx⟩ => ?_
  refine ⟨_, body cdv A outer s H E hr, startD N ds, C, F, _, RS.start N R r, pure ds C Qd Ed h, ?_⟩
  refine ⟨fun ρ C1 F1 σ H1 s1 R1 ⟨C2, sc, q⟩ => kq .non .non C2 H1 F1 s1 (R1.rc.drop sc) .non q, fun _ _ _ _ _ _ _ z => z.elim, fun _ _ _ _ _ _ _ z => z.elim, fun v d C1 F1 H1 s1 R1 r1 ⟨d', C2, g, q⟩ => ?_⟩
  obtain ⟨F2, s2, R2, r2⟩ := g.ok R1 r1
  exact kq v d' C2 H1 F2 (s1.trans s2) R2 r2 q
end
end G
namespace G
open PySem PySem.Spec PyProof.Rows L2

def szD : D → Prop
  | .str l => l.length ≤ sizeLine
  | .tup ds => ds.length ≤ sizeLine
  | .lst ds => ds.length ≤ sizeLine
  | _ => True
def rOf (f : D → D → Option D) : RD2 := fun x y C Q => ∃ z, f x y = some z ∧ szD z ∧ Q z C
theorem str_app (a b : List Nat) : ((⟨a.toArray⟩ : Str) ++ ⟨b.toArray⟩) = ⟨(a ++ b).toArray⟩ := TL.ext_tl (by rw [TL.tl_append])
theorem len_mk (a : List Nat) : (⟨a.toArray⟩ : Str).length = a.length := by rw [TL.len_tl]
/-! ### arithmetic -/
def addF : D → D → Option D
  | .int i, .int j => some (.int (i + j))
  | .int i, .bl k => some (.int (i + b2i k))
  | .str a, .str b => some (.str (a ++ b))
  | .tup a, .tup b => some (.tup (a ++ b))
  | .lst a, .lst b => some (.lst (a ++ b))
  | _, _ => none
section
variable {X : Cx} {cl : NmB}
theorem od_add : OpD X cl (binaryOp .Add) (rOf addF) := by
  intro pins s σ H x y v u Q I rx ry ⟨dx, dy, C, F, Qd, R, r1, r2, ⟨z, e, sz, q⟩, k⟩
  have ss := Same.refl F
  unfold addF at e
  split at e
  · cases e; cases r1; cases r2
    exact op_add pins s σ H _ _ v u Q I rx ry ⟨_, _, rfl, rfl, k _ _ C H F ss R (.int _) q⟩
  · cases e; cases r1; cases r2
    exact op_add_ib pins s σ H _ _ v u Q I rx ry ⟨_, _, rfl, rfl, k _ _ C H F ss R (.int _) q⟩
  · rename_i a b
    cases e; cases r1; cases r2
    refine op_add_str pins s σ H _ _ v u Q I rx ry ⟨_, _, rfl, rfl, ?_, ?_⟩
    · rw [len_mk, len_mk, ← List.length_append]; exact sz
    · rw [str_app]; exact k _ _ C H F ss R (.str _) q
  · rename_i a b
    cases e
    cases r1 with
    | tup h1 l1 =>
      cases r2 with
      | tup h2 l2 =>
        rename_i p1 xs p2 ys
        refine op_catA pins s σ H _ _ v u Q I rx ry ⟨_, _, xs, ys, rfl, rfl, sqT_mono R.sub h1, sqT_mono R.sub h2, ?_, fun e => ?_, fun _ e => ?_, fun _ _ p np => ?_⟩
        · rw [l1.length, l2.length, ← List.length_append]; exact sz
        · subst e
          cases l1
          exact k _ _ C H F ss R (.tup h2 l2) q
        · subst e
          cases l2
          rw [List.append_nil] at q
          exact k _ _ C H F ss R (.tup h1 l1) q
        · have s2 := same_upd (o := .tup (xs ++ ys)) (R.freeF np)
          exact k _ _ C _ _ s2 (R.new np) (.tup (.of upd_same) ((l1.append l2).mono s2)) q
  · rename_i a b
    cases e
    cases r1 with
    | lst h1 l1 =>
      cases r2 with
      | lst h2 l2 =>
        rename_i p1 xs p2 ys
        refine op_cat pins s σ H _ _ v u Q I rx ry ⟨_, _, xs, ys, rfl, rfl, R.sub _ _ h1, R.sub _ _ h2, ?_, fun p np => ?_⟩
        · rw [l1.length, l2.length, ← List.length_append]; exact sz
        · have s2 := same_upd (o := .lst (xs ++ ys)) (R.freeF np)
          exact k _ _ C _ _ s2 (R.new np) (.lst upd_same ((l1.append l2).mono s2)) q
  · cases e
def ioF (g : Int → Int → Int) : D → D → Option D
  | .int i, .int j => some (.int (g i j))
  | _, _ => none
theorem ioF_inv {g : Int → Int → Int} {x y z : D} (h : ioF g x y = some z) : ∃ i j, x = .int i ∧ y = .int j ∧ z = .int (g i j) := by
  unfold ioF at h
  split at h
  · exact ⟨_, _, rfl, rfl, (Option.some.inj h).symm⟩
  · cases h
theorem od_sub : OpD X cl (binaryOp .Sub) (rOf (ioF fun i j => i - j)) := by
  intro pins s σ H x y v u Q I rx ry ⟨dx, dy, C, F, Qd, R, r1, r2, ⟨z, e, sz, q⟩, k⟩
  obtain ⟨i, j, rfl, rfl, rfl⟩ := ioF_inv e
  cases r1; cases r2
  exact op_sub pins s σ H _ _ v u Q I rx ry ⟨_, _, rfl, rfl, k _ _ C H F (Same.refl F) R (.int _) q⟩
/-- ints under a condition -/
def rIC (P : Int → Int → Prop) (g : Int → Int → Int) : RD2 := fun x y C Q => ∃ i j, x = .int i ∧ y = .int j ∧ P i j ∧ Q (.int (g i j)) C
theorem od_ic {f : Value → Value → Sem Value} {P : Int → Int → Prop} {g : Int → Int → Int} (h : OpR X f (rI P fun i j => .int (g i j))) : OpD X cl f (rIC P g) := by
  intro pins s σ H x y v u Q I rx ry ⟨dx, dy, C, F, Qd, R, r1, r2, ⟨i, j, e1, e2, p, q⟩, k⟩
  subst e1 e2
  cases r1; cases r2
  exact h pins s σ H _ _ v u Q I rx ry ⟨_, _, rfl, rfl, p, k _ _ C H F (Same.refl F) R (.int _) q⟩
theorem od_fdiv : OpD X cl (binaryOp .FloorDiv) (rIC CDivW fun i j => i / j) := od_ic op_fdivW
theorem od_mod : OpD X cl (binaryOp .Mod) (rIC (fun _ j => 0 < j) fun i j => i % j) := od_ic op_mod
theorem od_pow : OpD X cl (binaryOp .Pow) (rIC CPow fun i j => i ^ j.toNat) := od_ic op_pow
/-- a text so many times -/
def repL (l : List Nat) (n : Nat) : List Nat := (List.replicate n l).flatten
def rMul : RD2 := fun x y C Q => (∃ i j, x = .int i ∧ y = .int j ∧ CMul i j ∧ Q (.int (i * j)) C) ∨ (∃ l j, x = .str l ∧ y = .int j ∧ (j ≤ 1000000 ∧ l.length ≤ 1000000 ∧ l.length * j.toNat ≤ 1000000) ∧ -1000000 ≤ j ∧ Q (.str (repL l j.toNat)) C)
theorem rep_cps (x : Str) : ∀ (n : Nat) (acc : Array Nat), ((List.replicate n x.cps).foldl (· ++ ·) acc).toList = acc.toList ++ (List.replicate n x.cps.toList).flatten
  | 0, acc => by simp
  | n + 1, acc => by
    rw [List.replicate_succ, List.foldl_cons, rep_cps x n, List.replicate_succ, List.flatten_cons, Array.toList_append, List.append_assoc]
theorem txt_mul (l : List Nat) (j : Int) : Txt.mul ⟨l.toArray⟩ j = ⟨(repL l j.toNat).toArray⟩ := by
  apply TL.ext_tl
  unfold Txt.mul repL
  by_cases h1 : j < 1
  · rw [if_pos h1, show j.toNat = 0 by omega]
    rfl
  · rw [if_neg h1]
    by_cases h2 : (j == 1 || (⟨l.toArray⟩ : Str).length == 0) = true
    · rw [if_pos h2]
      rw [Bool.or_eq_true] at h2
      rcases h2 with h2 | h2
      · have e : j = 1 := eq_of_beq h2
        subst e
        show l = ([l] : List (List Nat)).flatten
        simp
      · have e : (⟨l.toArray⟩ : Str).length = 0 := eq_of_beq h2
        rw [len_mk] at e
        have e : l = [] := List.length_eq_zero_iff.mp e
        subst e
        show ([] : List Nat) = _
        simp
    · rw [if_neg h2]
      exact rep_cps ⟨l.toArray⟩ j.toNat #[]
theorem mul_ok {l : List Nat} {j : Int} (h : j ≤ 1000000 ∧ l.length ≤ 1000000 ∧ l.length * j.toNat ≤ 1000000) (h2 : -1000000 ≤ j) : MulOk ⟨l.toArray⟩ j := by
  obtain ⟨h0, h1, h3⟩ := h
  refine ⟨?_, fun hn _ => ?_, fun hn _ => ?_⟩
  · rw [Bool.or_eq_false_iff]
    exact ⟨decide_eq_false (by omega), decide_eq_false (by omega)⟩
  · rw [len_mk]
    have e : (2 : Int) ^ 63 - 1 = 9223372036854775807 := by decide
    rw [e]
    have hj : (0 : Int) < j := by omega
    have key : (l.length : Int) ≤ 9223372036854775807 / j := by
      rw [Int.le_ediv_iff_mul_le hj]
      have e2 : (l.length : Int) * j = ((l.length * j.toNat : Nat) : Int) := by
        rw [Int.natCast_mul]
        congr 1
        omega
      rw [e2]
      omega
    omega
  · rw [len_mk]
    unfold Builtin.Str.tooLong
    exact decide_eq_false (by
      have : ∀ n : Nat, n ≤ 1000000 → ¬ n > 16777216 := fun n hn => by omega
      first
        | exact this _ h3
        | (intro hx; have := h3; simp at hx; omega))
theorem od_mul : OpD X cl (binaryOp .Mult) rMul := by
  intro pins s σ H x y v u Q I rx ry ⟨dx, dy, C, F, Qd, R, r1, r2, h, k⟩
  rcases h with ⟨i, j, e1, e2, p, q⟩ | ⟨l, j, e1, e2, p, p2, q⟩
  · subst e1 e2
    cases r1; cases r2
    exact op_mul pins s σ H _ _ v u Q I rx ry ⟨_, _, rfl, rfl, p, k _ _ C H F (Same.refl F) R (.int _) q⟩
  · subst e1 e2
    cases r1; cases r2
    obtain ⟨t, rfl⟩ := rx
    obtain ⟨t', rfl⟩ := ry
    refine SB.mul (mul_ok p p2) fun t2 k2 => ?_
    rw [txt_mul]
    exact ⟨.str _, H, I.tok _, ⟨_, rfl⟩, k _ _ C H F (Same.refl F) R (.str _) q⟩
def rNeg : RD1 := fun x C Q => ∃ i, x = .int i ∧ Q (.int (-i)) C
theorem ud_neg : UnR X (unaryOp .USub) (lowR1 X.K cl rNeg) := by
  intro pins s σ H x v Q I rx ⟨dx, C, F, Qd, R, r1, ⟨i, e, q⟩, k⟩
  subst e
  cases r1
  exact un_neg pins s σ H _ v Q I rx ⟨_, rfl, k _ _ C H F (Same.refl F) R (.int _) q⟩

/-! ### comparisons -/
def flatEq : D → D → Option Bool
  | .non, .non => some true
  | .int a, .int b => some (decide (a = b))
  | .bl a, .bl b => some (decide (a = b))
  | .str a, .str b => some (decide (a = b))
  | .non, .int _ => some false | .int _, .non => some false | .non, .bl _ => some false | .bl _, .non => some false | .non, .str _ => some false | .str _, .non => some false
  | .int _, .str _ => some false | .str _, .int _ => some false | .bl _, .str _ => some false | .str _, .bl _ => some false
  | _, _ => none
theorem flatEq_ok {K : PySem.W.Frag} {F : Hp} {x y : V} {dx dy : D} {b : Bool} (r1 : Rep K cl F x dx) (r2 : Rep K cl F y dy) (h : flatEq dx dy = some b) : scal x y = true ∧ decide (x = y) = b := by
  unfold flatEq at h
  split at h <;> first
    | (cases h; cases r1; cases r2; exact ⟨rfl, by first | rfl | (simp)⟩)
    | cases h
/-! #### data as a whole -/
mutual
def toPy : D → PyData
  | .bl b => .bool b
  | .int i => .int i
  | .str l => .str ⟨l.toArray⟩
  | .tup ds => .tuple (toPyL ds)
  | .lst ds => .list (toPyL ds)
  | .rol ds => .list (toPyL ds)
  | _ => .none
def toPyL : List D → List PyData
  | [] => []
  | d :: ds => toPy d :: toPyL ds
end
mutual
def plain : D → Bool
  | .non => true
  | .bl _ => true
  | .int _ => true
  | .str _ => true
  | .tup ds => plainL ds
  | .lst ds => plainL ds
  | .rol ds => plainL ds
  | _ => false
def plainL : List D → Bool
  | [] => true
  | d :: ds => plain d && plainL ds
end
mutual
theorem Rep.dp {K : PySem.W.Frag} {F H : Hp} (s : Same F H) : ∀ {v : V} {d : D}, Rep K cl F v d → plain d = true → Dp K H v (toPy d)
  | _, _, .non, _ => by unfold toPy; exact .non
  | _, _, .bl b, _ => by unfold toPy; exact .bl b
  | _, _, .int i, _ => by unfold toPy; exact .int i
  | _, _, .str l, _ => by unfold toPy; exact .str _
  | _, _, .ref a, h => by unfold plain at h; cases h
  | _, _, .ty n, h => by unfold plain at h; cases h
  | _, _, .tup h1 h2, h => by unfold plain at h; unfold toPy; exact .tup (sqT_mono s h1) (RepL.dp s h2 h)
  | _, _, .lst h1 h2, h => by unfold plain at h; unfold toPy; exact .lst (.of (s _ _ h1)) (RepL.dp s h2 h)
  | _, _, .rol h1 h2, h => by unfold plain at h; unfold toPy; exact .lst (s.seq h1) (RepL.dp s h2 h)
  | _, _, .dic h1 h2, h => by unfold plain at h; cases h
  | _, _, .dct h1 h2, h => by unfold plain at h; cases h
  | _, _, .ins h1 h2, h => by unfold plain at h; cases h
theorem RepL.dp {K : PySem.W.Frag} {F H : Hp} (s : Same F H) : ∀ {vs : List V} {ds : List D}, RepL K cl F vs ds → plainL ds = true → DpAll K H vs (toPyL ds)
  | _, _, .nil, _ => by unfold toPyL; exact .nil
  | _, _, .cons h r, e => by
    unfold plainL at e
    rw [Bool.and_eq_true] at e
    unfold toPyL
    exact .cons (Rep.dp s h e.1) (RepL.dp s r e.2)
end
/-- what == of two plain things is -/
def eqT (x y : D) : Bool := PyData.eqv (toPy x) (toPy y)
def shp (x : D) : Bool := plain x && SeqAt.shaped (toPy x)
def rEqD : RD2 := fun x y C Q => (∃ b, flatEq x y = some b ∧ Q (.bl b) C) ∨ (shp x = true ∧ shp y = true ∧ Q (.bl (eqT x y)) C)
def rNeD : RD2 := fun x y C Q => (∃ b, flatEq x y = some b ∧ Q (.bl (!b)) C) ∨ (shp x = true ∧ shp y = true ∧ Q (.bl (!eqT x y)) C)
theorem od_eq {n : Nat} (hr : Room n X.A) : OpD X cl (compareOp .Eq) rEqD := by
  intro pins s σ H x y v u Q I rx ry ⟨dx, dy, C, F, Qd, R, r1, r2, h, k⟩
  rcases h with ⟨b, e, q⟩ | ⟨h1, h2, q⟩
  · obtain ⟨hs, hd⟩ := flatEq_ok r1 r2 e
    refine op_eq pins s σ H _ _ v u Q I rx ry ⟨hs, ?_⟩
    rw [hd]
    exact k _ _ C H F (Same.refl F) R (.bl _) q
  · unfold shp at h1 h2
    rw [Bool.and_eq_true] at h1 h2
    exact op_eqD hr.units pins s σ H _ _ v u Q I rx ry ⟨_, _, r1.dp R.sub h1.1, r2.dp R.sub h2.1, h1.2, h2.2, k _ _ C H F (Same.refl F) R (.bl _) q⟩
theorem od_ne {n : Nat} (hr : Room n X.A) : OpD X cl (compareOp .NotEq) rNeD := by
  intro pins s σ H x y v u Q I rx ry ⟨dx, dy, C, F, Qd, R, r1, r2, h, k⟩
  rcases h with ⟨b, e, q⟩ | ⟨h1, h2, q⟩
  · obtain ⟨hs, hd⟩ := flatEq_ok r1 r2 e
    refine op_ne pins s σ H _ _ v u Q I rx ry ⟨hs, ?_⟩
    rw [hd]
    exact k _ _ C H F (Same.refl F) R (.bl _) q
  · unfold shp at h1 h2
    rw [Bool.and_eq_true] at h1 h2
    exact op_neD hr.units pins s σ H _ _ v u Q I rx ry ⟨_, _, r1.dp R.sub h1.1, r2.dp R.sub h2.1, h1.2, h2.2, k _ _ C H F (Same.refl F) R (.bl _) q⟩
/-- order of ints, of texts -/
def ordF (p : Int → Int → Bool) (q : List Nat → List Nat → Bool) : D → D → Option D
  | .int i, .int j => some (.bl (p i j))
  | .str a, .str b => some (.bl (q a b))
  | _, _ => none
theorem od_ord {op : CmpOp} {p : Int → Int → Bool} {q : List Nat → List Nat → Bool} (h1 : OpR X (compareOp op) (rI0 fun i j => .bl (p i j)))
    (h2 : OpR X (compareOp op) (fun x y H Q => ∃ i j, x = .str i ∧ y = .str j ∧ Q (.bl (q i.cps.toList j.cps.toList)) H)) : OpD X cl (compareOp op) (rOf (ordF p q)) := by
  intro pins s σ H x y v u Q I rx ry ⟨dx, dy, C, F, Qd, R, r1, r2, ⟨z, e, sz, qq⟩, k⟩
  unfold ordF at e
  split at e
  · cases e; cases r1; cases r2
    exact h1 pins s σ H _ _ v u Q I rx ry ⟨_, _, rfl, rfl, k _ _ C H F (Same.refl F) R (.bl _) qq⟩
  · cases e; cases r1; cases r2
    exact h2 pins s σ H _ _ v u Q I rx ry ⟨_, _, rfl, rfl, k _ _ C H F (Same.refl F) R (.bl _) qq⟩
  · cases e
abbrev ltF := ordF (fun i j => decide (i < j)) (fun a b => decide (a < b))
abbrev gtF := ordF (fun i j => decide (j < i)) (fun a b => decide (b < a))
abbrev geF := ordF (fun i j => decide (j ≤ i)) (fun a b => !decide (a < b))
theorem od_lt : OpD X cl (compareOp .Lt) (rOf ltF) := od_ord op_lt op_lt_str
theorem od_gt : OpD X cl (compareOp .Gt) (rOf gtF) := od_ord op_gt op_gt_str
theorem od_ge : OpD X cl (compareOp .GtE) (rOf geF) := od_ord op_ge op_ge_str
/-- is None -/
def isNonD : D → Bool
  | .non => true
  | _ => false
def rIsN : RD2 := fun x y C Q => y = .non ∧ Q (.bl (isNonD x)) C
def rNotN : RD2 := fun x y C Q => y = .non ∧ Q (.bl (!isNonD x)) C
theorem isNon_ok {K : PySem.W.Frag} {F : Hp} {x : V} {d : D} (r : Rep K cl F x d) : decide (x = .non) = isNonD d := by
  cases r <;> simp [isNonD]
theorem od_isN : OpD X cl (compareOp .Is) rIsN := by
  intro pins s σ H x y v u Q I rx ry ⟨dx, dy, C, F, Qd, R, r1, r2, ⟨e, q⟩, k⟩
  subst e
  cases r2
  refine op_isN pins s σ H _ _ v u Q I rx ry ⟨rfl, ?_⟩
  rw [isNon_ok r1]
  exact k _ _ C H F (Same.refl F) R (.bl _) q
theorem od_notN : OpD X cl (compareOp .IsNot) rNotN := by
  intro pins s σ H x y v u Q I rx ry ⟨dx, dy, C, F, Qd, R, r1, r2, ⟨e, q⟩, k⟩
  subst e
  cases r2
  refine op_notN pins s σ H _ _ v u Q I rx ry ⟨rfl, ?_⟩
  rw [isNon_ok r1]
  exact k _ _ C H F (Same.refl F) R (.bl _) q
end
end G
namespace G
open PySem PySem.Spec PyProof.Rows L2

/-! ### texts as lists of signs -/
/-- a stands in z -/
def subIn (a z : List Nat) : Bool := (List.range (z.length + 1)).any fun i => (z.drop i).take a.length == a
theorem subIn_ok (a z : List Nat) : (!(Builtin.Str.occurrences (⟨z.toArray⟩ : Str) ⟨a.toArray⟩ 0 (⟨z.toArray⟩ : Str).length 1).isEmpty) = subIn a z := by
  have key := StrLaws.found_iff (⟨z.toArray⟩ : Str) ⟨a.toArray⟩
  rw [Bool.eq_iff_iff, key]
  unfold subIn
  rw [List.any_eq_true]
  constructor
  · rintro ⟨i, h1, h2⟩
    rw [StrLaws.subAt_eq, len_mk] at h2
    rw [len_mk, len_mk] at h1
    exact ⟨i, List.mem_range.mpr (by omega), h2⟩
  · rintro ⟨i, h1, h2⟩
    have h1 := List.mem_range.mp h1
    have e : (z.drop i).take a.length = a := eq_of_beq h2
    have e1 := congrArg List.length e
    rw [List.length_take, List.length_drop] at e1
    refine ⟨i, by rw [len_mk, len_mk]; omega, ?_⟩
    rw [StrLaws.subAt_eq, len_mk]
    exact h2
/-- without the signs of y at the end -/
def rdrop (g : Nat → Bool) (l : List Nat) : List Nat := (l.reverse.dropWhile g).reverse
/-- a begins z -/
def begins (a z : List Nat) : Bool := z.take a.length == a
theorem starts_ok (z a : List Nat) : Txt.startswith ⟨z.toArray⟩ ⟨a.toArray⟩ = begins a z := by
  unfold Txt.startswith begins
  rw [StrLaws.subAt_eq, len_mk, len_mk]
  show (decide (0 + a.length ≤ z.length) && ((z.drop 0).take a.length == a)) = _
  rw [List.drop_zero]
  cases h : z.take a.length == a with
  | false => rw [Bool.and_false]
  | true =>
    have e1 := congrArg List.length (eq_of_beq h)
    rw [List.length_take] at e1
    rw [Bool.and_true]
    exact decide_eq_true (by omega)
/-- a ends z -/
def ends (a z : List Nat) : Bool := decide (a.length ≤ z.length) && z.drop (z.length - a.length) == a
end G
namespace G
open PySem PySem.Spec PyProof.Rows L2

/-! ### sequences -/
def cellL (C : Cl) (a : Addr) : Option (List D) :=
  match C a with
  | some (.lst ds) => some ds
  | _ => none
theorem cellL_eq {C : Cl} {a : Addr} {ds : List D} (h : cellL C a = some ds) : C a = some (.lst ds) := by
  unfold cellL at h
  split at h
  · rename_i e; cases h; exact e
  · cases h
theorem cellL_of {C : Cl} {a : Addr} {ds : List D} (h : C a = some (.lst ds)) : cellL C a = some ds := by
  unfold cellL
  rw [h]
def seqOf (C : Cl) : D → Option (List D)
  | .tup ds => some ds
  | .lst ds => some ds
  | .rol ds => some ds
  | .ref a => cellL C a
  | _ => none
section
variable {K : PySem.W.Frag} {cl : Nm} {C : Cl} {F H : Hp} {v : V} {d : D} {ds : List D}
theorem seq_ok (R : RC K cl C F H) (r : Rep K cl F v d) (h : seqOf C d = some ds) : ∃ a xs, v = .ref a ∧ (SqL K H a xs ∨ SqT K H a xs) ∧ RepL K cl F xs ds := by
  cases r with
  | tup h1 h2 => cases h; exact ⟨_, _, rfl, .inr (sqT_mono R.sub h1), h2⟩
  | lst h1 h2 => cases h; exact ⟨_, _, rfl, .inl (.of (R.sub _ _ h1)), h2⟩
  | rol h1 h2 => cases h; exact ⟨_, _, rfl, .inl (R.sub.seq h1), h2⟩
  | ref a =>
    obtain ⟨_, o, ho, c⟩ := R.cel _ _ (cellL_eq h)
    cases c with
    | lst rl => exact ⟨_, _, rfl, .inl (.of ho), rl⟩
  | _ => cases h
end
def flatD : D → Bool
  | .non => true
  | .bl _ => true
  | .int _ => true
  | .str _ => true
  | _ => false
/-- == of flat things -/
def eqFl : D → D → Bool
  | .non, .non => true
  | .bl a, .bl b => a == b
  | .bl a, .int b => (if a then 1 else 0) == b
  | .int a, .bl b => a == (if b then 1 else 0)
  | .int a, .int b => a == b
  | .str a, .str b => a == b
  | _, _ => false
section
variable {K : PySem.W.Frag} {cl : Nm} {F : Hp}
theorem flat_ok {v : V} {d : D} (r : Rep K cl F v d) (h : flatD d = true) : flatV v = true := by
  cases r <;> first | rfl | cases h
theorem beq_mk (a b : List Nat) : ((⟨a.toArray⟩ : Str) == ⟨b.toArray⟩) = (a == b) := by
  rw [Bool.eq_iff_iff, beq_iff_eq, beq_iff_eq]
  constructor
  · intro h
    have := congrArg TL.tl h
    exact this
  · intro h
    rw [h]
theorem eqFl_ok {v u : V} {d e : D} (r : Rep K cl F v d) (q : Rep K cl F u e) (h : flatD d = true) (g : flatD e = true) : eqV v u = eqFl d e := by
  cases r <;> first
    | (cases q <;> first | rfl | exact beq_mk _ _ | cases g)
    | cases h
theorem any_ok {v : V} {d : D} (r : Rep K cl F v d) (h : flatD d = true) : ∀ {xs : List V} {ds : List D}, RepL K cl F xs ds → ds.all flatD = true → xs.all flatV = true ∧ inV v xs = ds.any fun e => eqFl e d
  | _, _, .nil, _ => ⟨rfl, rfl⟩
  | _, _, .cons r1 rr, e => by
    rw [List.all_cons, Bool.and_eq_true] at e
    obtain ⟨h1, h2⟩ := any_ok r h rr e.2
    refine ⟨by rw [List.all_cons, flat_ok r1 e.1, h1]; rfl, ?_⟩
    unfold inV at h2 ⊢
    rw [List.any_cons, List.any_cons, h2, eqFl_ok r1 r e.1 h]
end
def rIn : RD2 := fun x y C Q => (∃ c z, x = .str [c] ∧ y = .str z ∧ Q (.bl (decide (c ∈ z))) C) ∨ (∃ a z, x = .str a ∧ y = .str z ∧ Q (.bl (subIn a z)) C) ∨ (∃ ys, seqOf C y = some ys ∧ flatD x = true ∧ ys.all flatD = true ∧ Q (.bl (ys.any fun e => eqFl e x)) C)
section
variable {X : Cx} {cl : NmB}
theorem od_in : OpD X cl (compareOp .In) rIn := by
  intro pins s σ H x y v u Q I rx ry ⟨dx, dy, C, F, Qd, R, r1, r2, h, k⟩
  rcases h with ⟨c, z, e1, e2, q⟩ | ⟨a, z, e1, e2, q⟩ | ⟨ys, e, f1, f2, q⟩
  · subst e1 e2
    cases r1; cases r2
    exact op_in_sign pins s σ H _ _ v u Q I rx ry ⟨c, _, rfl, rfl, k _ _ C H F (Same.refl F) R (.bl _) q⟩
  · subst e1 e2
    cases r1; cases r2
    refine op_in_str pins s σ H _ _ v u Q I rx ry ⟨_, _, rfl, rfl, ?_⟩
    rw [subIn_ok]
    exact k _ _ C H F (Same.refl F) R (.bl _) q
  · obtain ⟨p, xs, rfl, hs, rl⟩ := seq_ok R r2 e
    obtain ⟨g1, g2⟩ := any_ok r1 f1 rl f2
    refine op_in_seq pins s σ H _ _ v u Q I rx ry ⟨p, xs, rfl, hs, flat_ok r1 f1, g1, ?_⟩
    rw [if_neg Bool.false_ne_true, g2]
    exact k _ _ C H F (Same.refl F) R (.bl _) q
/-! ### subscripts, slices -/
theorem atI_map {α β : Type} {R : α → β → Prop} {xs : List α} {ds : List β} (hl : xs.length = ds.length) (hg : ∀ (i : Nat) d, ds[i]? = some d → ∃ v, xs[i]? = some v ∧ R v d) {i : Int} {d : β} (h : atI ds i = some d) : ∃ v, atI xs i = some v ∧ R v d := by
  unfold atI at h ⊢
  rw [hl]
  cases e : ixN ds.length i with
  | none => rw [e] at h; cases h
  | some j =>
    rw [e] at h
    obtain ⟨v, h1, h2⟩ := hg j d h
    exact ⟨v, h1, h2⟩
def rIx : RD2 := fun x y C Q => ∃ i, y = .int i ∧ ((∃ l c, x = .str l ∧ l.length ≤ sizeLine ∧ atI l i = some c ∧ Q (.str [c]) C) ∨ (∃ ds d, seqOf C x = some ds ∧ atI ds i = some d ∧ Q d C))
theorem ix_ok : IxR X (lowR X.K cl rIx) := by
  intro value slice pins s σ H x y v u Q I rx ry ⟨dx, dy, C, F, Qd, R, r1, r2, ⟨i, e, h⟩, k⟩ hs
  subst e
  cases r2
  rcases h with ⟨l, c, e, hl, ha, q⟩ | ⟨ds, d, e, ha, q⟩
  · subst e
    cases r1
    refine ix_seq value slice pins s σ H _ _ v u Q I rx ry (.inr (.inr ⟨_, _, c, rfl, rfl, ?_, ha, k _ _ C H F (Same.refl F) R (.str [c]) q⟩)) hs
    rw [len_mk]; exact hl
  · obtain ⟨p, xs, rfl, hq, rl⟩ := seq_ok R r1 e
    obtain ⟨w, hw, rw'⟩ := atI_map (R := Rep X.K cl F) rl.length (fun j d hd => rl.get hd) ha
    have fin := k w d C H F (Same.refl F) R rw' q
    rcases hq with hq | hq
    · exact ix_seq value slice pins s σ H _ _ v u Q I rx ry (.inl ⟨p, xs, _, w, rfl, rfl, hq, hw, fin⟩) hs
    · exact ix_seq value slice pins s σ H _ _ v u Q I rx ry (.inr (.inl ⟨p, xs, _, w, rfl, rfl, hq, hw, fin⟩)) hs
theorem de_ix {a b : Expr} {ta tb : DE} {pos : Pos} (ha : PEd X cl a ta) (hb : PEd X cl b tb) (hs : PlainIx b := by intro _ _; rfl) : PEd X cl (.Subscript a b pos) (dOp rIx ta tb) :=
  weakE (pe_ix ix_ok ha hb hs) fun _ _ _ h => low_op h
/-- l[lo:hi] -/
def cutL {α : Type} (l : List α) (lo hi : Option Int) : List α := (l.drop (HT.sIx l.length 0 lo)).take (HT.sIx l.length l.length hi - HT.sIx l.length 0 lo)
abbrev DO := DEnv → Cl → (Option Int → Cl → Prop) → Prop
def lowO' (K : PySem.W.Frag) (cl : NmB) (td : DO) : TO := fun σ H Q => ∃ ρ C F Qd, RS K cl ρ C F σ H ∧ td ρ C Qd ∧ ∀ o C' F' H', Same F F' → RC K cl C' F' H' → Qd o C' → Q o H'
abbrev PPd (X : Cx) (cl : NmB) (e : Option Expr) (t : DO) : Prop := PO X e (lowO' X.K cl t)
def dNoPart : DO := fun _ C Q => Q none C
def dPart (t : DE) : DO := fun ρ C Q => t ρ C fun x C1 => ∃ i, x = .int i ∧ Q (some i) C1
theorem dp_none : PPd X cl none dNoPart := ⟨fun pins s σ H Q I ⟨ρ, C, F, Qd, R, h, k⟩ => po_none.run pins s σ H Q I (k none C F H (Same.refl F) R.rc h)⟩
theorem dp_some {e : Expr} {t : DE} (h : PEd X cl e t) : PPd X cl (some e) (dPart t) := ⟨fun pins s σ H Q I ⟨ρ, C, F, Qd, R, hh, k⟩ => (po_some h).run pins s σ H Q I
  ⟨ρ, C, F, _, R, hh, fun v d C1 H1 F1 s1 R1 r1 ⟨i, e, q⟩ => by
    subst e
    cases r1
    exact ⟨i, rfl, k _ C1 F1 H1 s1 R1 q⟩⟩⟩
/-- what is cut out of x -/
def slF (C : Cl) (x : D) (lo hi : Option Int) : Option D :=
  match x with
  | .str l => some (.str (cutL l lo hi))
  | .tup ds => some (.tup (cutL ds lo hi))
  | .lst ds => some (.lst (cutL ds lo hi))
  | .rol ds => some (.lst (cutL ds lo hi))
  | .ref a => (cellL C a).map fun ds => .lst (cutL ds lo hi)
  | _ => none
def srcOk : D → Prop
  | .str l => l.length ≤ sizeLine
  | _ => True
abbrev RSl := D → Option Int → Option Int → Cl → DQ → Prop
def rSl : RSl := fun x lo hi C Q => ∃ z, slF C x lo hi = some z ∧ srcOk x ∧ Q z C
def lowSl (K : PySem.W.Frag) (cl : Nm) (rd : RSl) : V → Option Int → Option Int → Hp → VK → Prop := fun x lo hi H Q => ∃ dx C F Qd, RC K cl C F H ∧ Rep K cl F x dx ∧ rd dx lo hi C Qd ∧ Fin K cl F Qd Q
theorem RepL.cut {K : PySem.W.Frag} {F : Hp} {xs : List V} {ds : List D} (lo hi : Option Int) (r : RepL K cl F xs ds) : RepL K cl F (cutV xs lo hi) (cutL ds lo hi) := by
  unfold cutV cutL
  rw [r.length]
  exact (r.drop _).take _
theorem sl_ok : SlR X (lowSl X.K cl rSl) := by
  intro pins s σ H x v vl vu lo hi sl Q I rx hs pl pu ⟨dx, C, F, Qd, R, r1, ⟨z, e, so, q⟩, k⟩
  have onL : ∀ (a : Addr) (xs : List V) (ds : List D), x = .ref a → SqL X.K H a xs → RepL X.K cl F xs ds → z = .lst (cutL ds lo hi) → ∃ T id, typeLookup (.type T) "__getitem__" = pure (some (.builtin id)) ∧ s.TypeIs v T ∧ wpAny (model X.prog X.w) X.A (getItem v (.ref sl)) (EP X pins σ Q) X.xe s := by
    intro a xs ds ex hq rl ez
    subst ex ez
    refine sl_list pins s σ H _ v vl vu lo hi sl Q I rx hs pl pu ⟨a, xs, rfl, hq, fun p np => ?_⟩
    have s2 := same_upd (o := .lst (cutV xs lo hi)) (R.freeF np)
    exact k _ _ C _ _ s2 (R.new np) (.lst upd_same ((rl.cut lo hi).mono s2)) q
  cases r1 with
  | str l =>
    cases e
    refine sl_str pins s σ H _ v vl vu lo hi sl Q I rx hs pl pu ⟨_, rfl, by rw [len_mk]; exact so, ?_⟩
    have e : cutS ⟨l.toArray⟩ lo hi = ⟨(cutL l lo hi).toArray⟩ := by
      unfold cutS cutL
      rw [len_mk]
    rw [e]
    exact k _ _ C H F (Same.refl F) R (.str _) q
  | tup h1 h2 =>
    rename_i a xs ds
    cases e
    refine sl_tupA pins s σ H _ v vl vu lo hi sl Q I rx hs pl pu ⟨_, _, rfl, sqT_mono R.sub h1, fun ⟨w1, w2⟩ => ?_, fun _ p np => ?_⟩
    · have e : cutL ds lo hi = ds := by
        unfold cutL
        rw [← h2.length, w1, w2, List.drop_zero, Nat.sub_zero, h2.length, List.take_length]
      rw [e] at q
      exact k _ _ C H F (Same.refl F) R (.tup h1 h2) q
    · have s2 := same_upd (o := .tup (cutV xs lo hi)) (R.freeF np)
      exact k _ _ C _ _ s2 (R.new np) (.tup (.of upd_same) ((h2.cut lo hi).mono s2)) q
  | lst h1 h2 =>
    cases e
    exact onL _ _ _ rfl (.of (R.sub _ _ h1)) h2 rfl
  | rol h1 h2 =>
    cases e
    exact onL _ _ _ rfl (R.sub.seq h1) h2 rfl
  | ref a =>
    have e' : (cellL C a).map (fun ds => D.lst (cutL ds lo hi)) = some z := e
    cases hh : cellL C a with
    | none => rw [hh] at e'; cases e'
    | some d' =>
      rw [hh] at e'
      cases e'
      obtain ⟨_, o, ho, c⟩ := R.cel _ _ (cellL_eq hh)
      cases c with
      | lst rl => exact onL _ _ _ rfl (.of ho) rl rfl
  | _ => cases e
def dSl (rd : RSl) (te : DE) (tl th : DO) : DE := fun ρ C Q => te ρ C fun x C1 => tl ρ C1 fun l C2 => th ρ C2 fun u C3 => rd x l u C3 Q
theorem de_slice {e : Expr} {lo hi : Option Expr} {te : DE} {tl th : DO} {pos p2 : Pos} (he : PEd X cl e te) (hl : PPd X cl lo tl) (hu : PPd X cl hi th) : PEd X cl (.Subscript e (.Slice lo hi none p2) pos) (dSl rSl te tl th) := by
  refine weakE (pe_slice (sl_ok (cl := cl)) he hl hu) fun σ H Q ⟨ρ, C, F, Qd, R, h, k⟩ => ?_
  refine ⟨ρ, C, F, _, R, h, fun v d C1 H1 F1 s1 R1 r1 q1 => ?_⟩
  refine ⟨ρ, C1, F1, _, R.next s1 R1, q1, fun l C2 F2 H2 s2 R2 q2 => ?_⟩
  refine ⟨ρ, C2, F2, _, R.next (s1.trans s2) R2, q2, fun u C3 F3 H3 s3 R3 q3 => ?_⟩
  exact ⟨d, C3, F3, Qd, R3, r1.mono (s2.trans s3), q3, k.at (s1.trans (s2.trans s3))⟩
/-- xs[i] = v -/
def rSetL : RSet := fun o i v C Q => ∃ a k j ds, o = .ref a ∧ i = .int k ∧ C a = some (.lst ds) ∧ ixN ds.length k = some j ∧ Q (updC C a (.lst (ds.set j v)))
theorem st_list : SetD X cl rSetL := by
  intro pins s σ H o i v ov iv u Q I r1 r2 r3 ⟨dO, dI, dV, C, F, Qd, R, p1, p2, p3, ⟨a, kk, j, ds, e1, e2, hc, hj, q⟩, k⟩
  subst e1 e2
  cases p1; cases p2
  obtain ⟨_, ob, ho, c⟩ := R.cel _ _ hc
  cases c with
  | lst rl =>
    exact set_list pins s σ H _ _ v ov iv u Q I r1 r2 r3 ⟨a, _, kk, j, rfl, rfl, ho, by rw [rl.length]; exact hj, k _ F _ (Same.refl F) (R.put hc (.lst (rl.set p3 j))) q⟩

/-! ### built-in calls -/
def lenF (C : Cl) : D → Option Nat
  | .str l => some l.length
  | .tup ds => some ds.length
  | .lst ds => some ds.length
  | .rol ds => some ds.length
  | .ref a => (cellL C a).map List.length
  | _ => none
def rLen : RDC := fun xs C Q => ∃ x n, xs = [x] ∧ lenF C x = some n ∧ srcOk x ∧ Q (.int n) C
theorem cd_len : CallD X cl (.builtin "len") rLen := by
  intro pins s σ H xs us Q I r ⟨ds, C, F, Qd, R, rl, ⟨x, n, e, hn, so, q⟩, k⟩
  subst e
  cases rl with
  | cons r1 rr =>
    cases rr
    refine call_len pins s σ H _ us Q I r ⟨_, n, rfl, ?_, k _ _ C H F (Same.refl F) R (.int _) q⟩
    cases r1 with
    | str l => cases hn; exact ⟨by rw [len_mk]; exact so, by rw [len_mk]⟩
    | tup h1 h2 => cases hn; exact .inr ⟨_, sqT_mono R.sub h1, h2.length.symm⟩
    | lst h1 h2 => cases hn; exact .inl ⟨_, .of (R.sub _ _ h1), h2.length.symm⟩
    | rol h1 h2 => cases hn; exact .inl ⟨_, R.sub.seq h1, h2.length.symm⟩
    | ref a =>
      have e' : (cellL C a).map List.length = some n := hn
      cases hh : cellL C a with
      | none => rw [hh] at e'; cases e'
      | some d' =>
        rw [hh] at e'
        cases e'
        obtain ⟨_, o, ho, c⟩ := R.cel _ _ (cellL_eq hh)
        cases c with
        | lst rl => exact .inl ⟨_, .of ho, rl.length.symm⟩
    | _ => cases hn
def rAbs : RDC := fun xs C Q => ∃ i, xs = [.int i] ∧ Q (.int (if i < 0 then -i else i)) C
theorem cd_abs : CallD X cl (.builtin "abs") rAbs := by
  intro pins s σ H xs us Q I r ⟨ds, C, F, Qd, R, rl, ⟨i, e, q⟩, k⟩
  subst e
  cases rl with
  | cons r1 rr =>
    cases rr; cases r1
    exact call_abs pins s σ H _ us Q I r ⟨i, rfl, k _ _ C H F (Same.refl F) R (.int _) q⟩
def rInt : RDC := fun xs C Q => (∃ i, xs = [.int i] ∧ Q (.int i) C) ∨ (∃ b, xs = [.bl b] ∧ Q (.int (if b then 1 else 0)) C)
theorem cd_int : CallD X cl (.type "int") rInt := by
  intro pins s σ H xs us Q I r ⟨ds, C, F, Qd, R, rl, h, k⟩
  rcases h with ⟨i, e, q⟩ | ⟨i, e, q⟩
  all_goals
    subst e
    cases rl with
    | cons r1 rr =>
      cases rr; cases r1
      first
        | exact call_int1 pins s σ H _ us Q I r (.inl ⟨i, rfl, k _ _ C H F (Same.refl F) R (.int _) q⟩)
        | exact call_int1 pins s σ H _ us Q I r (.inr ⟨i, rfl, k _ _ C H F (Same.refl F) R (.int _) q⟩)
def rMin2 : RDC := fun xs C Q => ∃ i j, xs = [.int i, .int j] ∧ Q (.int (if j < i then j else i)) C
theorem cd_min (hc : X.calm = true := by rfl) : CallD X cl (.builtin "min") rMin2 := by
  intro pins s σ H xs us Q I r ⟨ds, C, F, Qd, R, rl, ⟨i, j, e, q⟩, k⟩
  subst e
  cases rl with
  | cons r1 rr =>
    cases rr with
    | cons r2 rr =>
      cases rr; cases r1; cases r2
      exact call_min2 hc pins s σ H _ us Q I r ⟨i, j, rfl, k _ _ C H F (Same.refl F) R (.int _) q⟩
def rMax2 : RDC := fun xs C Q => ∃ i j, xs = [.int i, .int j] ∧ Q (.int (if j > i then j else i)) C
theorem cd_max (hc : X.calm = true := by rfl) : CallD X cl (.builtin "max") rMax2 := by
  intro pins s σ H xs us Q I r ⟨ds, C, F, Qd, R, rl, ⟨i, j, e, q⟩, k⟩
  subst e
  cases rl with
  | cons r1 rr =>
    cases rr with
    | cons r2 rr =>
      cases rr; cases r1; cases r2
      exact call_max2 hc pins s σ H _ us Q I r ⟨i, j, rfl, k _ _ C H F (Same.refl F) R (.int _) q⟩
/-- a list of truth values -/
def bls (bs : List Bool) : List D := bs.map D.bl
theorem rep_bls {K : PySem.W.Frag} {F : Hp} : ∀ {bs : List Bool} {xs : List V}, RepL K cl F xs (bls bs) → xs = bs.map V.bl
  | [], _, .nil => rfl
  | b :: bs, _, .cons r rr => by
    cases r
    rw [rep_bls rr]
    rfl
def rAnyL : RDC := fun xs C Q => ∃ x bs, xs = [x] ∧ lstOf x = some (bls bs) ∧ Q (.bl (bs.any id)) C
theorem cd_any (hc : X.calm = true := by rfl) : CallD X cl (.builtin "any") rAnyL := by
  intro pins s σ H xs us Q I r ⟨ds, C, F, Qd, R, rl, ⟨x, bs, e, hb, q⟩, k⟩
  subst e
  cases rl with
  | cons r1 rr =>
    cases rr
    obtain ⟨a, ys, rfl, hs, hl⟩ := r1.asL hb
    have e := rep_bls hl
    subst e
    exact cr_any hc pins s σ H _ us Q I r ⟨a, bs, rfl, R.sub.seq hs, k _ _ C H F (Same.refl F) R (.bl _) q⟩
/-- list(x) -/
def rList : RDC := fun xs C Q => ∃ x ds, xs = [x] ∧ seqOf C x = some ds ∧ Q (.lst ds) C
theorem cd_list : CallD X cl (.type "list") rList := by
  intro pins s σ H xs us Q I r ⟨ds, C, F, Qd, R, rl, ⟨x, es, e, hb, q⟩, k⟩
  subst e
  cases rl with
  | cons r1 rr =>
    cases rr
    obtain ⟨a, ys, rfl, hs, hl⟩ := seq_ok R r1 hb
    refine call_list_of pins s σ H _ us Q I r ⟨a, ys, rfl, hs, fun p np => ?_⟩
    have s2 := same_upd (o := .lst ys) (R.freeF np)
    exact k _ _ C _ _ s2 (R.new np) (.lst upd_same (hl.mono s2)) q
/-- tuple(x) -/
def rTuple : RDC := fun xs C Q => ∃ x ds, xs = [x] ∧ seqOf C x = some ds ∧ Q (.tup ds) C
theorem cd_tuple : CallD X cl (.type "tuple") rTuple := by
  intro pins s σ H xs us Q I r ⟨ds, C, F, Qd, R, rl, ⟨x, es, e, hb, q⟩, k⟩
  subst e
  cases rl with
  | cons r1 rr =>
    cases rr
    have r1' := r1
    obtain ⟨a, ys, rfl, hs, hl⟩ := seq_ok R r1 hb
    have onT : ∀ zs, SqT X.K F a zs → RepL X.K cl F zs es → wpAny (model X.prog X.w) X.A (call (.type "tuple") us) (EP X pins σ Q) X.xe s := fun zs h1 h2 =>
      call_tuple_of pins s σ H _ us Q I r ⟨a, zs, rfl, .inr ⟨sqT_mono R.sub h1, k _ _ C H F (Same.refl F) R (.tup h1 h2) q⟩⟩
    have onL : ∀ zs, SqL X.K H a zs → RepL X.K cl F zs es → wpAny (model X.prog X.w) X.A (call (.type "tuple") us) (EP X pins σ Q) X.xe s := fun zs h1 h2 => by
      refine call_tuple_of pins s σ H _ us Q I r ⟨a, zs, rfl, .inl ⟨h1, fun p np => ?_⟩⟩
      have s2 := same_upd (o := .tup zs) (R.freeF np)
      exact k _ _ C _ _ s2 (R.new np) (.tup (.of upd_same) (h2.mono s2)) q
    cases r1' with
    | tup h1 h2 => cases hb; exact onT _ h1 h2
    | lst h1 h2 => cases hb; exact onL _ (.of (R.sub _ _ h1)) h2
    | rol h1 h2 => cases hb; exact onL _ (R.sub.seq h1) h2
    | ref a' =>
      obtain ⟨_, o, ho, c⟩ := R.cel _ _ (cellL_eq hb)
      cases c with
      | lst rl => exact onL _ (.of ho) rl
    | _ => cases hb
end
end G
namespace G
open PySem PySem.Spec PyProof.Rows L2

section
variable {X : Cx} {cl : NmB}
/-- a method of a text by one text -/
def rT1 (P : List Nat → List Nat → Prop) (g : List Nat → List Nat → D) : RDM := fun x xs C Q => ∃ a b, x = .str a ∧ xs = [.str b] ∧ P a b ∧ Q (g a b) C
theorem md_t1 {id : String} {P : List Nat → List Nat → Prop} {P' : Str → Str → Prop} {g : List Nat → List Nat → D} {g' : Str → Str → V} (h : MtR X id (fun x xs H Q => ∃ a b, x = .str a ∧ xs = [.str b] ∧ P' a b ∧ Q (g' a b) H))
    (hP : ∀ a b, P a b → P' ⟨a.toArray⟩ ⟨b.toArray⟩) (hg : ∀ K F a b, Rep K cl F (g' ⟨a.toArray⟩ ⟨b.toArray⟩) (g a b)) : MtD X cl id (rT1 P g) := by
  intro pins s σ H x xs v us Q I rx rs ⟨dx, ds, C, F, Qd, R, r1, rl, ⟨a, b, e1, e2, p, q⟩, k⟩
  subst e1 e2
  cases r1
  cases rl with
  | cons r2 rr =>
    cases rr; cases r2
    exact h pins s σ H _ _ v us Q I rx rs ⟨_, _, rfl, rfl, hP a b p, k _ _ C H F (Same.refl F) R (hg _ F a b) q⟩
def rStarts : RDM := rT1 (fun _ _ => True) fun z a => .bl (begins a z)
theorem md_starts : MtD X cl "str.startswith" rStarts :=
  md_t1 (P' := fun _ _ => True) (g' := fun a b => .bl (Txt.startswith a b)) (fun pins s σ H x xs v us Q I rx rs ⟨a, b, e1, e2, _, q⟩ => mt_startswith pins s σ H x xs v us Q I rx rs ⟨a, b, e1, e2, q⟩) (fun _ _ h => h) fun K F a b => by rw [starts_ok]; exact .bl _
/-- a text's three parts at the first sep -/
def parts3 (a b : List Nat) : List Nat × List Nat × List Nat := match TL.par b [] a with
  | some (x, y) => (x, b, y)
  | none => (a, [], [])
def txts (ls : List (List Nat)) : List D := ls.map D.str
theorem of_txts {K : PySem.W.Frag} {F : Hp} : ∀ {ls : List (List Nat)} {xs : List V}, RepL K cl F xs (txts ls) → xs = (ls.map fun l => (⟨l.toArray⟩ : Str)).map V.str
  | [], _, .nil => rfl
  | l :: ls, _, .cons r rr => by
    cases r
    rw [of_txts rr]
    rfl
/-- joined texts -/
theorem join_ok (a : List Nat) (ls : List (List Nat)) : Txt.join ⟨a.toArray⟩ (ls.map fun l => (⟨l.toArray⟩ : Str)) = ⟨(TL.joinL a ls).toArray⟩ := by
  apply TL.ext_tl
  rw [TL.join_eq, TL.tl_join, List.map_map]
  show TL.joinL a (ls.map (TL.tl ∘ fun l : List Nat => (⟨l.toArray⟩ : Str))) = TL.joinL a ls
  rw [show (TL.tl ∘ fun l : List Nat => (⟨l.toArray⟩ : Str)) = id from rfl, List.map_id]
def rJoin : RDM := fun x xs C Q => ∃ a y ls, x = .str a ∧ xs = [y] ∧ seqOf C y = some (txts ls) ∧ (ls.map List.length).sum + ls.length * a.length ≤ 16777216 ∧ Q (.str (TL.joinL a ls)) C
theorem md_join : MtD X cl "str.join" rJoin := by
  intro pins s σ H x xs v us Q I rx rs ⟨dx, ds, C, F, Qd, R, r1, rl, ⟨a, y, ls, e1, e2, hy, hl, q⟩, k⟩
  subst e1 e2
  cases r1
  cases rl with
  | cons r2 rr =>
    cases rr
    obtain ⟨p, ys, rfl, hs, hr⟩ := seq_ok R r2 hy
    have e := of_txts hr
    subst e
    refine mt_join pins s σ H _ _ v us Q I rx rs ⟨_, p, _, rfl, rfl, hs, ?_, ?_⟩
    · rw [List.map_map, List.length_map, len_mk]
      rw [show ((fun x : Str => x.length) ∘ fun l : List Nat => (⟨l.toArray⟩ : Str)) = List.length from by funext l; exact len_mk l]
      exact hl
    · rw [join_ok]
      exact k _ _ C H F (Same.refl F) R (.str _) q
/-- lists that change -/
def rAppend : RDM := fun x xs C Q => ∃ a d ds, x = .ref a ∧ xs = [d] ∧ C a = some (.lst ds) ∧ ds.length < sizeLine ∧ Q .non (updC C a (.lst (ds ++ [d])))
theorem md_append : MtD X cl "list.append" rAppend := by
  intro pins s σ H x xs v us Q I rx rs ⟨dx, es, C, F, Qd, R, r1, rl, ⟨a, d, ds, e1, e2, hc, hl, q⟩, k⟩
  subst e1 e2
  cases r1
  obtain ⟨_, o, ho, c⟩ := R.cel _ _ hc
  cases c with
  | lst rr =>
    cases rl with
    | cons r2 rn =>
      cases rn
      exact mt_append pins s σ H _ _ v us Q I rx rs ⟨a, _, _, rfl, rfl, ho, by rw [rr.length]; exact hl, k _ _ _ _ F (Same.refl F) (R.put hc (.lst (rr.append (.cons r2 .nil)))) .non q⟩
/-! ### isinstance of a built-in class -/
def tyNm : D → Cl → Option String
  | .non, _ => some "NoneType"
  | .bl _, _ => some "bool"
  | .int _, _ => some "int"
  | .str _, _ => some "str"
  | .lst _, _ => some "list"
  | .rol _, _ => some "list"
  | .tup _, _ => some "tuple"
  | .dic _, _ => some "dict"
  | .dct _, _ => some "dict"
  | .ref a, C => match C a with
    | some (.lst _) => some "list"
    | some (.dic _) => some "dict"
    | some (.dct _) => some "dict"
    | _ => none
  | _, _ => none
theorem tyX_ok {K : PySem.W.Frag} {C : Cl} {F H : Hp} {v : V} {d : D} {n : String} (R : RC K cl C F H) (r : Rep K cl F v d) (h : tyNm d C = some n) : TyX K H v (.type n) := by
  have onT : ∀ a xs, SqT K H a xs → TyX K H (.ref a) (.type "tuple") := fun a xs h => by
    rcases h with (h | ⟨o, h⟩) | ⟨o, its, n, hk, hc, _⟩
    · exact .base (.tup h)
    · exact .fTuple h
    · exact .kTuple hk hc
  have onL : ∀ a xs, SqL K H a xs → TyX K H (.ref a) (.type "list") := fun a xs h => by
    rcases h with (h | ⟨o, h⟩) | ⟨o, its, n, hk, hc, _⟩
    · exact .base (.lst h)
    · exact .base (.frz h)
    · exact .kList hk hc
  cases r with
  | non => cases h; exact .base .non
  | bl b => cases h; exact .base (.bl b)
  | int i => cases h; exact .base (.int i)
  | str l => cases h; exact .base (.str _)
  | tup h1 h2 => cases h; exact onT _ _ (sqT_mono R.sub h1)
  | lst h1 h2 => cases h; exact onL _ _ (.of (R.sub _ _ h1))
  | rol h1 h2 => cases h; exact onL _ _ (R.sub.seq h1)
  | dic h1 h2 =>
    cases h
    exact .fDict (R.sub _ _ h1)
  | dct h1 h2 => cases h; exact .base (.dT (R.sub _ _ h1))
  | ref a =>
    cases hc : C a with
    | none => simp [tyNm, hc] at h
    | some c =>
      obtain ⟨_, o, ho, cr⟩ := R.cel _ _ hc
      cases cr with
      | lst rl =>
        simp only [tyNm, hc, Option.some.injEq] at h
        subst h
        exact onL _ _ (.of ho)
      | dic rl =>
        simp only [tyNm, hc, Option.some.injEq] at h
        subst h
        exact .base (.dK ho)
      | dct rl =>
        simp only [tyNm, hc, Option.some.injEq] at h
        subst h
        exact .base (.dT ho)
      | dil rl => simp [tyNm, hc] at h
      | exc _ _ => simp [tyNm, hc] at h
      | dN _ _ => simp [tyNm, hc] at h
      | ins rl => simp [tyNm, hc] at h
      | tbl _ _ => simp [tyNm, hc] at h
  | ty n => simp [tyNm] at h
  | cls c => simp [tyNm] at h
  | ins h1 h2 => simp [tyNm] at h
/-- is a thing of the built-in class n of the class m -/
def isSub (n m : String) : Bool := n == m || (n == "bool" && m == "int")
def rIsi (m : String) : RDC := fun xs C Q => ∃ x n, xs = [x, .ty m] ∧ tyNm x C = some n ∧ Q (.bl (isSub n m)) C
/-- the library's answer for the classes that are asked -/
def IsiOk (K : PySem.W.Frag) (m : String) : Prop := ∀ n ∈ (["NoneType", "bool", "int", "str", "list", "tuple", "dict"] : List String), PySem.W.kitOne K (.type n) (.type m) = some (isSub n m)
theorem cd_isi {m : String} (hk : IsiOk X.K m) : CallD X cl (.builtin "isinstance") (rIsi m) := by
  intro pins s σ H xs us Q I r ⟨ds, C, F, Qd, R, rl, ⟨x, n, e, hn, q⟩, k⟩
  subst e
  cases rl with
  | cons r1 rr =>
    cases rr with
    | cons r2 rr =>
      cases rr; cases r2
      have hm : n ∈ (["NoneType", "bool", "int", "str", "list", "tuple", "dict"] : List String) := by
        cases x <;> first
          | (simp only [tyNm, Option.some.injEq] at hn; subst hn; decide)
          | (simp only [tyNm] at hn; split at hn <;> first | (cases hn; decide) | cases hn)
          | cases hn
      exact call_isi pins s σ H _ us Q I r ⟨_, _, _, _, _, rfl, .ty m, tyX_ok R r1 hn, hk n hm, k _ _ C H F (Same.refl F) R (.bl _) q⟩
end
end G
namespace G
open PySem PySem.Spec PyProof.Rows L2

/-! ### short words for readings -/
abbrev dAdd (a b : DE) : DE := dOp (rOf addF) a b
abbrev dSub (a b : DE) : DE := dOp (rOf (ioF fun i j => i - j)) a b
abbrev dMul (a b : DE) : DE := dOp rMul a b
abbrev dFdiv (a b : DE) : DE := dOp (rIC CDivW fun i j => i / j) a b
abbrev dMod (a b : DE) : DE := dOp (rIC (fun _ j => 0 < j) fun i j => i % j) a b
abbrev dPow (a b : DE) : DE := dOp (rIC CPow fun i j => i ^ j.toNat) a b
abbrev rLtD : RD2 := rOf ltF
abbrev rGtD : RD2 := rOf gtF
abbrev rGeD : RD2 := rOf geF
theorem boot_len_ : bootBuiltins "len" = some (.builtin "len") := by decide +kernel
theorem boot_abs_ : bootBuiltins "abs" = some (.builtin "abs") := by decide +kernel
theorem boot_min_ : bootBuiltins "min" = some (.builtin "min") := by decide +kernel
theorem boot_max_ : bootBuiltins "max" = some (.builtin "max") := by decide +kernel
theorem boot_any_ : bootBuiltins "any" = some (.builtin "any") := by decide +kernel
theorem boot_isinstance_ : bootBuiltins "isinstance" = some (.builtin "isinstance") := by decide +kernel
theorem boot_int_ : bootBuiltins "int" = some (.type "int") := by decide +kernel
theorem boot_str_ : bootBuiltins "str" = some (.type "str") := by decide +kernel
theorem boot_bool_ : bootBuiltins "bool" = some (.type "bool") := by decide +kernel
theorem boot_list_ : bootBuiltins "list" = some (.type "list") := by decide +kernel
theorem boot_tuple_ : bootBuiltins "tuple" = some (.type "tuple") := by decide +kernel
theorem isi_all {K : PySem.W.Frag} {m : String} (h : PySem.W.kitOne K (.type "NoneType") (.type m) = some (isSub "NoneType" m) ∧ PySem.W.kitOne K (.type "bool") (.type m) = some (isSub "bool" m) ∧ PySem.W.kitOne K (.type "int") (.type m) = some (isSub "int" m) ∧ PySem.W.kitOne K (.type "str") (.type m) = some (isSub "str" m) ∧
    PySem.W.kitOne K (.type "list") (.type m) = some (isSub "list" m) ∧ PySem.W.kitOne K (.type "tuple") (.type m) = some (isSub "tuple" m) ∧ PySem.W.kitOne K (.type "dict") (.type m) = some (isSub "dict" m)) : IsiOk K m := by
  intro n hn
  have hn : n = "NoneType" ∨ n = "bool" ∨ n = "int" ∨ n = "str" ∨ n = "list" ∨ n = "tuple" ∨ n = "dict" := by simpa using hn
  obtain ⟨h1, h2, h3, h4, h5, h6, h7⟩ := h
  rcases hn with rfl | rfl | rfl | rfl | rfl | rfl | rfl <;> assumption
theorem isi_str {K : PySem.W.Frag} : IsiOk K "str" := isi_all ⟨rfl, rfl, rfl, rfl, rfl, rfl, rfl⟩
section
variable {X : Cx} {cl : NmB} {pos : Pos}
theorem de_gstr {x : Str} {l : List Nat} (h : ∃ t, X.mg x = some (.str ⟨l.toArray⟩ t)) (hg : Gl X x := by rfl) (hd : (x == ("__debug__" : Str)) = false := by decide) : PEd X cl (.Name x pos) (dC (.str l)) := by
  obtain ⟨t, h⟩ := h
  exact de_glob (v := .str ⟨l.toArray⟩) h ⟨t, rfl⟩ (fun _ => .str l) hg hd
end
/-- tests whose answer is a proposition's -/
theorem ite_d {p : Prop} [Decidable p] {A B : Prop} (h1 : p → A) (h2 : ¬ p → B) : if decide p = true then A else B := by
  by_cases h : p
  · rw [decide_eq_true h]; exact iteT (h1 h)
  · rw [decide_eq_false h]; exact iteF (h2 h)
/-! ### the bag of a law: three numbers in a list that changes -/
abbrev bagC (x y z : Int) : Cell := .lst [.int x, .int y, .int z]
structure Bag (x y z : Int) (n : Nat) : Prop where
  x0 : 0 ≤ x
  y0 : 0 ≤ y
  y1 : y ≤ 12000000000000000000
  z0 : 0 ≤ z
  z1 : z ≤ n
def BagAt (C : Cl) (b : Addr) (n : Nat) : Prop := ∃ x y z, C b = some (bagC x y z) ∧ Bag x y z n
/-- C' is C but for the bag at b -/
def Bagged (C : Cl) (b : Addr) (C' : Cl) (n : Nat) : Prop := ∃ x y z, C' = updC C b (bagC x y z) ∧ Bag x y z n
theorem Bag.mono {x y z : Int} {n m : Nat} (h : Bag x y z n) (l : n ≤ m) : Bag x y z m := ⟨h.x0, h.y0, h.y1, h.z0, by have := h.z1; omega⟩
theorem Bagged.at {C C' : Cl} {b : Addr} {n : Nat} (h : Bagged C b C' n) : BagAt C' b n := by
  obtain ⟨x, y, z, rfl, g⟩ := h
  exact ⟨x, y, z, updC_same, g⟩
theorem BagAt.mono {C : Cl} {b : Addr} {n m : Nat} (h : BagAt C b n) (l : n ≤ m) : BagAt C b m := by
  obtain ⟨x, y, z, e, g⟩ := h
  exact ⟨x, y, z, e, g.mono l⟩
theorem Bagged.mono {C C' : Cl} {b : Addr} {n m : Nat} (h : Bagged C b C' n) (l : n ≤ m) : Bagged C b C' m := by
  obtain ⟨x, y, z, e, g⟩ := h
  exact ⟨x, y, z, e, g.mono l⟩
theorem Bagged.trans {C C1 C2 : Cl} {b : Addr} {n m : Nat} (h : Bagged C b C1 n) (k : Bagged C1 b C2 m) : Bagged C b C2 m := by
  obtain ⟨x, y, z, rfl, g⟩ := h
  obtain ⟨x', y', z', rfl, g'⟩ := k
  exact ⟨x', y', z', updC_updC, g'⟩
theorem Bagged.ne {C C' : Cl} {b : Addr} {n : Nat} (h : Bagged C b C' n) {a : Addr} (e : a ≠ b) : C' a = C a := by
  obtain ⟨x, y, z, rfl, g⟩ := h
  exact updC_ne e
theorem updC_self {C : Cl} {a : Addr} {c : Cell} (h : C a = some c) : updC C a c = C := by
  funext b
  unfold updC
  by_cases e : b = a
  · rw [if_pos e, e, h]
  · rw [if_neg e]
theorem BagAt.self {C : Cl} {b : Addr} {n : Nat} (h : BagAt C b n) : Bagged C b C n := by
  obtain ⟨x, y, z, e, g⟩ := h
  exact ⟨x, y, z, (updC_self e).symm, g⟩
end G
namespace G
open PySem PySem.Spec PyProof.Rows L2
/-! ### callees with keywords; instances -/
abbrev DSp2 := List D → List D → Cl → DQ → DX → Prop
abbrev noX : DX := fun _ _ _ => False
section
variable (K : PySem.W.Frag) (cl : Nm)
def lowC2 (sp : DSp2) (vs zs : List V) (H : Hp) (Q : VK) (E : XK) : Prop := ∃ ds es C F Qd Ed, RC K cl C F H ∧ RepL K cl F vs ds ∧ RepL K cl F zs es ∧ sp ds es C Qd Ed ∧ Fin K cl F Qd Q ∧ FinX K cl F Ed E
end
/-- a def that is called with the keywords ks -/
def Cee (P : Program) (w : World) (K : PySem.W.Frag) (cl : Nm) (mg : Str → Option Value) (base : Heap) (CX : CXT) (k : Nat) (f : Addr) (ks : List Str) (sp : DSp2) : Prop :=
  ∀ (A : Around) (outer : List Env) (s : Shared) (H : Hp) (us ws : List Value) (vs zs : List V) (Q : VK) (E : XK), Room k A → Env0 P w K mg base A outer s H → Vals vs us → Vals zs ws → lowC2 K cl sp vs zs H Q E →
    codeAny (model P w) A (.call (.ref f) ⟨us, ks.zip ws⟩) (CR CX outer P w H s Q E) s
section
variable {P : Program} {w : World} {K : PySem.W.Frag} {cl : Nm} {mg : Str → Option Value} {base : Heap} {CX : CXT} {k n : Nat} {f : Addr} {fd : FuncData} {ps ks : List Str} {sp : DSp}
theorem Cee.mono {sp : DSp2} {j : Nat} (c : Cee P w K cl mg base CX j f ks sp) (h : j ≤ k) : Cee P w K cl mg base CX k f ks sp := fun A outer s H us ws vs zs Q E hr => c A outer s H us ws vs zs Q E (hr.mono h)
/-- all parameters written, but for defaults dd at the end -/
theorem Cee.pos {dv : List Value} {dw : List V} {dd : List D} (FG : FnOk P w K mg base CX k f fd ps (lowSp K cl sp)) (hb : Binds K fd ps dv) (hd : Vals dw dv) (hv : ∀ F, RepL K cl F dw dd) :
    Cee P w K cl mg base CX k f [] (fun ds es C Q E => es = [] ∧ sp (ds ++ dd) C Q E) := by
  rintro A outer s H us ws vs zs Q E hr e0 r rz ⟨ds, es, C, F, Qd, Ed, R, r1, r2, ⟨rfl, hq⟩, k1, k2⟩
  have hsp : lowSp K cl sp (vs ++ dw) H Q E := ⟨ds ++ dd, C, F, Qd, Ed, R, r1.append (hv F), hq, k1, k2⟩
  have r3 : Vals (vs ++ dw) (us ++ dv) := r.append hd
  have hl : (us ++ dv).length = ps.length := by rw [← r3.length]; exact FG.len _ _ _ _ hsp
  exact FG.run A outer s H ⟨us, []⟩ (us ++ dv) (vs ++ dw) Q E hr e0 (hb s us (e0.mod.kin.keeps fun b o e => (e0.bs b o e).1) hl) r3 hsp
/-- keywords -/
theorem Cee.kw {g : List Value → List Value → List Value} {gV : List V → List V → List V} {gD : List D → List D → List D} (FG : FnOk P w K mg base CX k f fd ps (lowSp K cl sp)) (hb : KBn K fd ps n ks g gV)
    (hg : ∀ F vs zs ds es, RepL K cl F vs ds → RepL K cl F zs es → ds.length = n → es.length = ks.length → RepL K cl F (gV vs zs) (gD ds es)) :
    Cee P w K cl mg base CX k f ks (fun ds es C Q E => ds.length = n ∧ es.length = ks.length ∧ sp (gD ds es) C Q E) := by
  rintro A outer s H us ws vs zs Q E hr e0 r rz ⟨ds, es, C, F, Qd, Ed, R, r1, r2, ⟨l1, l2, hq⟩, k1, k2⟩
  have hsp : lowSp K cl sp (gV vs zs) H Q E := ⟨gD ds es, C, F, Qd, Ed, R, hg F vs zs ds es r1 r2 l1 l2, hq, k1, k2⟩
  have n1 : us.length = n := by rw [← r.length, r1.length, l1]
  have n2 : ws.length = ks.length := by rw [← rz.length, r2.length, l2]
  exact FG.run A outer s H ⟨us, ks.zip ws⟩ (g us ws) (gV vs zs) Q E hr e0 (hb.to s us ws (e0.mod.kin.keeps fun b o e => (e0.bs b o e).1) n1 n2) (hb.rel r rz) hsp
end
section
variable {X : Cx} {cl : NmB} {CX : CXT} {k n : Nat} {f : Addr} {ks : List Str} {sp : DSp2} {E : XK} {pins : List (Addr × Obj)} {σ : L2.St} {H : Hp} {s : Shared}
theorem Cee.go {A : Around} {us ws : List Value} {vs zs : List V} {Q : VK} (c : Cee X.prog X.w X.K cl X.mg X.base CX k f ks sp) (hr : Room k A) (hf : A.frames = X.A.frames) (hx : Passes CX X E) (I : Inv X pins σ H s) (r : Vals vs us) (rz : Vals zs ws)
    (h : lowC2 X.K cl sp vs zs H Q E) : wpAny (model X.prog X.w) A (call (.ref f) us (ks.zip ws)) (EP X pins σ Q) X.xe s := by
  have e0 : Env0 X.prog X.w X.K X.mg X.base A X.stack s H := by
    have e := I.env0
    exact ⟨by rw [hf]; exact e.frames, e.mod, e.bs, e.bsz, e.funs, e.frf, e.hok, e.bare⟩
  refine wpAny_call (codeAny_mono (c A X.stack s H us ws vs zs Q E hr e0 r rz h) fun r s' hq => ?_)
  cases r with
  | error e => exact hx pins σ H s e s' I hq
  | ok fl =>
    cases fl with
    | ret u => exact I.after hq
    | next => exact False.elim hq
    | brk => exact False.elim hq
    | cont => exact False.elim hq
/-- the same as code, wanted at the reading's level, nothing let out -/
theorem Cee.code {A : Around} {us : List Value} {vs : List V} {ds : List D} {C : Cl} {F : Hp} {Qd : DQ} {Q : VK} (c : Cee X.prog X.w X.K cl X.mg X.base CX k f [] sp) (hr : Room k A) (hf : A.frames = X.A.frames) (hx : Passes CX X E0) (I : Inv X pins σ H s) (r : Vals vs us)
    (R : RC X.K cl C F H) (rl : RepL X.K cl F vs ds) (h : sp ds [] C Qd noX) (hq : Fin X.K cl F Qd Q) :
    codeAny (model X.prog X.w) A (.call (.ref f) ⟨us, []⟩) (fun res s' => match res with
      | .ok (.ret u) => EP X pins σ Q u s'
      | .ok _ => False
      | .error e => X.xe e s') s := by
  have e0 : Env0 X.prog X.w X.K X.mg X.base A X.stack s H := by
    have e := I.env0
    exact ⟨by rw [hf]; exact e.frames, e.mod, e.bs, e.bsz, e.funs, e.frf, e.hok, e.bare⟩
  refine codeAny_mono (c A X.stack s H us [] vs [] Q E0 hr e0 r .nil ⟨ds, [], C, F, Qd, noX, R, rl, .nil, h, hq, fun _ _ _ _ _ _ _ _ _ _ z => z.elim⟩) fun res s' z => ?_
  cases res with
  | error e => exact hx pins σ H s e s' I z
  | ok fl =>
    cases fl with
    | ret u => exact I.after z
    | next => exact False.elim z
    | brk => exact False.elim z
    | cont => exact False.elim z
/-- the same, wanted at the reading's level -/
theorem Cee.goD {A : Around} {us : List Value} {vs : List V} {ds : List D} {C : Cl} {F : Hp} {Qd : DQ} {Q : VK} (c : Cee X.prog X.w X.K cl X.mg X.base CX k f [] sp) (hr : Room k A) (hf : A.frames = X.A.frames) (hx : Passes CX X E0) (I : Inv X pins σ H s) (r : Vals vs us)
    (R : RC X.K cl C F H) (rl : RepL X.K cl F vs ds) (h : sp ds [] C Qd noX) (hq : Fin X.K cl F Qd Q) : wpAny (model X.prog X.w) A (call (.ref f) us) (EP X pins σ Q) X.xe s :=
  c.go (zs := []) (ws := []) hr hf hx I r .nil ⟨ds, [], C, F, Qd, noX, R, rl, .nil, h, hq, fun _ _ _ _ _ _ _ _ _ _ z => z.elim⟩
end

/-! ### instances: fields -/
def insOf (C : Cl) : D → Option (String × List (Str × D))
  | .ins c fs => some (c, fs)
  | .ref a => match C a with
    | some (.ins c fs) => some (c, fs)
    | _ => none
  | _ => none
section
variable {K : PySem.W.Frag} {cl : Nm} {C : Cl} {F H : Hp} {v : V} {d : D} {c : String} {fs : List (Str × D)}
theorem RepF.len : ∀ {vs : List (Str × V)} {ds : List (Str × D)}, RepF K cl F vs ds → vs.length = ds.length
  | _, _, .nil => rfl
  | _, _, .cons _ r => congrArg (· + 1) (RepF.len r)
theorem ins_ok (R : RC K cl C F H) (r : Rep K cl F v d) (h : insOf C d = some (c, fs)) : ∃ a dx vs, v = .ref a ∧ H a = some (.ins (cl c) dx vs) ∧ RepF K cl F vs fs := by
  cases r with
  | ins h1 h2 => cases h; exact ⟨_, _, _, rfl, R.sub _ _ h1, h2⟩
  | ref a =>
    unfold insOf at h
    dsimp only at h
    split at h
    · rename_i hc
      cases h
      obtain ⟨_, o, ho, cr⟩ := R.cel _ _ hc
      cases cr with
      | ins rf => exact ⟨_, _, _, rfl, ho, rf⟩
    · cases h
  | _ => cases h
def putD (f : Str) (v : D) : List (Str × D) → List (Str × D)
  | [] => [(f, v)]
  | (g, x) :: r => if g = f then (g, v) :: r else (g, x) :: putD f v r
theorem RepF.put {f : Str} {v : V} {d : D} (h : Rep K cl F v d) : ∀ {vs : List (Str × V)} {ds : List (Str × D)}, RepF K cl F vs ds → RepF K cl F (putF f v vs) (putD f d ds)
  | _, _, .nil => .cons h .nil
  | _, _, .cons (k := k) q r => by
    unfold putF putD
    by_cases e : k = f
    · rw [if_pos e, if_pos e]; exact .cons h r
    · rw [if_neg e, if_neg e]; exact .cons q (RepF.put h r)
end
/-- e.f of an instance of one of the classes cs -/
def dFld (cs : List String) (te : DE) (f : Str) : DE := fun ρ C Q => te ρ C fun d C1 => ∃ c fs v, c ∈ cs ∧ insOf C1 d = some (c, fs) ∧ fs.lookup f = some v ∧ Q v C1
/-- o.f = e -/
def dFldSet (cs : List String) (to te : DE) (f : Str) : DS := fun D ρ C => te ρ C fun y C1 => to ρ C1 fun x C2 => ∃ a c fs, c ∈ cs ∧ x = .ref a ∧ C2 a = some (.ins c fs) ∧ fs.length < 1000 ∧ D.nx ρ (updC C2 a (.ins c (putD f y fs)))
/-- what a class has for its field f -/
def FldOk (K : PySem.W.Frag) (cl : Nm) (f : Str) (cs : List String) : Prop := ∀ c ∈ cs, Cls K (cl c) ∧ NoAttr K (cl c) f
section
variable {K : PySem.W.Frag} {cl : Nm} {f : Str}
theorem fld_nil : FldOk K cl f [] := nofun
theorem fld_cons {c : String} {cs : List String} (h : Cls K (cl c)) (n : NoAttr K (cl c) f) (r : FldOk K cl f cs) : FldOk K cl f (c :: cs) := fun x hx => by
  rcases List.mem_cons.mp hx with e | e
  · rw [e]; exact ⟨h, n⟩
  · exact r x e
end
section
variable {X : Cx} {cl : NmB} {e o : Expr} {te to : DE} {pos pos' : Pos} {f : Str} {cs : List String}
theorem de_fld (he : PEd X cl e te) (hc : FldOk X.K cl f cs) (hb : attributeBase e f X.env (eval e X.env) = eval e X.env := by rfl) : PEd X cl (.Attribute e f pos) (dFld cs te f) := by
  refine weakE (pe_fld he hb) fun σ H Q ⟨ρ, C, F, Qd, R, h, k⟩ => ?_
  refine ⟨ρ, C, F, _, R, h, fun v d C1 H1 F1 s1 R1 r1 ⟨c, fs, x, hm, hi, hl, q1⟩ => ?_⟩
  obtain ⟨a, dx, vs, rfl, ha, rf⟩ := ins_ok R1 r1 hi
  obtain ⟨u, hu, ru⟩ := rf.get hl
  exact ⟨a, cl c, dx, vs, u, rfl, ha, (hc c hm).1, (hc c hm).2, hu, k u x C1 H1 F1 s1 R1 ru q1⟩
theorem ds_fld (ho : PEd X cl o to) (he : PEd X cl e te) (hc : FldOk X.K cl f cs) (hs : swapsWith e (some (.Attribute o f pos')) pos.line X.env = pure false := by rfl) : PSd X cl (.Assign [.Attribute o f pos'] e pos) (dFldSet cs to te f) := by
  refine weakS (ps_fld ho he hs) fun De σ H ⟨ρ, C, F, Dd, R, h, k⟩ => ?_
  refine ⟨ρ, C, F, _, R, h, fun v d C1 H1 F1 s1 R1 r1 q1 => ?_⟩
  refine ⟨ρ, C1, F1, _, R.next s1 R1, q1, fun v2 d2 C2 H2 F2 s2 R2 r2 ⟨a, c, fs, hm, e2, hc2, hl, q2⟩ => ?_⟩
  subst e2
  cases r2
  obtain ⟨_, ob, hob, cr⟩ := R2.cel _ _ hc2
  cases cr with
  | ins rf =>
    refine ⟨_, cl c, _, _, rfl, hob, (hc c hm).1, (hc c hm).2, by rw [rf.len]; exact hl, ?_⟩
    exact k.nx _ _ F2 _ _ (s1.trans s2) (R.next (s1.trans s2) (R2.put hc2 (.ins (rf.put (r1.mono s2))))) q2
end

/-! ### calls of methods, of classes, of static methods -/
abbrev PKd (X : Cx) (cl : NmB) (kws : List Keyword) (t : DA) : Prop := PK X kws (lowA X.K cl t)
def dMeth (c : String) (m : Str) (sp : DSp2) (to : DE) (t tk : DA) : DE := fun ρ C Q => to ρ C fun x C1 => ∃ fs, insOf C1 x = some (c, fs) ∧ fs.lookup m = none ∧ t ρ C1 fun xs C2 => tk ρ C2 fun zs C3 => sp (x :: xs) zs C3 Q noX
def dCal (sp : DSp2) (t tk : DA) : DE := fun ρ C Q => t ρ C fun xs C2 => tk ρ C2 fun zs C3 => sp xs zs C3 Q noX
def dMake (c : String) (sp : DSp2) (t tk : DA) : DE := fun ρ C Q => t ρ C fun xs C2 => tk ρ C2 fun zs C3 => ∀ x, C3 x = none → sp (.ref x :: xs) zs (updC C3 x (.ins c [])) (fun v C4 => v = .non ∧ Q (.ref x) C4) noX
/-- C.m is a static method: its record at p, its def at g -/
structure SMet (K : PySem.W.Frag) (C : Addr) (mc : Value) (m : Str) (p g : Addr) : Prop where
  at_ : PySem.W.findCls K (.ref C) mc m = some (.get (.builtin "staticmethod.__get__") (.ref p) .none (.ref C))
  rc : ∃ rest, PySem.W.recIn K p "staticmethod" = some (.ref g :: rest)
  kp : PySem.W.keepIn K (.ref g) = true
section
variable {X : Cx} {cl : NmB} {CX : CXT} {k : Nat} {g : Addr} {ks : List Str} {sp : DSp2} {e o : Expr} {es : List Expr} {kws : List Keyword} {to : DE} {t tk : DA} {pos apos p : Pos} {x m : Str} {c : String} {te : DE}
theorem dk_nil : PKd X cl [] dNil := ⟨fun pos pins s σ H Q I ⟨ρ, C, F, Qd, R, h, k⟩ => pk_nil.run pos pins s σ H Q I (k [] [] C H F (Same.refl F) R.rc .nil h)⟩
/-- the arguments, the keywords, then the callee -/
theorem cal_args {fv : Value} {first : List Value} {pins : List (Addr × Obj)} {s : Shared} {σ : L2.St} {H : Hp} (hk : PySem.W.keepIn X.K fv = true) (I : Inv X pins σ H s) (ha : PAd X cl (e :: es) t) (hkw : PKd X cl kws tk)
    {ρ : DEnv} {C : Cl} {F : Hp} (RR : RS X.K cl ρ C F σ H) {Qd : List D → List D → Cl → Prop} (h : t ρ C fun xs C2 => tk ρ C2 fun zs C3 => Qd xs zs C3) {Q : Value → Shared → Prop}
    (hq : ∀ us ws vs zs s2 H2 F2 C2 ds es, Inv X pins σ H2 s2 → Same F F2 → RC X.K cl C2 F2 H2 → Vals vs us → Vals zs ws → RepL X.K cl F2 vs ds → RepL X.K cl F2 zs es → Qd ds es C2 → wpAny (model X.prog X.w) X.A (call fv (first ++ us) (ks.zip ws)) Q X.xe s2)
    (hall : (backToKw pos (keywordEach kws X.env)).all (·.1.isSome) = true) (hks : (backToKw pos (keywordEach kws X.env)).filterMap (·.1) = ks) (he : starEach (e :: es) X.env = (false, eval e X.env) :: starEach es X.env)
    (hpl : ((backTo pos (starEach (e :: es) X.env)).any (·.1) || (backToKw pos (keywordEach kws X.env)).any (·.1.isNone)) = false) :
    wpAny (model X.prog X.w) X.A (callWith pos fv first (backTo pos (starEach (e :: es) X.env)) (backToKw pos (keywordEach kws X.env))) Q X.xe s := by
  refine PySem.W.callWith_KW (h₀ := X.base) I.ok.mod.kin hk hall (thn (ha.run pos pins s σ H (fun vs H1 => ∃ ds C1 F1, Same F F1 ∧ RC X.K cl C1 F1 H1 ∧ RepL X.K cl F1 vs ds ∧ tk ρ C1 fun zs C3 => Qd ds zs C3) I ⟨ρ, C, F, _, RR, h, fun vs ds C1 H1 F1 s1 R1 r1 q1 => ⟨ds, C1, F1, s1, R1, r1, q1⟩⟩) fun us s1 ⟨vs, H1, I1, r, ds, C1, F1, s1', R1, r1, q1⟩ => ?_) hpl he
  refine thn (hkw.run pos pins s1 σ H1 (fun zs H2 => ∃ es C2 F2, Same F1 F2 ∧ RC X.K cl C2 F2 H2 ∧ RepL X.K cl F2 zs es ∧ Qd ds es C2) I1 ⟨ρ, C1, F1, _, RR.next s1' R1, q1, fun zs es C2 H2 F2 s2 R2 r2 q2 => ⟨es, C2, F2, s2, R2, r2, q2⟩⟩) fun ws s2 ⟨zs, H2, I2, rz, es, C2, F2, s2', R2, r2, q2⟩ => ⟨I2.kIn, ?_⟩
  rw [hks]
  exact hq us ws vs zs s2 H2 F2 C2 ds es I2 (s1'.trans s2') R2 r rz (r1.mono s2') r2 q2
/-- f(e, .., k = v, ..) -/
theorem de_cal (fc : Cee X.prog X.w X.K cl X.mg X.base CX k g ks sp) (hr : Room k X.A) (hx : Passes CX X E0) (hm : X.mg x = some (.ref g)) (hk : PySem.W.keepIn X.K (.ref g) = true) (ha : PAd X cl (e :: es) t) (hkw : PKd X cl kws tk)
    (hg : Gl X x := by rfl) (hall : (backToKw pos (keywordEach kws X.env)).all (·.1.isSome) = true := by rfl) (hks : (backToKw pos (keywordEach kws X.env)).filterMap (·.1) = ks := by rfl) (hdb : (x == ("__debug__" : Str)) = false := by decide)
    (he : starEach (e :: es) X.env = (false, eval e X.env) :: starEach es X.env := by rfl) (hpl : ((backTo pos (starEach (e :: es) X.env)).any (·.1) || (backToKw pos (keywordEach kws X.env)).any (·.1.isNone)) = false := by rfl) :
    PEd X cl (.Call (.Name x p) (e :: es) kws pos) (dCal sp t tk) := by
  refine ⟨fun pins s σ H Q I ⟨ρ, C, F, Qd, R, h, kq⟩ => ?_⟩
  refine wpAny_Call_Name_kw (ld_glob I hg hm ?_ hdb)
  refine cal_args (first := []) hk I ha hkw R h (fun us ws vs zs s2 H2 F2 C2 ds es I2 s2' R2 r rz r1 r2 q2 => ?_) hall hks he hpl
  exact fc.go hr rfl hx I2 r rz ⟨ds, es, C2, F2, Qd, noX, R2, r1, r2, q2, kq.at s2', fun _ _ _ _ _ _ _ _ _ _ z => z.elim⟩
/-- o.m(e, .., k = v, ..) -/
theorem de_meth {pl : Sem Bool} (fc : Cee X.prog X.w X.K cl X.mg X.base CX k g ks sp) (hr : Room k X.A) (hx : Passes CX X E0) (hcl : Cls X.K (cl c)) (hm : Meth X.K (cl c) m g) (ho : PEd X cl o to) (ha : PAd X cl (e :: es) t) (hkw : PKd X cl kws tk)
    (hall : (backToKw pos (keywordEach kws X.env)).all (·.1.isSome) = true := by rfl) (hks : (backToKw pos (keywordEach kws X.env)).filterMap (·.1) = ks := by rfl)
    (he : starEach (e :: es) X.env = (false, eval e X.env) :: starEach es X.env := by rfl) (hpl : ((backTo pos (starEach (e :: es) X.env)).any (·.1) || (backToKw pos (keywordEach kws X.env)).any (·.1.isNone)) = false := by rfl)
    (ht : eval (.Call (.Attribute o m apos) (e :: es) kws pos) X.env = (do
      let ov ← eval o X.env
      standAt apos.atName
      let (f, first) ← holding [ov] (getMethod ov m pl)
      callWith pos f first (backTo pos (starEach (e :: es) X.env)) (backToKw pos (keywordEach kws X.env))) := by rfl) :
    PEd X cl (.Call (.Attribute o m apos) (e :: es) kws pos) (dMeth c m sp to t tk) := by
  refine ⟨fun pins s σ H Q I ⟨ρ, C, F, Qd, R, h, kq⟩ => ?_⟩
  refine PySem.W.methodCall_KW (pl := pl) (thn (ho.run pins s σ H (fun v H1 => ∃ d C1 F1, Same F F1 ∧ RC X.K cl C1 F1 H1 ∧ Rep X.K cl F1 v d ∧ ∃ fs, insOf C1 d = some (c, fs) ∧ fs.lookup m = none ∧ t ρ C1 fun xs C2 => tk ρ C2 fun zs C3 => sp (d :: xs) zs C3 Qd noX) I
    ⟨ρ, C, F, _, R, h, fun v d C1 H1 F1 s1 R1 r1 q1 => ⟨d, C1, F1, s1, R1, r1, q1⟩⟩) fun u s1 ⟨v, H1, I1, rv, d, C1, F1, s1', R1, r1, fs, hi, hl, q1⟩ => ?_) ht
  obtain ⟨a, dx, vs, rfl, ha1, rf⟩ := ins_ok R1 r1 hi
  obtain rfl : u = Value.ref a := rv
  refine getmeth_ok I1 ha1 hcl hm (rf.none_of hl) ?_
  refine cal_args (first := [.ref a]) hm.kp I1 ha hkw (R.next s1' R1) q1 (fun us ws vs zs s2 H2 F2 C2 ds es I2 s2' R2 r rz rl r2 q2 => ?_) hall hks he hpl
  exact fc.go (us := .ref a :: us) (vs := .ref a :: vs) hr rfl hx I2 (.cons rfl r) rz ⟨d :: ds, es, C2, F2, Qd, noX, R2, .cons (r1.mono s2') rl, r2, q2, kq.at (s1'.trans s2'), fun _ _ _ _ _ _ _ _ _ _ z => z.elim⟩
/-- C.m(e, .., k = v, ..), m a static method -/
theorem de_smeth {pl : Sem Bool} {Ca q : Addr} {mc : Value} (fc : Cee X.prog X.w X.K cl X.mg X.base CX k g ks sp) (hr : Room k X.A) (hx : Passes CX X E0) (hmg : X.mg x = some (.ref Ca)) (r : ClX.CRead X.K Ca mc) (hm : SMet X.K Ca mc m q g) (ha : PAd X cl (e :: es) t) (hkw : PKd X cl kws tk)
    (hg : Gl X x := by rfl) (hall : (backToKw pos (keywordEach kws X.env)).all (·.1.isSome) = true := by rfl) (hks : (backToKw pos (keywordEach kws X.env)).filterMap (·.1) = ks := by rfl) (hdb : (x == ("__debug__" : Str)) = false := by decide)
    (he : starEach (e :: es) X.env = (false, eval e X.env) :: starEach es X.env := by rfl) (hpl : ((backTo pos (starEach (e :: es) X.env)).any (·.1) || (backToKw pos (keywordEach kws X.env)).any (·.1.isNone)) = false := by rfl)
    (ht : eval (.Call (.Attribute (.Name x p) m apos) (e :: es) kws pos) X.env = (do
      let ov ← eval (.Name x p) X.env
      standAt apos.atName
      let (f, first) ← holding [ov] (getMethod ov m pl)
      callWith pos f first (backTo pos (starEach (e :: es) X.env)) (backToKw pos (keywordEach kws X.env))) := by rfl) :
    PEd X cl (.Call (.Attribute (.Name x p) m apos) (e :: es) kws pos) (dCal sp t tk) := by
  refine ⟨fun pins s σ H Q I ⟨ρ, C, F, Qd, R, h, kq⟩ => ?_⟩
  refine PySem.W.methodCall_KW (pl := pl) (ld_glob I hg hmg ?_ hdb) ht
  obtain ⟨rest, hp⟩ := hm.rc
  refine PySem.W.method_cls I.kIn r.ga (PySem.W.cls_bind I.kIn r.rd hm.at_ (wpAny_call (PySem.W.sm_get (s := { s with toks := s.toks + 1 }) I.kIn hp (PySem.W.handed_on rfl ?_))))
  refine cal_args (first := []) hm.kp (I.tok _) ha hkw R h (fun us ws vs zs s2 H2 F2 C2 ds es I2 s2' R2 r rz r1 r2 q2 => ?_) hall hks he hpl
  exact fc.go hr rfl hx I2 r rz ⟨ds, es, C2, F2, Qd, noX, R2, r1, r2, q2, kq.at s2', fun _ _ _ _ _ _ _ _ _ _ z => z.elim⟩
end
end G
namespace G
open PySem PySem.Spec PyProof.Rows L2
/-! ### a new instance; own special methods -/
section
variable {X : Cx} {cl : NmB} {CX : CXT} {k : Nat} {g : Addr} {ks : List Str} {sp : DSp2} {e o : Expr} {es : List Expr} {kws : List Keyword} {to : DE} {t tk : DA} {pos apos p : Pos} {x m : Str} {c : String} {te : DE}
theorem Cee.make {us ws : List Value} {vs zs : List V} {ds es : List D} {C : Cl} {F H : Hp} {pins : List (Addr × Obj)} {s : Shared} {σ : L2.St} {Qd : DQ} {Q : VK} (fc : Cee X.prog X.w X.K cl X.mg X.base CX k g ks sp) (M : Mk X.K (cl c) g) (hr : Room (k + 1) X.A) (hx : Passes CX X E0)
    (I : Inv X pins σ H s) (r : Vals vs us) (rz : Vals zs ws) (R : RC X.K cl C F H) (rl : RepL X.K cl F vs ds) (rs : RepL X.K cl F zs es)
    (h : ∀ x, C x = none → sp (.ref x :: ds) es (updC C x (.ins c [])) (fun v C4 => v = .non ∧ Qd (.ref x) C4) noX) (kq : Fin X.K cl F Qd Q) :
    wpAny (model X.prog X.w) X.A (call (.ref (cl c)) us (ks.zip ws)) (EP X pins σ Q) X.xe s := by
  have n1 : H (s.heap.objs.size + 1) = none := I.hok.fresh (Nat.le_succ _)
  have n2 : H s.heap.objs.size = none := I.hok.fresh (Nat.le_refl _)
  have ne : s.heap.objs.size ≠ s.heap.objs.size + 1 := Nat.ne_of_lt (Nat.lt_succ_self _)
  have I2 := Inv.made (C := cl c) I
  have R1 : RC X.K cl C F (upd H s.heap.objs.size (.own (s.heap.objs.size + 1))) := R.over (same_upd n2)
  have n3 : (upd H s.heap.objs.size (.own (s.heap.objs.size + 1))) (s.heap.objs.size + 1) = none := by rw [upd_ne (Ne.symm ne)]; exact n1
  have R2 : RC X.K cl (updC C (s.heap.objs.size + 1) (.ins c [])) F (upd (upd H s.heap.objs.size (.own (s.heap.objs.size + 1))) (s.heap.objs.size + 1) (.ins (cl c) s.heap.objs.size [])) := R1.cell n3 (.ins .nil)
  have hq := h (s.heap.objs.size + 1) (R.freeC n1)
  have low : lowC2 X.K cl sp (V.ref (s.heap.objs.size + 1) :: vs) zs (upd (upd H s.heap.objs.size (.own (s.heap.objs.size + 1))) (s.heap.objs.size + 1) (.ins (cl c) s.heap.objs.size [])) (fun v H3 => v = .non ∧ Q (.ref (s.heap.objs.size + 1)) H3) E0 :=
    ⟨.ref (s.heap.objs.size + 1) :: ds, es, _, F, _, noX, R2, .cons (.ref _) rl, rs, hq, fun v d C3 H3 F3 s3 R3 r3 ⟨e3, q3⟩ => by subst e3; cases r3; exact ⟨rfl, kq _ _ C3 H3 F3 s3 R3 (.ref _) q3⟩, fun _ _ _ _ _ _ _ _ _ _ z => z.elim⟩
  refine wpAny_call (make_map (f := g) I.kIn M.makes M.init (beq_iff_eq.mp M.fn) (codeAny_mono (fc _ X.stack _ _ (Value.ref (s.heap.objs.size + 1) :: us) ws (V.ref (s.heap.objs.size + 1) :: vs) zs _ _ (hr.make (cl c) us (ks.zip ws)) (I2.env0.make (cl c) us (ks.zip ws)) (.cons rfl r) rz low) fun rr s' hq' => ?_))
  cases rr with
  | error er => exact hx pins σ _ _ er s' I2 hq'
  | ok fl =>
    cases fl with
    | ret u =>
      obtain ⟨v, H', I3, rv, ev, q3⟩ := I2.after hq'
      subst ev
      exact ⟨rv, ⟨V.ref (s.heap.objs.size + 1), H', I3, rfl, q3⟩⟩
    | next => exact False.elim hq'
    | brk => exact False.elim hq'
    | cont => exact False.elim hq'
/-- C(e, .., k = v, ..) -/
theorem de_make (fc : Cee X.prog X.w X.K cl X.mg X.base CX k g ks sp) (M : Mk X.K (cl c) g) (hr : Room (k + 1) X.A) (hx : Passes CX X E0) (hm : X.mg x = some (.ref (cl c))) (ha : PAd X cl (e :: es) t) (hkw : PKd X cl kws tk)
    (hg : Gl X x := by rfl) (hall : (backToKw pos (keywordEach kws X.env)).all (·.1.isSome) = true := by rfl) (hks : (backToKw pos (keywordEach kws X.env)).filterMap (·.1) = ks := by rfl) (hdb : (x == ("__debug__" : Str)) = false := by decide)
    (he : starEach (e :: es) X.env = (false, eval e X.env) :: starEach es X.env := by rfl) (hpl : ((backTo pos (starEach (e :: es) X.env)).any (·.1) || (backToKw pos (keywordEach kws X.env)).any (·.1.isNone)) = false := by rfl) :
    PEd X cl (.Call (.Name x p) (e :: es) kws pos) (dMake c sp t tk) := by
  refine ⟨fun pins s σ H Q I ⟨ρ, C, F, Qd, R, h, kq⟩ => ?_⟩
  refine wpAny_Call_Name_kw (ld_glob I hg hm ?_ hdb)
  refine cal_args (first := []) M.kp I ha hkw R h (fun us ws vs zs s2 H2 F2 C2 ds es I2 s2' R2 r rz r1 r2 q2 => ?_) hall hks he hpl
  exact fc.make M hr hx I2 r rz R2 r1 r2 q2 (kq.at s2')
/-- the instance as the library sees it -/
theorem inst_at {pins : List (Addr × Obj)} {s : Shared} {σ : L2.St} {H : Hp} {a dx : Addr} {vs : List (Str × V)} (I : Inv X pins σ H s) (h : H a = some (.ins (cl c) dx vs)) : ∃ ox od, PySem.W.InstAt s.heap a ox (cl c) (some od) := by
  obtain ⟨mA, J, _⟩ := ins_get I.hok h
  obtain ⟨od, J, _⟩ := J.look
  exact ⟨_, _, J⟩
/-- an own special method m of the class c: its def at g -/
structure Spc (K : PySem.W.Frag) (cl : Nm) (c : String) (m : Str) (g : Addr) : Prop where
  at_ : PySem.W.findIn K (.ref (cl c)) m = some (some (.ref g))
  fn : PySem.W.isFn K (.ref g) = true
def rInO (c : String) (sp : DSp2) (neg : Bool) : RD2 := fun x y C Q => ∃ fs, insOf C y = some (c, fs) ∧ sp [y, x] [] C (fun d C1 => ∃ b, d = .bl b ∧ Q (.bl (neg.xor b)) C1) noX
theorem od_inO (fc : Cee X.prog X.w X.K cl X.mg X.base CX k g [] sp) (hr : Room k X.A) (hx : Passes CX X E0) (S : Spc X.K cl c "__contains__" g) : OpD X cl (compareOp .In) (rInO c sp false) := by
  intro pins s σ H x y v u Q I rx ry ⟨dx, dy, C, F, Qd, R, r1, r2, ⟨fs, hi, h⟩, kq⟩
  obtain ⟨a, ad, vs, rfl, ha, rf⟩ := ins_ok R r2 hi
  cases ry
  obtain ⟨ox, od, J⟩ := inst_at I ha
  obtain ⟨m, hF⟩ := I.fr
  refine PySem.W.in_K hF I.ok.mod.kin J S.at_ S.fn ?_
  refine thn (fc.goD (vs := [.ref a, x]) hr rfl hx I (.cons rfl (.cons rx .nil)) R (.cons r2 (.cons r1 .nil)) h (Q := fun v H1 => ∃ b, v = .bl b ∧ Q (.bl b) H1) fun w d C1 H1 F1 s1 R1 rd ⟨b, e, q⟩ => ?_) fun w s2 ⟨z, H2, I2, rz, b, ez, q⟩ => ?_
  · subst e; cases rd
    rw [Bool.false_xor] at q
    exact ⟨b, rfl, kq _ _ C1 H1 F1 s1 R1 (.bl b) q⟩
  · subst ez; cases rz
    exact wpAny_truthy_bool ⟨.bl b, H2, I2, rfl, q⟩
end
end G
namespace G
open PySem PySem.Spec PyProof.Rows L2
/-! ### how the values written stand to the parameters -/
def pos2 (sp : DSp) (dd : List D) : DSp2 := fun ds es C Q E => es = [] ∧ sp (ds ++ dd) C Q E
section
variable {P : Program} {w : World} {K : PySem.W.Frag} {cl : Nm} {mg : Str → Option Value} {base : Heap} {CX : CXT} {k n : Nat} {f : Addr} {fd : FuncData} {ps ks : List Str} {sp : DSp}
theorem Cee.posD {dv : List Value} {dw : List V} {dd : List D} (FG : FnOk P w K mg base CX k f fd ps (lowSp K cl sp)) (hb : Binds K fd ps dv) (hd : Vals dw dv) (hv : ∀ F, RepL K cl F dw dd) : Cee P w K cl mg base CX k f [] (pos2 sp dd) := Cee.pos FG hb hd hv
end

/-! ### three names at once -/
def dPar3 (i j l : Nat) (t : DA) : DS := fun D ρ C => t ρ C fun ds C2 => ∃ u v w, ds = [u, v, w] ∧ D.nx (((ρ.set i (some u)).set j (some v)).set l (some w)) C2
theorem ds_par3 {X : Cx} {cl : NmB} (i j l : Nat) {x y z : Str} {a b c : Expr} {t : DA} {px py pz pt pos : Pos} {kt k2 pt2} (hN : X.N.Nodup) (ha : PAd X cl [a, b, c] t) (hc : X.calm = true := by rfl) (hi : X.N[i]? = some x := by rfl) (hj : X.N[j]? = some y := by rfl) (hl : X.N[l]? = some z := by rfl) (hij : i ≠ j := by decide) (hil : i ≠ l := by decide) (hjl : j ≠ l := by decide)
    (hx : X.env.scope.names.lookup x = some .local := by rfl) (hy : X.env.scope.names.lookup y = some .local := by rfl) (hz : X.env.scope.names.lookup z = some .local := by rfl)
    (hw : swappedStores [.Tuple [.Name x px, .Name y py, .Name z pz] kt pt] (.Tuple [a, b, c] k2 pt2) X.env = pure (some [x, y, z]) := by rfl)
    (hs : swapsWithSole [.Tuple [.Name x px, .Name y py, .Name z pz] kt pt] (.Tuple [a, b, c] k2 pt2) pos.line X.env = pure false := by rfl) :
    PSd X cl (.Assign [.Tuple [.Name x px, .Name y py, .Name z pz] kt pt] (.Tuple [a, b, c] k2 pt2) pos) (dPar3 i j l t) := by
  refine weakS (ps_par3 hc hN hi hj hl hij hil hjl hx hy hz ha hw hs) fun De σ H ⟨ρ, C, F, Dd, R, h, k⟩ => ?_
  refine ⟨ρ, C, F, _, R, h, fun vs ds C1 H1 F1 s1 R1 r1 ⟨u, v, w, e, q⟩ => ?_⟩
  subst e
  cases r1 with
  | cons ru rr =>
    cases rr with
    | cons rv rr =>
      cases rr with
      | cons rw' rr =>
        cases rr
        exact ⟨_, _, _, rfl, k.nx _ _ F1 _ _ s1 ((((R.next s1 R1).set i ru).set j rv).set l rw') q⟩
/-! ### names of classes, their constants -/
section
variable {X : Cx} {cl : NmB} {x f : Str} {c : String} {pos p : Pos}
/-! ### isinstance of own classes -/
/-- what isinstance wants of an own class whose instances are asked for -/
structure OwnTy (K : PySem.W.Frag) (cl : Nm) (c : String) : Prop where
  cls : Cls K (cl c)
  ha : PySem.W.findIn K (.ref (cl c)) "__class__" = some (some (.builtin "object.__class__"))
  hn : PySem.W.specialIn K (.builtin "object.__class__") "__get__" = some (some (.builtin "getset_descriptor.__get__"))
  tk : PySem.W.takesIn K (.builtin "object.__class__") = some true
  hm : PySem.W.mroIn K (cl c) (.type "object") = some true
/-- the built-in things are no instances of c; those of cs are told -/
structure IsiOwn (K : PySem.W.Frag) (cl : Nm) (c : String) (cs : List String) : Prop where
  blt : ∀ n ∈ (["NoneType", "bool", "int", "str", "list", "tuple", "dict"] : List String), PySem.W.kitOne K (.type n) (.ref (cl c)) = some false
  own : ∀ b ∈ cs, OwnTy K cl b ∧ PySem.W.kitOne K (.ref (cl b)) (.ref (cl c)) = some (b == c)
end

/-! ### f-strings -/
section
variable {X : Cx} {cl : NmB} {e : Expr} {te : DE} {pos : Pos} {K : PySem.W.Frag}
end
end G
namespace G
open PySem PySem.Spec PyProof.Rows L2
/-! ### new lists that are to change -/
/-- a list that stands, or that changes -/
def lstC (C : Cl) : D → Option (List D)
  | .lst ds => some ds
  | .ref a => cellL C a
  | _ => none
theorem lstC_ok {K : PySem.W.Frag} {cl : Nm} {C : Cl} {F H : Hp} {v : V} {d : D} {ds : List D} (R : RC K cl C F H) (r : Rep K cl F v d) (h : lstC C d = some ds) : ∃ a xs, v = .ref a ∧ H a = some (.lst xs) ∧ RepL K cl F xs ds := by
  cases r with
  | lst h1 h2 => cases h; exact ⟨_, _, rfl, R.sub _ _ h1, h2⟩
  | ref a =>
    have hc := cellL_eq (show cellL C a = some ds from h)
    obtain ⟨_, o, ho, cr⟩ := R.cel _ _ hc
    cases cr with
    | lst rl => exact ⟨_, _, rfl, ho, rl⟩
  | _ => cases h
def rAddC : RD2 := fun x y C Q => ∃ xs ys, lstC C x = some xs ∧ lstC C y = some ys ∧ xs.length + ys.length ≤ sizeLine ∧ ∀ p, C p = none → Q (.ref p) (updC C p (.lst (xs ++ ys)))
section
variable {X : Cx} {cl : NmB}
theorem od_addC : OpD X cl (binaryOp .Add) rAddC := by
  intro pins s σ H x y v u Q I rx ry ⟨dx, dy, C, F, Qd, R, r1, r2, ⟨ds, es, h1, h2, sz, q⟩, k⟩
  obtain ⟨a, xs, rfl, ha, l1⟩ := lstC_ok R r1 h1
  obtain ⟨b, ys, rfl, hb, l2⟩ := lstC_ok R r2 h2
  refine op_cat pins s σ H _ _ v u Q I rx ry ⟨_, _, xs, ys, rfl, rfl, ha, hb, ?_, fun p np => ?_⟩
  · rw [l1.length, l2.length]; exact sz
  · exact k _ _ _ _ F (Same.refl F) (R.cell np (.lst (l1.append l2))) (.ref p) (q p (R.freeC np))
/-- list(x), to be changed -/
def rListC : RDC := fun xs C Q => ∃ x ds, xs = [x] ∧ seqOf C x = some ds ∧ ∀ p, C p = none → Q (.ref p) (updC C p (.lst ds))
theorem cd_listC : CallD X cl (.type "list") rListC := by
  intro pins s σ H xs us Q I r ⟨ds, C, F, Qd, R, rl, ⟨x, es, e, hb, q⟩, k⟩
  subst e
  cases rl with
  | cons r1 rr =>
    cases rr
    obtain ⟨a, ys, rfl, hs, hl⟩ := seq_ok R r1 hb
    refine call_list_of pins s σ H _ us Q I r ⟨a, ys, rfl, hs, fun p np => ?_⟩
    exact k _ _ _ _ F (Same.refl F) (R.cell np (.lst hl)) (.ref p) (q p (R.freeC np))
end
end G
namespace G
open PySem PySem.Spec PyProof.Rows L2
/-! ### things that can be compared whole -/
def Sh (n : Nat) (d : D) : Prop := plain d = true ∧ (toPy d).canLay0 = true ∧ (toPy d).depth ≤ n
def ShL (n : Nat) (ds : List D) : Prop := plainL ds = true ∧ PyData.canLayAll0 (toPyL ds) = true ∧ PyData.depthAll (toPyL ds) ≤ n
theorem sh_nil {n : Nat} : ShL n [] := by
  refine ⟨by unfold plainL; rfl, by unfold toPyL PyData.canLayAll0; rfl, ?_⟩
  unfold toPyL PyData.depthAll
  exact Nat.zero_le _
theorem sh_cons {n : Nat} {d : D} {ds : List D} (h : Sh n d) (r : ShL n ds) : ShL n (d :: ds) := by
  obtain ⟨a1, a2, a3⟩ := h
  obtain ⟨b1, b2, b3⟩ := r
  refine ⟨by unfold plainL; rw [a1, b1]; rfl, by unfold toPyL PyData.canLayAll0; rw [a2, b2]; rfl, ?_⟩
  unfold toPyL PyData.depthAll
  exact Nat.max_le.mpr ⟨a3, b3⟩
theorem sh_tup {n : Nat} {ds : List D} (h : ShL n ds) : Sh (n + 1) (.tup ds) := by
  obtain ⟨a1, a2, a3⟩ := h
  refine ⟨by unfold plain; exact a1, by unfold toPy PyData.canLay0; exact a2, ?_⟩
  unfold toPy PyData.depth
  omega
theorem sh_lst {n : Nat} {ds : List D} (h : ShL n ds) : Sh (n + 1) (.lst ds) := by
  obtain ⟨a1, a2, a3⟩ := h
  refine ⟨by unfold plain; exact a1, by unfold toPy PyData.canLay0; exact a2, ?_⟩
  unfold toPy PyData.depth
  omega
theorem sh_non {n : Nat} : Sh n .non := ⟨by unfold plain; rfl, by unfold toPy PyData.canLay0; rfl, by unfold toPy PyData.depth; omega⟩
def small (l : List Nat) : Bool := l.all fun c => decide (c < 1114112)
theorem sh_str {n : Nat} {l : List Nat} (h : small l = true) : Sh n (.str l) := by
  refine ⟨by unfold plain; rfl, ?_, by unfold toPy PyData.depth; omega⟩
  unfold toPy PyData.canLay0 PyData.strOk
  rw [List.all_toArray]
  exact h
theorem Sh.mono {n m : Nat} {d : D} (h : Sh n d) (e : n ≤ m) : Sh m d := ⟨h.1, h.2.1, Nat.le_trans h.2.2 e⟩
theorem Sh.shp {n : Nat} {d : D} (h : Sh n d) (e : n ≤ 64 := by decide) : shp d = true := by
  unfold G.shp SeqAt.shaped
  rw [h.1, h.2.1, decide_eq_true (Nat.le_trans h.2.2 e)]
  rfl
theorem eqT_self {n : Nat} {d : D} (h : Sh n d) : eqT d d = true := SeqAt.eqv_refl _ h.2.1
theorem sh_txts {n : Nat} : ∀ {ls : List (List Nat)}, (∀ l ∈ ls, small l = true) → ShL n (txts ls)
  | [], _ => sh_nil
  | l :: ls, h => sh_cons (sh_str (h l (by simp))) (sh_txts fun z hz => h z (by simp [hz]))
end G
set_option maxHeartbeats 4000000
namespace PySem.W
open Lean Elab Tactic Meta PySem PySem.Spec PySem.Calls PyProof.Rows
section
variable {prog : Program} {w : World} {M : Model} {A : Around} {E : Value → Shared → Prop} {s : Shared} {K : Frag} {x C f L : Addr} {h₀ : Heap} {m : Str → Option Value} {ox : Obj} {od : Option Obj} {b tb : Value}
end
end PySem.W
namespace G
open PySem PySem.Spec PyProof.Rows L2
/-! ### own == and != -/
/-- what != wants of a class with its own ==: object's != , == at g -/
structure NeO (K : PySem.W.Frag) (cl : Nm) (c : String) : Prop where
  ne : PySem.W.findIn K (.ref (cl c)) "__ne__" = some (some (.builtin "object.__ne__"))
  hm : PySem.W.mroIn K (cl c) (.type "object") = some true
section
variable {X : Cx} {cl : NmB} {CX : CXT} {k : Nat} {g : Addr} {sp : DSp2} {c : String}
end
end G
namespace G
open PySem PySem.Spec PyProof.Rows L2
/-! ### dicts -/
/-- a key -/
def keyD : D → Option Key
  | .int i => some (.inl i)
  | .str l => some (.inr ⟨l.toArray⟩)
  | _ => none
def keysD : List D → Option (List Key)
  | [] => some []
  | d :: ds => match keyD d, keysD ds with
    | some k, some ks => some (k :: ks)
    | _, _ => none
section
variable {κ : Type} [DecidableEq κ]
def valD (kvs : List (κ × D)) (k : κ) : Option D := (kvs.find? fun kv => decide (kv.1 = k)).map (·.2)
def putKD (kvs : List (κ × D)) (k : κ) (v : D) : List (κ × D) :=
  if (kvs.any fun kv => decide (kv.1 = k)) = true then kvs.map (fun kv => if kv.1 = k then (kv.1, v) else kv) else kvs ++ [(k, v)]
theorem valD_pos {p : κ × D} {r : List (κ × D)} {k : κ} (e : p.1 = k) : valD (p :: r) k = some p.2 := by
  unfold valD; rw [List.find?_cons_of_pos (by simpa using e)]; rfl
theorem valD_neg {p : κ × D} {r : List (κ × D)} {k : κ} (e : ¬ p.1 = k) : valD (p :: r) k = valD r k := by
  unfold valD; rw [List.find?_cons_of_neg (by simpa using e)]
theorem valD_cons {p : κ × D} {r : List (κ × D)} {k : κ} : valD (p :: r) k = if p.1 = k then some p.2 else valD r k := by
  split
  · rename_i e; exact valD_pos e
  · rename_i e; exact valD_neg e
theorem valD_any (k : κ) : ∀ kvs : List (κ × D), (kvs.any fun kv => decide (kv.1 = k)) = (valD kvs k).isSome
  | [] => rfl
  | p :: r => by
    rw [List.any_cons, valD_cons, valD_any k r]
    by_cases e : p.1 = k
    · simp [e]
    · simp [e]
theorem putKD_len (kvs : List (κ × D)) (k : κ) (v : D) : (putKD kvs k v).length ≤ kvs.length + 1 := by
  unfold putKD
  split
  · simp
  · simp
end
section
variable {K : PySem.W.Frag} {cl : Nm} {F : Hp}
theorem repK_val (k : Key) : ∀ {vs : List (Key × V)} {ds : List (Key × D)}, RepK K cl F vs ds → (valD ds k = none → valV vs k = none) ∧ ∀ d, valD ds k = some d → ∃ v, valV vs k = some v ∧ Rep K cl F v d
  | _, _, .nil => ⟨fun _ => rfl, nofun⟩
  | _, _, .cons (k := j) (v := v) (d := d) (vs := vs) (ds := ds) r t => by
    obtain ⟨i1, i2⟩ := repK_val k t
    by_cases e : j = k
    · rw [valD_pos (p := (j, d)) e, valV_pos (p := (j, v)) e]
      exact ⟨nofun, fun d' h => by cases h; exact ⟨_, rfl, r⟩⟩
    · rw [valD_neg (p := (j, d)) e, valV_neg (p := (j, v)) e]
      exact ⟨i1, i2⟩
theorem repK_some (k : Key) {vs : List (Key × V)} {ds : List (Key × D)} (r : RepK K cl F vs ds) : (valV vs k).isSome = (valD ds k).isSome := by
  rw [← valV_any, ← valD_any]
  induction ds generalizing vs with
  | nil => cases r; rfl
  | cons p ds ih => cases r with | cons _ t => rw [List.any_cons, List.any_cons, ih t]
theorem RepK.length : ∀ {vs : List (Key × V)} {ds : List (Key × D)}, RepK K cl F vs ds → vs.length = ds.length
  | _, _, .nil => rfl
  | _, _, .cons _ t => congrArg (· + 1) (RepK.length t)
theorem RepT.length : ∀ {vs : List (List Key × V)} {ds : List (List Key × D)}, RepT K cl F vs ds → vs.length = ds.length
  | _, _, .nil => rfl
  | _, _, .cons _ t => congrArg (· + 1) (RepT.length t)
theorem repK_map {k : Key} {y : V} {x : D} (r : Rep K cl F y x) : ∀ {vs : List (Key × V)} {ds : List (Key × D)}, RepK K cl F vs ds → RepK K cl F (vs.map fun kv => if kv.1 = k then (kv.1, y) else kv) (ds.map fun kv => if kv.1 = k then (kv.1, x) else kv)
  | _, _, .nil => .nil
  | _, _, .cons (k := j) h t => by
    rw [List.map_cons, List.map_cons]
    by_cases e : j = k
    · simp only [e, if_true]; exact .cons r (repK_map r t)
    · simp only [e, if_false]; exact .cons h (repK_map r t)
theorem repK_app : ∀ {vs ws : List (Key × V)} {ds es : List (Key × D)}, RepK K cl F vs ds → RepK K cl F ws es → RepK K cl F (vs ++ ws) (ds ++ es)
  | _, _, _, _, .nil, s => s
  | _, _, _, _, .cons h t, s => .cons h (repK_app t s)
theorem repK_any (k : Key) : ∀ {vs : List (Key × V)} {ds : List (Key × D)}, RepK K cl F vs ds → (vs.any fun kv => decide (kv.1 = k)) = ds.any fun kv => decide (kv.1 = k)
  | _, _, .nil => rfl
  | _, _, .cons _ t => by rw [List.any_cons, List.any_cons, repK_any k t]
theorem repK_put {k : Key} {y : V} {x : D} (r : Rep K cl F y x) {vs : List (Key × V)} {ds : List (Key × D)} (h : RepK K cl F vs ds) : RepK K cl F (putK vs k y) (putKD ds k x) := by
  unfold putK putKD
  rw [repK_any k h]
  split
  · exact repK_map r h
  · exact repK_app h (.cons r .nil)
theorem key_rep {v : V} {d : D} {k : Key} (r : Rep K cl F v d) (h : keyD d = some k) : v = kV k := by
  cases r with
  | int i => cases h; rfl
  | str l => cases h; rfl
  | _ => cases h
end
/-- the entries of a dict that stands, or that changes -/
def dicOf (C : Cl) : D → Option (List (Key × D))
  | .dic kvs => some kvs
  | .ref a => match C a with
    | some (.dic kvs) => some kvs
    | some (.dil _ _ kvs) => some kvs
    | _ => none
  | _ => none
theorem dicOf_ref {C : Cl} {p : Addr} {kvs : List (Key × D)} (h : C p = some (.dic kvs)) : dicOf C (.ref p) = some kvs := by
  show (match C p with | some (.dic kvs) => some kvs | some (.dil _ _ kvs) => some kvs | _ => none) = _
  rw [h]
section
variable {K : PySem.W.Frag} {cl : Nm} {C : Cl} {F H : Hp} {v : V} {d : D}
theorem dic_ok {kvs : List (Key × D)} (R : RC K cl C F H) (r : Rep K cl F v d) (h : dicOf C d = some kvs) : ∃ a vs, v = .ref a ∧ Rd H a (.dK vs) ∧ RepK K cl F vs kvs := by
  cases r with
  | dic h1 h2 => cases h; exact ⟨_, _, rfl, .inr ⟨_, R.sub _ _ h1⟩, h2⟩
  | ref a =>
    unfold dicOf at h
    dsimp only at h
    split at h
    · rename_i kvs' hc
      cases h
      obtain ⟨_, o, ho, c⟩ := R.cel _ _ hc
      cases c with
      | dic rl => exact ⟨_, _, rfl, .inl ho, rl⟩
    · rename_i o vs kvs' hc
      cases h
      obtain ⟨_, o, ho, c⟩ := R.cel _ _ hc
      cases c with
      | dil rl => exact ⟨_, _, rfl, .inr ⟨_, ho⟩, rl⟩
    · cases h
  | _ => cases h
end
/-! readings -/
def rGetK : RD2 := fun x y C Q => ∃ kvs k v, dicOf C x = some kvs ∧ keyD y = some k ∧ valD kvs k = some v ∧ Q v C
def rNotInK : RD2 := fun y x C Q => ∃ kvs k, dicOf C x = some kvs ∧ keyD y = some k ∧ Q (.bl (!(valD kvs k).isSome)) C
/-- d[k] = v -/
def dPutK (to tk tv : DE) : DS := fun D ρ C => tv ρ C fun v C1 => to ρ C1 fun x C2 => tk ρ C2 fun y C3 => ∃ a kvs k, x = .ref a ∧ C3 a = some (.dic kvs) ∧ keyD y = some k ∧ kvs.length < sizeLine ∧ D.nx ρ (updC C3 a (.dic (putKD kvs k v)))
/-- {} -/
def dNewK : DE := fun _ C Q => ∀ p, C p = none → Q (.ref p) (updC C p (.dic []))
section
variable {X : Cx} {cl : NmB} {o i e f : Expr} {es : List Expr} {to tk tv tx : DE} {t : DA} {pos pos' kpos apos cpos : Pos} {kk : Nat} {n : Nat}
theorem de_getK (hr : Room n X.A) (ho : PEd X cl o to) (hi : PEd X cl i tk) (hs : NoSl i := by intro _ _; rfl) : PEd X cl (.Subscript o i pos) (dOp rGetK to tk) := by
  refine weakE (pe_dget (hu_of hr.r) ho hi hs) fun σ H Q ⟨ρ, C, F, Qd, R, h, k⟩ => ?_
  refine ⟨ρ, C, F, _, R, h, fun x dx C1 H1 F1 s1 R1 r1 q1 => ?_⟩
  refine ⟨ρ, C1, F1, _, R.next s1 R1, q1, fun y dy C2 H2 F2 s2 R2 r2 ⟨kvs, kc, v, e1, e2, e3, q⟩ => ?_⟩
  obtain ⟨a, vs, rfl, hd, rk⟩ := dic_ok R2 (r1.mono s2) e1
  obtain ⟨u, hu, ru⟩ := (repK_val kc rk).2 v e3
  rw [key_rep r2 e2]
  exact ⟨a, u, rfl, .inl ⟨vs, kc, hd, rfl, hu.symm⟩, k u v C2 H2 F2 (s1.trans s2) R2 ru q⟩
theorem de_newK : PEd X cl (.Dict [] [] pos) dNewK := by
  refine weakE pe_dnewK fun σ H Q ⟨ρ, C, F, Qd, R, h, k⟩ p np => ?_
  exact k _ _ _ _ _ (Same.refl F) (R.rc.cell np (.dic .nil)) (.ref p) (h p (R.rc.freeC np))
theorem cell_dic {K : PySem.W.Frag} {C : Cl} {F H : Hp} {a : Addr} {kvs : List (Key × D)} (R : RC K cl C F H) (h : C a = some (.dic kvs)) : ∃ vs, H a = some (.dK vs) ∧ RepK K cl F vs kvs := by
  obtain ⟨_, o, ho, c⟩ := R.cel _ _ h
  cases c with
  | dic rl => exact ⟨_, ho, rl⟩
theorem ds_putK {value : Expr} (hr : Room n X.A) (ho : PEd X cl o to) (hi : PEd X cl i tk) (hv : PEd X cl value tv) (hs : swapsWith value (some (.Subscript o i pos')) pos.line X.env = pure false := by rfl) : PSd X cl (.Assign [.Subscript o i pos'] value pos) (dPutK to tk tv) := by
  refine weakS (ps_dput (hu_of hr.r) ho hi hv hs) fun De σ H ⟨ρ, C, F, Dd, R, h, k⟩ => ?_
  refine ⟨ρ, C, F, _, R, h, fun v dv C1 H1 F1 s1 R1 r1 q1 => ?_⟩
  refine ⟨ρ, C1, F1, _, R.next s1 R1, q1, fun x dx C2 H2 F2 s2 R2 r2 q2 => ?_⟩
  refine ⟨ρ, C2, F2, _, R.next (s1.trans s2) R2, q2, fun y dy C3 H3 F3 s3 R3 r3 ⟨a, kvs, kc, e1, e2, e3, hl, q⟩ => ?_⟩
  subst e1
  cases r2
  obtain ⟨vs, hd, rk⟩ := cell_dic R3 e2
  rw [key_rep r3 e3]
  refine ⟨a, _, rfl, DPut.k hd (by rw [rk.length]; exact hl), ?_⟩
  have R4 := R3.put e2 (o := .dK (putK vs kc v)) (.dic (repK_put (r1.mono (s2.trans s3)) rk))
  exact k.nx ρ _ F3 σ _ (s1.trans (s2.trans s3)) (R.next (s1.trans (s2.trans s3)) R4) q
end
end G
set_option maxHeartbeats 4000000
namespace PySem.W
open Lean Elab Tactic Meta PySem PySem.Calls PyProof.Rows PyProof.V PySem.Spec
section
variable {prog : Program} {w : World} {K : Type} [DecidableEq K] {knd : HeapKind prog w K} {A : Around} {E : Value → Shared → Prop} {s : Shared}
/-- the entries of one dict, looked up in another one -/
inductive GHits {K : Type} [DecidableEq K] (A : Around) (s : Shared) (kb : List (K × Addr × Value)) : List (K × Addr × Value) → Bool → Prop
  | nil : GHits A s kb [] true
  | miss {k : K} {p : Addr × Value} {r : List (K × Addr × Value)} : atKey kb k = none → GHits A s kb ((k, p) :: r) false
  | hit {k : K} {p q : Addr × Value} {r : List (K × Addr × Value)} {e b : Bool} : atKey kb k = some q → SeqAt.EqAt A s p.2 q.2 e → GHits A s kb r b → GHits A s kb ((k, p) :: r) (e && b)
end
end PySem.W
set_option maxHeartbeats 4000000
namespace G
open PySem PySem.Spec PyProof.Rows L2
/-! ### == of a tree and itself, whatever stands in it; == of dicts -/
section
variable {X : Cx} {cl : NmB} {CX : CXT} {k n : Nat} {g : Addr} {sp : DSp2} {c : String}
/-! dicts with keys of texts and texts as values -/
end
end G
set_option maxHeartbeats 4000000
namespace G
open PySem PySem.Spec PyProof.Rows L2
/-! ### reversed, [::-1] -/
section
variable {X : Cx} {cl : NmB} {tg e : Expr} {te : DE} {K : PySem.W.Frag} {pos : Pos}
theorem walk_rev {F : Hp} {a : Addr} {xs : List V} {ds : List D} (h : SqL K F a xs) (r : RepL K cl F xs ds) : Walk K cl (Itv K a xs.length) ds.reverse F := by
  intro i C F1 H s R
  have h1 : SqL K H a xs := R.sub.seq (s.seq h)
  have el := r.length
  refine ⟨fun x hx => ?_, fun hi => by show xs.length ≤ i; rw [List.length_reverse] at hi; omega⟩
  have hi : i < ds.length := by have := (List.getElem?_eq_some_iff.mp hx).1; rwa [List.length_reverse] at this
  rw [List.getElem?_reverse hi] at hx
  obtain ⟨v, hv, rv⟩ := r.get hx
  rw [← el] at hv
  refine ⟨⟨by omega, xs, v, h1, hv⟩, fun v' H' ⟨e, y⟩ => ?_⟩
  subst e
  have e2 := y xs h1
  rw [hv] at e2
  cases e2
  exact ⟨F1, Same.refl F1, R, rv.mono s⟩
def diRev (t : DA) : DI := fun ρ C R => t ρ C fun ds C1 => ∃ x xs, ds = [x] ∧ lstOf x = some xs ∧ R xs.reverse C1
theorem di_rev {e : Expr} {t : DA} {p pos : Pos} (hm : X.mg "reversed" = none) (ha : PAd X cl [e] t) (hg : Gl X "reversed" := by rfl) (hs : starEach [e] X.env = [(false, eval e X.env)] := by rfl) : PId X cl tg (.Call (.Name "reversed" p) [e] [] pos) (diRev t) := by
  refine weakI (pi_reversed hg hm ha hs) fun σ H R ⟨ρ, C, F, Rd, RR, h, k⟩ => ?_
  refine ⟨ρ, C, F, _, RR, h, fun vs ds C1 H1 F1 s1 R1 r1 ⟨x, xs, e, e2, q1⟩ => ?_⟩
  subst e
  cases r1 with
  | cons r rr =>
    cases rr
    obtain ⟨a, ys, rfl, hs, rl⟩ := r.asL e2
    exact ⟨a, ys, rfl, R1.sub.seq hs, k _ _ C1 H1 F1 s1 R1 (walk_rev hs rl) q1⟩
end
/-! ### own operators -/
section
variable {X : Cx} {cl : NmB} {CX : CXT} {k : Nat} {g : Addr} {sp : DSp2} {c : String}
end
/-! ### properties, classmethods, a class in a local name -/
section
variable {X : Cx} {cl : NmB} {CX : CXT} {k : Nat} {g p : Addr} {fd : FuncData} {sp : DSp} {sp2 : DSp2} {c : String} {e o : Expr} {es : List Expr} {te to : DE} {t tk : DA} {pos apos : Pos} {f m : Str}
end
end G
set_option maxHeartbeats 4000000
namespace PySem
open Sem (wp)
open PyProof.Rows Builtin
set_option maxHeartbeats 4000000 in
theorem gen_meets_enumerate_newB {v : Value} {o : Obj} {H : Heap → Prop} (B : Begins v o H) :
    Meets (Builtin.«enumerate.__new__» ⟨[.type "enumerate", v], []⟩) (fun _ R s => H s.heap ∧
      R (.ok (.ret (.ref (s.heap.push o).objs.size))) { s with heap := (s.heap.push o).push { cls := .type "enumerate", data := .fields #[.none, .bool false, .ref s.heap.objs.size, rawInt 0, .none, .none] } }) :=
  .of_wp fun prog w A R s h => by
    obtain ⟨hp, g, d, tk, os⟩ := s; obtain ⟨h1, h⟩ := h
    have hsub := sub_enumerate
    have q1 : ∀ {A' : Around} {E : Value → Shared → Prop} {Q : Value → Shared → Prop}, Q (.ref hp.objs.size) ⟨hp.push o, g, d, tk, os⟩ → wpAny (model prog w) A' (pyIter v) Q E ⟨hp, g, d, tk, os⟩ :=
      fun q => B.iter prog w _ _ ⟨hp, g, d, tk, os⟩ _ h1 q
    wp_walk using q1
    refine wpAny_stack_any fun st => wpAny_pure ?_
    split
    · rename_i c _ _ _ _ _
      cases (c == Value.type "enumerate")
      · wp_walk using q1
        exact ⟨_, rfl, h⟩
      · wp_walk using q1
        exact ⟨_, rfl, h⟩
    · wp_walk using q1
      exact ⟨_, rfl, h⟩
section
variable {prog : Program} {w : World} {A : Around} {E : Value → Shared → Prop} {s : Shared}
theorem gen_enum_begins {v : Value} {o : Obj} {H : Heap → Prop} {Q : Value → Shared → Prop} (B : Begins v o H) (h1 : H s.heap)
    (h : ∀ h', IsEnum h' (s.heap.objs.size + 1) s.heap.objs.size 0 .none → h'.get? s.heap.objs.size = some o → h'.objs.size = s.heap.objs.size + 2 →
      (∀ b o, s.heap.get? b = some o → h'.get? b = some o) → Q (.ref (s.heap.objs.size + 1)) { s with heap := h' }) :
    wpAny (model prog w) A (call (.type "enumerate") [v]) Q E s := by
  refine callType_new F.called_enumerate (by decide) (F.typeCall_enumerate_1 _) (F.newCall_enumerate_1 _) (fun obj => F.args_object_init_2 obj _) F.entry_enumerate_new
    (gen_meets_enumerate_newB B) ⟨h1, ?_⟩
  have hz : (s.heap.push o).objs.size = s.heap.objs.size + 1 := Heap.size_push ..
  show _ ∧ _
  rw [hz]
  have he : IsEnum ((s.heap.push o).push { cls := .type "enumerate", data := .fields #[.none, .bool false, .ref s.heap.objs.size, rawInt 0, .none, .none] }) (s.heap.objs.size + 1) s.heap.objs.size 0 .none := by
    have := Heap.get?_push_size (s.heap.push o) (o := { cls := .type "enumerate", data := .fields #[.none, .bool false, .ref s.heap.objs.size, rawInt 0, .none, .none] }) rfl
    rw [hz] at this; exact this
  refine ⟨⟨_, he, rfl⟩, h _ he (Heap.get?_push_of_some _ (Heap.get?_push_size _ B.free)) (by rw [Heap.size_push, hz]) fun b o x => Heap.get?_push_of_some _ (Heap.get?_push_of_some _ x)⟩
end
end PySem
namespace G
open PySem PySem.Spec PyProof.Rows L2
/-! ### what an iterator walks: a list, a tuple, a text -/
inductive ItS where
  | lst (a : Addr)
  | tup (a : Addr)
  | txt (x : Str) (t : Tok)
def ItS.at (j : ItS) (h : Heap) (it : Addr) (i : Nat) : Prop := match j with
  | .lst a => h.IsListIter it a i
  | .tup a => h.IsTupleIter it a i
  | .txt x t => h.IsStrIter it (strIterType x) x t i
def ItS.src (K : PySem.W.Frag) (H : Hp) (j : ItS) (xs : List V) : Prop := match j with
  | .lst a => SqL K H a xs
  | .tup a => SqT K H a xs
  | .txt x _ => xs = x.cps.toList.map fun c => V.str ⟨#[c]⟩
def ItS.fp (j : ItS) (it : Addr) : List Addr := match j with
  | .lst a => [it, a]
  | .tup a => [it, a]
  | .txt _ _ => [it]
def ItS.val : ItS → Value
  | .lst a => .ref a
  | .tup a => .ref a
  | .txt x t => .str x t
/-- the cell of the thing walked is not that address -/
def ItS.off (j : ItS) (b : Addr) : Prop := match j with
  | .lst a => a ≠ b
  | .tup a => a ≠ b
  | .txt _ _ => True
theorem Vals.getV' : ∀ {xs : List V} {us : List Value} {i : Nat} {u : Value}, Vals xs us → us[i]? = some u → ∃ x, xs[i]? = some x ∧ RelV x u
  | _, _, _, _, .nil, e => by simp at e
  | _, _, 0, _, .cons r _, e => by simp at e; subst e; exact ⟨_, rfl, r⟩
  | _, _, i + 1, x, .cons _ t, e => by
    obtain ⟨u, h1, h2⟩ := Vals.getV' (i := i) (u := x) t (by simpa using e)
    exact ⟨u, by simpa using h1, h2⟩
section
variable {X : Cx} {pins : List (Addr × Obj)} {σ : L2.St} {H : Hp} {s : Shared}
theorem ItS.inj {j : ItS} (I : Inv X pins σ H s) {xs ys : List V} (h : j.src X.K H xs) (k : j.src X.K H ys) : xs = ys := by
  cases j with
  | lst a => exact I.list_inj h k
  | tup a => exact I.tuple_inj h k
  | txt x t => exact h.trans k.symm
theorem ItS.keep {j : ItS} {h h' : Heap} {it : Addr} {i : Nat} (st : j.at h it i) (k : ∀ o, h.get? it = some o → h'.get? it = some o) : j.at h' it i := by
  cases j with
  | lst a => exact Heap.IsListIter.at st k
  | tup a => exact Heap.IsTupleIter.at st k
  | txt x t => obtain ⟨o, e, c⟩ := st; exact ⟨o, k o e, c⟩
theorem ItS.obj {j : ItS} {h : Heap} {it : Addr} {i : Nat} (st : j.at h it i) : ∃ o, h.get? it = some o ∧ ∀ v, o.data ≠ .cell v := by
  cases j with
  | lst a => obtain ⟨o, e, _, d⟩ := st; exact ⟨o, e, fun v q => by rw [d] at q; cases q⟩
  | tup a => obtain ⟨o, e, _, d⟩ := st; exact ⟨o, e, fun v q => by rw [d] at q; cases q⟩
  | txt x t => obtain ⟨o, e, _, d⟩ := st; exact ⟨o, e, fun v q => by rw [d] at q; cases q⟩
theorem ItS.draw {j : ItS} {A : Around} {it : Addr} {i : Nat} {xs : List V} (I : Inv X pins σ H s) (hh : A.handled = none) (ne : j.off it) (h : j.src X.K H xs) (st : j.at s.heap it i) :
    ∃ n P St, Draws X.prog X.w A it (j.fp it) n P St ∧ n = xs.length ∧ St i s.heap ∧ (∀ x, P i x → ∃ v, xs[i]? = some v ∧ RelV v x) ∧ ∀ k h', St k h' → j.at h' it k := by
  cases j with
  | lst a =>
    obtain ⟨its, rv, p, hz⟩ := I.list h
    refine ⟨_, _, _, Draws.list hh it a ne its.toArray, ?_, ⟨st, p.isList⟩, fun x hx => ?_, fun k h' q => q.1⟩
    · simpa using rv.length.symm
    · exact Vals.getV' rv (by simpa using hx)
  | tup a =>
    obtain ⟨its, rv, p, hz⟩ := I.tuple h
    refine ⟨_, _, _, Draws.tuple hh it a ne its.toArray, ?_, ⟨st, show s.heap.IsTuple a its.toArray from p⟩, fun x hx => ?_, fun k h' q => q.1⟩
    · simpa using rv.length.symm
    · exact Vals.getV' rv (by simpa using hx)
  | txt x t =>
    refine ⟨_, _, _, Draws.text hh it x t, ?_, st, fun y ⟨c, u, hc, e⟩ => ?_, fun k h' q => q⟩
    · rw [show xs = _ from h]; simp
    · rw [show xs = _ from h]
      refine ⟨.str ⟨#[c]⟩, ?_, ⟨u, e⟩⟩
      rw [List.getElem?_map, Array.getElem?_toList, hc]; rfl
theorem ItS.lt {j : ItS} {xs : List V} (I : Inv X pins σ H s) (h : j.src X.K H xs) : ∀ b, s.heap.objs.size ≤ b → j.off b ∧ b ∉ (match j with | .lst a => [a] | .tup a => [a] | .txt _ _ => []) := by
  intro b hb
  cases j with
  | lst a =>
    obtain ⟨its, rv, p, hz⟩ := I.list h
    have : a < s.heap.objs.size := p.lt
    have ne : a ≠ b := Nat.ne_of_lt (Nat.lt_of_lt_of_le this hb)
    exact ⟨ne, fun m => ne (List.mem_singleton.mp m).symm⟩
  | tup a =>
    obtain ⟨its, rv, ⟨o, e, _⟩, hz⟩ := I.tuple h
    have : a < s.heap.objs.size := Heap.lt_size e
    have ne : a ≠ b := Nat.ne_of_lt (Nat.lt_of_lt_of_le this hb)
    exact ⟨ne, fun m => ne (List.mem_singleton.mp m).symm⟩
  | txt x t => exact ⟨trivial, by simp⟩
theorem ItS.mem_fp {j : ItS} {it b : Addr} (h : b ∈ j.fp it) : b = it ∨ b ∈ (match j with | .lst a => [a] | .tup a => [a] | .txt _ _ => ([] : List Addr)) := by
  cases j <;> simpa [ItS.fp] using h
end
def ItE (K : PySem.W.Frag) (j : ItS) : It :=
  ⟨fun i H => ∃ xs x, j.src K H xs ∧ xs[i]? = some x, fun i H v H' => ∃ T x, v = .ref T ∧ H T = none ∧ H' = upd H T (.tup [.int (i : Nat), x]) ∧ ∀ xs, j.src K H xs → xs[i]? = some x, fun i H => ∃ xs, j.src K H xs ∧ xs.length = i⟩
theorem turn_enumS {P : Program} {w : World} {K : PySem.W.Frag} {elts : List Expr} {kk : Nat} {tpos : Pos} (j : ItS) (e it : Addr) :
    Turn P w K (.Tuple elts kk tpos) (ItE K j) [e, it] e (fun i h => (∃ old, IsEnum h e it ((i : Nat) : Int) old) ∧ j.at h it i ∧ e ≠ it ∧ e ∉ j.fp it ∧ j.off it) where
  mem := by simp
  obj := fun i h st b hb => by
    obtain ⟨⟨old, he⟩, hit, _⟩ := st
    have e' : b = e ∨ b = it := by simpa using hb
    rcases e' with z | z
    · rw [z]; exact ⟨_, he, fun v q => nomatch q⟩
    · rw [z]; exact ItS.obj hit
  keep := fun i h h' st k => let ⟨⟨old, he⟩, hi, hne⟩ := st; ⟨⟨old, k e (by simp) _ he⟩, ItS.keep hi fun o q => k it (by simp) o q, hne⟩
  item := by
    intro X hP hw hK hc i pins s σ H E I hf st hg
    subst hP hw hK
    obtain ⟨⟨old, he⟩, hit, hne, hnf, hoff⟩ := st
    obtain ⟨xs, x, hq, hx⟩ := hg
    obtain ⟨n, P, St, D, hn, hst, hP, hback⟩ := ItS.draw (A := X.A.in1) I (show X.A.in1.handled = none from I.ok.hd hc) hoff hq hit
    have hel : e < s.heap.objs.size := Heap.lt_size he
    have hil : it < s.heap.objs.size := by obtain ⟨_, q, _⟩ := ItS.obj hit; exact Heap.lt_size q
    have hlt : i < n := by rw [hn]; exact (List.getElem?_eq_some_iff.mp hx).1
    refine wpAny_pyNext_enum_itemD D he hst hlt hne hnf fun u h' tk hPu ho hst' hT hsz hk => ?_
    obtain ⟨x', hx', ru⟩ := hP u hPu
    rw [hx] at hx'; cases hx'
    refine ⟨_, rfl, wpAny_letOwnedTupleGo_enum (s := { s with heap := h', toks := tk + 1 }) ho fun h'' he' sb => ?_⟩
    have hT2 : h''.get? s.heap.objs.size = some { cls := .type "tuple", data := .seq #[.int i tk, u] } := (sb.2 _ (Nat.ne_of_gt hel)).trans hT
    have new : ObjOk X.prog X.w (upd H s.heap.objs.size (.tup [.int (i : Nat), x])) h'' s.heap.objs.size (.tup [.int (i : Nat), x]) :=
      ⟨by show 2 ≤ sizeLine; decide, [.int i tk, u], .cons ⟨_, rfl⟩ (.cons ru .nil), ⟨_, hT2, rfl, _, rfl⟩⟩
    have I1 : Inv X pins σ (upd H s.heap.objs.size (.tup [.int (i : Nat), x])) { s with heap := h'', toks := tk + 1 } :=
      I.turnedNew (ch := [e, it]) (fun b ob hb q => (sb.2 b (fun z => hb (by simp [z]))).trans (hk b ob (fun z => hb (by simp [z])) (fun z => hb (by simp [z])) q)) hf (Nat.le_refl _) new
    refine ⟨.ref s.heap.objs.size, _, I1, rfl, ⟨_, x, rfl, I.hok.fresh (Nat.le_refl _), rfl, fun ys hy => by rw [ItS.inj I hy hq]; exact hx⟩, ⟨⟨u, ?_⟩, ItS.keep (hback _ _ hst') fun o q => (sb.2 it (Ne.symm hne)).trans q, hne, hnf, hoff⟩, fun b hb => ?_⟩
    · have e1 : ((i + 1 : Nat) : Int) = (i : Int) + 1 := by omega
      rw [e1]; exact he'
    · have hb' : b < s.heap.objs.size := by
        have e' : b = e ∨ b = it := by simpa using hb
        rcases e' with z | z
        · rw [z]; exact hel
        · rw [z]; exact hil
      rw [upd_ne (Nat.ne_of_lt hb')]
      exact (hf b hb).1
  done := by
    intro X hP hw hK hc i pins s σ H E I hf st hg
    subst hP hw hK
    obtain ⟨⟨old, he⟩, hit, hne, hnf, hoff⟩ := st
    obtain ⟨xs, hq, hx⟩ := hg
    obtain ⟨n, P, St, D, hn, hst, hP, hback⟩ := ItS.draw (A := X.A.in1) I (show X.A.in1.handled = none from I.ok.hd hc) hoff hq hit
    obtain ⟨f0, f1, f2, f3, f4, f5⟩ := hf it (by simp)
    rw [hn, hx] at D
    exact wpAny_pyNext_enum_endD D he hst fun h' eb => ⟨rfl, I.turned (t' := s.toks) (fun b o hb q => eb b o hb q) f0 f1 f3 f4 f5⟩
  self := fun A i s Q E st h => let ⟨⟨_, he⟩, _⟩ := st; wpAny_pyIter_enum he h
/-- a value that is walked, and what is wanted of the walk -/
def SrcR (K : PySem.W.Frag) (H : Hp) (v : V) (xs : List V) (R : ItS → Prop) : Prop := (∃ a, v = .ref a ∧ SqL K H a xs ∧ R (.lst a)) ∨ (∃ a, v = .ref a ∧ SqT K H a xs ∧ R (.tup a)) ∨ ∃ x : Str, v = .str x ∧ xs = (x.cps.toList.map fun c => V.str ⟨#[c]⟩) ∧ ∀ t, R (.txt x t)
theorem SrcR.it {X : Cx} {pins : List (Addr × Obj)} {σ : L2.St} {H : Hp} {s : Shared} {v : V} {u : Value} {xs : List V} {R : ItS → Prop} (I : Inv X pins σ H s) (h : SrcR X.K H v xs R) (r : RelV v u) :
    ∃ (j : ItS) (o : Obj) (Hd : Heap → Prop), u = j.val ∧ j.src X.K H xs ∧ Begins u o Hd ∧ Hd s.heap ∧ (∀ h it, h.get? it = some o → j.at h it 0) ∧ R j := by
  rcases h with ⟨a, rfl, h, q⟩ | ⟨a, rfl, h, q⟩ | ⟨x, rfl, rfl, q⟩
  · cases r
    obtain ⟨its, rv, p, hz⟩ := I.list h
    exact ⟨.lst a, _, _, rfl, h, begins_list a its.toArray, p.isList, fun h it e => ⟨_, e, rfl, rfl⟩, q⟩
  · cases r
    obtain ⟨its, rv, p, hz⟩ := I.tuple h
    exact ⟨.tup a, _, _, rfl, h, begins_tuple a its.toArray, show s.heap.IsTuple a its.toArray from p, fun h it e => ⟨_, e, rfl, rfl⟩, q⟩
  · obtain ⟨t, rfl⟩ := (show ∃ t, u = Value.str x t from r)
    exact ⟨.txt x t, _, _, rfl, rfl, begins_text x t, trivial, fun h it e => ⟨_, e, rfl, rfl⟩, q t⟩
def iEnumS (K : PySem.W.Frag) (ta : TA) : TI := fun σ H R => ta σ H fun vs H1 => ∃ v xs, vs = [v] ∧ SrcR K H1 v xs fun j => R (ItE K j) H1
theorem pi_enumS {X : Cx} {e : Expr} {ta : TA} {p pos tpos : Pos} {elts : List Expr} {kk : Nat} (hg : Gl X "enumerate") (hm : X.mg "enumerate" = none) (ha : PA X [e] ta) (hs : starEach [e] X.env = [(false, eval e X.env)] := by rfl) :
    PI X (.Tuple elts kk tpos) (.Call (.Name "enumerate" p) [e] [] pos) (iEnumS X.K ta) := by
  refine ⟨fun pins s σ H R I h => ?_⟩
  refine Call_ (ld_blt I hg hm boot_enumerate (PyProof.Rows.callWith_type1 (thn (ha.run pos pins s σ H _ I h) fun us s1 ⟨vs, H1, I1, r1, q1⟩ => ?_) hs rfl))
  obtain ⟨v, xs, ex, hq⟩ := q1
  subst ex
  cases r1 with
  | cons r rr =>
    rename_i u _
    cases rr
    obtain ⟨j, o, Hd, hu, hsrc, B, h1, hat, qq⟩ := hq.it I1 r
    have hoff := ItS.lt I1 hsrc
    refine gen_enum_begins B h1 fun h' he ho hsz hk => wpAny_pyIter_enum he ?_
    have I2 : Inv X pins σ H1 { s1 with heap := h' } := I1.kept (t' := s1.toks) hk
    refine ⟨s1.heap.objs.size + 1, [s1.heap.objs.size + 1, s1.heap.objs.size], _, _, H1, rfl, I2, turn_enumS j (s1.heap.objs.size + 1) s1.heap.objs.size, ⟨⟨.none, he⟩, hat _ _ ho, Nat.succ_ne_self _, fun z => ?_, (hoff _ (Nat.le_refl _)).1⟩, fun b hb => ?_, qq⟩
    · rcases ItS.mem_fp z with z | z
      · exact Nat.succ_ne_self _ z
      · exact (hoff _ (Nat.le_succ _)).2 z
    · have e' : b = s1.heap.objs.size + 1 ∨ b = s1.heap.objs.size := by simpa using hb
      have hle : s1.heap.objs.size ≤ b := by
        rcases e' with z | z
        · rw [z]; exact Nat.le_add_right _ _
        · rw [z]; exact Nat.le_refl _
      exact I1.fpOk hle (I1.hok.fresh hle)
/-! zip -/
/-! as trees -/
def srcOf : D → Option (List D)
  | .lst ds => some ds
  | .rol ds => some ds
  | .tup ds => some ds
  | .str l => some (signs l)
  | _ => none
section
variable {K : PySem.W.Frag} {cl : Nm} {F H : Hp} {v : V} {d : D} {ds : List D}
theorem rep_signs : ∀ l : List Nat, RepL K cl F (l.map fun c => V.str ⟨#[c]⟩) (signs l)
  | [] => .nil
  | c :: l => .cons (.str [c]) (rep_signs l)
theorem src_mono {j : ItS} {xs : List V} (s : Same F H) (h : j.src K F xs) : j.src K H xs := by
  cases j with
  | lst a => exact s.seq (show SqL K F a xs from h)
  | tup a => exact sqT_mono s (show SqT K F a xs from h)
  | txt x t => exact h
theorem src_ok (r : Rep K cl F v d) (h : srcOf d = some ds) : ∃ xs, RepL K cl F xs ds ∧ ∀ (H : Hp) (R : ItS → Prop), Same F H → (∀ j : ItS, j.src K F xs → R j) → SrcR K H v xs R := by
  cases r with
  | lst h1 h2 => cases h; exact ⟨_, h2, fun H R s k => .inl ⟨_, rfl, s.seq (.of h1), k (.lst _) (SqL.of h1)⟩⟩
  | rol h1 h2 => cases h; exact ⟨_, h2, fun H R s k => .inl ⟨_, rfl, s.seq h1, k (.lst _) h1⟩⟩
  | tup h1 h2 => cases h; exact ⟨_, h2, fun H R s k => .inr (.inl ⟨_, rfl, sqT_mono s h1, k (.tup _) h1⟩)⟩
  | str l => cases h; exact ⟨_, rep_signs l, fun H R s k => .inr (.inr ⟨_, rfl, rfl, fun t => k (.txt _ t) rfl⟩)⟩
  | _ => cases h
theorem walk_enumS {j : ItS} {xs : List V} (h : j.src K F xs) (r : RepL K cl F xs ds) : Walk K cl (ItE K j) (numbered 0 ds) F := by
  intro i C F1 H s R
  have h1 : j.src K H xs := src_mono (s.trans R.sub) h
  refine ⟨fun x hx => ?_, fun hi => ⟨xs, h1, by rw [r.length]; rw [numbered_length] at hi; exact hi⟩⟩
  obtain ⟨d, hd, rfl⟩ := numbered_get hx
  obtain ⟨v, hv, rv⟩ := r.get hd
  refine ⟨⟨xs, v, h1, hv⟩, fun v' H' ⟨T, x, e1, nT, e2, y⟩ => ?_⟩
  subst e1 e2
  have e2 := y xs h1
  rw [hv] at e2
  cases e2
  have s2 := same_upd (o := .tup [.int (i : Nat), v]) (R.freeF nT)
  refine ⟨_, s2, R.new nT, .tup (.of upd_same) ?_⟩
  rw [Nat.zero_add]
  exact .cons (.int _) (.cons ((rv.mono s).mono s2) .nil)
end
section
variable {X : Cx} {cl : NmB} {tg e e2 : Expr} {t : DA} {p pos tpos : Pos} {elts : List Expr} {kk : Nat}
/-- enumerate(x) of a list, a tuple, a text -/
def diEnumS (t : DA) : DI := fun ρ C R => t ρ C fun ds C1 => ∃ x xs, ds = [x] ∧ srcOf x = some xs ∧ R (numbered 0 xs) C1
theorem di_enumS (hm : X.mg "enumerate" = none) (ha : PAd X cl [e] t) (hg : Gl X "enumerate" := by rfl) (hs : starEach [e] X.env = [(false, eval e X.env)] := by rfl) :
    PId X cl (.Tuple elts kk tpos) (.Call (.Name "enumerate" p) [e] [] pos) (diEnumS t) := by
  refine weakI (pi_enumS hg hm ha hs) fun σ H R ⟨ρ, C, F, Rd, RR, h, k⟩ => ?_
  refine ⟨ρ, C, F, _, RR, h, fun vs ds C1 H1 F1 s1 R1 r1 ⟨x, xs, e1, e2, q1⟩ => ?_⟩
  subst e1
  cases r1 with
  | cons r rr =>
    cases rr
    obtain ⟨ys, rl, w⟩ := src_ok r e2
    exact ⟨_, ys, rfl, w H1 _ R1.sub fun j hj => k _ _ C1 H1 F1 s1 R1 (walk_enumS hj rl) q1⟩
end
end G
namespace G
open PySem PySem.Spec PyProof.Rows L2
/-! ### a comprehension over a list that is to change later -/
section
variable {X : Cx} {cl : NmB} {pos : Pos} {vs : List Nat} {K : PySem.W.Frag}
theorem cell_lst {C : Cl} {F H : Hp} {a : Addr} {ds : List D} (R : RC K cl C F H) (h : C a = some (.lst ds)) : ∃ xs, H a = some (.lst xs) ∧ RepL K cl F xs ds := by
  obtain ⟨_, o, ho, c⟩ := R.cel _ _ h
  cases c with
  | lst rl => exact ⟨_, ho, rl⟩
end
end G
set_option maxHeartbeats 1000000
namespace G
open PySem PySem.Spec PyProof.Rows L2
/-! ### walks over lists that stand, or over cells that stay as they are while they are walked -/
def WalkC (K : PySem.W.Frag) (cl : Nm) (J : It) (xs : List D) (F : Hp) (G : Cl → Prop) : Prop := ∀ i C F1 H, Same F F1 → RC K cl C F1 H → G C →
  (∀ x, xs[i]? = some x → J.go i H ∧ ∀ v H', J.yld i H v H' → ∃ F2, Same F1 F2 ∧ RC K cl C F2 H' ∧ Rep K cl F2 v x) ∧ (xs.length = i → J.stop i H)
theorem Walk.c {K : PySem.W.Frag} {cl : Nm} {J : It} {xs : List D} {F : Hp} (w : Walk K cl J xs F) (G : Cl → Prop) : WalkC K cl J xs F G := fun i C F1 H s R _ => w i C F1 H s R
/-- what x tells when it is walked, as long as G holds -/
def Walks (C : Cl) (x : D) (xs : List D) (G : Cl → Prop) : Prop := (lstOf x = some xs ∧ G = fun _ => True) ∨ ∃ a, x = .ref a ∧ C a = some (.lst xs) ∧ G = fun C => C a = some (.lst xs)
theorem Walks.here {C : Cl} {x : D} {xs : List D} {G : Cl → Prop} (w : Walks C x xs G) : G C := by
  rcases w with ⟨_, rfl⟩ | ⟨a, _, h, rfl⟩
  · trivial
  · exact h
theorem Walks.new {C : Cl} {x : D} {xs : List D} {G : Cl → Prop} {p : Addr} {c : Cell} (w : Walks C x xs G) (hp : C p = none) : G (updC C p c) := by
  rcases w with ⟨_, rfl⟩ | ⟨a, _, h, rfl⟩
  · trivial
  · show updC C p c a = _
    rw [updC_ne (fun z => by rw [z, hp] at h; cases h)]; exact h
theorem Walks.seq {C : Cl} {x : D} {xs : List D} {G : Cl → Prop} (w : Walks C x xs G) : seqOf C x = some xs := by
  rcases w with ⟨h, _⟩ | ⟨a, rfl, h, _⟩
  · cases x <;> first | exact h | cases h
  · show (match C a with | some (.lst ds) => some ds | _ => none) = _
    rw [h]
section
variable {K : PySem.W.Frag} {cl : NmB} {F : Hp}
end
section
variable {X : Cx} {cl : NmB} {tg e : Expr} {te : DE} {t : DA} {pos p tpos : Pos} {elts : List Expr} {kk : Nat}
variable {vs : List Nat}
end
/-! ### steps -/
/-! ### == of lists that may be cells -/
def viewC (C : Cl) : D → D
  | .ref a => match C a with
    | some (.lst ds) => .lst ds
    | _ => .ref a
  | d => d
theorem viewC_ref {C : Cl} {a : Addr} {ds : List D} (h : C a = some (.lst ds)) : viewC C (.ref a) = .lst ds := by
  show (match C a with | some (.lst ds) => D.lst ds | _ => D.ref a) = _
  rw [h]
def rNeC : RD2 := fun x y C Q => shp (viewC C x) = true ∧ shp (viewC C y) = true ∧ Q (.bl (!eqT (viewC C x) (viewC C y))) C
section
variable {X : Cx} {cl : NmB}
theorem dp_cell {K : PySem.W.Frag} {C : Cl} {F H : Hp} {v : V} {d : D} (R : RC K cl C F H) (r : Rep K cl F v d) (h : plain (viewC C d) = true) : Dp K H v (toPy (viewC C d)) := by
  have other : viewC C d = d → Dp K H v (toPy (viewC C d)) := fun e => by
    rw [e] at h ⊢
    exact r.dp R.sub h
  cases d with
  | ref a =>
    cases hc : C a with
    | none => exact other (by show (match C a with | some (.lst ds) => D.lst ds | _ => D.ref a) = _; rw [hc])
    | some c =>
      cases c with
      | lst ds =>
        rw [viewC_ref hc] at h ⊢
        obtain ⟨xs, hx, rl⟩ := cell_lst R hc
        cases r
        unfold plain at h
        unfold toPy
        exact .lst (.of hx) (RepL.dp R.sub rl h)
      | _ => exact other (by show (match C a with | some (.lst ds) => D.lst ds | _ => D.ref a) = _; rw [hc])
  | _ => exact other rfl
theorem od_neC {n : Nat} (hr : Room n X.A) : OpD X cl (compareOp .NotEq) rNeC := by
  intro pins s σ H x y v u Q I rx ry ⟨dx, dy, C, F, Qd, R, r1, r2, ⟨h1, h2, q⟩, k⟩
  unfold shp at h1 h2
  rw [Bool.and_eq_true] at h1 h2
  exact op_neD hr.units pins s σ H _ _ v u Q I rx ry ⟨_, _, dp_cell R r1 h1.1, dp_cell R r2 h2.1, h1.2, h2.2, k _ _ C H F (Same.refl F) R (.bl _) q⟩
end
end G
namespace G
open PySem PySem.Spec PyProof.Rows L2
/-! ### d.setdefault(k, v) -/
def dSetdK (to tk tx : DE) : DE := fun ρ C Q => to ρ C fun x C1 => (∃ kvs, dicOf C1 x = some kvs) ∧ tk ρ C1 fun y C2 => tx ρ C2 fun z C3 => ∃ a kvs k, x = .ref a ∧ C3 a = some (.dic kvs) ∧ keyD y = some k ∧ kvs.length < sizeLine ∧
  (∀ v, valD kvs k = some v → Q v C3) ∧ (valD kvs k = none → Q z (updC C3 a (.dic (putKD kvs k z))))
section
variable {X : Cx} {cl : NmB} {o e f : Expr} {to tk tx : DE} {apos cpos : Pos}
theorem de_setdK (ho : PEd X cl o to) (he : PEd X cl e tk) (hf : PEd X cl f tx) (m : M2 X o "setdefault" apos e f cpos := by exact ⟨rfl, rfl, rfl, rfl⟩) : PEd X cl (.Call (.Attribute o "setdefault" apos) [e, f] [] cpos) (dSetdK to tk tx) := by
  refine weakE (pe_dsetd ho he hf m) fun σ H Q ⟨ρ, C, F, Qd, R, h, k⟩ => ?_
  refine ⟨ρ, C, F, _, R, h, fun x dx C1 H1 F1 s1 R1 r1 ⟨⟨kvs0, e0⟩, q1⟩ => ?_⟩
  obtain ⟨a, vs0, rfl, hd0, _⟩ := dic_ok R1 r1 e0
  refine ⟨a, rfl, .inl ⟨_, hd0⟩, ρ, C1, F1, _, R.next s1 R1, q1, fun y dy C2 H2 F2 s2 R2 r2 q2 => ?_⟩
  refine ⟨ρ, C2, F2, _, R.next (s1.trans s2) R2, q2, fun z dz C3 H3 F3 s3 R3 r3 ⟨b, kvs, kc, e1, e2, e3, hl, w1, w2⟩ => ?_⟩
  subst e1
  cases r1
  obtain ⟨vs, hvs, rk⟩ := cell_dic R3 e2
  have rv := repK_val kc rk
  refine ⟨vs, kc, hvs, key_rep (r2.mono s3) e3, by rw [rk.length]; exact hl, fun v hv => ?_, fun hn => ?_⟩
  · cases e4 : valD kvs kc with
    | none => rw [rv.1 e4] at hv; cases hv
    | some d =>
      obtain ⟨v', hv', r4⟩ := rv.2 d e4
      rw [hv'] at hv
      cases hv
      exact k _ d C3 H3 F3 (s1.trans (s2.trans s3)) R3 r4 (w1 d e4)
  · cases e4 : valD kvs kc with
    | some d =>
      obtain ⟨v', hv', _⟩ := rv.2 d e4
      rw [hv'] at hn
      cases hn
    | none => exact k z dz _ _ F3 (s1.trans (s2.trans s3)) (R3.put e2 (.dic (repK_put r3 rk))) r3 (w2 e4)
end
end G
set_option maxHeartbeats 1000000
namespace G
open PySem PySem.Spec PyProof.Rows L2
/-! ### exceptions of one's own: what may leave, calls that may raise, raise -/
/-- the readings' exception end keeps the wish W -/
def FinW (K : PySem.W.Frag) (cl : NmB) (Ex : DEnv → DX) (W : WX) : Prop :=
  ∀ (ρ : DEnv) (σ : L2.St) (c : String) (ds : List (Str × D)) (cv : Value) (d : Option Addr) (C : Cl) (F H : Hp), RS K cl ρ C F σ H → ExcRep K cl F c ds cv d H → Ex ρ c ds C → W cv d σ H
theorem FinW.at {K : PySem.W.Frag} {cl : NmB} {Ex : DEnv → DX} {W : WX} (k : FinW K cl Ex W) {ρ : DEnv} {C : Cl} {F F1 : Hp} {σ : L2.St} {H : Hp} (R : RS K cl ρ C F σ H) (s : Same F F1) : FinX K cl F1 (Ex ρ) (WE W σ) :=
  fun c ds cv d C2 H2 F2 s2 R2 x h => k ρ σ c ds cv d C2 F2 H2 (R.next (s.trans s2) R2) x h

section
variable {X : Cx} {cl : NmB} {CX : CXT} {k n : Nat} {f : Addr} {ks : List Str} {sp : DSp2} {E : XK} {pins : List (Addr × Obj)} {σ : L2.St} {H : Hp} {s : Shared}
end
section
variable {X : Cx} {cl : NmB} {k : Nat} {g : Addr} {ks : List Str} {sp : DSp2} {e o : Expr} {es : List Expr} {kws : List Keyword} {to : DE} {t tk : DA} {pos apos p : Pos} {x m : Str} {c : String} {te : DE} {Ex : DEnv → DX} {W : WX}
end

/-! ### a def that may raise -/
section
variable {P : Program} {w : World} {K : PySem.W.Frag} {cl : Nm} {mg : Str → Option Value} {base : Heap}
end

/-! ### raise c(e, ..) -/
/-- a value whose text is short -/
def ShowD (d : PyData) : Prop := d.showable = true ∧ d.hasDict = false ∧ d.depth ≤ 60 ∧ d.shown.length ≤ 1000000
def PrD (x : D) : Prop := (∃ l : List Nat, x = .str l ∧ l.length ≤ 1000000) ∨ (∃ i : Int, x = .int i ∧ i.natAbs.log2 < 1920) ∨ x = .non ∨ (∃ b, x = .bl b) ∨ (plain x = true ∧ ShowD (toPy x) ∧ ((∃ ds, x = .tup ds) ∨ (∃ ds, x = .lst ds) ∨ ∃ ds, x = .rol ds))
theorem RepF.append {K : PySem.W.Frag} {cl : Nm} {F : Hp} : ∀ {as bs : List (Str × V)} {ds es : List (Str × D)}, RepF K cl F as ds → RepF K cl F bs es → RepF K cl F (as ++ bs) (ds ++ es)
  | _, _, _, _, .nil, s => s
  | _, _, _, _, .cons h r, s => .cons h (RepF.append r s)
theorem RepF.reverse {K : PySem.W.Frag} {cl : Nm} {F : Hp} : ∀ {as : List (Str × V)} {ds : List (Str × D)}, RepF K cl F as ds → RepF K cl F as.reverse ds.reverse
  | _, _, .nil => .nil
  | _, _, .cons h r => by rw [List.reverse_cons, List.reverse_cons]; exact (RepF.reverse r).append (.cons h .nil)
theorem RepF.zip {K : PySem.W.Frag} {cl : Nm} {F : Hp} : ∀ (fs : List Str) {vs : List V} {ds : List D}, RepL K cl F vs ds → RepF K cl F (fs.zip vs) (fs.zip ds)
  | [], _, _, _ => by rw [List.zip_nil_left, List.zip_nil_left]; exact .nil
  | _ :: _, _, _, .nil => .nil
  | _ :: fs, _, _, .cons h r => .cons h (RepF.zip fs r)
section
variable {X : Cx} {cl : NmB} {k : Nat} {fI : Addr} {fd : FuncData} {ps fs : List Str} {c : String} {e : Expr} {es : List Expr} {t : DA} {x : Str} {p pos pos2 : Pos} {Ex : DEnv → DX} {W : WX}
end
end G
set_option maxHeartbeats 1000000
namespace G
open PySem PySem.Spec PyProof.Rows L2
/-! ### an own exception's __init__ -/
section
variable {X : Cx} {C G0 : Addr} {mc : Value} {e : Expr} {es : List Expr} {ta : TA} {x : Str} {p1 p2 pos : Pos}
end
section
variable {P : Program} {w : World} {K : PySem.W.Frag} {mg : Str → Option Value} {base : Heap} {q : Str} {st : Stmt} {f : Addr} {fd : FuncData} {k : Nat} {C : Addr}
end

/-! ### try: body, except c as n: suite -/
theorem FinS.base {K : PySem.W.Frag} {cl : NmB} {F : Hp} {Dd : DEnds} {De : Ends} (k : FinS K cl F Dd De) (hb : Same cl.bs F) {F2 : Hp} (s2 : Same F F2) (G0 : Hp) : FinS K ⟨cl.f, G0⟩ F2 Dd De :=
  ⟨fun ρ C F' σ H s R q => k.nx ρ C F' σ H (s2.trans s) ⟨R.rc, R.len, R.env, hb.trans (s2.trans s)⟩ q, fun ρ C F' σ H s R q => k.bk ρ C F' σ H (s2.trans s) ⟨R.rc, R.len, R.env, hb.trans (s2.trans s)⟩ q,
    fun ρ C F' σ H s R q => k.ct ρ C F' σ H (s2.trans s) ⟨R.rc, R.len, R.env, hb.trans (s2.trans s)⟩ q, fun v d C F' H s R r q => k.rt v d C F' H (s2.trans s) R r q⟩
section
variable {X : Cx} {cl : NmB} {x n : Str} {cx : String} {cs : List (String × Bool)} {i : Nat} {body suite : List Stmt} {b₀ : Stmt} {np pos pos' : Pos} {tb : (DEnv → DX) → DS} {ts : Addr → String → List (Str × D) → DS} {Ex : DEnv → DX} {W : WX}
end
/-! ### in an except suite: e.f, isinstance(e, c) -/
section
variable {X : Cx} {cl : NmB} {a dd : Addr} {oe : Obj} {pn : List (Addr × Obj)} {c : String} {fs : List (Str × V)} {ds : List (Str × D)} {e : Expr} {te : DE} {pos : Pos} {f : Str} {F0 : Hp}
end
end G
set_option maxHeartbeats 1000000
namespace G
open PySem PySem.Spec PyProof.Rows L2
/-! ### what the text must tell of an own exception's class -/
/-! ### steps -/
section
variable {ρ : DEnv} {C : Cl} {Q : DQ} {te : DE} {Ex : DEnv → DX}
end
end G
set_option maxHeartbeats 4000000
/-! own exceptions over any built-in class (LookupError): the same as over ValueError, at the library's general lemmas -/
namespace PySem
namespace OXL
open PySem.W PySem.Calls PyProof.Rows
section
open Builtin Builtin.ObjectAttr
variable {prog : Program} {w : World} {A : Around} {E : Value → Shared → Prop} {R : Result → Shared → Prop} {hp : Heap} {g : Array GenState} {d : Drawn} {t : Nat} {os : OsState} {B : String} {bmB : List Value}
end
end OXL
end PySem
set_option maxHeartbeats 4000000
namespace G
open PySem PySem.Spec PyProof.Rows L2
/-! ### own exceptions over LookupError -/
abbrev leTail : List Value := [.type "LookupError", .type "Exception", .type "BaseException", .type "object"]
/-- what the text must tell of such a class -/
structure OexL (K : PySem.W.Frag) (C : Addr) : Prop where
  q : PySem.W.excInitIn K C leTail "LookupError.__new__" = true
  ov : PySem.W.excOver K C leTail = true
  hd : PySem.W.hasDictIn K C = true
  sa : PySem.W.findIn K (.ref C) "__setattr__" = some (some (.builtin "object.__setattr__"))
  exC : PySem.W.subIn K (.ref C) (.type "BaseException") = some true
  tyC : PySem.W.typeIn K (.ref C) = some (.type "type")
  kC : PySem.W.keepIn K (.ref C) = true
section
variable {X : Cx} {pins : List (Addr × Obj)} {σ : L2.St} {H : Hp} {s : Shared} {a C dx : Addr} {f : Str} {y : V} {u : Value} {fs : List (Str × V)} {Q : Unit → Shared → Prop} {E : Value → Shared → Prop} {A : Around}
end
section
variable {X : Cx} {o e : Expr} {es : List Expr} {to te : TE} {ta : TA} {f : Str} {p p' p1 p2 pos : Pos}
end
end G
set_option maxHeartbeats 1000000
namespace G
open PySem PySem.Spec PyProof.Rows L2
section
variable {X : Cx} {cl : NmB} {k : Nat} {fI : Addr} {fd : FuncData} {ps : List Str} {f : Str} {c : String} {e : Expr} {es : List Expr} {t : DA} {x : Str} {p pos pos2 : Pos} {Ex : DEnv → DX} {W : WX}
end
section
variable {P : Program} {w : World} {K : PySem.W.Frag} {mg : Str → Option Value} {base : Heap} {q : Str} {st : Stmt} {f : Addr} {fd : FuncData} {k : Nat} {C : Addr}
end
end G
set_option maxHeartbeats 1000000
namespace G
open PySem PySem.Spec PyProof.Rows L2
/-! ### o[i] of an own class, its def may raise -/
section
variable {X : Cx} {cl : NmB} {k : Nat} {g : Addr} {sp : DSp2} {c : String} {ta tb : DE} {a b : Expr} {pos : Pos} {Ex : DEnv → DX} {W : WX}
end
end G
set_option maxHeartbeats 1000000
namespace GQ2
open PySem PySem.SeqAt

open MeetsSeq MeetsSeq2 MeetsSeq3 SeqRoads2
section
variable {prog : Program} {w : World} {A : Around} {R : Result → Shared → Prop}
end
section
variable {prog : Program} {w : World} {A : Around} {E : Value → Shared → Prop} {s : Shared}
end
end GQ2
namespace G
open PySem PySem.Spec PyProof.Rows L2
/-! ### == of tuples of instances, alike or not -/
/-- below the running body, with room -/
structure SubG (X : Cx) (n : Nat) (A : Around) : Prop where
  room : Room n A
  fr : A.frames = X.A.frames
theorem SubG.in1 {X : Cx} {n : Nat} {A : Around} (s : SubG X (n + 1) A) : SubG X n A.in1 := ⟨s.room.in1, s.fr⟩
section
variable {X : Cx} {cl : NmB} {CX : CXT} {k : Nat} {g : Addr} {sp : DSp2} {c : String}
end
/-! ### x op y of two instances, the def may raise -/
section
variable {X : Cx} {cl : NmB} {k : Nat} {g : Addr} {sp : DSp2} {c : String} {ta tb : DE} {a b : Expr} {pos : Pos} {Ex : DEnv → DX} {W : WX} {op : Operator}
end
end G
set_option maxHeartbeats 4000000
namespace L2
open PySem PySem.Spec PyProof.Rows
/-! ### try with several clauses that name the exception alike -/
inductive HdsAs (X : Cx) (n : Str) : List ExceptHandler → List (Value × (Addr → Value → Option Addr → TS)) → Prop
  | nil : HdsAs X n [] []
  | cons {x : Str} {c : Value} {ts : Addr → Value → Option Addr → TS} {b₀ : Stmt} {suite : List Stmt} {np pos' : Pos} {hds : List ExceptHandler} {l : List (Value × (Addr → Value → Option Addr → TS))} (hc : Names X x c)
      (hsu : ∀ (a : Addr) (oe : Obj) (cls : Value) (d : Option Addr) (pn : List (Addr × Obj)), Zc cls d oe → (∃ vs, oe.data = .fields vs) → PSs (X.suite a ((a, oe) :: pn)) (b₀ :: suite) (ts a cls d)) (r : HdsAs X n hds l) :
      HdsAs X n (.ExceptHandler (some (.Name x np)) (some n) (b₀ :: suite) pos' :: hds) ((c, ts) :: l)
section
variable {X : Cx} {n : Str} {i : Nat} {body : List Stmt} {h₀ : ExceptHandler} {hds : List ExceptHandler} {l : List (Value × (Addr → Value → Option Addr → TS))} {pos : Pos} {tb : WX → TS} {Wout : WX}
end
end L2
namespace G
open PySem PySem.Spec PyProof.Rows L2
section
variable {X : Cx} {cl : NmB} {x x1 x2 n : Str} {cx cx1 cx2 : String} {cs cs1 cs2 : List (String × Bool)} {i : Nat} {body suite suite1 suite2 : List Stmt} {b₀ b1 b2 : Stmt} {np np1 np2 pos pos' pos1 pos2' : Pos} {tb : (DEnv → DX) → DS} {ts ts1 ts2 : Addr → String → List (Str × D) → DS} {Ex : DEnv → DX} {W : WX}
end
end G
set_option maxHeartbeats 1000000
namespace G
open PySem PySem.Spec PyProof.Rows L2
/-! ### a new instance whose __init__ may raise -/
section
variable {X : Cx} {cl : NmB} {k : Nat} {g : Addr} {ks : List Str} {sp : DSp2} {e : Expr} {es : List Expr} {kws : List Keyword} {t tk : DA} {pos p : Pos} {x : Str} {c : String} {Ex : DEnv → DX} {W : WX}
end
end G
set_option maxHeartbeats 1000000
namespace G
open PySem PySem.Spec PyProof.Rows L2
/-! ### repr of plain trees -/
/-- a tree of depth n whose text has at most m signs -/
def Shw (n m : Nat) (d : D) : Prop := Sh n d ∧ (toPy d).showable = true ∧ (toPy d).shown.length ≤ m
def ShwL (n m : Nat) (ds : List D) : Prop := ShL n ds ∧ PyData.showableAll (toPyL ds) = true ∧ ((PyData.shownAll (toPyL ds)).map (·.length)).sum + 2 * ds.length ≤ m
theorem Shw.mono {n n' m m' : Nat} {d : D} (h : Shw n m d) (e : n ≤ n') (e' : m ≤ m') : Shw n' m' d := ⟨h.1.mono e, h.2.1, Nat.le_trans h.2.2 e'⟩
theorem ShwL.mono {n m m' : Nat} {ds : List D} (h : ShwL n m ds) (e' : m ≤ m') : ShwL n m' ds := ⟨h.1, h.2.1, Nat.le_trans h.2.2 e'⟩
theorem Shw.show {n m : Nat} {d : D} (h : Shw n m d) (hn : n ≤ 60 := by decide) (hm : m ≤ 1000000 := by omega) : ShowD (toPy d) :=
  ⟨h.2.1, PyData.hasDict_of_canLay _ h.1.2.1, Nat.le_trans h.1.2.2 hn, Nat.le_trans h.2.2 hm⟩
theorem rep_str' {K : PySem.W.Frag} {cl : Nm} {F : Hp} (z : Str) : Rep K cl F (.str z) (.str z.cps.toList) := by
  have e : z = ⟨z.cps.toList.toArray⟩ := by simp
  have := Rep.str (K := K) (cl := cl) (F := F) z.cps.toList
  rw [← e] at this
  exact this
section
variable {X : Cx} {cl : NmB} {k : Nat}
end
/-! ### == of any data, only the units told (in an except suite) -/
section
variable {X : Cx} {cl : NmB}
end
section
variable {C : Cl} {Q : DQ}
end
end G
set_option maxHeartbeats 1000000
namespace G
open PySem PySem.Spec PyProof.Rows L2
/-! ### str(o), o of an own class with __str__ -/
section
variable {X : Cx} {cl : NmB} {CX : CXT} {k : Nat} {g : Addr} {sp : DSp2} {c : String}
end
/-! ### in a suite: isinstance(e, (c1, c2)) -/
section
variable {X : Cx} {cl : NmB} {a dd : Addr} {oe : Obj} {pn : List (Addr × Obj)} {c : String} {fs : List (Str × V)} {ds : List (Str × D)} {e : Expr} {te : DE} {pos : Pos} {f : Str} {F0 : Hp}
end
/-! ### str of a text -/
end G
set_option maxHeartbeats 2000000
namespace G
open PySem PySem.Spec PyProof.Rows L2
/-! ### a lambda without parameters handed to a def that calls it -/
/-- the qual of a lambda of the body X -/
abbrev lamQ (X : Cx) : Str := X.env.qual ++ "<lambda>"
abbrev lamObj (X : Cx) (params : Arguments) (body : Expr) (scope : Scope) (pm : Value) (c' : Addr) (ctv : Value) : Obj :=
  PySem.W.kla_obj "<lambda>" (lamQ X) params body scope (cloFrom X.env.cells scope.names []) pm c' ctv
section
variable {X : Cx} {cl : NmB} {pins : List (Addr × Obj)} {σ : L2.St} {s : Shared}
/-- the lambda is made -/
theorem lam_new {c P : Addr} {qs : String} {params : Arguments} {body : Expr} {scope : Scope} {pos : Pos} {E Q : Value → Shared → Prop} {ρ : DEnv} {C : Cl} {F H : Hp} (I : Inv X pins σ H s) (R : RS X.K cl ρ C F σ H) (TB : LamX.TabB X.base X.mg c P) (hcode : X.env.code = .ref c)
    (hq : lamQ X = (qs : Str)) (hC : C P = some (.tbl qs)) (hdef : defaultsOf params X.env = ([], [])) (hfree : ∀ y ∈ scope.names, y.2 = .free → ∃ c, X.env.cells.lookup y.1 = some c)
    (h : ∀ (f c' : Addr) (pm ctv : Value) (H1 F1 : Hp) (s' : Shared), Inv X pins σ H1 s' → RS X.K cl ρ C F1 σ H1 → Same F F1 → s'.heap.get? f = some (lamObj X params body scope pm c' ctv) → H1 f = none → f ∉ frs X.stack → F1 c' = some (LamX.CodeO c' (lamQ X)) → Q (.ref f) s') :
    wpAny (model X.prog X.w) X.A (eval (.Lambda params body scope pos) X.env) Q E s := by
  obtain ⟨fP, o, hP, cr⟩ := R.rc.cel P _ hC
  have ePc := R.rc.tab P qs hC
  cases cr with
  | @tbl ps _ ht ha =>
    refine PySem.W.kla_eval hdef ?_
    have bP : s.heap.BuiltinsAt X.mg P := TB.bm.keeps I.bk
    have hP' : s.heap.get? P = some { cls := .none, data := .fields ps } := I.hok P _ hP
    have nofr : ∀ f, s.heap.objs.size ≤ f → f ∉ frs X.stack := fun f hf z => by
      rcases List.mem_cons.mp (I.stkSub _ z) with e | e
      · have h1 := I.lt
        rw [← e] at h1
        exact Nat.lt_irrefl _ (Nat.lt_of_lt_of_le h1 hf)
      · exact I.nofs hf e
    cases hc : codeAmong pos ps.toList with
    | some cv =>
      obtain ⟨c', e, hco⟩ := ha pos cv hc
      subst e
      have hco' : H c' = some (LamX.CodeO c' qs) := R.rc.sub _ _ hco
      refine PySem.W.kla_makeFunctionHit (mg := X.mg) (c := c) (P := P) (ps := ps) (closure_ok hfree) I.ok.glob (I.mod.glob.keeps I.bk) hcode (TB.code.keeps I.bk) hP' ht hc bP fun ctv h' tk hx hsz => ?_
      exact h h'.objs.size c' ((X.mg "__name__").getD .none) ctv H F _ (I.kept fun b o e => Heap.get?_push_of_some _ (hx b o e)) R (Same.refl F) (Heap.get?_push_size _ rfl) (I.hok.fresh hsz) (nofr _ hsz) (by rw [hq]; exact hco)
    | none =>
      refine PySem.W.kla_makeFunction (mg := X.mg) (c := c) (P := P) (ps := ps) (closure_ok hfree) I.ok.glob (I.mod.glob.keeps I.bk) hcode (TB.code.keeps I.bk) hP' ht hc TB.gP bP fun c' ctv h' tk hx hge hlt hrec htb => ?_
      obtain ⟨c2, oc, vs, t, e2, hoc, hd, hv⟩ := hrec
      cases e2
      have hsz : s.heap.objs.size ≤ h'.objs.size := Nat.le_trans hge (Nat.le_of_lt hlt)
      have nC : H c' = none := I.hok.fresh hge
      have nPc : P ≠ c' := ne_of_none hP nC
      generalize hmore : (#[rawInt pos.line, rawInt pos.col, .ref c'] : Array Value) = more at htb
      have I1 := LamX.inv_table (t' := tk) (more := more) (h' := h'.push (lamObj X params body scope ((X.mg "__name__").getD .none) c' ctv)) (q := lamQ X) I hP
        (fun b o hb e => Heap.get?_push_of_some _ (hx b o hb e)) (Heap.get?_push_of_some _ htb) hge ⟨oc, vs, t, Heap.get?_push_of_some _ hoc, hd, hv⟩
      have swap : upd (upd H P (.tbl (ps ++ more))) c' (LamX.CodeO c' (lamQ X)) = upd (upd H c' (LamX.CodeO c' (lamQ X))) P (.tbl (ps ++ more)) := by
        funext b
        by_cases z1 : b = c'
        · subst z1
          rw [upd_same, upd_ne (Ne.symm nPc), upd_same]
        · by_cases z2 : b = P
          · subst z2
            rw [upd_ne z1, upd_same, upd_same]
          · rw [upd_ne z1, upd_ne z2, upd_ne z2, upd_ne z1]
      have R1 : RC X.K cl C (upd F c' (LamX.CodeO c' (lamQ X))) (upd H c' (LamX.CodeO c' (lamQ X))) := R.rc.new nC
      have sF : Same F (upd F c' (LamX.CodeO c' (lamQ X))) := same_upd (R.rc.freeF nC)
      have eL : (ps ++ more).toList = ps.toList ++ [rawInt pos.line, rawInt pos.col, .ref c'] := by rw [← hmore]; simp
      have R2 := R1.put (o := .tbl (ps ++ more)) (c := .tbl qs) hC (.tbl (by rw [eL]; exact PySem.TriplesOk_snoc _ _ _ _ ht) fun p' cv hcv => by
        rw [eL] at hcv
        rcases LamX.among_app _ ht hcv with z | z
        · obtain ⟨c0, e1, e2⟩ := ha p' cv z
          exact ⟨c0, e1, sF _ _ e2⟩
        · exact ⟨c', z, by rw [← hq]; exact upd_same⟩) (fun q e => by cases e; exact ePc)
      have eC : updC C P (.tbl qs) = C := by
        funext b
        by_cases z : b = P
        · subst z; rw [updC_same, hC]
        · rw [updC_ne z]
      rw [eC, ← swap] at R2
      refine h h'.objs.size c' ((X.mg "__name__").getD .none) ctv _ _ _ I1 (R.next sF R2) sF (Heap.get?_push_size _ rfl) ?_ (nofr _ hsz) upd_same
      have n1 : h'.objs.size ≠ c' := Nat.ne_of_gt hlt
      have n2 : h'.objs.size ≠ P := Nat.ne_of_gt (Nat.lt_of_lt_of_le (Heap.lt_size hP') hsz)
      rw [upd_ne n1, upd_ne n2]
      exact I.hok.fresh hsz
end
/-- x(), x got the lambda f; tl: the lambda's reading -/
def dActD (f : Addr) (tl : DX → Cl → DQ → Prop) (Ex : DEnv → DX) : DE := fun ρ C Q => ρ[0]? = some (some (.ref f)) ∧ tl (Ex ρ) C Q
/-- the def g(a) gets the lambda; td: its reading, given the call's -/
def dLam (Ng : List Str) (qs : String) (td : ((DEnv → DX) → DE) → DS) (te : (DEnv → DX) → DE) : DE := fun ρ C Q => (∃ P, C P = some (.tbl qs)) ∧ ∀ f, td (dActD f fun E => te (fun _ => E) ρ) (endsD Q) (startD Ng [.ref f]) C
section
variable {X : Cx} {cl : NmB}
abbrev gCx (X : Cx) (Ng : List Str) (x : Str) (sg : Scope) (g : Addr) (cdg : Value) (s : Shared) (H : Hp) : Cx := cxOf CX0 X.prog X.w X.K X.mg X.base Ng x sg g cdg X.A X.stack s H E0
theorem de_act {Ng : List Str} {x a : Str} {sg : Scope} {g f c' : Addr} {cdg pm ctv : Value} {params : Arguments} {body : Expr} {scope : Scope} {k : Nat} {pn : List (Addr × Obj)} {xe : Value → Shared → Prop} {W : WX} {Ex : DEnv → DX} {te : (DEnv → DX) → DE} {p1 p2 : Pos}
    {pins : List (Addr × Obj)} {σ : L2.St} {H F0 F : Hp} {s : Shared} {ρ : DEnv} {C : Cl} (I : Inv X pins σ H s) (R : RS X.K cl ρ C F σ H) (sF : Same F F0) (L : LamX.LamS X.env.scope scope) (hf : s.heap.get? f = some (lamObj X params body scope pm c' ctv)) (hfn : H f = none) (hfr : f ∉ frs X.stack)
    (hc : F0 c' = some (LamX.CodeO c' (lamQ X)))
    (hbind : bindArgs (PySem.W.kla_fn "<lambda>" (lamQ X) params body scope (cloFrom X.env.cells scope.names []) pm (.ref c') ctv) ⟨[], []⟩ = pure [])
    (tk : Takes ((gCx X Ng x sg g cdg s H).tr pn xe) W) (fw : FinW X.K ⟨cl.f, F0⟩ Ex W) (hr : Room (k + 1) (X.A.deeper (envOfC x sg s.heap.objs.size g cdg)))
    (hbody : ∀ (A : Around) (outer : List Env) (s : Shared) (H : Hp) (E : XK) (F1 : Hp) (Ex : DEnv → DX) (W : WX), Room k (A.deeper (LamX.lamEnv X scope s.heap.objs.size f c')) → Takes (LamX.lamCx X A outer s H E scope f c') W → FinW X.K ⟨cl.f, F1⟩ Ex W → PEd (LamX.lamCx X A outer s H E scope f c') ⟨cl.f, F1⟩ body (te Ex))
    (hN : Ng[0]? = some a) (hv : Vis sg a) (hd : (a == ("__debug__" : Str)) = false := by decide) (hcd : (a == ("__classdict__" : Str)) = false := by decide) :
    PEd ((gCx X Ng x sg g cdg s H).tr pn xe) ⟨cl.f, F0⟩ (.Call (.Name a p1) [] [] p2) (dActD f (fun E => te (fun _ => E) ρ) Ex) := by
  refine ⟨fun pz sZ σZ HZ Q IZ ⟨ρZ, CZ, FZ, Qd, RZ, ⟨hs, ht⟩, kq⟩ => ?_⟩
  obtain ⟨v0, ev0, rv0⟩ := RZ.env 0 _ hs
  cases rv0
  refine wpAny_Call_Name_kw (thn ((pe_var (pos := p1) (i := 0) hN hv hd hcd).run pz sZ σZ HZ (fun v H1 => v = .ref f ∧ H1 = HZ) IZ ⟨.ref f, ev0, rfl, rfl⟩) fun u s1 ⟨v, H1, I1, r1, ev, eH⟩ => ?_)
  subst ev
  rw [eH] at I1
  obtain rfl : u = Value.ref f := r1
  have atF : s1.heap.get? f = some (lamObj X params body scope pm c' ctv) := I1.base.keep f _ hf hfn hfr (fun z => nomatch (show f ∈ ([] : List Addr) from z))
  refine PySem.W.callWith_F0 ⟨_, _, _, _, atF⟩ ?_
  have un : Un (frs X.stack) [] H HZ s.heap s1.heap := I1.base
  have hcZ : HZ c' = some (LamX.CodeO c' (lamQ X)) := RZ.rc.sub _ _ (RZ.bs _ _ hc)
  obtain ⟨⟨oc, vs, t, hoc, hdc, hvc⟩, _, _⟩ := I1.hok c' _ hcZ
  have R0 : RS X.K ⟨cl.f, FZ⟩ ρ CZ FZ σ HZ := ⟨RZ.rc, R.len, fun i d e => let ⟨v, h1, h2⟩ := R.env i d e; ⟨v, h1, h2.mono (sF.trans RZ.bs)⟩, Same.refl FZ⟩
  have run : codeAny (model X.prog X.w) (X.A.deeper (envOfC x sg s.heap.objs.size g cdg)) (.call (.ref f) ⟨[], []⟩) (CR (L2.CX X.prog X.w) (envOfC x sg s.heap.objs.size g cdg :: X.stack) X.prog X.w HZ s1 Q (WE W σZ)) s1 := by
    refine PySem.W.kla_callFunE hr.depth atF rfl L.co L.gen rfl ⟨c', oc, vs, t, rfl, hoc, hdc, hvc⟩ ?_
    rw [hbind]
    refine wpAny_pure (wpAny_newFunctionEnv (fun y hy => (L.own y hy).2) (fun y hy => absurd hy (by simp)) (fun h₁ hns hsb => ⟨I1.nolimit.fresh _ hsb, ?_⟩) L.kind)
    have kp : ∀ b o, s1.heap.get? b = some o → h₁.get? b = some o := fun b o e => hsb.extBut b o (Nat.ne_of_lt (Heap.lt_size e)) (Heap.get?_push_of_some _ e)
    have J : Inv (LamX.lamCx X (X.A.deeper (envOfC x sg s.heap.objs.size g cdg)) (envOfC x sg s.heap.objs.size g cdg :: X.stack) s1 HZ (WE W σZ) scope f c') [] σ HZ { s1 with heap := h₁, toks := s1.toks + ([] : List (Str × Value)).length } :=
      LamX.lam_start2 I L I1.env0 hr.hd un hns kp
    have B := hbody (X.A.deeper (envOfC x sg s.heap.objs.size g cdg)) (envOfC x sg s.heap.objs.size g cdg :: X.stack) s1 HZ (WE W σZ) FZ (fun _ => Ex ρZ) (fun cls d _ H => W cls d σZ H) (hr.deeper _) (takes_of rfl rfl rfl rfl)
      (fun ρ2 σ2 c ds cv d C2 F2 H2 R2 x2 h2 => fw ρZ σZ c ds cv d C2 F2 H2 ⟨R2.rc, RZ.len, fun i d e => let ⟨v, h1, h3⟩ := RZ.env i d e; ⟨v, h1, h3.mono R2.bs⟩, RZ.bs.trans R2.bs⟩ x2 h2)
    refine PySem.W.kla_codeExpr (wpAny_mono (B.run [] _ σ HZ Q J ⟨ρ, CZ, FZ, Qd, R0, ht, kq⟩) (fun v s' hq => ?_) fun e s' hq => hq)
    obtain ⟨w', H', J', rv, q⟩ := hq
    exact ⟨w', H', J'.os, J'.bare, J'.base, J'.hok, rv, q⟩
  refine wpAny_call (codeAny_mono run fun r s' hq => ?_)
  cases r with
  | error e => exact passAt tk σZ pz HZ s1 e s' I1 hq
  | ok fl =>
    cases fl with
    | ret u => exact I1.after hq
    | next => exact False.elim hq
    | brk => exact False.elim hq
    | cont => exact False.elim hq
/-- x(lambda: body) -/
theorem de_lam {Ng : List Str} {x a : Str} {stg : Stmt} {g c P : Addr} {fdg : FuncData} {k : Nat} {params : Arguments} {body : Expr} {scope : Scope} {td : ((DEnv → DX) → DE) → DS} {te : (DEnv → DX) → DE} {p lpos pos : Pos} {qs : String}
    (Fu : Fun X.K x x stg g fdg) (Sg : FnScope Ng [a] (defScope stg)) (hva : Vis (defScope stg) a) (hNg : Ng[0]? = some a) (hm : X.mg x = some (.ref g)) (hk : PySem.W.keepIn X.K (.ref g) = true) (hb : Binds X.K fdg [a] [])
    (TB : LamX.TabB X.base X.mg c P) (hcode : X.env.code = .ref c) (hP : cl qs = P) (hq : lamQ X = (qs : Str)) (hr : Room (k + 2) X.A) (L : LamX.LamS X.env.scope scope) (hdef : defaultsOf params X.env = ([], []))
    (hbind : ∀ (q : Str) (cl : List (Str × Addr)) (pm cv ctv : Value), bindArgs (PySem.W.kla_fn "<lambda>" q params body scope cl pm cv ctv) ⟨[], []⟩ = pure [])
    (hG : ∀ (cdg : Value) (s : Shared) (H : Hp) (F0 : Hp) (f : Addr) (tl : DX → Cl → DQ → Prop),
      (∀ (W : WX) (pn : List (Addr × Obj)) (xe : Value → Shared → Prop) (F1 : Hp) (Ex : DEnv → DX) (p1 p2 : Pos), Same F0 F1 → Takes ((gCx X Ng x (defScope stg) g cdg s H).tr pn xe) W → FinW X.K ⟨cl.f, F1⟩ Ex W →
        PEd ((gCx X Ng x (defScope stg) g cdg s H).tr pn xe) ⟨cl.f, F1⟩ (.Call (.Name a p1) [] [] p2) (dActD f tl Ex)) →
      PSsd (gCx X Ng x (defScope stg) g cdg s H).nox ⟨cl.f, F0⟩ (defBody stg) (td (dActD f tl)))
    (hbody : ∀ (A : Around) (outer : List Env) (s : Shared) (H : Hp) (E : XK) (f c' : Addr) (F1 : Hp) (Ex : DEnv → DX) (W : WX), Room k (A.deeper (LamX.lamEnv X scope s.heap.objs.size f c')) → Takes (LamX.lamCx X A outer s H E scope f c') W → FinW X.K ⟨cl.f, F1⟩ Ex W → PEd (LamX.lamCx X A outer s H E scope f c') ⟨cl.f, F1⟩ body (te Ex))
    (hg : Gl X x := by rfl) (hdb : (x == ("__debug__" : Str)) = false := by decide) (hd : (a == ("__debug__" : Str)) = false := by decide) (hcd : (a == ("__classdict__" : Str)) = false := by decide) :
    PEd X cl (.Call (.Name x p) [.Lambda params body scope lpos] [] pos) (dLam Ng qs td te) := by
  refine ⟨fun pins s σ H Q I ⟨ρ, C, F, Qd, R, ⟨⟨P', hC⟩, h⟩, kq⟩ => ?_⟩
  obtain rfl : P' = P := (R.rc.tab P' qs hC).trans hP
  refine wpAny_Call_Name_kw (ld_glob I hg hm ?_ hdb)
  refine PySem.W.callWith_K (h₀ := X.base) I.ok.mod.kin hk ?_ (by rfl) (by rfl)
  show wpAny _ _ (spliced ((false, eval (.Lambda params body scope lpos) X.env) :: backTo pos (starEach [] X.env))) _ _ s
  refine Calls.spliced_cons (lam_new I R TB hcode hq hC hdef (L.has I.ok) fun f c' pm ctv H1 F1 s' I1 R1 sF hf hfn hfr hc => ?_)
  refine Calls.spliced_nil ⟨I1.kIn, ?_⟩
  obtain ⟨oc, od, kV, doc, pm0, an, cdv, ct, osl, e, lk, hcd0⟩ := Fu.ex
  subst e
  have run : codeAny (model X.prog X.w) X.A (.call (.ref g) ⟨[.ref f], []⟩) (CR CX0 X.stack X.prog X.w H1 s' Q E0) s' := by
    refine LamX.run_ofS (N := Ng) (ps := [a]) (us := [.ref f]) (vs := [.ref f]) lk hcd0 Sg hr.r I1.env0 (hb s' [.ref f] I1.kIn rfl) (.cons rfl .nil) rfl fun hr' => ?_
    have B := hG cdv s' H1 F1 f (fun E => te (fun _ => E) ρ) fun W pn xe F2 Ex p1 p2 s2 tk fw =>
      de_act I1 R1 s2 L hf hfn hfr (s2 _ _ hc) (hbind _ _ _ _ _) tk fw ⟨hr', hr.gd⟩ (fun A outer s H E F3 Ex W hr3 => hbody A outer s H E f c' F3 Ex W hr3) hNg hva hd hcd
    refine ⟨_, B.nox, startD Ng [.ref f], C, F1, _, RS.startB (cl := ⟨cl.f, F1⟩) Ng R1.rc (.cons (.ref f) .nil) (Same.refl F1), h f, ?_⟩
    refine ⟨fun ρ C1 F2 σ H2 s1 R2 ⟨C2, sc, q⟩ => kq .non .non C2 H2 F2 (sF.trans s1) (R2.rc.drop sc) .non q, fun _ _ _ _ _ _ _ z => z.elim, fun _ _ _ _ _ _ _ z => z.elim, fun v d C1 F2 H2 s1 R2 r1 ⟨d', C2, gh, q⟩ => ?_⟩
    obtain ⟨F3, s3, R3, r3⟩ := gh.ok R2 r1
    exact kq v d' C2 H2 F3 (sF.trans (s1.trans s3)) R3 r3 q
  refine wpAny_call (codeAny_mono run fun r s2 hq => ?_)
  cases r with
  | error e => exact (show False from hq).elim
  | ok fl =>
    cases fl with
    | ret u => exact I1.after hq
    | next => exact False.elim hq
    | brk => exact False.elim hq
    | cont => exact False.elim hq
end
/-- a def whose body makes lambdas: its code object is known -/
theorem fn_dL {P : Program} {w : World} {K : PySem.W.Frag} {mg : Str → Option Value} {base : Heap} {cl : Nm} {x qual : Str} {st : Stmt} {f c : Addr} {fd : FuncData} {N ps : List Str} {k : Nat} {sp : DSp} {td : DS} (Fu : Fun K x qual st f fd) (hcode : fd.code = .ref c) (S : FnScope N ps (defScope st)) (len : ∀ ds C Q E, sp ds C Q E → ds.length = ps.length)
    (pure : ∀ ds C Q E, sp ds C Q E → td (endsD Q) (startD N ds) C)
    (body : ∀ (cdv : Value) (A : Around) (outer : List Env) (s : Shared) (H : Hp) (E : XK), cdv = .ref c → Room k (A.deeper (envOfC qual (defScope st) s.heap.objs.size f cdv)) → PSsd (cxOf CX0 P w K mg base N qual (defScope st) f cdv A outer s H E).nox (nb cl) (defBody st) td) :
    FnD P w K cl mg base (k + 1) f fd ps sp := by
  obtain ⟨oc, od, kV, doc, pm, an, cdv, ct, osl, e, lk, hcd⟩ := Fu.ex
  subst e
  refine fn_any lk hcd S (fun vs H Q E ⟨ds, C, F, Qd, Ed, R, r, h, _, _⟩ => r.length.trans (len ds C Qd Ed h)) fun A outer s H vs Q E hr ⟨ds, C, F, Qd, Ed, R, r, h, kq, kx⟩ => ?_
  refine ⟨_, (body cdv A outer s H E hcode hr).nox, startD N ds, C, F, _, RS.start N R r, pure ds C Qd Ed h, ?_⟩
  refine ⟨fun ρ C1 F1 σ H1 s1 R1 ⟨C2, sc, q⟩ => kq .non .non C2 H1 F1 s1 (R1.rc.drop sc) .non q, fun _ _ _ _ _ _ _ z => z.elim, fun _ _ _ _ _ _ _ z => z.elim, fun v d C1 F1 H1 s1 R1 r1 ⟨d', C2, g, q⟩ => ?_⟩
  obtain ⟨F2, s2, R2, r2⟩ := g.ok R1 r1
  exact kq v d' C2 H1 F2 (s1.trans s2) R2 r2 q
/-! ### x op y, an own order that may raise -/
section
variable {X : Cx} {cl : NmB} {k : Nat} {g : Addr} {sp : DSp2} {c : String} {ta tb : DE} {a b : Expr} {pos : Pos} {Ex : DEnv → DX} {W : WX} {op : CmpOp}
end
theorem codeX_ok {K : PySem.W.Frag} {x q : Str} {st : Stmt} {f c : Addr} {z : FuncData} (F : Fun K x q st f z) (h : codeX K f c = true) : z.code = .ref c := by
  obtain ⟨oc, od, kV, doc, pm, an, cdv, ct, osl, e, lk, _⟩ := F.ex
  unfold codeX at h
  rw [lk] at h
  exact of_decide_eq_true h
end G
set_option maxHeartbeats 2000000
namespace G
open PySem PySem.Spec PyProof.Rows L2
/-! ### a lambda without parameters in a local, handed to a def that calls it; static methods that may raise -/
/-- the function object at f -/
def lamO (f : Addr) (o : Obj) : HO := .ext fun h => h.get? f = some o
theorem lamO_ok {P : Program} {w : World} {H : Hp} {h : Heap} {f : Addr} {o : Obj} (e : h.get? f = some o) : ObjOk P w H h f (lamO f o) := by
  unfold lamO ObjOk
  exact ⟨e, ⟨o, e⟩, fun h1 h2 p1 k => k _ p1⟩
section
variable {X : Cx} {cl : NmB} {pins : List (Addr × Obj)} {σ : L2.St} {s : Shared}
/-- the lambda is made -/
theorem lam_newF {c P : Addr} {qs : String} {params : Arguments} {body : Expr} {scope : Scope} {pos : Pos} {E Q : Value → Shared → Prop} {ρ : DEnv} {C : Cl} {F H : Hp} (I : Inv X pins σ H s) (R : RS X.K cl ρ C F σ H) (TB : LamX.TabB X.base X.mg c P) (hcode : X.env.code = .ref c)
    (hq : lamQ X = (qs : Str)) (hC : C P = some (.tbl qs)) (hdef : defaultsOf params X.env = ([], [])) (hfree : ∀ y ∈ scope.names, y.2 = .free → ∃ c, X.env.cells.lookup y.1 = some c)
    (h : ∀ (f c' : Addr) (pm ctv : Value) (H1 F1 : Hp) (s' : Shared), Inv X pins σ H1 s' → RS X.K cl ρ C F1 σ H1 → Same F F1 → F1 f = some (lamO f (lamObj X params body scope pm c' ctv)) → F1 c' = some (LamX.CodeO c' (lamQ X)) → Q (.ref f) s') :
    wpAny (model X.prog X.w) X.A (eval (.Lambda params body scope pos) X.env) Q E s := by
  obtain ⟨fP, o, hP, cr⟩ := R.rc.cel P _ hC
  have ePc := R.rc.tab P qs hC
  cases cr with
  | @tbl ps _ ht ha =>
    refine PySem.W.kla_eval hdef ?_
    have bP : s.heap.BuiltinsAt X.mg P := TB.bm.keeps I.bk
    have hP' : s.heap.get? P = some { cls := .none, data := .fields ps } := I.hok P _ hP
    have nofr : ∀ f, s.heap.objs.size ≤ f → f ∉ frs X.stack := fun f hf z => by
      rcases List.mem_cons.mp (I.stkSub _ z) with e | e
      · have h1 := I.lt
        rw [← e] at h1
        exact Nat.lt_irrefl _ (Nat.lt_of_lt_of_le h1 hf)
      · exact I.nofs hf e
    cases hc : codeAmong pos ps.toList with
    | some cv =>
      obtain ⟨c', e, hco⟩ := ha pos cv hc
      subst e
      have hco' : H c' = some (LamX.CodeO c' qs) := R.rc.sub _ _ hco
      refine PySem.W.kla_makeFunctionHit (mg := X.mg) (c := c) (P := P) (ps := ps) (closure_ok hfree) I.ok.glob (I.mod.glob.keeps I.bk) hcode (TB.code.keeps I.bk) hP' ht hc bP fun ctv h' tk hx hsz => ?_
      have nf : H h'.objs.size = none := I.hok.fresh hsz
      have s1 : Same F (upd F h'.objs.size (lamO h'.objs.size (lamObj X params body scope ((X.mg "__name__").getD .none) c' ctv))) := same_upd (R.rc.freeF nf)
      exact h h'.objs.size c' ((X.mg "__name__").getD .none) ctv _ _ _ (I.laid (fun b o e => Heap.get?_push_of_some _ (hx b o e)) hsz (lamO_ok (Heap.get?_push_size _ rfl))) (R.next s1 (R.rc.new nf)) s1 upd_same (by rw [hq]; exact s1 _ _ hco)
    | none =>
      refine PySem.W.kla_makeFunction (mg := X.mg) (c := c) (P := P) (ps := ps) (closure_ok hfree) I.ok.glob (I.mod.glob.keeps I.bk) hcode (TB.code.keeps I.bk) hP' ht hc TB.gP bP fun c' ctv h' tk hx hge hlt hrec htb => ?_
      obtain ⟨c2, oc, vs, t, e2, hoc, hd, hv⟩ := hrec
      cases e2
      have hsz : s.heap.objs.size ≤ h'.objs.size := Nat.le_trans hge (Nat.le_of_lt hlt)
      have nC : H c' = none := I.hok.fresh hge
      have nPc : P ≠ c' := ne_of_none hP nC
      generalize hmore : (#[rawInt pos.line, rawInt pos.col, .ref c'] : Array Value) = more at htb
      have I0 := LamX.inv_table (t' := tk) (more := more) (h' := h') (q := lamQ X) I hP hx htb hge ⟨oc, vs, t, hoc, hd, hv⟩
      have swap : upd (upd H P (.tbl (ps ++ more))) c' (LamX.CodeO c' (lamQ X)) = upd (upd H c' (LamX.CodeO c' (lamQ X))) P (.tbl (ps ++ more)) := by
        funext b
        by_cases z1 : b = c'
        · subst z1
          rw [upd_same, upd_ne (Ne.symm nPc), upd_same]
        · by_cases z2 : b = P
          · subst z2
            rw [upd_ne z1, upd_same, upd_same]
          · rw [upd_ne z1, upd_ne z2, upd_ne z2, upd_ne z1]
      have R1 : RC X.K cl C (upd F c' (LamX.CodeO c' (lamQ X))) (upd H c' (LamX.CodeO c' (lamQ X))) := R.rc.new nC
      have sF : Same F (upd F c' (LamX.CodeO c' (lamQ X))) := same_upd (R.rc.freeF nC)
      have eL : (ps ++ more).toList = ps.toList ++ [rawInt pos.line, rawInt pos.col, .ref c'] := by rw [← hmore]; simp
      have R2 := R1.put (o := .tbl (ps ++ more)) (c := .tbl qs) hC (.tbl (by rw [eL]; exact PySem.TriplesOk_snoc _ _ _ _ ht) fun p' cv hcv => by
        rw [eL] at hcv
        rcases LamX.among_app _ ht hcv with z | z
        · obtain ⟨c0, e1, e2⟩ := ha p' cv z
          exact ⟨c0, e1, sF _ _ e2⟩
        · exact ⟨c', z, by rw [← hq]; exact upd_same⟩) (fun q e => by cases e; exact ePc)
      have eC : updC C P (.tbl qs) = C := by
        funext b
        by_cases z : b = P
        · subst z; rw [updC_same, hC]
        · rw [updC_ne z]
      rw [eC, ← swap] at R2
      have nf := I0.hok.fresh (a := h'.objs.size) (Nat.le_refl _)
      have s1 := same_upd (o := lamO h'.objs.size (lamObj X params body scope ((X.mg "__name__").getD .none) c' ctv)) (R2.freeF nf)
      exact h h'.objs.size c' ((X.mg "__name__").getD .none) ctv _ _ _ (I0.laid (t' := tk) (fun b o e => Heap.get?_push_of_some _ e) (Nat.le_refl _) (lamO_ok (Heap.get?_push_size _ rfl))) (R.next (sF.trans s1) (R2.new nf)) (sF.trans s1) upd_same (s1 _ _ upd_same)
end
section
variable {X : Cx} {cl : NmB}
end
/-! ### a, b, .. = a list of that length -/
section
variable {X : Cx} {cl : NmB} {pos : Pos}
end
/-! ### def f(a, .., *v) that may raise -/
end G
set_option maxHeartbeats 2000000
namespace G
open PySem PySem.Spec PyProof.Rows L2
/-! ### dicts of texts and numbers: list(d), walks, == -/
def keyT : Key → D
  | .inl i => .int i
  | .inr s => .str s.cps.toList
theorem rep_keyT {K : PySem.W.Frag} {cl : Nm} {F : Hp} (k : Key) : Rep K cl F (kV k) (keyT k) := by
  cases k with
  | inl i => exact .int i
  | inr s => exact rep_str' s
theorem repL_keys {K : PySem.W.Frag} {cl : Nm} {F : Hp} : ∀ {vs : List (Key × V)} {ds : List (Key × D)}, RepK K cl F vs ds → RepL K cl F (vs.map fun p => kV p.1) (ds.map fun p => keyT p.1)
  | _, _, .nil => .nil
  | _, _, .cons r t => .cons (rep_keyT _) (repL_keys t)
/-- list(d) -/
def rListK : RDC := fun xs C Q => ∃ x kvs, xs = [x] ∧ dicOf C x = some kvs ∧ Q (.lst (kvs.map fun p => keyT p.1)) C
section
variable {X : Cx} {cl : NmB}
theorem cd_listK (hc : X.calm = true := by rfl) : CallD X cl (.type "list") rListK := by
  intro pins s σ H xs us Q I r ⟨ds, C, F, Qd, R, rl, ⟨x, es, e, hb, q⟩, k⟩
  subst e
  cases rl with
  | cons r1 rr =>
    cases rr
    obtain ⟨a, ys, rfl, hs, hl⟩ := dic_ok R r1 hb
    refine call_listD hc pins s σ H _ us Q I r ⟨a, ys, rfl, hs, fun p np => ?_⟩
    have s2 := same_upd (o := .lst (ys.map fun p => kV p.1)) (R.freeF np)
    exact k _ _ C _ _ s2 (R.new np) (.lst upd_same ((repL_keys hl).mono s2)) q
end
end G
set_option maxHeartbeats 2000000
namespace G
open PySem PySem.Spec PyProof.Rows L2
/-! ### dicts of texts and numbers that stand: locked for good, walked, their values, == -/
/-- from here on the dict in i is not changed any more -/
def dLock (i : Nat) (t : DS) : DS := fun D ρ C => ∃ p kvs, ρ[i]? = some (some (.ref p)) ∧ C p = some (.dic kvs) ∧ t D (ρ.set i (some (.dic kvs))) (delC C p)
theorem RC.lock {K : PySem.W.Frag} {cl : Nm} {C : Cl} {F H : Hp} {p : Addr} {c : Cell} {o : HO} (R : RC K cl C F H) (h : C p = some c) : RC K cl (delC C p) (upd F p o) (upd H p o) ∧ Same F (upd F p o) := by
  have f := (R.cel p c h).1
  refine ⟨⟨fun b x e => ?_, fun a x e => ?_, fun a q e => ?_⟩, same_upd f⟩
  · by_cases z : b = p
    · subst z; rw [upd_same] at e ⊢; exact e
    · rw [upd_ne z] at e ⊢; exact R.sub b x e
  · unfold delC at e
    by_cases z : a = p
    · rw [if_pos z] at e; cases e
    · rw [if_neg z] at e
      obtain ⟨f', x', hx, r'⟩ := R.cel a x e
      exact ⟨by rw [upd_ne z]; exact f', x', by rw [upd_ne z]; exact hx, r'.mono (same_upd f)⟩
  · unfold delC at e
    by_cases z : a = p
    · rw [if_pos z] at e; cases e
    · rw [if_neg z] at e
      exact R.tab a q e
theorem dss_lock {X : Cx} {cl : NmB} {sts : List Stmt} {t : DS} (i : Nat) (h : PSsd X cl sts t) : PSsd X cl sts (dLock i t) := by
  refine ⟨fun pins s σ H De I ⟨ρ, C, F, Dd, R, ⟨p, kvs, e, hp, q⟩, k⟩ => ?_⟩
  obtain ⟨v, ev, rv⟩ := R.env i _ e
  obtain ⟨vs, hd, rk⟩ := cell_dic R.rc hp
  obtain ⟨od, I1⟩ := I.lock hd trivial
  obtain ⟨R', s'⟩ := RC.lock (o := .frz od (.dK vs)) R.rc hp
  refine h.run pins s σ _ De I1 ⟨_, delC C p, _, Dd, ?_, q, k.at s'⟩
  cases rv
  have := (R.next s' R').set i (v := .ref p) (d := .dic kvs) (.dic upd_same (rk.mono s'))
  rw [set_own ev] at this
  exact this
/-! walks -/
section
variable {X : Cx} {cl : NmB} {tg e : Expr} {te : DE} {pos p apos cpos : Pos}
/-! list(d.values()) -/
/-! == of dicts whose values are plain -/
end
end G
set_option maxHeartbeats 2000000
namespace G
open PySem PySem.Spec PyProof.Rows L2
/-! ### == of things with lists within that may change -/
section
variable {X : Cx} {cl : NmB}
end
end G
set_option maxHeartbeats 2000000
namespace G
open PySem PySem.Spec PyProof.Rows L2
/-! ### a comprehension in a comprehension -/
theorem look_relabel {f : Str × NameKind → Bool} {x : Str} : ∀ {names : List (Str × NameKind)}, (names.lookup x = some .cell ∨ names.lookup x = some .free) →
    (names.map fun p => if f p = true then (p.1, NameKind.cell) else p).lookup x = some .cell ∨ (names.map fun p => if f p = true then (p.1, NameKind.cell) else p).lookup x = some .free
  | [], h => by rcases h with h | h <;> cases h
  | (n, k) :: r, h => by
    rw [List.map_cons]
    by_cases c : (x == n) = true
    · rw [List.lookup_cons, c] at h
      dsimp only at h
      cases e : f (n, k) with
      | true => rw [if_pos rfl, List.lookup_cons, c]; exact .inl rfl
      | false => rw [if_neg Bool.false_ne_true, List.lookup_cons, c]; exact h
    · have c' : (x == n) = false := by simpa using c
      rw [List.lookup_cons, c'] at h
      have ih := look_relabel (f := f) (x := x) (names := r) h
      cases e : f (n, k) with
      | true => rw [if_pos rfl, List.lookup_cons, c']; exact ih
      | false => rw [if_neg Bool.false_ne_true, List.lookup_cons, c']; exact ih
theorem blk_in {N : List Str} {sc scope : Scope} {own : List (Str × Nat)} {env : Env} (h : BlkOk N sc scope own) : BlkOk N (relabel sc env) scope own :=
  ⟨h.kind, h.uniq, h.ix, fun y hy e => by
    have := h.free y hy e
    exact look_relabel (f := fun p => p.2 == NameKind.free && env.scope.kind == .function && env.kindOf p.1 == some .cell) this, h.own⟩
end G
set_option maxHeartbeats 2000000
namespace G
open PySem PySem.Spec PyProof.Rows L2
/-! ### words in capitals -/
end G
set_option maxHeartbeats 2000000
namespace G
open PySem PySem.Spec PyProof.Rows L2
/-! ### dicts that change, locked while they are walked -/
section
variable {X : Cx} {cl : NmB} {tg e : Expr} {te : DE}
end
end G
set_option maxHeartbeats 2000000
namespace G
open PySem PySem.Spec PyProof.Rows L2
/-! ### lists times numbers; own o[i] = v that may raise -/
theorem repL_rep {K : PySem.W.Frag} {cl : Nm} {F : Hp} {xs : List V} {ds : List D} (r : RepL K cl F xs ds) : ∀ n : Nat, RepL K cl F (List.replicate n xs).flatten (List.replicate n ds).flatten
  | 0 => .nil
  | n + 1 => by
    rw [List.replicate_succ, List.replicate_succ, List.flatten_cons, List.flatten_cons]
    exact r.append (repL_rep r n)
section
variable {X : Cx} {cl : NmB}
end
section
variable {X : Cx} {cl : NmB} {k : Nat} {g : Addr} {sp : DSp2} {c : String} {to ti : DE} {o i : Expr} {pos : Pos} {Ex : DEnv → DX} {W : WX}
end
/-! zip(x, y), y may change later -/
section
variable {X : Cx} {cl : NmB} {tg e e2 : Expr} {t : DA} {p pos tpos : Pos} {elts : List Expr} {kk : Nat}
end
end G
set_option maxHeartbeats 1000000
namespace G
open PySem PySem.Spec PyProof.Rows L2
/-! ### list(range(n)) -/
section
variable {X : Cx} {cl : NmB} {a : Expr} {te : DE} {p p2 cpos pos : Pos}
end
/-! ### repr of a list that changes -/
section
variable {X : Cx} {cl : NmB} {k : Nat}
end
end G
set_option maxHeartbeats 4000000
namespace G
open PySem PySem.Spec PyProof.Rows L2
section
variable {X : Cx} {cl : NmB} {e : Expr} {te : DE} {p1 p2 pos : Pos} {j : Nat}
end
end G
set_option maxHeartbeats 4000000
namespace G
open PySem PySem.Spec PyProof.Rows L2
/-! ### {n:>6} for numbers of one digit -/
section
variable {X : Cx} {cl : NmB} {e : Expr} {te : DE} {p1 p2 pos : Pos} {j : Nat}
end
end G
set_option maxHeartbeats 1000000
namespace G
open PySem PySem.Spec PyProof.Rows L2
/-! ### str.ljust(n), str.rjust(n) -/
section
variable {X : Cx} {cl : NmB}
end
end G
set_option maxHeartbeats 4000000
namespace G
open PySem PySem.Spec PyProof.Rows L2
/-! ### str(n) of numbers of one digit -/
end G
set_option maxHeartbeats 2000000
namespace G
open PySem PySem.Spec PyProof.Rows L2
/-! ### x(e, ..), x an instance of an own class with __call__ -/
section
open PySem.W PySem.Calls
variable {M : Model} {A : Around} {E : Value → Shared → Prop} {s : Shared} {env : Env} {pos : Pos} {x : Addr} {first : List Value} {Q : Value → Shared → Prop}
end
section
variable {X : Cx} {cl : NmB} {CX : CXT} {k : Nat} {g : Addr} {sp : DSp2} {e : Expr} {es : List Expr} {to : DE} {t : DA} {pos p : Pos} {x : Str} {c : String} {Ex : DEnv → DX} {W : WX}
end
end G
set_option maxHeartbeats 2000000
namespace G
open PySem PySem.Spec PyProof.Rows L2
/-! ### def f(a, *, k = v, **rest), called with no further keyword: rest is a new empty dict -/
/-- looks at the keyword defaults, then what makes the dict -/
def KwT {α : Type} (D : Addr) : List (Str × Value) → Sem α → Sem α → Prop
  | [], t, T => t = T
  | q :: l, t, T => ∃ (β γ : Type) (k1 : Option Value → Sem β) (k2 : β → Sem γ) (k3 : γ → Sem α) (a : β), t = ((nsGet D q.1 >>= k1) >>= k2) >>= k3 ∧ k1 (some q.2) = pure a ∧ KwT D l (k2 a >>= k3) T
theorem KwT.run {α : Type} {K : PySem.W.Frag} {M : Model} {A : Around} {Q : α → Shared → Prop} {E : Value → Shared → Prop} {s : Shared} {D : Addr} (X : K.In s.heap) : ∀ {l : List (Str × Value)} {t T : Sem α}, (∀ q ∈ l, PySem.W.nsIn K D q.1 = some (some q.2)) → KwT D l t T → wpAny M A T Q E s → wpAny M A t Q E s
  | [], _, _, _, e, h => by subst e; exact h
  | q :: l, t, T, hl, e, h => by
    obtain ⟨β, γ, k1, k2, k3, a, e1, e2, e3⟩ := e
    have l1 : PySem.W.Looks M s.heap (nsGet D q.1 >>= k1) a := (PySem.W.looks_nsIn X (hl q (.head _))).andThen (PySem.W.Looks.of_pure e2)
    rw [e1, bind_assoc]
    exact wpAny_bind (l1.here (KwT.run X (fun p hp => hl p (.tail _ hp)) e3 h))
section
variable {P : Program} {w : World} {K : PySem.W.Frag} {cl : Nm} {mg : Str → Option Value} {base : Heap} {k n : Nat} {f : Addr} {fd : FuncData} {ps ks N : List Str} {sp : DSp}
end
end G
set_option maxHeartbeats 2000000
namespace G
open PySem PySem.Spec PyProof.Rows L2
/-! ### dict(d), xs.extend(ys) -/
section
variable {X : Cx} {cl : NmB}
end
end G
set_option maxHeartbeats 4000000
namespace G
open PySem PySem.Spec PyProof.Rows L2
/-! ### list(range(a, b)) -/
section
variable {X : Cx} {cl : NmB} {a b : Expr} {ta tb : DE} {p p2 cpos pos : Pos}
end
end G
set_option maxHeartbeats 4000000
namespace G
open PySem PySem.Spec PyProof.Rows L2
/-! ### raise X(..) from Y(..), where no exception is being handled -/
section
variable {X : Cx} {cl : NmB} {k : Nat} {fI : Addr} {fd : FuncData} {ps fs : List Str} {c : String} {e : Expr} {es : List Expr} {t : DA} {x : Str} {p pos pos2 : Pos} {Ex : DEnv → DX} {W : WX}
end
end G
set_option maxHeartbeats 2000000
namespace G
open PySem PySem.Spec PyProof.Rows L2
/-! ### bs.index(False), bs a list of truth values -/
end G
set_option maxHeartbeats 4000000
namespace G
open PySem PySem.Spec PyProof.Rows L2
/-! ### an exception that leaves from inside a list comprehension -/
section
variable {X : Cx} {pins : List (Addr × Obj)} {σ : L2.St} {H : Hp} {s s' : Shared} {W : WX} {E : XK}
end
/-- the same context, another wish about what leaves -/
abbrev Cx.wish (X : Cx) (xe : Value → Shared → Prop) : Cx := { X with xe := xe }
section
variable {X : Cx} {pos pos' : Pos}
end
end G
set_option maxHeartbeats 4000000
namespace G
open PySem PySem.Spec PyProof.Rows L2
/-! ### comprehensions whose element may raise: readings -/
section
variable {X : Cx} {cl : NmB} {pos : Pos} {vs : List Nat} {tg elt iter : Expr} {ifs : List Expr} {scope : Scope} {own : List (Str × Nat)} {g : DG} {tt : DT} {te : (DEnv → DX) → DE} {Ex : DEnv → DX} {W : WX}
end
section
variable {X : Cx} {cl : NmB} {k : Nat} {g : Addr} {ks : List Str} {sp : DSp2} {e o : Expr} {es : List Expr} {kws : List Keyword} {to : DE} {t tk : DA} {pos apos p : Pos} {x m : Str} {c : String} {te : DE} {Ex : DEnv → DX} {W : WX}
end
section
variable {P : Program} {w : World} {K : PySem.W.Frag} {mg : Str → Option Value} {base : Heap} {q : Str} {st : Stmt} {f : Addr} {fd : FuncData} {k : Nat} {C : Addr}
end
end G
set_option maxHeartbeats 4000000
namespace G
open PySem PySem.Spec PyProof.Rows L2
/-! ### def f(a, *, k = v, **rest), called with further keywords -/
abbrev keyS (x : Str) : Key := .inr x
section
variable {P : Program} {w : World} {K : PySem.W.Frag} {mg : Str → Option Value} {base : Heap} {outer : List Env} {s : Shared} {H : Hp} {A : Around}
end
section
variable {P : Program} {w : World} {K : PySem.W.Frag} {cl : Nm} {mg : Str → Option Value} {base : Heap} {k n : Nat} {f : Addr} {fd : FuncData} {ps ks N : List Str} {sp : DSp}
end
end G
set_option maxHeartbeats 4000000
namespace G
open PySem PySem.Spec PyProof.Rows L2
/-! ### d.get(k) -/
def dGet1K (to tk : DE) : DE := fun ρ C Q => to ρ C fun x C1 => (∃ kvs, dicOf C1 x = some kvs) ∧ tk ρ C1 fun y C2 => ∃ kvs k, dicOf C2 x = some kvs ∧ keyD y = some k ∧ Q ((valD kvs k).getD .non) C2
section
variable {X : Cx} {cl : NmB} {n : Nat} {o e : Expr} {apos cpos : Pos} {to tk : DE}
end
theorem v_get1 {to tk : DE} {ρ : DEnv} {C : Cl} {Q : DQ} (h : to ρ C fun x C1 => (∃ kvs, dicOf C1 x = some kvs) ∧ tk ρ C1 fun y C2 => ∃ kvs k, dicOf C2 x = some kvs ∧ keyD y = some k ∧ Q ((valD kvs k).getD .non) C2) : dGet1K to tk ρ C Q := h
--@ v_get1 ?_
end G
set_option maxHeartbeats 4000000
namespace G
open PySem PySem.Spec PyProof.Rows L2
/-! ### {"a": x, "b": y} -/
abbrev DP := DEnv → Cl → (List (Key × D) → Cl → Prop) → Prop
def dPnil : DP := fun _ C R => R [] C
def dPcons (k : Str) (tv : DE) (r : DP) : DP := fun ρ C R => tv ρ C fun v C1 => r ρ C1 fun kvs C2 => R ((keyS k, v) :: kvs) C2
def dDictD (t : DP) : DE := fun ρ C Q => ∀ p, C p = none → t ρ (updC C p (.dic [])) fun kvs C2 => C2 p = some (.dic []) ∧ (kvs.map (·.1)).Nodup ∧ kvs.length ≤ 15 ∧ Q (.ref p) (updC C2 p (.dic kvs))
section
variable {X : Cx} {cl : NmB} {pos : Pos}
end
theorem v_dictD {t : DP} {ρ : DEnv} {C : Cl} {Q : DQ} (h : ∀ p, C p = none → t ρ (updC C p (.dic [])) fun kvs C2 => C2 p = some (.dic []) ∧ (kvs.map (·.1)).Nodup ∧ kvs.length ≤ 15 ∧ Q (.ref p) (updC C2 p (.dic kvs))) : dDictD t ρ C Q := h
theorem v_pcons {k : Str} {tv : DE} {r : DP} {ρ : DEnv} {C : Cl} {R : List (Key × D) → Cl → Prop} (h : tv ρ C fun v C1 => r ρ C1 fun kvs C2 => R ((keyS k, v) :: kvs) C2) : dPcons k tv r ρ C R := h
theorem v_pnil {ρ : DEnv} {C : Cl} {R : List (Key × D) → Cl → Prop} (h : R [] C) : dPnil ρ C R := h
--@ v_dictD ?_
--@ v_pcons ?_
--@ v_pnil ?_
end G
set_option maxHeartbeats 4000000
namespace G
open PySem PySem.Spec PyProof.Rows L2
/-! ### try: body, except c: suite (without a name) -/
def dCatchN (cs : List (String × Bool)) (ts : Addr → String → List (Str × D) → DS) (Ex : DEnv → DX) (D : DEnds) : DEnv → DX := fun ρ' c ds C' => ∃ b, cs.lookup c = some b ∧
    if b = true then ∀ a, C' a = none → ts a c ds D ρ' C' else Ex ρ' c ds C'
def dTryN (cs : List (String × Bool)) (tb : (DEnv → DX) → DS) (ts : Addr → String → List (Str × D) → DS) (Ex : DEnv → DX) : DS := fun D ρ C => tb (dCatchN cs ts Ex D) D ρ C
section
variable {X : Cx} {cl : NmB} {x : Str} {cx : String} {cs : List (String × Bool)} {body suite : List Stmt} {b₀ : Stmt} {np pos pos' : Pos} {tb : (DEnv → DX) → DS} {ts : Addr → String → List (Str × D) → DS} {Ex : DEnv → DX} {W : WX}
end
theorem v_tryN {cs : List (String × Bool)} {tb : (DEnv → DX) → DS} {ts : Addr → String → List (Str × D) → DS} {Ex : DEnv → DX} {ρ : DEnv} {C : Cl} {Dd : DEnds} (h : tb (dCatchN cs ts Ex Dd) Dd ρ C) : dTryN cs tb ts Ex Dd ρ C := h
--@ v_tryN ?_
end G
set_option maxHeartbeats 4000000
namespace G
open PySem PySem.Spec PyProof.Rows L2
/-! ### a class's constant, asked of an instance -/
section
variable {X : Cx} {cl : NmB} {e : Expr} {te : DE} {pos : Pos} {f : Str} {c : String} {ρ : DEnv} {C : Cl} {Q : DQ}
def dCon (c : String) (te : DE) (f : Str) (d : D) : DE := fun ρ C Q => te ρ C fun x C1 => ∃ fs, insOf C1 x = some (c, fs) ∧ fs.lookup f = none ∧ Q d C1
theorem v_con {d : D} (h : te ρ C fun x C1 => ∃ fs, insOf C1 x = some (c, fs) ∧ fs.lookup f = none ∧ Q d C1) : dCon c te f d ρ C Q := h
end
--@ v_con ?_
end G
set_option maxHeartbeats 4000000
namespace HT
open PySem PySem.Spec PyProof.Rows
section
variable {prog : Program} {w : World} {A : Around} {E : Value → Shared → Prop} {s : Shared}
end
end HT
namespace L2
open PySem PySem.Spec PyProof.Rows
variable {X : Cx}
end L2
namespace G
open PySem PySem.Spec PyProof.Rows L2
section
variable {X : Cx} {cl : NmB} {e : Expr} {te : DE} {pos : Pos}
end
end G
set_option maxHeartbeats 4000000
namespace G
open PySem PySem.Spec PyProof.Rows L2
/-! ### own [], instances left alone -/
section
variable {X : Cx} {cl : NmB} {CX : CXT} {k : Nat} {g : Addr} {sp : DSp2} {c : String}
end
/-! ### in a dict, as a test -/
section
variable {X : Cx} {cl : NmB} {o i e f : Expr} {es : List Expr} {to tk tv tx : DE} {t : DA} {pos pos' kpos apos cpos : Pos} {kk : Nat} {n : Nat}
theorem dt_notinK (hr : Room n X.A) (hi : PEd X cl i tk) (ho : PEd X cl o to) (hm : behindInMarks .NotIn o = false) : PTd X cl (.Compare i [.NotIn] [o] pos) (dTest (dOp rNotInK tk to)) := by
  refine weakT (pt_cmp (pc_dnotin (hu_of hr.r) hi ho) hm) fun σ H Q hh => ?_
  obtain ⟨ρ, C, F, Qd, R, h, k⟩ := low_test hh
  unfold tB
  refine ⟨ρ, C, F, _, R, h, fun y dy C1 H1 F1 s1 R1 r1 q1 => ?_⟩
  refine ⟨ρ, C1, F1, _, R.next s1 R1, q1, fun x dx C2 H2 F2 s2 R2 r2 ⟨kvs, kc, e1, e2, q⟩ => ?_⟩
  obtain ⟨a, vs, rfl, hd, rk⟩ := dic_ok R2 r2 e1
  rw [key_rep (r1.mono s2) e2]
  refine ⟨a, valV vs kc, rfl, .inl ⟨vs, kc, hd, rfl, rfl⟩, ?_⟩
  rw [repK_some kc rk]
  exact k _ _ C2 H2 F2 (s1.trans s2) R2 (.bl _) q
end
end G
namespace G
open PySem PySem.Spec PyProof.Rows L2
/-! ### x in a list of plain things of any depth -/
section
variable {X : Cx} {cl : NmB} {n : Nat}
end
end G
set_option maxHeartbeats 4000000
namespace G
open PySem PySem.Spec PyProof.Rows L2
/-! ### x in a tuple of plain things of any depth -/
section
variable {X : Cx} {cl : NmB} {n : Nat}
end
end G
set_option maxHeartbeats 4000000
namespace G
open PySem PySem.Spec PyProof.Rows L2
/-! ### len of a dict -/
def rLenK : RDC := fun xs C Q => ∃ a kvs, xs = [.ref a] ∧ C a = some (.dic kvs) ∧ Q (.int (kvs.length : Nat)) C
section
variable {X : Cx} {cl : NmB}
theorem cd_lenK : CallD X cl (.builtin "len") rLenK := by
  intro pins s σ H xs us Q I r ⟨ds, C, F, Qd, R, rl, ⟨a, kvs, e, hc, q⟩, k⟩
  subst e
  cases rl with
  | cons r1 rr =>
    cases rr
    cases r1
    obtain ⟨vs, hd, rk⟩ := cell_dic R hc
    refine call_lenD pins s σ H _ us Q I r ⟨a, vs, rfl, hd, ?_⟩
    rw [rk.length]
    exact k _ _ C H F (Same.refl F) R (.int _) q
end
end G
set_option maxHeartbeats 4000000
namespace G
open PySem PySem.Spec PyProof.Rows L2
/-! ### {k: v for x in xs} -/
def dDc (wi : DI) (g : DG) (tt : DT) (tk tv : DE) (vs : List Nat) : DE := fun ρ C Q => wi ρ C fun xs C1 => ∀ p, C1 p = none → ∃ Pv : Nat → Cl → Prop, Pv 0 (updC C1 p (.dic [])) ∧
  (∀ i x C, xs[i]? = some x → Pv i C → g x (wipeD ρ vs) C fun ρ2 C2 => tt ρ2 C2 fun b C3 =>
    if b = true then tk ρ2 C3 fun y C4 => tv ρ2 C4 fun z C5 => ∃ kvs k, keyD y = some k ∧ C5 p = some (.dic kvs) ∧ kvs.length < sizeLine ∧ Pv (i + 1) (updC C5 p (.dic (putKD kvs k z))) else Pv (i + 1) C3) ∧
  ∀ C, Pv xs.length C → Q (.ref p) C
section
variable {X : Cx} {cl : NmB} {pos : Pos} {vs : List Nat}
theorem low_dc {K : PySem.W.Frag} {wi : DI} {g : DG} {tt : DT} {tk tv : DE} {σ : L2.St} {H : Hp} {Q : VK} (h : lowE K cl (dDc wi g tt tk tv vs) σ H Q) :
    tDc (lowI K cl wi) (lowO K cl vs g) (lowT K cl tt) (lowE K cl tk) (lowE K cl tv) vs σ H Q := by
  obtain ⟨ρ, C, F, Qd, R, h, k⟩ := h
  refine ⟨ρ, C, F, _, R, h, fun J xs C1 H1 F1 s1 R1 wk q1 p np => ?_⟩
  obtain ⟨Pv, p0, ps, pd⟩ := q1 p (R1.freeC np)
  refine ⟨fun i m H => m = xs.length - i ∧ i ≤ xs.length ∧ ∃ C F', Same F1 F' ∧ RC K cl C F' H ∧ Pv i C, ⟨xs.length, by simp, Nat.zero_le _, _, F1, Same.refl F1, R1.cell np (.dic .nil), p0⟩, ?_⟩
  rintro i m H2 ⟨rfl, hi, C2, F2, s2, R2, p2⟩
  obtain ⟨wy, we⟩ := wk i C2 F2 H2 s2 R2
  by_cases hlt : i < xs.length
  · obtain ⟨go, yl⟩ := wy _ (List.getElem?_eq_getElem hlt)
    refine .inr ⟨go, fun H' => ∃ C F', Same F1 F' ∧ RC K cl C F' H' ∧ Pv (i + 1) C, fun H' z => ⟨xs.length - (i + 1), by omega, rfl, hlt, z⟩, fun v H3 y => ?_⟩
    obtain ⟨F3, s3, R3, r3⟩ := yl v H3 y
    have Rw : RS K cl (wipeD ρ vs) C2 F3 (wipe σ vs) H3 := (R.wipe vs).next (s1.trans (s2.trans s3)) R3
    refine ⟨_, _, C2, F3, _, Rw, r3, ps i _ C2 (List.getElem?_eq_getElem hlt) p2, fun ρ4 C4 F4 σ4 H4 s4 R4 w4 q4 => ⟨?_, ?_⟩⟩
    · rw [w4, low_lc.wipe_wipe]
    refine ⟨ρ4, C4, F4, _, R4, q4, fun b C5 H5 F5 s5 R5 q5 => ?_⟩
    have sb : Same F1 F5 := s2.trans (s3.trans (s4.trans s5))
    cases b with
    | false =>
      rw [if_neg Bool.false_ne_true] at q5
      exact iteF ⟨C5, F5, sb, R5, q5⟩
    | true =>
      rw [if_pos rfl] at q5
      refine iteT ⟨ρ4, C5, F5, _, R4.next s5 R5, q5, fun u d C6 H6 F6 s6 R6 r6 q6 => ?_⟩
      refine ⟨ρ4, C6, F6, _, R4.next (s5.trans s6) R6, q6, fun w e C7 H7 F7 s7 R7 r7 ⟨kvs, kc, e3, hc, hl, q7⟩ => ?_⟩
      obtain ⟨ws, hd, rk⟩ := cell_dic R7 hc
      exact ⟨ws, kc, key_rep r6 e3, hd, by rw [rk.length]; exact hl, _, F7, sb.trans (s6.trans s7), R7.put hc (.dic (repK_put r7 rk)), q7⟩
  · have e : i = xs.length := by omega
    subst e
    exact .inl ⟨we rfl, k (.ref p) (.ref p) C2 H2 F2 (s1.trans s2) R2 (.ref p) (pd C2 p2)⟩
theorem de_dc {kx vx tg iter : Expr} {ifs : List Expr} {scope : Scope} {own : List (Str × Nat)} {wi : DI} {g : DG} {tt : DT} {tk tv : DE} (hN : X.N.Nodup) (hi : PId X cl tg iter wi) (ok : BlkOk X.N X.env.scope scope own)
    (hg : ∀ (s : Shared) (H : Hp) (C : Addr) (l : List (Str × Addr)) (fp : List Addr), POd (X.blk s H scope (compEnvC scope l C X.env) fp) cl vs tg g) (ht : ∀ (s : Shared) (H : Hp) (C : Addr) (l : List (Str × Addr)) (fp : List Addr), PTsd (X.blk s H scope (compEnvC scope l C X.env) fp) cl ifs tt)
    (hk : ∀ (s : Shared) (H : Hp) (C : Addr) (l : List (Str × Addr)) (fp : List Addr), PEd (X.blk s H scope (compEnvC scope l C X.env) fp) cl kx tk)
    (he : ∀ (s : Shared) (H : Hp) (C : Addr) (l : List (Str × Addr)) (fp : List Addr), PEd (X.blk s H scope (compEnvC scope l C X.env) fp) cl vx tv) (hv : own.map (·.2) = vs := by rfl) (hc : X.calm = true := by rfl) (hs : ∀ x, foldedSetIterable iter X.env x = pure x := by intro _; rfl) :
    PEd X cl (.DictComp kx vx [⟨tg, iter, ifs, 0⟩] scope pos) (dDc wi g tt tk tv vs) := by
  subst hv
  exact weakE (pe_dc hc hN hi ok hg ht hk he hs) fun _ _ _ h => low_dc h
end
/-- what is put in from item to item -/
def dcKvs {α : Type} (kf : α → Key) (vf : α → D) (as : List α) : List (Key × D) := as.foldl (fun kvs a => putKD kvs (kf a) (vf a)) []
theorem dcKvs_len {α : Type} {kf : α → Key} {vf : α → D} (as : List α) : (dcKvs kf vf as).length ≤ as.length := by
  have : ∀ (as : List α) (kvs : List (Key × D)), (as.foldl (fun kvs a => putKD kvs (kf a) (vf a)) kvs).length ≤ kvs.length + as.length := by
    intro as
    induction as with
    | nil => intro kvs; exact Nat.le_refl _
    | cons a r ih =>
      intro kvs
      have := ih (putKD kvs (kf a) (vf a))
      have := putKD_len kvs (kf a) (vf a)
      rw [List.foldl_cons, List.length_cons]
      omega
  have := this as []
  rw [List.length_nil, Nat.zero_add] at this
  exact this
/-- with different keys it is the map itself -/
theorem dcKvs_map {α : Type} {kf : α → Key} {vf : α → D} {as : List α} (nd : (as.map kf).Nodup) : dcKvs kf vf as = as.map fun a => (kf a, vf a) := by
  have : ∀ (as : List α) (kvs : List (Key × D)), (kvs.map (·.1) ++ as.map kf).Nodup → as.foldl (fun kvs a => putKD kvs (kf a) (vf a)) kvs = kvs ++ as.map fun a => (kf a, vf a) := by
    intro as
    induction as with
    | nil => intro kvs _; simp
    | cons a r ih =>
      intro kvs nd
      have e : putKD kvs (kf a) (vf a) = kvs ++ [(kf a, vf a)] := by
        unfold putKD
        rw [if_neg]
        intro h
        rw [List.any_eq_true] at h
        obtain ⟨p, hp, e⟩ := h
        rw [List.nodup_append] at nd
        exact nd.2.2 _ (List.mem_map.mpr ⟨p, hp, rfl⟩) (kf a) (by simp) (of_decide_eq_true e)
      rw [List.foldl_cons, e, ih]
      · simp
      · simpa using nd
  have := this as [] (by simpa using nd)
  rw [List.nil_append] at this
  exact this
/-- a map from the items to key and value -/
theorem v_dcmap {α : Type} {wi : DI} {g : DG} {tk tv : DE} {vs : List Nat} {ρ : DEnv} {C : Cl} {Q : DQ} {as : List α} {e : α → D} (kf : α → Key) (vf : α → D) (hw : ∀ R : List D → Cl → Prop, R (as.map e) C → wi ρ C R) (hl : as.length ≤ 1000000)
    (hs : ∀ (i : Nat) a C' (N : D → D → Cl → Prop), as[i]? = some a → a ∈ as → SubC C C' → (∀ y, keyD y = some (kf a) → N y (vf a) C') → g (e a) (wipeD ρ vs) C' fun ρ2 C2 => tk ρ2 C2 fun y C4 => tv ρ2 C4 fun z C5 => N y z C5)
    (hq : ∀ p, C p = none → Q (.ref p) (updC C p (.dic (dcKvs kf vf as)))) : dDc wi g dYes tk tv vs ρ C Q := by
  refine hw _ fun p hp => ⟨fun i C' => C' = updC C p (.dic (dcKvs kf vf (as.take i))), rfl, fun i x C' hx hP => ?_, fun C' hP => ?_⟩
  · rw [List.getElem?_map] at hx
    cases ha : as[i]? with
    | none => rw [ha] at hx; cases hx
    | some a =>
      rw [ha] at hx; cases hx
      subst hP
      have h := hs i a (updC C p (.dic (dcKvs kf vf (as.take i)))) (fun y z C5 => ∃ kvs k, keyD y = some k ∧ C5 p = some (.dic kvs) ∧ kvs.length < sizeLine ∧ updC C5 p (.dic (putKD kvs k z)) = updC C p (.dic (dcKvs kf vf (as.take (i + 1))))) ha (List.mem_of_getElem? ha) ((SubC.refl C).new hp) fun y hy => ?_
      · exact h
      refine ⟨_, _, hy, updC_same, Nat.lt_of_le_of_lt (Nat.le_trans (dcKvs_len _) (by rw [List.length_take]; omega) : _ ≤ 1000000) (by rw [sizeLine_eq]; decide), ?_⟩
      rw [updC_updC]
      congr 2
      unfold dcKvs
      rw [List.take_add_one, ha, Option.toList_some, List.foldl_append]
      rfl
  · subst hP
    rw [List.length_map, List.take_length]
    exact hq p hp
end G
set_option maxHeartbeats 4000000
namespace G
open PySem PySem.Spec PyProof.Rows L2
/-! ### str of a number, int of a text, zfill -/
section
variable {X : Cx} {cl : NmB}
end
end G
set_option maxHeartbeats 4000000
namespace G
open PySem PySem.Spec PyProof.Rows L2
/-! ### a dict that stands as soon as it is there; sum of a list of numbers -/
def dFrz (te : DE) : DE := fun ρ C Q => te ρ C fun x C1 => ∃ p kvs, x = .ref p ∧ C1 p = some (.dic kvs) ∧ Q (.dic kvs) (delC C1 p)
section
variable {X : Cx} {cl : NmB} {e : Expr} {te : DE}
theorem de_frz (h : PEd X cl e te) : PEd X cl e (dFrz te) := by
  refine ⟨fun pins s σ H Q I ⟨ρ, C, F, Qd, R, hh, k⟩ => ?_⟩
  refine thn (h.run pins s σ H (fun v H1 => ∃ d C1 F1, Same F F1 ∧ RC X.K cl C1 F1 H1 ∧ Rep X.K cl F1 v d ∧ ∃ p kvs, d = .ref p ∧ C1 p = some (.dic kvs) ∧ Qd (.dic kvs) (delC C1 p)) I ⟨ρ, C, F, _, R, hh, fun v d C1 H1 F1 s1 R1 r1 q => ⟨d, C1, F1, s1, R1, r1, q⟩⟩) fun u s1 ⟨v, H1, I1, rv, d, C1, F1, sF, R1, r1, p, kvs, e, hp, q⟩ => ?_
  subst e
  cases r1
  obtain ⟨vs, hd, rk⟩ := cell_dic R1 hp
  obtain ⟨od, I2⟩ := I1.lock hd trivial
  obtain ⟨R', s'⟩ := RC.lock (o := .frz od (.dK vs)) R1 hp
  exact ⟨.ref p, _, I2, rv, k (.ref p) (.dic kvs) _ _ _ (sF.trans s') R' (.dic upd_same (rk.mono s')) q⟩
end
theorem v_frz {te : DE} {ρ : DEnv} {C : Cl} {Q : DQ} (h : te ρ C fun x C1 => ∃ p kvs, x = .ref p ∧ C1 p = some (.dic kvs) ∧ Q (.dic kvs) (delC C1 p)) : dFrz te ρ C Q := h
end G
set_option maxHeartbeats 1000000
namespace G
open PySem PySem.Spec PyProof.Rows L2
/-! ### exceptions as values -/
section
variable {X : Cx} {cl : NmB} {k : Nat} {fI : Addr} {fd : FuncData} {ps fs : List Str} {c : String} {e : Expr} {es : List Expr} {t : DA} {x : Str} {p pos : Pos}
end
end G
set_option maxHeartbeats 1000000
namespace G
open PySem PySem.Spec PyProof.Rows L2
/-! ### exceptions as values: what is asked of them -/
/-- c(e, ..) as a value -/
def dExV (c : String) (fs : List Str) (t : DA) : DE := fun ρ C Q => t ρ C fun xs C1 => xs.length = fs.length ∧ xs.length ≤ 900 ∧ (∀ x ∈ xs, PrD x) ∧ ∀ a, C1 a = none → Q (.ref a) (updC C1 a (.exc a c (fs.zip xs).reverse))
/-- o.f, o such a value -/
def dExF (f : Str) (cs : List String) (te : DE) : DE := fun ρ C Q => te ρ C fun x C1 => ∃ a c fs v, x = .ref a ∧ C1 a = some (.exc a c fs) ∧ c ∈ cs ∧ fs.lookup f = some v ∧ Q v C1
/-- isinstance(o, c), o such a value; tb: the answers by its class -/
def dExI (tb : List (String × Bool)) (te : DE) : DE := fun ρ C Q => te ρ C fun x C1 => ∃ a c fs b, x = .ref a ∧ C1 a = some (.exc a c fs) ∧ tb.lookup c = some b ∧ Q (.bl b) C1
section
variable {X : Cx} {cl : NmB} {k : Nat} {fI : Addr} {fd : FuncData} {ps fs : List Str} {c : String} {e : Expr} {es : List Expr} {t : DA} {x : Str} {p pos : Pos}
end
theorem v_exv {c : String} {fs : List Str} {t : DA} {ρ : DEnv} {C : Cl} {Q : DQ} (h : t ρ C fun xs C1 => xs.length = fs.length ∧ xs.length ≤ 900 ∧ (∀ x ∈ xs, PrD x) ∧ ∀ a, C1 a = none → Q (.ref a) (updC C1 a (.exc a c (fs.zip xs).reverse))) : dExV c fs t ρ C Q := h
theorem v_exf {f : Str} {cs : List String} {te : DE} {ρ : DEnv} {C : Cl} {Q : DQ} (h : te ρ C fun x C1 => ∃ a c fs v, x = .ref a ∧ C1 a = some (.exc a c fs) ∧ c ∈ cs ∧ fs.lookup f = some v ∧ Q v C1) : dExF f cs te ρ C Q := h
theorem v_exi {tb : List (String × Bool)} {te : DE} {ρ : DEnv} {C : Cl} {Q : DQ} (h : te ρ C fun x C1 => ∃ a c fs b, x = .ref a ∧ C1 a = some (.exc a c fs) ∧ tb.lookup c = some b ∧ Q (.bl b) C1) : dExI tb te ρ C Q := h
end G
--@ v_exv ?_
--@ v_exf ?_
--@ v_exi ?_
set_option maxHeartbeats 1000000
namespace G
open PySem PySem.Spec PyProof.Rows L2
/-! ### the codes of a shown text -/
def okC (s : Str) : Prop := ∀ c ∈ s.cps.toList, c < 1114112
theorem okC_add {a b : Str} (h : okC a) (k : okC b) : okC (a ++ b) := fun c hc => by
  have e : (a ++ b).cps.toList = a.cps.toList ++ b.cps.toList := by
    show (a.cps ++ b.cps).toList = _
    exact Array.toList_append
  rw [e, List.mem_append] at hc
  exact hc.elim (h c) (k c)
theorem char_lt (c : Char) : c.toNat < 1114112 := by
  have h := c.valid
  unfold UInt32.isValidChar Nat.isValidChar at h
  show c.val.toNat < 1114112
  rcases h with h | ⟨_, h⟩ <;> omega
theorem okC_of (s : String) : okC (Str.ofString s) := fun c hc => by
  rw [Str.ofString_eq_toList] at hc
  obtain ⟨x, _, rfl⟩ := List.mem_map.mp (by simpa using hc)
  exact char_lt x
theorem okC_join {s : Str} (hs : okC s) : ∀ {ts : List Str}, (∀ t ∈ ts, okC t) → okC (Str.join s ts)
  | [], _ => by unfold Str.join; exact fun c hc => by simp [Str.empty] at hc
  | [x], h => by unfold Str.join; exact h x List.mem_cons_self
  | x :: y :: r, h => by
    unfold Str.join
    exact okC_add (okC_add (h x List.mem_cons_self) hs) (okC_join hs fun t ht => h t (List.mem_cons_of_mem _ ht))
theorem okC_from : ∀ (ts : List Str) (k : Nat) (acc : Str), okC acc → (∀ t ∈ ts, okC t) → okC (textFrom k acc ts)
  | [], _, _, h, _ => by unfold textFrom; exact h
  | t :: ts, k, acc, h, ht => by
    unfold textFrom
    exact okC_from ts _ _ (okC_add (okC_add h (okC_of _)) (ht t List.mem_cons_self)) fun x hx => ht x (List.mem_cons_of_mem _ hx)
theorem okC_hex (n c : Nat) : ∀ d ∈ List.replicate (n - ((Nat.toDigits 16 c).map Char.toNat).length) 48 ++ (Nat.toDigits 16 c).map Char.toNat, d < 1114112 := fun d hd => by
  rcases List.mem_append.mp hd with h | h
  · rw [(List.mem_replicate.mp h).2]
    decide
  · obtain ⟨x, _, rfl⟩ := List.mem_map.mp h
    exact char_lt x
theorem okC_char {q c : Nat} (h : c < 1114112) : ∀ d ∈ Builtin.Str.reprChar q c, d < 1114112 := by
  have h2 := okC_hex 2 c
  have h4 := okC_hex 4 c
  have h8 := okC_hex 8 c
  unfold Builtin.Str.reprChar
  dsimp only
  repeat' split
  all_goals intro d hd
  all_goals simp only [List.mem_append, List.mem_cons, List.not_mem_nil, or_false] at hd h2 h4 h8
  all_goals first
    | (rcases hd with rfl | rfl <;> omega)
    | (subst hd; omega)
    | (rcases hd with (rfl | rfl) | hd
       · decide
       · decide
       · first | exact h2 d hd | exact h4 d hd | exact h8 d hd)
theorem okC_fold (q : Nat) : ∀ (l : List Nat) (acc : Array Nat), (∀ c ∈ acc.toList, c < 1114112) → (∀ c ∈ l, c < 1114112) → ∀ c ∈ (l.foldl (fun out c => out ++ (Builtin.Str.reprChar q c).toArray) acc).toList, c < 1114112
  | [], acc, h, _ => h
  | c :: r, acc, h, hl => okC_fold q r _ (fun d hd => by
      rw [Array.toList_append, List.mem_append] at hd
      rcases hd with hd | hd
      · exact h d hd
      · exact okC_char (hl c List.mem_cons_self) d (by simpa using hd)) fun d hd => hl d (List.mem_cons_of_mem _ hd)
theorem okC_repr {x : Str} (h : okC x) : okC (reprText x) := fun c hc => by
  unfold reprText at hc
  have hq : reprQuote x < 1114112 := by unfold reprQuote; split <;> decide
  rw [← Array.foldl_toList] at hc
  rw [Array.toList_push, List.mem_append] at hc
  rcases hc with hc | hc
  · exact okC_fold _ _ _ (fun d hd => by simp at hd; rw [hd]; exact hq) h c hc
  · simp at hc
    rw [hc]
    exact hq
mutual
theorem okC_shown : ∀ d : PyData, d.canLay0 = true → okC d.shown
  | .none, _ => by unfold PyData.shown; exact okC_of _
  | .bool b, _ => by unfold PyData.shown; cases b <;> exact okC_of _
  | .int i, _ => by unfold PyData.shown; exact okC_of _
  | .str x, h => by
    unfold PyData.shown
    unfold PyData.canLay0 PyData.strOk at h
    refine okC_repr fun c hc => ?_
    have := Array.all_eq_true_iff_forall_mem.mp h c (by simpa using hc)
    simpa using this
  | .list xs, h => by
    unfold PyData.shown
    unfold PyData.canLay0 at h
    unfold listText
    exact okC_add (okC_from _ _ _ (okC_of _) (okC_shownL xs h)) (okC_of _)
  | .tuple xs, h => by
    unfold PyData.shown
    unfold PyData.canLay0 at h
    unfold tupleText
    exact okC_add (okC_add (okC_of _) (okC_join (okC_of _) (okC_shownL xs h))) (okC_of _)
  | .dict _, h => by unfold PyData.canLay0 at h; cases h
theorem okC_shownL : ∀ ds : List PyData, PyData.canLayAll0 ds = true → ∀ s ∈ PyData.shownAll ds, okC s
  | [], _ => by unfold PyData.shownAll; exact nofun
  | d :: ds, h => by
    unfold PyData.canLayAll0 at h
    rw [Bool.and_eq_true] at h
    unfold PyData.shownAll
    intro s hs
    rcases List.mem_cons.mp hs with e | e
    · rw [e]
      exact okC_shown d h.1
    · exact okC_shownL ds h.2 s e
end
end G
set_option maxHeartbeats 2000000
namespace G
open PySem PySem.Spec PyProof.Rows L2
/-! ### lambdas with parameters -/
/-- a lambda's names: parameters ps, names of its own ls, captured names ys (each with its place among the maker's names) -/
structure LamP (NX : List Str) (sc : Scope) (ps ls : List Str) (ys : List (Str × Nat)) (scope : Scope) : Prop where
  kind : scope.kind = .function
  co : scope.isCoroutine = false
  gen : scope.isGenerator = false
  noc : ∀ y ∈ scope.names, y.2 ≠ .cell
  nd : ps.Nodup
  par : ∀ x ∈ ps, scope.names.lookup x = some .local
  free : ∀ y ∈ scope.names, y.2 = .free → sc.names.lookup y.1 = some .cell ∨ sc.names.lookup y.1 = some .free
  slot : ∀ z ∈ ys, NX[z.2]? = some z.1 ∧ scope.names.lookup z.1 = some .free
def lamPB (NX : List Str) (sc : Scope) (ps ls : List Str) (ys : List (Str × Nat)) (scope : Scope) : Bool :=
  decide (scope.kind = .function) && !scope.isCoroutine && !scope.isGenerator && (scope.names.all fun y => !decide (y.2 = .cell)) && decide ps.Nodup && (ps.all fun x => decide (scope.names.lookup x = some .local)) &&
    (scope.names.all fun y => !decide (y.2 = .free) || decide (sc.names.lookup y.1 = some .cell) || decide (sc.names.lookup y.1 = some .free)) && ys.all fun z => decide (NX[z.2]? = some z.1) && decide (scope.names.lookup z.1 = some .free)
theorem lamP_by {NX : List Str} {sc : Scope} {ps ls : List Str} {ys : List (Str × Nat)} {scope : Scope} (h : lamPB NX sc ps ls ys scope = true) : LamP NX sc ps ls ys scope := by
  unfold lamPB at h
  simp only [Bool.and_eq_true, Bool.or_eq_true, Bool.not_eq_true', decide_eq_true_eq, decide_eq_false_iff_not, List.all_eq_true] at h
  obtain ⟨⟨⟨⟨⟨⟨⟨h1, h2⟩, h3⟩, h4⟩, h5⟩, h6⟩, h7⟩, h8⟩ := h
  refine ⟨h1, h2, h3, h4, h5, h6, fun y hy e => ?_, h8⟩
  rcases h7 y hy with (z | z) | z
  · exact absurd e z
  · exact .inl z
  · exact .inr z
theorem LamP.has {X : Cx} {ps ls : List Str} {ys : List (Str × Nat)} {scope : Scope} (L : LamP X.N X.env.scope ps ls ys scope) (ok : X.Ok) : ∀ y ∈ scope.names, y.2 = .free → ∃ c, X.env.cells.lookup y.1 = some c := fun y hy e => by
  rcases L.free y hy e with k | k
  · exact ok.has _ (.inl k)
  · exact ok.has _ (.inr k)
abbrev LamN (ps ls : List Str) (ys : List (Str × Nat)) : List Str := ps ++ ls ++ ys.map (·.1)
def lamSt {α : Type} (vs : List α) (n : Nat) (ys : List (Str × Nat)) (σ : List (Option α)) : List (Option α) := vs.map some ++ List.replicate n none ++ ys.map fun z => (σ[z.2]?).join
/-- the context of such a lambda's body -/
def lamCxP (X : Cx) (A : Around) (outer : List Env) (s : Shared) (H : Hp) (ps ls : List Str) (ys : List (Str × Nat)) (scope : Scope) (f c' : Addr) : Cx := { LamX.lamCx X A outer s H E0 scope f c' with N := LamN ps ls ys }
theorem look_rev {ps : List Str} {us : List Value} (nd : ps.Nodup) {i : Nat} {y : Str} {u : Value} (hp : ps[i]? = some y) (hu : us[i]? = some u) : (ps.zip us).reverse.lookup y = some u := by
  have hz : (ps.zip us)[i]? = some (y, u) := by
    rw [List.getElem?_zip_eq_some]
    exact ⟨hp, hu⟩
  have hm : (y, u) ∈ (ps.zip us).reverse := List.mem_reverse.mpr (List.mem_of_getElem? hz)
  obtain ⟨u', hu'⟩ := mem_lookup hm
  rw [hu']
  have hm' := List.mem_reverse.mp (PySem.mem_of_lookup hu')
  obtain ⟨j, hj⟩ := List.mem_iff_getElem?.mp hm'
  rw [List.getElem?_zip_eq_some] at hj
  have hij : i = j := by
    have h1 := List.getElem?_eq_some_iff.mp hp
    have h2 := List.getElem?_eq_some_iff.mp hj.1
    obtain ⟨a1, b1⟩ := h1
    obtain ⟨a2, b2⟩ := h2
    exact (List.getElem_inj nd).mp (b1.trans b2.symm)
  subst hij
  exact hj.2.symm.trans hu
section
variable {X : Cx} {pins : List (Addr × Obj)} {σ : L2.St} {H HZ : Hp} {s s1 : Shared}
theorem lamSt_get {α : Type} {vs : List α} {n : Nat} {ps ls : List Str} {ys : List (Str × Nat)} {σ : List (Option α)} {i : Nat} {y : Str} {v : α} (hl : vs.length = ps.length) (hn : ls.length = n) (h1 : (LamN ps ls ys)[i]? = some y) (h2 : (lamSt vs n ys σ)[i]? = some (some v)) :
    (ps[i]? = some y ∧ vs[i]? = some v) ∨ ∃ z ∈ ys, z.1 = y ∧ σ[z.2]? = some (some v) := by
  subst hn
  unfold lamSt at h2
  unfold LamN at h1
  by_cases a : i < ps.length
  · left
    rw [List.append_assoc, List.getElem?_append_left a] at h1
    rw [List.append_assoc, List.getElem?_append_left (by rw [List.length_map, hl]; exact a), List.getElem?_map] at h2
    refine ⟨h1, ?_⟩
    cases e : vs[i]? with
    | none => rw [e] at h2; cases h2
    | some w => rw [e] at h2; cases h2; rfl
  · right
    by_cases b : i < ps.length + ls.length
    · rw [List.append_assoc, List.getElem?_append_right (by rw [List.length_map, hl]; omega), List.getElem?_append_left (by rw [List.length_map, List.length_replicate, hl]; omega), List.getElem?_replicate] at h2
      split at h2 <;> cases h2
    · have hlen : (ps ++ ls).length = ps.length + ls.length := List.length_append
      have hlen2 : (vs.map some ++ List.replicate ls.length (none : Option α)).length = ps.length + ls.length := by rw [List.length_append, List.length_map, List.length_replicate, hl]
      rw [List.getElem?_append_right (by omega), hlen, List.getElem?_map] at h1
      rw [List.getElem?_append_right (by omega), hlen2, List.getElem?_map] at h2
      cases e : ys[i - (ps.length + ls.length)]? with
      | none => rw [e] at h1; cases h1
      | some z =>
        rw [e] at h1 h2
        refine ⟨z, List.mem_of_getElem? e, Option.some.inj h1, ?_⟩
        have h3 : (σ[z.2]?).join = some v := Option.some.inj h2
        cases e2 : σ[z.2]? with
        | none => rw [e2] at h3; cases h3
        | some w => rw [e2] at h3; exact congrArg some h3
theorem lamSt_len {α : Type} {vs : List α} {n : Nat} {ps ls : List Str} {ys : List (Str × Nat)} {σ : List (Option α)} (hl : vs.length = ps.length) (hn : ls.length = n) : (lamSt vs n ys σ).length = (LamN ps ls ys).length := by
  unfold lamSt
  simp only [List.length_append, List.length_map, List.length_replicate, hl, hn]
theorem lamP_start {A : Around} {outer : List Env} {ps ls : List Str} {ys : List (Str × Nat)} {scope : Scope} {f c' : Addr} {h₁ : Heap} {tk : Nat} {vs : List V} {us : List Value} (I : Inv X pins σ H s) (L : LamP X.N X.env.scope ps ls ys scope) (e0 : Env0 X.prog X.w X.K X.mg X.base A outer s1 HZ) (hd : A.handled = none)
    (un : Un (frs X.stack) [] H HZ s.heap s1.heap) (hl : vs.length = ps.length) (r : Vals vs us) (hns : h₁.Ns s1.heap.objs.size fun y => (ps.zip us).reverse.lookup y) (kp : ∀ b o, s1.heap.get? b = some o → h₁.get? b = some o) :
    Inv (lamCxP X A outer s1 HZ ps ls ys scope f c') [] (lamSt vs ls.length ys σ) HZ { s1 with heap := h₁, toks := tk } := by
  have hfree := L.has I.ok
  have cm : ∀ {y c}, (cloFrom X.env.cells scope.names []).lookup y = some c → X.env.cells.lookup y = some c := fun {y c} e => by
    rcases cloFrom_mem (PySem.mem_of_lookup e) with hm | ⟨h1, h2⟩
    · cases hm
    · obtain ⟨c1, hc⟩ := hfree _ h1 rfl
      have hc : X.env.cells.lookup y = some c1 := hc
      have e2 : c = c1 := by
        rw [h2, hc] <;> rfl
      rw [e2]
      exact hc
  have look : ∀ {y}, scope.names.lookup y = some .free → ∃ c, (cloFrom X.env.cells scope.names []).lookup y = some c := fun {y} hl => by
    have hy : (y, NameKind.free) ∈ scope.names := PySem.mem_of_lookup hl
    exact mem_lookup (cloFrom_has (cells := X.env.cells) (acc := []) hy)
  have cellK : ∀ {c : Addr} {v : Option Value}, H c = none → s.heap.IsCell c v → h₁.IsCell c v := fun {c v} n ⟨o, ho, hd⟩ => by
    obtain ⟨sl, q⟩ := un.any ho n (by simp)
    exact ⟨_, kp _ _ q, hd⟩
  have noA : ∀ b : Addr, b ∉ (lamCxP X A outer s1 HZ ps ls ys scope f c').ex := fun b z => absurd (show b ∈ ([] : List Addr) from z) (by simp)
  refine ⟨⟨e0.mod, L.kind, rfl, rfl, Nat.le_refl _, fun y z c e1 e2 => I.ok.inj y z c (cm e1) (cm e2), fun y hy => ?_, fun y c z _ => ?_, fun _ => hd, Around.frames_deeper e0.frames, .inr ⟨rfl, rfl⟩, fun b z => absurd z (noA b), e0.bs, e0.bsz, fun b _ _ => noA b,
      fun b z => absurd z (noA b), e0.funs, e0.frf⟩,
    rfl, e0.bare, Un.kept kp, ⟨_, hns, fun i y v e1 e2 e3 => ?_⟩, fun y c e => ?_, e0.hok.fresh (Nat.le_refl _), fun y c e => ?_, fun q hq => absurd (show q ∈ ([] : List (Addr × Obj)) ++ [] from hq) (by simp), e0.hok.kept kp, ?_⟩
  · have hy : scope.names.lookup y = some .cell ∨ scope.names.lookup y = some .free := hy
    rcases hy with hy | hy
    · exact absurd rfl (L.noc _ (PySem.mem_of_lookup hy))
    · exact look hy
  · have z : false = true := z
    cases z
  · rcases lamSt_get hl rfl e1 e2 with ⟨h1, h2⟩ | ⟨z, hz, rfl, h2⟩
    · obtain ⟨u, hu, rv⟩ := r.get h2
      exact ⟨u, rv, .inl ⟨L.par y (List.mem_of_getElem? h1), look_rev L.nd h1 hu⟩⟩
    · obtain ⟨n1, k⟩ := L.slot z hz
      obtain ⟨m, hn, hl⟩ := I.loc
      have hvis : Vis X.env.scope z.1 := (L.free _ (PySem.mem_of_lookup k) rfl).elim (fun k => .inr (.inl k)) (fun k => .inr (.inr k))
      obtain ⟨w', r, q⟩ := hl z.2 z.1 v n1 h2 hvis
      obtain ⟨c2, h2⟩ := look k
      refine ⟨w', r, .inr ⟨.inr k, c2, h2, ?_⟩⟩
      have c1 := cm h2
      rcases q with ⟨k', _⟩ | ⟨_, c3, e', z'⟩
      · have k' : X.env.scope.names.lookup z.1 = some .local := k'
        rcases L.free _ (PySem.mem_of_lookup k) rfl with k2 | k2 <;> rw [show X.env.scope.names.lookup z.1 = _ from k2] at k' <;> cases k'
      · rw [c1] at e'
        cases e'
        exact cellK (I.freeC _ _ c1) z'
  · obtain ⟨w', z⟩ := I.cell y c (cm e)
    exact ⟨w', cellK (I.freeC y c (cm e)) z⟩
  · obtain ⟨v, o, ho, hd⟩ := I.cell y c (cm e)
    exact un.free c o ho (I.freeC y c (cm e)) (by simp)
  · exact lamSt_len hl rfl
end
/-- x(e, ..), the lambda f stands at place i; tl: the lambda's reading -/
def dActP (i : Nat) (f : Addr) (tl : List D → Cl → DQ → Prop) (t : DA) : DE := fun ρ C Q => ρ[i]? = some (some (.ref f)) ∧ t ρ C fun xs C1 => tl xs C1 Q
section
variable {X : Cx} {cl : NmB}
theorem de_actP {Ng : List Str} {x a : Str} {sg : Scope} {g f c' : Addr} {cdg pm ctv : Value} {params : Arguments} {body : Expr} {scope : Scope} {k i : Nat} {ps ls : List Str} {ys : List (Str × Nat)} {te : DE} {p1 p2 : Pos} {e : Expr} {es : List Expr} {t : DA}
    {pins : List (Addr × Obj)} {σ : L2.St} {H F0 F : Hp} {s : Shared} {ρ : DEnv} {C : Cl} (I : Inv X pins σ H s) (R : RS X.K cl ρ C F σ H) (sF : Same F F0) (L : LamP X.N X.env.scope ps ls ys scope) (hf : F0 f = some (lamO f (lamObj X params body scope pm c' ctv)))
    (hc : F0 c' = some (LamX.CodeO c' (lamQ X)))
    (hbind : ∀ us : List Value, us.length = ps.length → bindArgs (PySem.W.kla_fn "<lambda>" (lamQ X) params body scope (cloFrom X.env.cells scope.names []) pm (.ref c') ctv) ⟨us, []⟩ = pure (ps.zip us))
    (hr : Room (k + 1) (X.A.deeper (envOfC x sg s.heap.objs.size g cdg)))
    (hbody : ∀ (A : Around) (outer : List Env) (s : Shared) (H F1 : Hp), Room k (A.deeper (LamX.lamEnv X scope s.heap.objs.size f c')) → PEd (lamCxP X A outer s H ps ls ys scope f c').nox ⟨cl.f, F1⟩ body te)
    (hN : Ng[i]? = some a) (hv : Vis sg a) (hd : (a == ("__debug__" : Str)) = false) (hcd : (a == ("__classdict__" : Str)) = false)
    (ha : PAd (gCx X Ng x sg g cdg s H).nox ⟨cl.f, F0⟩ (e :: es) t) (hlen : (e :: es).length = ps.length)
    (he : starEach (e :: es) (gCx X Ng x sg g cdg s H).env = (false, eval e (gCx X Ng x sg g cdg s H).env) :: starEach es (gCx X Ng x sg g cdg s H).env) (hpl : (backTo p2 (starEach es (gCx X Ng x sg g cdg s H).env)).any (·.1) = false) :
    PEd (gCx X Ng x sg g cdg s H).nox ⟨cl.f, F0⟩ (.Call (.Name a p1) (e :: es) [] p2) (dActP i f (fun ds C Q => ds.length = ps.length ∧ te (lamSt ds ls.length ys ρ) C Q) t) := by
  refine ⟨fun pz sZ σZ HZ Q IZ ⟨ρZ, CZ, FZ, Qd, RZ, ⟨hs, ht⟩, kq⟩ => ?_⟩
  obtain ⟨v0, ev0, rv0⟩ := RZ.env i _ hs
  cases rv0
  refine wpAny_Call_Name_kw (thn ((pe_var (pos := p1) (i := i) hN hv hd hcd).run pz sZ σZ HZ (fun v H1 => v = .ref f ∧ H1 = HZ) IZ ⟨.ref f, ev0, rfl, rfl⟩) fun u s0 ⟨v, H0, I0, r0, ev, eH⟩ => ?_)
  subst ev
  rw [eH] at I0
  obtain rfl : u = Value.ref f := r0
  have atF0 : s0.heap.get? f = some (lamObj X params body scope pm c' ctv) := (I0.hok f _ (RZ.rc.sub _ _ (RZ.bs _ _ hf))).1
  refine PySem.W.callWith_F ⟨_, _, _, _, atF0⟩ (thn (ha.run p2 pz s0 σZ HZ (fun vs H1 => ∃ ds C1 F1, Same FZ F1 ∧ RC X.K cl.f C1 F1 H1 ∧ RepL X.K cl.f F1 vs ds ∧ ds.length = ps.length ∧ te (lamSt ds ls.length ys ρ) C1 Qd) I0
    ⟨ρZ, CZ, FZ, _, RZ, ht, fun vs ds C1 H1 F1 s1 R1 r1 q => ⟨ds, C1, F1, s1, R1, r1, q⟩⟩) fun us s1 ⟨vs, H1, I1, r1, ds, C1, F1, s1', R1, rl, hdl, q⟩ => ?_) he hpl
  have bs1 : Same F0 F1 := RZ.bs.trans s1'
  have atF : s1.heap.get? f = some (lamObj X params body scope pm c' ctv) := (I1.hok f _ (R1.sub _ _ (bs1 _ _ hf))).1
  refine ⟨⟨_, _, _, _, atF⟩, ?_⟩
  have un : Un (frs X.stack) [] H H1 s.heap s1.heap := I1.base
  obtain ⟨⟨oc, vs', tq, hoc, hdc, hvc⟩, _, _⟩ := I1.hok c' _ (R1.sub _ _ (bs1 _ _ hc))
  have hvl : vs.length = ps.length := rl.length.trans hdl
  have hul : us.length = ps.length := by rw [← Paired.length r1]; exact hvl
  have RL : RS X.K ⟨cl.f, F1⟩ (lamSt ds ls.length ys ρ) C1 F1 (lamSt vs ls.length ys σ) H1 := ⟨R1, (lamSt_len (ps := ps) hdl rfl).trans (lamSt_len (ps := ps) hvl rfl).symm, fun j d ej => by
      have hj : j < (LamN ps ls ys).length := by rw [← lamSt_len (σ := ρ) hdl rfl]; exact (List.getElem?_eq_some_iff.mp ej).1
      have hNj : (LamN ps ls ys)[j]? = some (LamN ps ls ys)[j] := List.getElem?_eq_getElem hj
      by_cases a : j < ps.length
      · have e1 : (lamSt ds ls.length ys ρ)[j]? = (ds.map some)[j]? := by unfold lamSt; rw [List.append_assoc, List.getElem?_append_left (by rw [List.length_map, hdl]; exact a)]
        have e2 : (lamSt vs ls.length ys σ)[j]? = (vs.map some)[j]? := by unfold lamSt; rw [List.append_assoc, List.getElem?_append_left (by rw [List.length_map, hvl]; exact a)]
        rw [e1, List.getElem?_map] at ej
        cases ed : ds[j]? with
        | none => rw [ed] at ej; cases ej
        | some d' =>
          rw [ed] at ej
          cases ej
          obtain ⟨v, hv1, hv2⟩ := rl.get ed
          exact ⟨v, by rw [e2, List.getElem?_map, hv1]; rfl, hv2⟩
      · have b : ¬ j < ps.length + ls.length := fun b => by
          unfold lamSt at ej
          rw [List.append_assoc, List.getElem?_append_right (by rw [List.length_map, hdl]; omega), List.getElem?_append_left (by rw [List.length_map, List.length_replicate, hdl]; omega), List.getElem?_replicate] at ej
          split at ej <;> cases ej
        have l1 : (ds.map some ++ List.replicate ls.length (none : Option D)).length = ps.length + ls.length := by rw [List.length_append, List.length_map, List.length_replicate, hdl]
        have l2 : (vs.map some ++ List.replicate ls.length (none : Option V)).length = ps.length + ls.length := by rw [List.length_append, List.length_map, List.length_replicate, hvl]
        have e1 : (lamSt ds ls.length ys ρ)[j]? = (ys.map fun z => (ρ[z.2]?).join)[j - (ps.length + ls.length)]? := by unfold lamSt; rw [List.getElem?_append_right (by omega), l1]
        have e2 : (lamSt vs ls.length ys σ)[j]? = (ys.map fun z => (σ[z.2]?).join)[j - (ps.length + ls.length)]? := by unfold lamSt; rw [List.getElem?_append_right (by omega), l2]
        rw [e1, List.getElem?_map] at ej
        cases ez : ys[j - (ps.length + ls.length)]? with
        | none => rw [ez] at ej; cases ej
        | some z =>
          rw [ez] at ej
          have h3 : (ρ[z.2]?).join = some d := Option.some.inj ej
          have h4 : ρ[z.2]? = some (some d) := by
            cases e5 : ρ[z.2]? with
            | none => rw [e5] at h3; cases h3
            | some w => rw [e5] at h3; exact congrArg some h3
          obtain ⟨v, hv1, hv2⟩ := R.env z.2 d h4
          refine ⟨v, ?_, hv2.mono (sF.trans bs1)⟩
          rw [e2, List.getElem?_map, ez]
          show some (σ[z.2]?).join = _
          rw [hv1]
          rfl, Same.refl F1⟩
  have run : codeAny (model X.prog X.w) (X.A.deeper (envOfC x sg s.heap.objs.size g cdg)) (.call (.ref f) ⟨us, []⟩) (CR CX0 (envOfC x sg s.heap.objs.size g cdg :: X.stack) X.prog X.w H1 s1 Q E0) s1 := by
    refine PySem.W.kla_callFunE hr.depth atF rfl L.co L.gen rfl ⟨c', oc, vs', tq, rfl, hoc, hdc, hvc⟩ ?_
    rw [hbind us hul]
    refine wpAny_pure (wpAny_newFunctionEnv (fun y hy => L.noc y hy) (fun y hy => L.par y.1 (List.of_mem_zip (show (y.1, y.2) ∈ ps.zip us from hy)).1) (fun h₁ hns hsb => ⟨I1.nolimit.fresh _ hsb, ?_⟩) L.kind)
    have kp : ∀ b o, s1.heap.get? b = some o → h₁.get? b = some o := fun b o e => hsb.extBut b o (Nat.ne_of_lt (Heap.lt_size e)) (Heap.get?_push_of_some _ e)
    have J : Inv (lamCxP X (X.A.deeper (envOfC x sg s.heap.objs.size g cdg)) (envOfC x sg s.heap.objs.size g cdg :: X.stack) s1 H1 ps ls ys scope f c') [] (lamSt vs ls.length ys σ) H1 { s1 with heap := h₁, toks := s1.toks + (ps.zip us).length } :=
      lamP_start I L I1.env0 hr.hd un hvl r1 hns kp
    have B := hbody (X.A.deeper (envOfC x sg s.heap.objs.size g cdg)) (envOfC x sg s.heap.objs.size g cdg :: X.stack) s1 H1 F1 (hr.deeper _)
    refine PySem.W.kla_codeExpr (wpAny_mono (B.run [] _ _ H1 Q (J.wish _) ⟨_, C1, F1, Qd, RL, q, kq.at s1'⟩) (fun v s' hq => ?_) fun e s' hq => hq.elim)
    obtain ⟨w', H', J', rv, q⟩ := hq
    exact ⟨w', H', J'.os, J'.bare, J'.base, J'.hok, rv, q⟩
  refine wpAny_call (codeAny_mono run fun r s' hq => ?_)
  cases r with
  | error e => exact (show False from hq).elim
  | ok fl =>
    cases fl with
    | ret u => exact I1.after hq
    | next => exact False.elim hq
    | brk => exact False.elim hq
    | cont => exact False.elim hq
end
end G
set_option maxHeartbeats 2000000
namespace G
open PySem PySem.Spec PyProof.Rows L2
/-! ### x(e, e', lambda .., lambda ..) -/
/-- what calls of the def's parameter a say in its body -/
abbrev ActP (X : Cx) (cl : NmB) (a : Str) (i : Nat) (f : Addr) (tl : List D → Cl → DQ → Prop) (n : Nat) : Prop :=
  ∀ (e : Expr) (es : List Expr) (t : DA) (p1 p2 : Pos), PAd X cl (e :: es) t → (e :: es).length = n → starEach (e :: es) X.env = (false, eval e X.env) :: starEach es X.env → (backTo p2 (starEach es X.env)).any (·.1) = false → PEd X cl (.Call (.Name a p1) (e :: es) [] p2) (dActP i f tl t)
def lamTl (m n : Nat) (ys : List (Str × Nat)) (te : DE) (ρ : DEnv) : List D → Cl → DQ → Prop := fun ds C Q => ds.length = m ∧ te (lamSt ds n ys ρ) C Q
def dLam2 (Ng : List Str) (qs : String) (td : (DA → DE) → (DA → DE) → DS) (m1 n1 : Nat) (ys1 : List (Str × Nat)) (te1 : DE) (m2 n2 : Nat) (ys2 : List (Str × Nat)) (te2 ta tb : DE) : DE := fun ρ C Q => ta ρ C fun x C1 => tb ρ C1 fun y C2 =>
  (∃ P, C2 P = some (.tbl qs)) ∧ ∀ f1 f2, td (dActP 2 f1 (lamTl m1 n1 ys1 te1 ρ)) (dActP 3 f2 (lamTl m2 n2 ys2 te2 ρ)) (endsD Q) (startD Ng [x, y, .ref f1, .ref f2]) C2
section
variable {X : Cx} {cl : NmB}
/-- a lambda as an argument -/
theorem pe_lam {c P : Addr} {params : Arguments} {body : Expr} {scope : Scope} {lpos : Pos} {qs : String} (TB : LamX.TabB X.base X.mg c P) (hcode : X.env.code = .ref c) (hP : cl qs = P) (hq : lamQ X = (qs : Str)) (hdef : defaultsOf params X.env = ([], []))
    (hfree : X.Ok → ∀ y ∈ scope.names, y.2 = .free → ∃ c, X.env.cells.lookup y.1 = some c) :
    PE X (.Lambda params body scope lpos) (fun σ H Q => ∃ ρ C F, RS X.K cl ρ C F σ H ∧ (∃ P, C P = some (.tbl qs)) ∧ ∀ (f c' : Addr) (pm ctv : Value) (F1 H1 : Hp), Same F F1 → RS X.K cl ρ C F1 σ H1 → F1 f = some (lamO f (lamObj X params body scope pm c' ctv)) → F1 c' = some (LamX.CodeO c' (lamQ X)) → Q (.ref f) H1) := by
  refine ⟨fun pins s σ H Q I ⟨ρ, C, F, R, ⟨P', hC⟩, h⟩ => ?_⟩
  obtain rfl : P' = P := (R.rc.tab P' qs hC).trans hP
  exact lam_newF I R TB hcode hq hC hdef (hfree I.ok) fun f c' pm ctv H1 F1 s' I1 R1 sF hf hc => ⟨.ref f, H1, I1, rfl, h f c' pm ctv F1 H1 sF R1 hf hc⟩
end
end G
set_option maxHeartbeats 2000000
namespace G
open PySem PySem.Spec PyProof.Rows L2
/-! ### dicts whose keys are tuples of whole numbers and of such tuples -/
def valN : List (D × D) → NestedKey → Option D
  | [], _ => none
  | (a, d) :: r, k => if nk a = some k then some d else valN r k
def putN (kvs : List (D × D)) (k : NestedKey) (kd v : D) : List (D × D) := if (valN kvs k).isSome = true then kvs.map fun p => if nk p.1 = some k then (p.1, v) else p else kvs ++ [(kd, v)]
abbrev ents (ks : List (NestedKey × Addr)) (us : List Value) : List (NestedKey × Addr × Value) := (ks.zip us).map fun x => (x.1.1, x.1.2, x.2)
/-- a key that may be asked for -/
def keyTN (d : D) (k : NestedKey) : Prop := (∃ xs, d = .tup xs) ∧ nk d = some k ∧ k.depth ≤ 8
section
variable {X : Cx} {cl : NmB} {pins : List (Addr × Obj)} {σ : L2.St} {H F : Hp} {s : Shared} {C : Cl}
mutual
theorem rep_nested (I : Inv X pins σ H s) (sub : Same F H) : ∀ (d : D) {v : V} {u : Value} {k : NestedKey}, Rep X.K cl.f F v d → RelV v u → nk d = some k → NestedIs s.heap k u
  | .int i, _, _, _, r, ru, e => by
    unfold nk at e
    cases e
    cases r
    obtain ⟨t, rfl⟩ := ru
    exact .int _ _
  | .bl b, _, _, _, r, ru, e => by
    unfold nk at e
    cases e
    cases r
    obtain rfl := ru
    exact .bool rfl
  | .tup ds, _, _, _, r, ru, e => by
    unfold nk at e
    obtain ⟨ks, e1, rfl⟩ := Option.map_eq_some_iff.mp e
    cases r with
    | @tup a xs _ h1 h2 =>
      obtain rfl := ru
      obtain ⟨its, rv, et, _⟩ := I.tuple (sqT_mono sub h1)
      obtain ⟨o, ho, hc, n, hd⟩ := et
      exact .tup ho hc hd (by simpa using rep_nestedL I sub ds h2 rv e1)
  | .non, _, _, _, _, _, e => by unfold nk at e; cases e
  | .str _, _, _, _, _, _, e => by unfold nk at e; cases e
  | .ref _, _, _, _, _, _, e => by unfold nk at e; cases e
  | .ty _, _, _, _, _, _, e => by unfold nk at e; cases e
  | .cls _, _, _, _, _, _, e => by unfold nk at e; cases e
  | .lst _, _, _, _, _, _, e => by unfold nk at e; cases e
  | .rol _, _, _, _, _, _, e => by unfold nk at e; cases e
  | .dic _, _, _, _, _, _, e => by unfold nk at e; cases e
  | .dct _, _, _, _, _, _, e => by unfold nk at e; cases e
  | .ins _ _, _, _, _, _, _, e => by unfold nk at e; cases e
theorem rep_nestedL (I : Inv X pins σ H s) (sub : Same F H) : ∀ (ds : List D) {vs : List V} {us : List Value} {ks : List NestedKey}, RepL X.K cl.f F vs ds → Vals vs us → nkL ds = some ks → NestedAll s.heap ks us
  | [], _, _, _, r, ru, e => by
    unfold nkL at e
    cases e
    cases r
    cases ru
    exact .nil
  | d :: ds, _, _, _, r, ru, e => by
    unfold nkL at e
    cases e1 : nk d with
    | none => rw [e1] at e; cases e
    | some k =>
      cases e2 : nkL ds with
      | none => rw [e1, e2] at e; cases e
      | some ks =>
        rw [e1, e2] at e
        cases e
        cases r with
        | cons r1 r2 =>
          cases ru with
          | cons u1 u2 => exact .cons (rep_nested I sub d r1 u1 e1) (rep_nestedL I sub ds r2 u2 e2)
end
theorem cell_dN {K : PySem.W.Frag} {cl : Nm} {a p : Addr} {kvs : List (D × D)} (R : RC K cl C F H) (h : C a = some (.dN p kvs)) : ∃ ks vs, H a = some (kdo p ks vs) ∧ RepN K cl F ks vs kvs ∧ (ks.map (·.1)).Nodup := by
  obtain ⟨_, o, ho, c⟩ := R.cel _ _ h
  cases c with
  | dN rl n => exact ⟨_, _, ho, rl, n⟩
theorem repN_len {K : PySem.W.Frag} {cl : Nm} {F : Hp} : ∀ {ks : List (NestedKey × Addr)} {vs : List V} {kvs : List (D × D)}, RepN K cl F ks vs kvs → ks.length = kvs.length ∧ vs.length = kvs.length
  | _, _, _, .nil => ⟨rfl, rfl⟩
  | _, _, _, .cons _ _ _ _ _ r => by
    obtain ⟨h1, h2⟩ := repN_len r
    simp [h1, h2]
theorem repN_keys {K : PySem.W.Frag} {cl : Nm} {F : Hp} : ∀ {ks : List (NestedKey × Addr)} {vs : List V} {kvs : List (D × D)}, RepN K cl F ks vs kvs → RepL K cl F (ks.map fun x => .ref x.2) (kvs.map (·.1))
  | _, _, _, .nil => .nil
  | _, _, _, .cons h _ _ _ _ r => .cons h (repN_keys r)
/-- the entries as the library tells them -/
theorem ents_is (I : Inv X pins σ H s) (sub : Same F H) : ∀ {ks : List (NestedKey × Addr)} {vs : List V} {us : List Value} {kvs : List (D × D)}, RepN X.K cl.f F ks vs kvs → Vals vs us →
    ((ks.zip us).map fun x => (⟨hashN x.1.1, .ref x.1.2, x.2⟩ : DictEntry)) = (ents ks us).map (entryOfKey (nestedKind X.prog X.w)) ∧ (∀ x ∈ ents ks us, (nestedKind X.prog X.w).is s.heap x.1 x.2.1) ∧ (ents ks us).map (·.1) = ks.map (·.1)
  | _, _, _, _, .nil, ru => by
    cases ru
    exact ⟨rfl, nofun, rfl⟩
  | _, _, _, _, .cons (k := k) (a := a) h1 ⟨xs, e0⟩ h2 h3 h4 r, ru => by
    cases ru with
    | @cons _ u _ us ru1 ru2 =>
      obtain ⟨b1, b2, b3⟩ := ents_is I sub r ru2
      refine ⟨?_, fun x hx => ?_, ?_⟩
      · rw [List.zip_cons_cons, List.map_cons, b1]
        unfold ents
        rw [List.zip_cons_cons, List.map_cons, List.map_cons]
        congr 1
        unfold entryOfKey
        congr 1
        exact (nk_hash X.w h2).symm
      · unfold ents at hx
        rw [List.zip_cons_cons, List.map_cons] at hx
        rcases List.mem_cons.mp hx with e | e
        · subst e
          exact ⟨rep_nested I sub _ h1 rfl h2, h3⟩
        · exact b2 x e
      · unfold ents at b3 ⊢
        rw [List.zip_cons_cons, List.map_cons, List.map_cons, b3, List.map_cons]
theorem dN_rd (I : Inv X pins σ H s) (R : RC X.K cl.f C F H) {p : Addr} {kvs : List (D × D)} (h : C p = some (.dN p kvs)) : ∃ ks vs us, H p = some (kdo p ks vs) ∧ RepN X.K cl.f F ks vs kvs ∧ (ks.map (·.1)).Nodup ∧ (p == sysModules) = false ∧ Vals vs us ∧ s.heap.DictOfH (nestedKind X.prog X.w) p (ents ks us) := by
  obtain ⟨ks, vs, hp, rn, nd⟩ := cell_dN R h
  have hx : ObjOk X.prog X.w H s.heap p (kdo p ks vs) := I.hok p _ hp
  obtain ⟨us, o, es, ep, hz, rv, ho, hE, hd, hes⟩ := hx.1
  obtain ⟨b1, b2, b3⟩ := ents_is I R.sub rn rv
  exact ⟨ks, vs, us, hp, rn, nd, hz, rv, o, es, ep, ho, hE, hd, hes.trans b1, b2, by rw [b3]; exact nd⟩
theorem kdo_ok {P : Program} {w : World} {H : Hp} {h : Heap} {p : Addr} {ks : List (NestedKey × Addr)} {vs : List V} {us : List Value} {o : Obj} {es : Array DictEntry} {ep : Nat} (hz : (p == sysModules) = false) (rv : Vals vs us) (ho : h.get? p = some o) (hE : o.ExactDict) (hd : o.data = .dict es ep) (he : es.toList = (ks.zip us).map fun x => ⟨hashN x.1.1, .ref x.1.2, x.2⟩) :
    ObjOk P w H h p (kdo p ks vs) :=
  ⟨⟨us, o, es, ep, hz, rv, ho, hE, hd, he⟩, ⟨o, ho⟩, fun h1 h2 ⟨us, o, es, ep, hz, rv, ho, r⟩ k => ⟨us, o, es, ep, hz, rv, k _ ho, r⟩⟩
/-- what stands at a key -/
theorem at_ents {K : PySem.W.Frag} {cl : Nm} {F : Hp} {k : NestedKey} : ∀ {ks : List (NestedKey × Addr)} {vs : List V} {us : List Value} {kvs : List (D × D)}, RepN K cl F ks vs kvs → Vals vs us →
    (valN kvs k = none → atKey (ents ks us) k = none) ∧ (∀ d, valN kvs k = some d → ∃ a v u, atKey (ents ks us) k = some (a, u) ∧ RelV v u ∧ Rep K cl F v d)
  | _, _, _, _, .nil, ru => by
    cases ru
    exact ⟨fun _ => rfl, fun d e => by unfold valN at e; cases e⟩
  | _, _, _, _, .cons (k := k') (a := a) (v := v) (kd := kd) (ks := ks') h1 _ h2 _ h4 r, ru => by
    cases ru with
    | @cons _ u _ us ru1 ru2 =>
      obtain ⟨b1, b2⟩ := at_ents (k := k) r ru2
      have hat : atKey (ents ((k', a) :: ks') (u :: us)) k = if k' = k then some (a, u) else atKey (ents ks' us) k := by
        unfold atKey ents
        rw [List.zip_cons_cons, List.map_cons, List.find?_cons]
        by_cases e : k' = k
        · simp [e]
        · simp [e]
      rw [hat]
      by_cases e : k' = k
      · subst e
        rw [if_pos rfl]
        refine ⟨fun z => ?_, fun d z => ?_⟩
        · unfold valN at z
          rw [if_pos h2] at z
          cases z
        · unfold valN at z
          rw [if_pos h2] at z
          cases z
          exact ⟨a, v, u, rfl, ru1, h4⟩
      · have hn : ¬ nk kd = some k := fun z => e (Option.some.inj (h2.symm.trans z))
        rw [if_neg e]
        refine ⟨fun z => ?_, fun d z => ?_⟩
        · unfold valN at z
          rw [if_neg hn] at z
          exact b1 z
        · unfold valN at z
          rw [if_neg hn] at z
          exact b2 d z
/-- the value at a key is another -/
theorem repN_map {K : PySem.W.Frag} {cl : Nm} {F : Hp} {k : NestedKey} {v : V} {u : Value} {d : D} (rv : RelV v u) (rd : Rep K cl F v d) : ∀ {ks : List (NestedKey × Addr)} {vs : List V} {us : List Value} {kvs : List (D × D)}, RepN K cl F ks vs kvs → Vals vs us →
    ∃ vs' us', RepN K cl F ks vs' (kvs.map fun p => if nk p.1 = some k then (p.1, d) else p) ∧ Vals vs' us' ∧ (ents ks us).map (putAt k u) = ents ks us'
  | _, _, _, _, .nil, ru => by
    cases ru
    exact ⟨[], [], .nil, .nil, rfl⟩
  | _, _, _, _, .cons (k := k') (a := a) (v := v') (kd := kd) h1 h0 h2 h3 h4 r, ru => by
    cases ru with
    | @cons _ u' _ us ru1 ru2 =>
      obtain ⟨vs', us', b1, b2, b3⟩ := repN_map (k := k) rv rd r ru2
      by_cases e : k' = k
      · subst e
        refine ⟨v :: vs', u :: us', ?_, .cons rv b2, ?_⟩
        · rw [List.map_cons, if_pos h2]
          exact .cons h1 h0 h2 h3 rd b1
        · unfold ents at b3 ⊢
          rw [List.zip_cons_cons, List.map_cons, List.map_cons, List.zip_cons_cons, List.map_cons, b3]
          unfold putAt
          rw [if_pos rfl]
      · have hn : ¬ nk kd = some k := fun z => e (Option.some.inj (h2.symm.trans z))
        refine ⟨v' :: vs', u' :: us', ?_, .cons ru1 b2, ?_⟩
        · rw [List.map_cons, if_neg hn]
          exact .cons h1 h0 h2 h3 h4 b1
        · unfold ents at b3 ⊢
          rw [List.zip_cons_cons, List.map_cons, List.map_cons, List.zip_cons_cons, List.map_cons, b3]
          unfold putAt
          rw [if_neg e]
theorem repN_app {K : PySem.W.Frag} {cl : Nm} {F : Hp} {k : NestedKey} {a : Addr} {v : V} {kd d : D} (h1 : Rep K cl F (.ref a) kd) (h0 : ∃ xs, kd = .tup xs) (h2 : nk kd = some k) (h3 : k.depth ≤ 8) (h4 : Rep K cl F v d) : ∀ {ks : List (NestedKey × Addr)} {vs : List V} {kvs : List (D × D)}, RepN K cl F ks vs kvs → RepN K cl F (ks ++ [(k, a)]) (vs ++ [v]) (kvs ++ [(kd, d)])
  | _, _, _, .nil => .cons h1 h0 h2 h3 h4 .nil
  | _, _, _, .cons g1 g0 g2 g3 g4 r => .cons g1 g0 g2 g3 g4 (repN_app h1 h0 h2 h3 h4 r)
theorem ents_app {k : NestedKey} {a : Addr} {u : Value} : ∀ {ks : List (NestedKey × Addr)} {us : List Value}, ks.length = us.length → ents (ks ++ [(k, a)]) (us ++ [u]) = ents ks us ++ [(k, a, u)]
  | [], [], _ => rfl
  | x :: ks, y :: us, h => by
    have := ents_app (k := k) (a := a) (u := u) (ks := ks) (us := us) (by simpa using h)
    unfold ents at this ⊢
    rw [List.cons_append, List.cons_append, List.zip_cons_cons, List.map_cons, this, List.zip_cons_cons, List.map_cons, List.cons_append]
/-- written: the dict is told again -/
theorem dN_put (I : Inv X pins σ H s) (R : RC X.K cl.f C F H) {p : Addr} {kvs : List (D × D)} (h : C p = some (.dN p kvs)) {ks : List (NestedKey × Addr)} {vs : List V} {us : List Value} (hp : H p = some (kdo p ks vs)) (rn : RepN X.K cl.f F ks vs kvs) (nd : (ks.map (·.1)).Nodup) (hz : (p == sysModules) = false) (rv : Vals vs us)
    {kd : D} {k : NestedKey} {a : Addr} {v : V} {u : Value} {d : D} (hk : keyTN kd k) (rk : Rep X.K cl.f F (.ref a) kd) (ru : RelV v u) (rd : Rep X.K cl.f F v d) {h' : Heap} {tk : Nat} (hd : h'.DictOfH (nestedKind X.prog X.w) p (storedH (ents ks us) k a u)) (hs : Heap.SameBut p s.heap h') :
    ∃ ks' vs', Inv X pins σ (upd H p (kdo p ks' vs')) { s with heap := h', toks := tk } ∧ RC X.K cl.f (updC C p (.dN p (putN kvs k kd d))) F (upd H p (kdo p ks' vs')) := by
  obtain ⟨⟨xs, ex⟩, hnk, hdep⟩ := hk
  have fin : ∀ (ks' : List (NestedKey × Addr)) (vs' : List V) (us' : List Value) (kvs' : List (D × D)), RepN X.K cl.f F ks' vs' kvs' → Vals vs' us' → h'.DictOfH (nestedKind X.prog X.w) p (ents ks' us') →
      Inv X pins σ (upd H p (kdo p ks' vs')) { s with heap := h', toks := tk } ∧ RC X.K cl.f (updC C p (.dN p kvs')) F (upd H p (kdo p ks' vs')) := fun ks' vs' us' kvs' rn' rv' hd' => by
    obtain ⟨o, es, ep, ho, hE, hdd, hes, _, hnd⟩ := hd'
    obtain ⟨b1, b2, b3⟩ := ents_is I R.sub rn' rv'
    refine ⟨I.write (t' := tk) (x := p) (e := p) (o := kdo p ks' vs') (by rw [hp]; exact True.intro) (.inl rfl) (fun b o hb e => (hs.2 b hb).trans e) ⟨o, ho⟩ (kdo_ok hz rv' ho hE hdd (hes.trans b1.symm)), R.put h (.dN rn' (by rw [← b3]; exact hnd))⟩
  obtain ⟨c1, c2⟩ := at_ents (k := k) rn rv
  unfold putN
  cases e : valN kvs k with
  | none =>
    rw [if_neg (by simp)]
    rw [storedH_new (c1 e)] at hd
    have hl : ks.length = us.length := by rw [(repN_len rn).1, ← (repN_len rn).2, Paired.length rv]
    exact ⟨_, _, fin _ _ _ _ (repN_app rk ⟨xs, ex⟩ hnk hdep rd rn) (rv.append (.cons ru .nil)) (by rw [ents_app hl]; exact hd)⟩
  | some z =>
    rw [if_pos (by simp)]
    obtain ⟨a0, v0, u0, e0, _⟩ := c2 z e
    rw [storedH_old e0] at hd
    obtain ⟨vs', us', b1, b2, b3⟩ := repN_map (k := k) ru rd rn rv
    exact ⟨_, _, fin _ _ _ _ b1 b2 (by rw [← b3]; exact hd)⟩
theorem dN_type (I : Inv X pins σ H s) (R : RC X.K cl.f C F H) {p : Addr} {kvs : List (D × D)} (h : C p = some (.dN p kvs)) : s.TypeIs (.ref p) "dict" ∧ (∀ b, Value.ref p = .ref b → ∃ ob, s.heap.get? b = some ob ∧ ob.dict = none) ∧ (p == sysModules) = false := by
  obtain ⟨ks, vs, us, hp, rn, nd, hz, rv, dd⟩ := dN_rd I R h
  refine ⟨dd.typeIs, fun b q => ?_, hz⟩
  cases q
  obtain ⟨ob, _, _, h1, h2, _⟩ := dd
  exact ⟨ob, h1, h2.2.1⟩
end
/-! readings -/
/-- {} -/
def dNewN : DE := fun _ C Q => ∀ p, C p = none → Q (.ref p) (updC C p (.dN p []))
def rGetN : RD2 := fun x y C Q => ∃ p kvs k v, x = .ref p ∧ C p = some (.dN p kvs) ∧ keyTN y k ∧ valN kvs k = some v ∧ Q v C
def rNotInN : RD2 := fun y x C Q => ∃ p kvs k, x = .ref p ∧ C p = some (.dN p kvs) ∧ keyTN y k ∧ Q (.bl (!(valN kvs k).isSome)) C
def dPutN (to tk tv : DE) : DS := fun D ρ C => tv ρ C fun v C1 => to ρ C1 fun x C2 => tk ρ C2 fun y C3 => ∃ p kvs k, x = .ref p ∧ C3 p = some (.dN p kvs) ∧ keyTN y k ∧ kvs.length < sizeLine ∧ D.nx ρ (updC C3 p (.dN p (putN kvs k y v)))
def dSetdN (to tk tx : DE) : DE := fun ρ C Q => to ρ C fun x C1 => (∃ p kvs, x = .ref p ∧ C1 p = some (.dN p kvs)) ∧ tk ρ C1 fun y C2 => tx ρ C2 fun z C3 => ∃ p kvs k, x = .ref p ∧ C3 p = some (.dN p kvs) ∧ keyTN y k ∧ kvs.length < sizeLine ∧
  (∀ v, valN kvs k = some v → Q v C3) ∧ (valN kvs k = none → Q z (updC C3 p (.dN p (putN kvs k y z))))
def rLenN : RDC := fun xs C Q => ∃ p kvs, xs = [.ref p] ∧ C p = some (.dN p kvs) ∧ kvs.length ≤ sizeLine ∧ Q (.int (kvs.length : Nat)) C
def rListN : RDC := fun xs C Q => ∃ p kvs, xs = [.ref p] ∧ C p = some (.dN p kvs) ∧ kvs.length ≤ sizeLine ∧ Q (.lst (kvs.map (·.1))) C
/-- either reading -/
def dOrE (t u : DE) : DE := fun ρ C Q => t ρ C Q ∨ u ρ C Q
def dOrS (t u : DS) : DS := fun D ρ C => t D ρ C ∨ u D ρ C
section
variable {X : Cx} {cl : NmB} {o i e f : Expr} {to tk tv tx t u : DE} {pos pos' apos cpos : Pos} {n : Nat} {st : Stmt} {ts us : DS}
theorem de_orE (h1 : PEd X cl e t) (h2 : PEd X cl e u) : PEd X cl e (dOrE t u) := ⟨fun pins s σ H Q I ⟨ρ, C, F, Qd, R, h, k⟩ => h.elim (fun h => h1.run pins s σ H Q I ⟨ρ, C, F, Qd, R, h, k⟩) fun h => h2.run pins s σ H Q I ⟨ρ, C, F, Qd, R, h, k⟩⟩
theorem ds_orS (h1 : PSd X cl st ts) (h2 : PSd X cl st us) : PSd X cl st (dOrS ts us) := ⟨fun pins s σ H D I ⟨ρ, C, F, Dd, R, h, k⟩ => h.elim (fun h => h1.run pins s σ H D I ⟨ρ, C, F, Dd, R, h, k⟩) fun h => h2.run pins s σ H D I ⟨ρ, C, F, Dd, R, h, k⟩⟩
theorem de_newN : PEd X cl (.Dict [] [] pos) dNewN := by
  refine ⟨fun pins s σ H Q I ⟨ρ, C, F, Qd, R, h, k⟩ => ?_⟩
  have np : H s.heap.objs.size = none := I.hok.fresh (Nat.le_refl _)
  have hz : (s.heap.objs.size == sysModules) = false := beq_eq_false_iff_ne.mpr (Ne.symm (Nat.ne_of_lt I.big))
  refine wpAny_Dict_empty ⟨.ref s.heap.objs.size, _, I.laid (a := s.heap.objs.size) (o := kdo s.heap.objs.size [] []) (t' := s.toks) (fun _ _ q => Heap.get?_push_of_some _ q) (Nat.le_refl _) (kdo_ok (us := []) (ep := 0) hz .nil (Heap.get?_push_size _ rfl) ⟨rfl, rfl, rfl⟩ rfl rfl), rfl, ?_⟩
  exact k _ _ _ _ _ (Same.refl F) (R.rc.cell np (.dN .nil List.nodup_nil)) (.ref _) (h _ (R.rc.freeC np))
theorem de_getN (hr : Room n X.A) (ho : PEd X cl o to) (hi : PEd X cl i tk) (hs : NoSl i := by intro _ _; rfl) : PEd X cl (.Subscript o i pos) (dOp rGetN to tk) := by
  refine ⟨fun pins s σ H Q I ⟨ρ, C, F, Qd, R, h, k⟩ => ?_⟩
  refine subD_of PySem.F.slot_dict_getitem.lookup hs (thn (ho.run pins s σ H (fun v H1 => ∃ d C1 F1, Same F F1 ∧ RC X.K cl.f C1 F1 H1 ∧ Rep X.K cl.f F1 v d ∧ tk ρ C1 fun y C2 => rGetN d y C2 Qd) I ⟨ρ, C, F, _, R, h, fun v d C1 H1 F1 s1 R1 r1 q => ⟨d, C1, F1, s1, R1, r1, q⟩⟩) fun u s1 ⟨v, H1, I1, rv, d, C1, F1, sF1, R1, r1, q1⟩ => ?_)
  refine thn (hi.run pins s1 σ H1 (fun y H2 => ∃ dy C2 F2, Same F1 F2 ∧ RC X.K cl.f C2 F2 H2 ∧ Rep X.K cl.f F2 y dy ∧ rGetN d dy C2 Qd) I1 ⟨ρ, C1, F1, _, R.next sF1 R1, q1, fun y dy C2 H2 F2 s2 R2 r2 q => ⟨dy, C2, F2, s2, R2, r2, q⟩⟩) fun iv s2 ⟨y, H2, I2, ry, dy, C2, F2, sF2, R2, r2, p, kvs, kk, z, e1, hp, hk, hv, q⟩ => ?_
  subst e1
  cases r1
  obtain rfl : u = Value.ref p := rv
  obtain ⟨ks, vs, us, hp', rn, nd, hz, rvs, dd⟩ := dN_rd I2 R2 hp
  obtain ⟨⟨xs, ex⟩, hnk, hdep⟩ := hk
  obtain ⟨a0, v0, u0, e0, ru0, rd0⟩ := (at_ents rn rvs).2 z hv
  refine ⟨dd.typeIs, ?_⟩
  subst ex
  have nis := rep_nested I2 R2.sub _ r2 ry hnk
  cases r2 with
  | @tup a _ _ h1 h2 =>
    obtain rfl : iv = Value.ref a := ry
    have hr1 := hr.units
    exact wpAny_getItem_heap (knd := nestedKind X.prog X.w) (by show X.A.in1.units + 8 < cLine; rw [Around.in1_units]; omega) ⟨nis, hdep⟩ dd e0 ⟨v0, H2, I2.tok _, ru0, k v0 z C2 H2 F2 (sF1.trans sF2) R2 rd0 q⟩
theorem pc_inN (neg : Bool) (hr : Room n X.A) (hi : PEd X cl i tk) (ho : PEd X cl o to) :
    PC X (if neg = true then .NotIn else .In) i o (lowE X.K cl (dOp (fun y x C Q => ∃ p kvs k, x = .ref p ∧ C p = some (.dN p kvs) ∧ keyTN y k ∧ Q (.bl ((valN kvs k).isSome != neg)) C) tk to)) := by
  refine ⟨fun pins s σ H Q I ⟨ρ, C, F, Qd, R, h, k⟩ => ?_⟩
  refine thn (hi.run pins s σ H (fun v H1 => ∃ d C1 F1, Same F F1 ∧ RC X.K cl.f C1 F1 H1 ∧ Rep X.K cl.f F1 v d ∧ to ρ C1 fun x C2 => ∃ p kvs k, x = .ref p ∧ C2 p = some (.dN p kvs) ∧ keyTN d k ∧ Qd (.bl ((valN kvs k).isSome != neg)) C2) I ⟨ρ, C, F, _, R, h, fun v d C1 H1 F1 s1 R1 r1 q => ⟨d, C1, F1, s1, R1, r1, q⟩⟩) fun iv s1 ⟨v, H1, I1, ry, d, C1, F1, sF1, R1, r1, q1⟩ => ?_
  refine thn (ho.run pins s1 σ H1 (fun x H2 => ∃ dx C2 F2, Same F1 F2 ∧ RC X.K cl.f C2 F2 H2 ∧ Rep X.K cl.f F2 x dx ∧ ∃ p kvs k, dx = .ref p ∧ C2 p = some (.dN p kvs) ∧ keyTN d k ∧ Qd (.bl ((valN kvs k).isSome != neg)) C2) I1 ⟨ρ, C1, F1, _, R.next sF1 R1, q1, fun y dy C2 H2 F2 s2 R2 r2 q => ⟨dy, C2, F2, s2, R2, r2, q⟩⟩) fun u s2 ⟨x, H2, I2, rx, dx, C2, F2, sF2, R2, r2, p, kvs, kk, e1, hp, hk, q⟩ => ?_
  subst e1
  cases r2
  obtain rfl : u = Value.ref p := rx
  obtain ⟨ks, vs, us, hp', rn, nd, hz, rvs, dd⟩ := dN_rd I2 R2 hp
  obtain ⟨⟨xs, ex⟩, hnk, hdep⟩ := hk
  subst ex
  have r1' := r1.mono sF2
  have nis := rep_nested I2 R2.sub _ r1' ry hnk
  have es : (atKey (ents ks us) kk).isSome = (valN kvs kk).isSome := by
    obtain ⟨c1, c2⟩ := at_ents (k := kk) rn rvs
    cases e : valN kvs kk with
    | none =>
      rw [c1 e]
      rfl
    | some z =>
      obtain ⟨a0, v0, u0, e0, _⟩ := c2 z e
      rw [e0]
      rfl
  cases r1' with
  | @tup a _ _ h1 h2 =>
    obtain rfl : iv = Value.ref a := ry
    have hr1 := hr.units
    have hrm : (nestedKind X.prog X.w).room X.A.in1 := by show X.A.in1.units + 8 < cLine; rw [Around.in1_units]; omega
    cases neg with
    | false =>
      refine wpAny_in_heap (knd := nestedKind X.prog X.w) hrm ⟨nis, hdep⟩ hz dd ⟨.bl _, H2, I2.tok _, rfl, k _ _ C2 H2 F2 (sF1.trans sF2) R2 (.bl _) ?_⟩
      rw [es]
      simpa using q
    | true =>
      refine wpAny_notIn_heap (knd := nestedKind X.prog X.w) hrm ⟨nis, hdep⟩ hz dd ⟨.bl _, H2, I2.tok _, rfl, k _ _ C2 H2 F2 (sF1.trans sF2) R2 (.bl _) ?_⟩
      rw [es]
      simpa using q
theorem rNotInN_eq : (fun y x C Q => ∃ p kvs k, x = D.ref p ∧ C p = some (Cell.dN p kvs) ∧ keyTN y k ∧ Q (.bl ((valN kvs k).isSome != true)) C) = rNotInN := by
  funext y x C Q
  simp [rNotInN]
theorem dt_notinN (hr : Room n X.A) (hi : PEd X cl i tk) (ho : PEd X cl o to) (hm : behindInMarks .NotIn o = false) : PTd X cl (.Compare i [.NotIn] [o] pos) (dTest (dOp rNotInN tk to)) := by
  rw [← rNotInN_eq]
  exact weakT (pt_cmp (pc_inN true hr hi ho) hm) fun σ H Q hh => low_test hh
theorem dt_orE (h1 : PTd X cl e (dTest t)) (h2 : PTd X cl e (dTest u)) : PTd X cl e (dTest (dOrE t u)) := ⟨fun pins s σ H Q I ⟨ρ, C, F, Qd, R, h, k⟩ => h.elim (fun h => h1.run pins s σ H Q I ⟨ρ, C, F, Qd, R, h, k⟩) fun h => h2.run pins s σ H Q I ⟨ρ, C, F, Qd, R, h, k⟩⟩
end
end G
set_option maxHeartbeats 2000000
namespace G
open PySem PySem.Spec PyProof.Rows L2
/-- {e: e'}, a dict of texts and numbers; of tuples -/
def dD1K (t u : DE) : DE := fun ρ C Q => ∀ p, C p = none → t ρ (updC C p (.dic [])) fun x C1 => u ρ C1 fun y C2 => C2 p = some (.dic []) ∧ ∃ k, keyD x = some k ∧ Q (.ref p) (updC C2 p (.dic [(k, y)]))
def dD1N (t u : DE) : DE := fun ρ C Q => ∀ p, C p = none → t ρ (updC C p (.dN p [])) fun x C1 => u ρ C1 fun y C2 => C2 p = some (.dN p []) ∧ ∃ k, keyTN x k ∧ Q (.ref p) (updC C2 p (.dN p [(x, y)]))
section
variable {X : Cx} {cl : NmB} {o i e f : Expr} {to tk tv tx t u : DE} {pos pos' apos cpos : Pos} {n : Nat}
theorem ds_putN {value : Expr} (hr : Room n X.A) (ho : PEd X cl o to) (hi : PEd X cl i tk) (hv : PEd X cl value tv) (hs : swapsWith value (some (.Subscript o i pos')) pos.line X.env = pure false := by rfl) : PSd X cl (.Assign [.Subscript o i pos'] value pos) (dPutN to tk tv) := by
  refine ⟨fun pins s σ H D I ⟨ρ, C, F, Dd, R, h, k⟩ => ?_⟩
  refine wpAny_Assign_Subscript (thn (hv.run pins s σ H (fun v H1 => ∃ d C1 F1, Same F F1 ∧ RC X.K cl.f C1 F1 H1 ∧ Rep X.K cl.f F1 v d ∧ to ρ C1 fun x C2 => tk ρ C2 fun y C3 => ∃ p kvs k, x = .ref p ∧ C3 p = some (.dN p kvs) ∧ keyTN y k ∧ kvs.length < sizeLine ∧ Dd.nx ρ (updC C3 p (.dN p (putN kvs k y d)))) I
    ⟨ρ, C, F, _, R, h, fun v d C1 H1 F1 s1 R1 r1 q => ⟨d, C1, F1, s1, R1, r1, q⟩⟩) fun r s1 ⟨v, H1, I1, rv, d, C1, F1, sF1, R1, r1, q1⟩ => ?_) hs
  refine thn (ho.run pins s1 σ H1 (fun x H2 => ∃ dx C2 F2, Same F1 F2 ∧ RC X.K cl.f C2 F2 H2 ∧ Rep X.K cl.f F2 x dx ∧ tk ρ C2 fun y C3 => ∃ p kvs k, dx = .ref p ∧ C3 p = some (.dN p kvs) ∧ keyTN y k ∧ kvs.length < sizeLine ∧ Dd.nx ρ (updC C3 p (.dN p (putN kvs k y d)))) I1
    ⟨ρ, C1, F1, _, R.next sF1 R1, q1, fun x dx C2 H2 F2 s2 R2 r2 q => ⟨dx, C2, F2, s2, R2, r2, q⟩⟩) fun u s2 ⟨x, H2, I2, rx, dx, C2, F2, sF2, R2, r2, q2⟩ => ?_
  refine thn (hi.run pins s2 σ H2 (fun y H3 => ∃ dy C3 F3, Same F2 F3 ∧ RC X.K cl.f C3 F3 H3 ∧ Rep X.K cl.f F3 y dy ∧ ∃ p kvs k, dx = .ref p ∧ C3 p = some (.dN p kvs) ∧ keyTN dy k ∧ kvs.length < sizeLine ∧ Dd.nx ρ (updC C3 p (.dN p (putN kvs k dy d)))) I2
    ⟨ρ, C2, F2, _, (R.next sF1 R1).next sF2 R2, q2, fun y dy C3 H3 F3 s3 R3 r3 q => ⟨dy, C3, F3, s3, R3, r3, q⟩⟩) fun iv s3 ⟨y, H3, I3, ry, dy, C3, F3, sF3, R3, r3, p, kvs, kk, e1, hp, hk, hl, q⟩ => ?_
  subst e1
  cases r2
  obtain rfl : u = Value.ref p := rx
  obtain ⟨ks, vs, us, hp', rn, nd, hz, rvs, dd⟩ := dN_rd I3 R3 hp
  obtain ⟨⟨xs, ex⟩, hnk, hdep⟩ := id hk
  subst ex
  have nis := rep_nested I3 R3.sub _ r3 ry hnk
  have r3' := r3
  cases r3 with
  | @tup a _ _ h1 h2 =>
    obtain rfl : iv = Value.ref a := ry
    have hr1 := hr.units
    refine wpAny_setItem_heap (knd := nestedKind X.prog X.w) (by show X.A.in1.units + 8 < cLine; rw [Around.in1_units]; omega) ⟨nis, hdep⟩ dd (fun h' hd hs => ?_) (by
      have : (ents ks us).length = kvs.length := by unfold ents; rw [List.length_map, List.length_zip, (repN_len rn).1, ← Paired.length rvs, (repN_len rn).2, Nat.min_self]
      omega)
    obtain ⟨ks', vs', I4, R4⟩ := dN_put (tk := s3.toks + (nestedKind X.prog X.w).draws kk) I3 R3 hp hp' rn nd hz rvs hk r3' rv (r1.mono (sF2.trans sF3)) hd hs
    exact ⟨σ, _, I4, k.nx ρ _ F3 σ _ (sF1.trans (sF2.trans sF3)) (R.next (sF1.trans (sF2.trans sF3)) R4) q⟩
theorem de_setdN (hr : Room n X.A) (ho : PEd X cl o to) (he : PEd X cl e tk) (hf : PEd X cl f tx) (m : M2 X o "setdefault" apos e f cpos := by exact ⟨rfl, rfl, rfl, rfl⟩) : PEd X cl (.Call (.Attribute o "setdefault" apos) [e, f] [] cpos) (dSetdN to tk tx) := by
  refine ⟨fun pins s σ H Q I ⟨ρ, C, F, Qd, R, h, k⟩ => ?_⟩
  refine wpAny_Call_method m.base m.few m.line PySem.F.plainAttrs_dict PySem.F.slot_dict_setdefault PySem.F.type_dict_setdefault (thn (ho.run pins s σ H (fun v H1 => ∃ d C1 F1, Same F F1 ∧ RC X.K cl.f C1 F1 H1 ∧ Rep X.K cl.f F1 v d ∧ (∃ p kvs, d = .ref p ∧ C1 p = some (.dN p kvs)) ∧
      tk ρ C1 fun y C2 => tx ρ C2 fun z C3 => ∃ p kvs k, d = .ref p ∧ C3 p = some (.dN p kvs) ∧ keyTN y k ∧ kvs.length < sizeLine ∧ (∀ v, valN kvs k = some v → Qd v C3) ∧ (valN kvs k = none → Qd z (updC C3 p (.dN p (putN kvs k y z))))) I
    ⟨ρ, C, F, _, R, h, fun v d C1 H1 F1 s1 R1 r1 ⟨q1, q2⟩ => ⟨d, C1, F1, s1, R1, r1, q1, q2⟩⟩) fun u s1 ⟨v, H1, I1, rv, d, C1, F1, sF1, R1, r1, ⟨p, kvs0, e1, hp0⟩, q1⟩ => ?_)
  subst e1
  cases r1
  obtain rfl : u = Value.ref p := rv
  obtain ⟨t1, t2, _⟩ := dN_type I1 R1 hp0
  refine ⟨t1, t2, ?_⟩
  rw [m.trees]
  refine Calls.callWith_builtin rfl (Calls.evalArgs_plain (Calls.spliced_cons (thn (he.run pins s1 σ H1 (fun y H2 => ∃ dy C2 F2, Same F1 F2 ∧ RC X.K cl.f C2 F2 H2 ∧ Rep X.K cl.f F2 y dy ∧ tx ρ C2 fun z C3 => ∃ p' kvs k, D.ref p = .ref p' ∧ C3 p' = some (.dN p' kvs) ∧ keyTN dy k ∧ kvs.length < sizeLine ∧
      (∀ v, valN kvs k = some v → Qd v C3) ∧ (valN kvs k = none → Qd z (updC C3 p' (.dN p' (putN kvs k dy z))))) I1 ⟨ρ, C1, F1, _, R.next sF1 R1, q1, fun y dy C2 H2 F2 s2 R2 r2 q => ⟨dy, C2, F2, s2, R2, r2, q⟩⟩) fun iv s2 ⟨y, H2, I2, ry, dy, C2, F2, sF2, R2, r2, q2⟩ =>
    Calls.spliced_cons (thn (hf.run pins s2 σ H2 (fun z H3 => ∃ dz C3 F3, Same F2 F3 ∧ RC X.K cl.f C3 F3 H3 ∧ Rep X.K cl.f F3 z dz ∧ ∃ p' kvs k, D.ref p = .ref p' ∧ C3 p' = some (.dN p' kvs) ∧ keyTN dy k ∧ kvs.length < sizeLine ∧
      (∀ v, valN kvs k = some v → Qd v C3) ∧ (valN kvs k = none → Qd dz (updC C3 p' (.dN p' (putN kvs k dy dz))))) I2 ⟨ρ, C2, F2, _, (R.next sF1 R1).next sF2 R2, q2, fun z dz C3 H3 F3 s3 R3 r3 q => ⟨dz, C3, F3, s3, R3, r3, q⟩⟩) fun fv s3 ⟨z, H3, I3, rz, dz, C3, F3, sF3, R3, r3, p', kvs, kk, ep, hp, hk, hl, w1, w2⟩ => Calls.spliced_nil ?_))))
  cases ep
  obtain ⟨ks, vs, us, hp', rn, nd, hz, rvs, dd⟩ := dN_rd I3 R3 hp
  obtain ⟨⟨xs, ex⟩, hnk, hdep⟩ := id hk
  subst ex
  have r2' := r2.mono sF3
  have nis := rep_nested I3 R3.sub _ r2' ry hnk
  have r2'' := r2'
  cases r2' with
  | @tup a _ _ h1 h2 =>
    obtain rfl : iv = Value.ref a := ry
    have hr1 := hr.units
    obtain ⟨c1, c2⟩ := at_ents (k := kk) rn rvs
    have sA := sF1.trans (sF2.trans sF3)
    refine call_setdefault_heap (knd := nestedKind X.prog X.w) (by show X.A.in1.units + 8 < cLine; rw [Around.in1_units]; omega) ⟨nis, hdep⟩ hz dd (fun q hq => ?_) (fun hn h' hd hs => ?_) (by
      have : (ents ks us).length = kvs.length := by unfold ents; rw [List.length_map, List.length_zip, (repN_len rn).1, ← Paired.length rvs, (repN_len rn).2, Nat.min_self]
      omega)
    · cases ev : valN kvs kk with
      | none => rw [c1 ev] at hq; cases hq
      | some z' =>
        obtain ⟨a0, v0, u0, e0, ru0, rd0⟩ := c2 z' ev
        rw [e0] at hq
        cases hq
        exact ⟨v0, H3, I3.tok _, ru0, k v0 z' C3 H3 F3 sA R3 rd0 (w1 z' ev)⟩
    · cases ev : valN kvs kk with
      | some z' =>
        obtain ⟨a0, v0, u0, e0, ru0, rd0⟩ := c2 z' ev
        rw [e0] at hn
        cases hn
      | none =>
        obtain ⟨ks', vs', I4, R4⟩ := dN_put (tk := s3.toks + (nestedKind X.prog X.w).draws kk) I3 R3 hp hp' rn nd hz rvs hk r2'' rz r3 hd hs
        exact ⟨z, _, I4, rz, k z dz _ _ F3 sA R4 r3 (w2 ev)⟩
/-- its entries as they lie -/
theorem dN_raw {pins : List (Addr × Obj)} {σ : L2.St} {H F : Hp} {s : Shared} {C : Cl} (I : Inv X pins σ H s) (R : RC X.K cl.f C F H) {p : Addr} {kvs : List (D × D)} (h : C p = some (.dN p kvs)) : ∃ (ks : List Addr) (es : Array DictEntry) (ep : Nat), (p == sysModules) = false ∧ s.heap.DictRaw p es ep ∧ es.size = kvs.length ∧ RepL X.K cl.f F (ks.map V.ref) (kvs.map (·.1)) ∧ ∀ i (hi : i < es.size), ∃ a, ks[i]? = some a ∧ es[i].key = .ref a := by
  obtain ⟨ks, vs, hp, rn, nd⟩ := cell_dN R h
  have hx : ObjOk X.prog X.w H s.heap p (kdo p ks vs) := I.hok p _ hp
  obtain ⟨us, o, es, ep, hz, rv, ho, hE, hd, hes⟩ := hx.1
  have hlen : es.toList.length = kvs.length := by rw [hes, List.length_map, List.length_zip, (repN_len rn).1, ← Paired.length rv, (repN_len rn).2, Nat.min_self]
  have hsz : es.size = kvs.length := by rw [← hlen, Array.length_toList]
  refine ⟨ks.map (·.2), es, ep, hz, ⟨o, ho, hE, hd⟩, hsz, by rw [List.map_map]; exact repN_keys rn, fun i hi => ?_⟩
  have hk : i < ks.length := by rw [(repN_len rn).1, ← hsz]; exact hi
  have hu : i < us.length := by rw [← Paired.length rv, (repN_len rn).2, ← hsz]; exact hi
  refine ⟨ks[i].2, by rw [List.getElem?_map, List.getElem?_eq_getElem hk]; rfl, ?_⟩
  have e1 : es.toList[i]? = some (⟨hashN ks[i].1, .ref ks[i].2, us[i]⟩ : DictEntry) := by
    rw [hes, List.getElem?_map, (List.getElem?_zip_eq_some (z := (ks[i], us[i]))).mpr ⟨List.getElem?_eq_getElem hk, List.getElem?_eq_getElem hu⟩]
    rfl
  have e2 : es.toList[i]? = some es[i] := by rw [Array.getElem?_toList, Array.getElem?_eq_getElem hi]
  rw [e2] at e1
  rw [Option.some.inj e1]
theorem vals_at : ∀ {vs : List V} {us : List Value}, vs.length = us.length → (∀ (j : Nat) (v : V) (u : Value), vs[j]? = some v → us[j]? = some u → RelV v u) → Vals vs us
  | [], [], _, _ => .nil
  | v :: vs, u :: us, h, k => .cons (k 0 v u rfl rfl) (vals_at (by simpa using h) fun j a b e1 e2 => k (j + 1) a b e1 e2)
theorem cd_lenN : CallD X cl (.builtin "len") rLenN := by
  intro pins s σ H xs us Q I r ⟨ds, C, F, Qd, R, rl, ⟨p, kvs, e, hc, hl, q⟩, k⟩
  subst e
  cases rl with
  | cons r1 rr =>
    cases rr
    cases r1
    cases r with
    | cons ru rr =>
      cases rr
      obtain rfl := ru
      obtain ⟨ks, vs, us, hp, rn, nd, hz, rvs, dd⟩ := dN_rd I R hc
      have el : (ents ks us).length = kvs.length := by unfold ents; rw [List.length_map, List.length_zip, (repN_len rn).1, ← Paired.length rvs, (repN_len rn).2, Nat.min_self]
      refine call_len_dictH hz dd (by rw [el]; rw [sizeLine_eq] at hl; omega) ⟨.int (kvs.length : Nat), H, (I.tok _).tok _, ⟨s.toks + 1, ?_⟩, k _ _ C H F (Same.refl F) R (.int _) q⟩
      rw [el]
theorem cd_listN (hc : X.calm = true := by rfl) : CallD X cl (.type "list") rListN := by
  intro pins s σ H xs us Q I r ⟨ds, C, F, Qd, R, rl, ⟨p, kvs, e, hp, hl, q⟩, k⟩
  subst e
  cases rl with
  | cons r1 rr =>
    cases rr
    cases r1
    cases r with
    | cons ru rr =>
      cases rr
      obtain rfl := ru
      obtain ⟨ks, es, ep, hz, hr, hsz, rk, hes⟩ := dN_raw I R hp
      refine PySem.W.kdl_call (KdlSrc.rawDict (es := es) (ep := ep) hz) (I.ok.hd hc) hr (by rw [hsz]; exact hl) fun h' tk acc c' hk hD hacc => ?_
      have hkl : ks.length = es.size := by have := rk.length; rw [List.length_map, List.length_map] at this; rw [hsz]; exact this
      have hv : Vals (ks.map V.ref) acc.toList := vals_at (by rw [List.length_map, hkl, Array.length_toList]; exact hacc.1.symm) fun j v u e1 e2 => by
        obtain ⟨hj, ej⟩ := hacc.2 j u (by rw [← Array.getElem?_toList]; exact e2)
        obtain ⟨a, ea, eb⟩ := hes j hj
        rw [List.getElem?_map, ea] at e1
        cases e1
        rw [ej, eb]
        rfl
      have s2 := same_upd (o := .lst (ks.map V.ref)) (R.freeF (I.hok.fresh (Nat.le_refl _)))
      refine ⟨.ref s.heap.objs.size, upd H s.heap.objs.size (.lst (ks.map V.ref)), I.laid (t' := tk) hk (Nat.le_refl _)
        (show ObjOk X.prog X.w _ _ _ (.lst (ks.map V.ref)) from ⟨by rw [List.length_map, hkl, hsz]; exact hl, acc.toList, c', hv, by rw [Array.toArray_toList]; exact hD⟩), rfl, ?_⟩
      exact k _ _ C _ _ s2 (R.new (I.hok.fresh (Nat.le_refl _))) (.lst upd_same (rk.mono s2)) q
/-- a display of one pair, its key a tuple -/
theorem Dict_pairsH {prog : Program} {w : World} {A : Around} {E : Value → Shared → Prop} {s : Shared} {knd : HeapKind prog w NestedKey} {env : Env} {keys : List (Option Expr)} {values : List Expr} {pos : Pos} {pairs : List (Sem Value × Sem Value)} {Q : Value → Shared → Prop} (hu : knd.room A)
    (hshape : (evalEachOpt keys env).zip ((evalEach values env).map fun v => do let x ← v; standAt pos; pure x) = pairs.map fun p => (some p.1, p.2)) (h0 : pairs ≠ []) (hlen : pairs.length ≤ 15)
    (h : wpAny (model prog w) A (evalPairs pairs) (fun vs s₁ => ∃ ps, CarriesH knd s₁.heap vs ps ∧ s₁.heap.DictOfH knd s.heap.objs.size [] ∧
      ∀ h' tk, h'.DictOfH knd s.heap.objs.size (storedAllH [] ps) → Heap.SameBut s.heap.objs.size s₁.heap h' → Q (.ref s.heap.objs.size) { s₁ with heap := h', toks := tk }) E
      { s with heap := s.heap.push { cls := .type "dict", data := .dict #[] } }) :
    wpAny (model prog w) A (eval (.Dict keys values pos) env) Q E s := by
  rw [arm_eval_Dict, hshape, dictDisplay_pairs pairs h0 (by omega)]
  exact wpAny_bind (wpAny_standAt (wpAny_bind (wpAny_subDictH (knd := knd) (Q := fun d s' => wpAny (model prog w) A (pure (Value.ref d)) Q E s') hu hlen
    (wpAny_mono h (fun vs s₁ h₁ => by obtain ⟨ps, hc, hm, hq⟩ := h₁; exact ⟨ps, hc, hm, fun h' tk a b => wpAny_pure (hq h' tk a b)⟩) fun _ _ e => e))))
theorem de_d1N (hr : Room n X.A) (he : PEd X cl e t) (hf : PEd X cl f u) : PEd X cl (.Dict [some e] [f] pos) (dD1N t u) := by
  refine ⟨fun pins s σ H Q I ⟨ρ, C, F, Qd, RR, h, k⟩ => ?_⟩
  have np : H s.heap.objs.size = none := I.hok.fresh (Nat.le_refl _)
  have pc := RR.rc.freeC np
  have hz : (s.heap.objs.size == sysModules) = false := beq_eq_false_iff_ne.mpr (Ne.symm (Nat.ne_of_lt I.big))
  have hr1 := hr.units
  refine Dict_pairsH (knd := nestedKind X.prog X.w) (pairs := [(eval e X.env, do let x ← eval f X.env; standAt pos; pure x)]) (by show X.A.units + 8 < cLine; omega) rfl (by simp) (by simp) ?_
  have I1 : Inv X pins σ (upd H s.heap.objs.size (kdo s.heap.objs.size [] [])) { s with heap := s.heap.push { cls := .type "dict", data := .dict #[] }, toks := s.toks } :=
    I.laid (t' := s.toks) (fun _ _ q => Heap.get?_push_of_some _ q) (Nat.le_refl _) (kdo_ok (us := []) (ep := 0) hz .nil (Heap.get?_push_size _ rfl) ⟨rfl, rfl, rfl⟩ rfl rfl)
  generalize s.heap.objs.size = p at *
  refine evalPairs_cons (thn (he.run pins _ σ _ (fun v H1 => ∃ d C1 F1, Same F F1 ∧ RC X.K cl.f C1 F1 H1 ∧ Rep X.K cl.f F1 v d ∧ u ρ C1 fun y C2 => C2 p = some (.dN p []) ∧ ∃ k, keyTN d k ∧ Qd (.ref p) (updC C2 p (.dN p [(d, y)]))) I1
    ⟨ρ, _, F, _, RR.next (Same.refl F) (RR.rc.cell np (.dN .nil List.nodup_nil)), h _ pc, fun v d C1 H1 F1 s1 R1 r1 q => ⟨d, C1, F1, s1, R1, r1, q⟩⟩) fun iv s1 ⟨y, H1, I1, ry, dy, C1, F1, sF1, R1, r1, q1⟩ => ?_)
  refine wpAny_bind (thn (hf.run pins s1 σ H1 (fun v H2 => ∃ d C2 F2, Same F1 F2 ∧ RC X.K cl.f C2 F2 H2 ∧ Rep X.K cl.f F2 v d ∧ C2 p = some (.dN p []) ∧ ∃ k, keyTN dy k ∧ Qd (.ref p) (updC C2 p (.dN p [(dy, d)]))) I1
    ⟨ρ, C1, F1, _, RR.next sF1 R1, q1, fun v d C2 H2 F2 s2 R2 r2 q => ⟨d, C2, F2, s2, R2, r2, q⟩⟩) fun fv s2 ⟨z, H2, I2, rz, dz, C2, F2, sF2, R2, r2, hp, kk, hk, q⟩ => wpAny_bind (wpAny_standAt (wpAny_pure (evalPairs_nil ?_))))
  obtain ⟨ks, vs, us, hp', rn, nd, hz, rvs, dd⟩ := dN_rd I2 R2 hp
  cases rn
  cases rvs
  obtain ⟨⟨xs, ex⟩, hnk, hdep⟩ := id hk
  subst ex
  have r1' := r1.mono sF2
  have nis := rep_nested I2 R2.sub _ r1' ry hnk
  have r1'' := r1'
  cases r1' with
  | @tup a _ _ h1 h2 =>
    obtain rfl : iv = Value.ref a := ry
    refine ⟨[(kk, a, fv)], ⟨rfl, rfl, ⟨nis, hdep⟩, trivial⟩, dd, fun h' tk hd hs => ?_⟩
    obtain ⟨ks', vs', I4, R4⟩ := dN_put (tk := tk) I2 R2 hp hp' .nil nd hz .nil hk r1'' rz r2 hd hs
    exact ⟨.ref p, _, I4, rfl, k _ _ _ _ F2 (sF1.trans sF2) R4 (.ref p) q⟩
end
theorem v_newN {ρ : DEnv} {C : Cl} {Q : DQ} (h : ∀ p, C p = none → Q (.ref p) (updC C p (.dN p []))) : dNewN ρ C Q := h
theorem v_d1K {t u : DE} {ρ : DEnv} {C : Cl} {Q : DQ} (h : ∀ p, C p = none → t ρ (updC C p (.dic [])) fun x C1 => u ρ C1 fun y C2 => C2 p = some (.dic []) ∧ ∃ k, keyD x = some k ∧ Q (.ref p) (updC C2 p (.dic [(k, y)]))) : dD1K t u ρ C Q := h
theorem v_d1N {t u : DE} {ρ : DEnv} {C : Cl} {Q : DQ} (h : ∀ p, C p = none → t ρ (updC C p (.dN p [])) fun x C1 => u ρ C1 fun y C2 => C2 p = some (.dN p []) ∧ ∃ k, keyTN x k ∧ Q (.ref p) (updC C2 p (.dN p [(x, y)]))) : dD1N t u ρ C Q := h
theorem v_putN {to tk tv : DE} {D : DEnds} {ρ : DEnv} {C : Cl} (h : tv ρ C fun v C1 => to ρ C1 fun x C2 => tk ρ C2 fun y C3 => ∃ p kvs k, x = .ref p ∧ C3 p = some (.dN p kvs) ∧ keyTN y k ∧ kvs.length < sizeLine ∧ D.nx ρ (updC C3 p (.dN p (putN kvs k y v)))) : dPutN to tk tv D ρ C := h
theorem v_setdN {to tk tx : DE} {ρ : DEnv} {C : Cl} {Q : DQ} (h : to ρ C fun x C1 => (∃ p kvs, x = .ref p ∧ C1 p = some (.dN p kvs)) ∧ tk ρ C1 fun y C2 => tx ρ C2 fun z C3 => ∃ p kvs k, x = .ref p ∧ C3 p = some (.dN p kvs) ∧ keyTN y k ∧ kvs.length < sizeLine ∧
  (∀ v, valN kvs k = some v → Q v C3) ∧ (valN kvs k = none → Q z (updC C3 p (.dN p (putN kvs k y z))))) : dSetdN to tk tx ρ C Q := h
--@ v_newN ?_
--@ v_d1K ?_
--@ v_d1N ?_
--@ v_putN ?_
--@ v_setdN ?_
end G
set_option maxHeartbeats 2000000
namespace G
open PySem PySem.Spec PyProof.Rows L2
theorem relV_key {k : Key} {u : Value} (h : RelV (kV k) u) {P : Program} {w : World} : (mixKind P w).is k u = true := by
  cases k with
  | inl i =>
    obtain ⟨t, rfl⟩ := h
    exact keyIs_int i t
  | inr s =>
    obtain ⟨t, rfl⟩ := h
    exact keyIs_str s t
section
variable {X : Cx} {cl : NmB} {e f : Expr} {t u : DE} {pos : Pos}
theorem de_d1K (he : PEd X cl e t) (hf : PEd X cl f u) : PEd X cl (.Dict [some e] [f] pos) (dD1K t u) := by
  refine ⟨fun pins s σ H Q I ⟨ρ, C, F, Qd, RR, h, k⟩ => ?_⟩
  have np : H s.heap.objs.size = none := I.hok.fresh (Nat.le_refl _)
  have pc := RR.rc.freeC np
  refine wpAny_Dict_pairs (knd := mixKind X.prog X.w) (pairs := [(eval e X.env, do let x ← eval f X.env; standAt pos; pure x)]) rfl (by simp) (by simp) ?_
  have I1 : Inv X pins σ (upd H s.heap.objs.size (.dK [])) { s with heap := s.heap.push { cls := .type "dict", data := .dict #[] }, toks := s.toks } := I.laid (t' := s.toks) (fun _ _ q => Heap.get?_push_of_some _ q) (Nat.le_refl _) (dk_empty s.heap I.big)
  generalize s.heap.objs.size = p at *
  refine evalPairs_cons (thn (he.run pins _ σ _ (fun v H1 => ∃ d C1 F1, Same F F1 ∧ RC X.K cl.f C1 F1 H1 ∧ Rep X.K cl.f F1 v d ∧ u ρ C1 fun y C2 => C2 p = some (.dic []) ∧ ∃ k, keyD d = some k ∧ Qd (.ref p) (updC C2 p (.dic [(k, y)]))) I1
    ⟨ρ, _, F, _, RR.next (Same.refl F) (RR.rc.cell np (.dic .nil)), h _ pc, fun v d C1 H1 F1 s1 R1 r1 q => ⟨d, C1, F1, s1, R1, r1, q⟩⟩) fun iv s1 ⟨y, H1, I1, ry, dy, C1, F1, sF1, R1, r1, q1⟩ => ?_)
  refine wpAny_bind (thn (hf.run pins s1 σ H1 (fun v H2 => ∃ d C2 F2, Same F1 F2 ∧ RC X.K cl.f C2 F2 H2 ∧ Rep X.K cl.f F2 v d ∧ C2 p = some (.dic []) ∧ ∃ k, keyD dy = some k ∧ Qd (.ref p) (updC C2 p (.dic [(k, d)]))) I1
    ⟨ρ, C1, F1, _, RR.next sF1 R1, q1, fun v d C2 H2 F2 s2 R2 r2 q => ⟨d, C2, F2, s2, R2, r2, q⟩⟩) fun fv s2 ⟨z, H2, I2, rz, dz, C2, F2, sF2, R2, r2, hp, kk, hk, q⟩ => wpAny_bind (wpAny_standAt (wpAny_pure (evalPairs_nil ?_))))
  obtain ⟨_, o, ho, cr⟩ := R2.cel _ _ hp
  cases cr with
  | dic r0 =>
    cases r0
    obtain ⟨z', hd, ws, rw0, dd⟩ := dk_of I2.hok ho
    cases rw0
    rw [key_rep (r1.mono sF2) hk] at ry
    refine ⟨[(kk, fv)], ⟨relV_key ry, rfl, trivial⟩, dd, fun h' dd' sb => ?_⟩
    have rel : KV [(kk, z)] [(kk, fv)] := .cons ⟨rfl, rz⟩ .nil
    have he : ∃ q, h'.get? p = some q := let ⟨q, _, _, hq, _⟩ := dd'; ⟨q, hq⟩
    have I3 := d_write (t' := s2.toks + [(iv, fv)].length) (ob := .dK [(kk, z)]) I2 (by rw [ho]; exact True.intro) sb he (dk_new (by show 1 ≤ sizeLine; rw [sizeLine_eq]; decide) hd rel dd')
    exact ⟨.ref p, _, I3, rfl, k _ _ _ _ F2 (sF1.trans sF2) (R2.put hp (.dic (.cons r2 .nil))) (.ref _) q⟩
end
end G
set_option maxHeartbeats 2000000
namespace GB3
open PySem PySem.Sem
variable {prog : Program} {w : World}
theorem meets_bool_of (x : Value) : MeetsIn prog w (Builtin.«bool.__new__» ⟨[.type "bool", x], []⟩) (fun A R s => wpAny (model prog w) A.in1 (truthy x) (fun b s' => R (.ok (.ret (.bool b))) s') (fun e s' => R (.error e) s') s) :=
  .of_wp fun A R s hs => by
    obtain ⟨hp, g, d, tk, os⟩ := s
    have f1 := F.conv_sub_bool
    repeat (any_goals (first | assumption | (with_reducible refine wpAny_bind (wpAny_mono hs (fun b s' h => ?_) fun e s' h => h)) | wp_step))
    all_goals first | exact ⟨_, rfl, by assumption⟩ | skip
theorem call_bool_of {A : Around} {E : Value → Shared → Prop} {s : Shared} {x : Value} {Q : Value → Shared → Prop} (h : wpAny (model prog w) A.in1.in1 (truthy x) (fun b s' => Q (.bool b) s') E s) : wpAny (model prog w) A (call (.type "bool") [x]) Q E s :=
  callType_newIn F.called_bool F.newNe_bool (F.typeCall_bool_1 x) (F.newCall_bool_1 x) (fun obj => F.args_object_init_2 obj x) F.entry_bool_new (meets_bool_of x) (wpAny_mono h (fun b s' q => ⟨rfl, q⟩) fun e s' q => q)
end GB3
namespace G
open PySem PySem.Spec PyProof.Rows L2
/-! ### bool(x), list(text), a list times a number that changes later -/
def rBoolB : RDC := fun xs C Q => ∃ b, xs = [.bl b] ∧ Q (.bl b) C
def rBoolO (c : String) (sp : DSp2) : RDC := fun xs C Q => ∃ x fs, xs = [x] ∧ insOf C x = some (c, fs) ∧ sp [x] [] C (fun d C1 => ∃ b, d = .bl b ∧ Q (.bl b) C1) noX
def rListS : RDC := fun xs C Q => ∃ l, xs = [.str l] ∧ l.length ≤ sizeLine ∧ Q (.lst (signs l)) C
def rRepLC : RD2 := fun x y C Q => ∃ ds k, x = .lst ds ∧ y = .int k ∧ -(2 ^ 63) ≤ k ∧ k < 2 ^ 63 ∧ ds.length * k.toNat ≤ 1000000 ∧ ∀ p, C p = none → Q (.ref p) (updC C p (.lst (List.replicate k.toNat ds).flatten))
section
variable {X : Cx} {cl : NmB} {CX : CXT} {k : Nat} {g : Addr} {sp : DSp2} {c : String}
theorem od_repLC : OpD X cl (binaryOp .Mult) rRepLC := by
  intro pins s σ H x y v u Q I rx ry ⟨dx, dy, C, F, Qd, R, r1, r2, ⟨ds, k, e1, e2, h1, h2, hz, q⟩, kq⟩
  subst e1 e2
  cases r2
  cases r1 with
  | @lst _ xs _ hF rl =>
    refine op_rep pins s σ H _ _ v u Q I rx ry ⟨_, k, _, rfl, rfl, R.sub _ _ hF, h1, h2, ?_, fun p np => ?_⟩
    · rw [rl.length]
      exact Nat.le_trans hz (Nat.le_of_lt (Nat.lt_of_le_of_lt (Nat.le_refl 1000000) (by decide)))
    · exact kq _ _ _ _ F (Same.refl F) (R.cell np (.lst (repL_rep rl k.toNat))) (.ref p) (q p (R.freeC np))
theorem cd_boolB : CallD X cl (.type "bool") rBoolB := by
  intro pins s σ H xs us Q I r ⟨ds, C, F, Qd, R, rl, ⟨b, e, q⟩, kq⟩
  subst e
  cases rl with
  | cons r1 rr =>
    cases rr
    cases r1
    cases r with
    | cons q1 q2 =>
      cases q2
      obtain rfl := q1
      exact call_bool_bool ⟨.bl b, H, I, rfl, kq _ _ C H F (Same.refl F) R (.bl b) q⟩
theorem cd_boolO (fc : Cee X.prog X.w X.K cl X.mg X.base CX k g [] sp) (hr : Room (k + 2) X.A) (hx : Passes CX X E0) (S : Spc X.K cl c "__bool__" g) : CallD X cl (.type "bool") (rBoolO c sp) := by
  intro pins s σ H xs us Q I r ⟨ds, C, F, Qd, R, rl, ⟨x, fs, e, hi, h⟩, kq⟩
  subst e
  cases rl with
  | cons r1 rr =>
    cases rr
    obtain ⟨a, ad, vs, rfl, ha, rf⟩ := ins_ok R r1 hi
    cases r with
    | cons q1 q2 =>
      cases q2; cases q1
      obtain ⟨ox, od, J⟩ := inst_at I ha
      obtain ⟨m, hF⟩ := I.fr
      refine GB3.call_bool_of (PySem.W.truthy_K hF I.ok.mod.kin J S.at_ S.fn ?_)
      refine thn (fc.goD (A := X.A.in1.in1) (vs := [.ref a]) hr.in1.in1 rfl hx I (.cons rfl .nil) R (.cons r1 .nil) h (Q := fun v H1 => ∃ b, v = .bl b ∧ Q (.bl b) H1) fun w d C1 H1 F1 s1 R1 rd ⟨b, e, q⟩ => ?_) fun w s2 ⟨z, H2, I2, rz, b, ez, q⟩ => ?_
      · subst e; cases rd
        exact ⟨b, rfl, kq _ _ C1 H1 F1 s1 R1 (.bl b) q⟩
      · subst ez
        obtain rfl := rz
        exact ⟨.bl b, H2, I2, rfl, q⟩
theorem rep_sgn {K : PySem.W.Frag} {cl : Nm} {F : Hp} : ∀ l : List Nat, RepL K cl F (l.map fun c => V.str ⟨#[c]⟩) (signs l)
  | [] => .nil
  | c :: l => .cons (.str [c]) (rep_sgn l)
theorem cd_listS (hc : X.calm = true := by rfl) : CallD X cl (.type "list") rListS := by
  intro pins s σ H xs us Q I r ⟨ds, C, F, Qd, R, rl, ⟨l, e, hl, q⟩, kq⟩
  subst e
  cases rl with
  | cons r1 rr =>
    cases rr
    cases r1
    cases r with
    | cons ru rr =>
      cases rr
      obtain ⟨t, rfl⟩ := ru
      refine call_list_str (I.ok.hd hc) _ t (fun h' tk acc c' hk hD hacc => ?_) (by simpa using hl)
      have hv : Vals (l.map fun c => V.str ⟨#[c]⟩) acc.toList := vals_at (by
          have := hacc.1
          rw [List.length_map]
          simpa using this.symm) fun j v u e1 e2 => by
        obtain ⟨c, t', hc1, rfl⟩ := hacc.2 j u (by rw [← Array.getElem?_toList]; exact e2)
        have hc2 : l[j]? = some c := by simpa using hc1
        rw [List.getElem?_map, hc2] at e1
        cases e1
        exact ⟨t', rfl⟩
      have np : H s.heap.objs.size = none := I.hok.fresh (Nat.le_refl _)
      have s2 := same_upd (o := .lst (l.map fun c => V.str ⟨#[c]⟩)) (R.freeF np)
      refine ⟨.ref s.heap.objs.size, upd H s.heap.objs.size (.lst (l.map fun c => V.str ⟨#[c]⟩)), I.laid (t' := tk) hk (Nat.le_refl _)
        (show ObjOk X.prog X.w _ _ _ (.lst (l.map fun c => V.str ⟨#[c]⟩)) from ⟨by rw [List.length_map]; exact hl, acc.toList, c', hv, by rw [Array.toArray_toList]; exact hD⟩), rfl, ?_⟩
      exact kq _ _ C _ _ s2 (R.new np) (.lst upd_same ((rep_sgn l).mono s2)) q
end
end G
set_option maxHeartbeats 2000000
namespace G
open PySem PySem.Spec PyProof.Rows L2
/-! ### a lambda with parameters, called within a comprehension: the cells that it holds are counted among what stands fixed -/
theorem frames_mono {h B B' : Heap} (k : ∀ b, B.get? b = none → B'.get? b = none) : ∀ {l : List Env}, h.FunFrames B l → h.FunFrames B' l
  | [], _ => trivial
  | _ :: _, ⟨a, ⟨L, o, e1, e2, e3, e4⟩, r⟩ => ⟨a, ⟨L, o, e1, k _ e2, e3, e4⟩, frames_mono k r⟩
section
variable {X : Cx} {pins : List (Addr × Obj)} {σ : L2.St} {H HZ : Hp} {s s1 : Shared}
theorem lamP_startC {A : Around} {outer : List Env} {ps ls : List Str} {ys : List (Str × Nat)} {scope : Scope} {f c' : Addr} {h₁ : Heap} {tk : Nat} {vs : List V} {us : List Value} (I : Inv X pins σ H s) (L : LamP X.N X.env.scope ps ls ys scope) (e0 : Env0 X.prog X.w X.K X.mg X.base A outer s1 HZ) (hd : A.handled = none)
    (kc : ∀ y c, X.env.cells.lookup y = some c → (∀ v, s.heap.IsCell c v → s1.heap.IsCell c v) ∧ HZ c = none) (hl : vs.length = ps.length) (r : Vals vs us) (hns : h₁.Ns s1.heap.objs.size fun y => (ps.zip us).reverse.lookup y) (kp : ∀ b o, s1.heap.get? b = some o → h₁.get? b = some o) :
    Inv (lamCxP X A outer s1 HZ ps ls ys scope f c') [] (lamSt vs ls.length ys σ) HZ { s1 with heap := h₁, toks := tk } := by
  have hfree := L.has I.ok
  have cm : ∀ {y c}, (cloFrom X.env.cells scope.names []).lookup y = some c → X.env.cells.lookup y = some c := fun {y c} e => by
    rcases cloFrom_mem (PySem.mem_of_lookup e) with hm | ⟨h1, h2⟩
    · cases hm
    · obtain ⟨c1, hc⟩ := hfree _ h1 rfl
      have hc : X.env.cells.lookup y = some c1 := hc
      have e2 : c = c1 := by
        rw [h2, hc] <;> rfl
      rw [e2]
      exact hc
  have look : ∀ {y}, scope.names.lookup y = some .free → ∃ c, (cloFrom X.env.cells scope.names []).lookup y = some c := fun {y} hl => by
    have hy : (y, NameKind.free) ∈ scope.names := PySem.mem_of_lookup hl
    exact mem_lookup (cloFrom_has (cells := X.env.cells) (acc := []) hy)
  have cellK : ∀ {y : Str} {c : Addr} {v : Option Value}, X.env.cells.lookup y = some c → s.heap.IsCell c v → h₁.IsCell c v := fun {y c v} e z => by
    obtain ⟨o, ho, hd⟩ := (kc y c e).1 v z
    exact ⟨o, kp _ _ ho, hd⟩
  have noA : ∀ b : Addr, b ∉ (lamCxP X A outer s1 HZ ps ls ys scope f c').ex := fun b z => absurd (show b ∈ ([] : List Addr) from z) (by simp)
  refine ⟨⟨e0.mod, L.kind, rfl, rfl, Nat.le_refl _, fun y z c e1 e2 => I.ok.inj y z c (cm e1) (cm e2), fun y hy => ?_, fun y c z _ => ?_, fun _ => hd, Around.frames_deeper e0.frames, .inr ⟨rfl, rfl⟩, fun b z => absurd z (noA b), e0.bs, e0.bsz, fun b _ _ => noA b,
      fun b z => absurd z (noA b), e0.funs, e0.frf⟩,
    rfl, e0.bare, Un.kept kp, ⟨_, hns, fun i y v e1 e2 e3 => ?_⟩, fun y c e => ?_, e0.hok.fresh (Nat.le_refl _), fun y c e => ?_, fun q hq => absurd (show q ∈ ([] : List (Addr × Obj)) ++ [] from hq) (by simp), e0.hok.kept kp, ?_⟩
  · have hy : scope.names.lookup y = some .cell ∨ scope.names.lookup y = some .free := hy
    rcases hy with hy | hy
    · exact absurd rfl (L.noc _ (PySem.mem_of_lookup hy))
    · exact look hy
  · have z : false = true := z
    cases z
  · rcases lamSt_get hl rfl e1 e2 with ⟨h1, h2⟩ | ⟨z, hz, rfl, h2⟩
    · obtain ⟨u, hu, rv⟩ := r.get h2
      exact ⟨u, rv, .inl ⟨L.par y (List.mem_of_getElem? h1), look_rev L.nd h1 hu⟩⟩
    · obtain ⟨n1, k⟩ := L.slot z hz
      obtain ⟨m, hn, hl⟩ := I.loc
      have hvis : Vis X.env.scope z.1 := (L.free _ (PySem.mem_of_lookup k) rfl).elim (fun k => .inr (.inl k)) (fun k => .inr (.inr k))
      obtain ⟨w', r, q⟩ := hl z.2 z.1 v n1 h2 hvis
      obtain ⟨c2, h2⟩ := look k
      refine ⟨w', r, .inr ⟨.inr k, c2, h2, ?_⟩⟩
      have c1 := cm h2
      rcases q with ⟨k', _⟩ | ⟨_, c3, e', z'⟩
      · have k' : X.env.scope.names.lookup z.1 = some .local := k'
        rcases L.free _ (PySem.mem_of_lookup k) rfl with k2 | k2 <;> rw [show X.env.scope.names.lookup z.1 = _ from k2] at k' <;> cases k'
      · rw [c1] at e'
        cases e'
        exact cellK c1 z'
  · obtain ⟨w', z⟩ := I.cell y c (cm e)
    exact ⟨w', cellK (cm e) z⟩
  · exact (kc y c (cm e)).2
  · exact lamSt_len hl rfl
end
section
variable {X : Cx} {cl : NmB}
theorem de_actPY {Ng : List Str} {x a : Str} {sg : Scope} {g f c' : Addr} {cdg pm ctv : Value} {params : Arguments} {body : Expr} {scope : Scope} {k i : Nat} {ps ls : List Str} {ys : List (Str × Nat)} {te : DE} {p1 p2 : Pos} {e : Expr} {es : List Expr} {t : DA} {B : Heap} {s3 : Shared} {H3 : Hp} {sc3 : Scope} {ce : Env} {fp : List Addr}
    {pins : List (Addr × Obj)} {σ : L2.St} {H F0 F : Hp} {s : Shared} {ρ : DEnv} {C : Cl} (I : Inv X pins σ H s) (R : RS X.K cl ρ C F σ H) (sF : Same F F0) (L : LamP X.N X.env.scope ps ls ys scope) (hf : F0 f = some (lamO f (lamObj X params body scope pm c' ctv)))
    (hc : F0 c' = some (LamX.CodeO c' (lamQ X)))
    (hbind : ∀ us : List Value, us.length = ps.length → bindArgs (PySem.W.kla_fn "<lambda>" (lamQ X) params body scope (cloFrom X.env.cells scope.names []) pm (.ref c') ctv) ⟨us, []⟩ = pure (ps.zip us))
    (hr : Room (k + 1) (X.A.deeper (envOfC x sg s.heap.objs.size g cdg)))
    (hbody : ∀ (A : Around) (outer : List Env) (s : Shared) (H F1 : Hp), Room k (A.deeper (LamX.lamEnv X scope s.heap.objs.size f c')) → PEd (lamCxP X A outer s H ps ls ys scope f c').nox ⟨cl.f, F1⟩ body te)
    (hN : Ng[i]? = some a) (hv : Vis ce.scope a) (hBs : X.base.objs.size ≤ B.objs.size) (hBb : ∀ b o, X.base.get? b = some o → B.get? b = some o) (hBc : ∀ y c, X.env.cells.lookup y = some c → ∃ o, B.get? c = some o ∧ s.heap.get? c = some o) (hd : (a == ("__debug__" : Str)) = false) (hcd : (a == ("__classdict__" : Str)) = false)
    (ha : PAd (Cx.blk { (gCx X Ng x sg g cdg s H).nox with base := B } s3 H3 sc3 ce fp) ⟨cl.f, F0⟩ (e :: es) t) (hlen : (e :: es).length = ps.length)
    (he : starEach (e :: es) (Cx.blk { (gCx X Ng x sg g cdg s H).nox with base := B } s3 H3 sc3 ce fp).env = (false, eval e (Cx.blk { (gCx X Ng x sg g cdg s H).nox with base := B } s3 H3 sc3 ce fp).env) :: starEach es (Cx.blk { (gCx X Ng x sg g cdg s H).nox with base := B } s3 H3 sc3 ce fp).env) (hpl : (backTo p2 (starEach es (Cx.blk { (gCx X Ng x sg g cdg s H).nox with base := B } s3 H3 sc3 ce fp).env)).any (·.1) = false) :
    PEd (Cx.blk { (gCx X Ng x sg g cdg s H).nox with base := B } s3 H3 sc3 ce fp) ⟨cl.f, F0⟩ (.Call (.Name a p1) (e :: es) [] p2) (dActP i f (fun ds C Q => ds.length = ps.length ∧ te (lamSt ds ls.length ys ρ) C Q) t) := by
  refine ⟨fun pz sZ σZ HZ Q IZ ⟨ρZ, CZ, FZ, Qd, RZ, ⟨hs, ht⟩, kq⟩ => ?_⟩
  obtain ⟨v0, ev0, rv0⟩ := RZ.env i _ hs
  cases rv0
  refine wpAny_Call_Name_kw (thn ((pe_var (pos := p1) (i := i) hN hv hd hcd).run pz sZ σZ HZ (fun v H1 => v = .ref f ∧ H1 = HZ) IZ ⟨.ref f, ev0, rfl, rfl⟩) fun u s0 ⟨v, H0, I0, r0, ev, eH⟩ => ?_)
  subst ev
  rw [eH] at I0
  obtain rfl : u = Value.ref f := r0
  have atF0 : s0.heap.get? f = some (lamObj X params body scope pm c' ctv) := (I0.hok f _ (RZ.rc.sub _ _ (RZ.bs _ _ hf))).1
  refine PySem.W.callWith_F ⟨_, _, _, _, atF0⟩ (thn (ha.run p2 pz s0 σZ HZ (fun vs H1 => ∃ ds C1 F1, Same FZ F1 ∧ RC X.K cl.f C1 F1 H1 ∧ RepL X.K cl.f F1 vs ds ∧ ds.length = ps.length ∧ te (lamSt ds ls.length ys ρ) C1 Qd) I0
    ⟨ρZ, CZ, FZ, _, RZ, ht, fun vs ds C1 H1 F1 s1 R1 r1 q => ⟨ds, C1, F1, s1, R1, r1, q⟩⟩) fun us s1 ⟨vs, H1, I1, r1, ds, C1, F1, s1', R1, rl, hdl, q⟩ => ?_) he hpl
  have bs1 : Same F0 F1 := RZ.bs.trans s1'
  have atF : s1.heap.get? f = some (lamObj X params body scope pm c' ctv) := (I1.hok f _ (R1.sub _ _ (bs1 _ _ hf))).1
  refine ⟨⟨_, _, _, _, atF⟩, ?_⟩
  have kc : ∀ y c, X.env.cells.lookup y = some c → (∀ v, s.heap.IsCell c v → s1.heap.IsCell c v) ∧ H1 c = none := fun y c e => by
    obtain ⟨o, ho, hs⟩ := hBc y c e
    have hb := I1.bs c o ho
    refine ⟨fun v ⟨o', ho', hd⟩ => ⟨o, hb.1, ?_⟩, hb.2⟩
    rw [hs] at ho'
    cases ho'
    exact hd
  have e0B := I1.env0
  have e0 : Env0 X.prog X.w X.K X.mg X.base (X.A.deeper (envOfC x sg s.heap.objs.size g cdg)) (envOfC x sg s.heap.objs.size g cdg :: X.stack) s1 H1 := ⟨e0B.frames, I.ok.mod, fun b o q => e0B.bs b o (hBb b o q), Nat.le_trans hBs e0B.bsz, frames_mono (fun b hn => by
    cases q : X.base.get? b with
    | none => rfl
    | some o => rw [hBb b o q] at hn; cases hn) e0B.funs, e0B.frf, e0B.hok, e0B.bare⟩
  obtain ⟨⟨oc, vs', tq, hoc, hdc, hvc⟩, _, _⟩ := I1.hok c' _ (R1.sub _ _ (bs1 _ _ hc))
  have hvl : vs.length = ps.length := rl.length.trans hdl
  have hul : us.length = ps.length := by rw [← Paired.length r1]; exact hvl
  have RL : RS X.K ⟨cl.f, F1⟩ (lamSt ds ls.length ys ρ) C1 F1 (lamSt vs ls.length ys σ) H1 := ⟨R1, (lamSt_len (ps := ps) hdl rfl).trans (lamSt_len (ps := ps) hvl rfl).symm, fun j d ej => by
      have hj : j < (LamN ps ls ys).length := by rw [← lamSt_len (σ := ρ) hdl rfl]; exact (List.getElem?_eq_some_iff.mp ej).1
      have hNj : (LamN ps ls ys)[j]? = some (LamN ps ls ys)[j] := List.getElem?_eq_getElem hj
      by_cases a : j < ps.length
      · have e1 : (lamSt ds ls.length ys ρ)[j]? = (ds.map some)[j]? := by unfold lamSt; rw [List.append_assoc, List.getElem?_append_left (by rw [List.length_map, hdl]; exact a)]
        have e2 : (lamSt vs ls.length ys σ)[j]? = (vs.map some)[j]? := by unfold lamSt; rw [List.append_assoc, List.getElem?_append_left (by rw [List.length_map, hvl]; exact a)]
        rw [e1, List.getElem?_map] at ej
        cases ed : ds[j]? with
        | none => rw [ed] at ej; cases ej
        | some d' =>
          rw [ed] at ej
          cases ej
          obtain ⟨v, hv1, hv2⟩ := rl.get ed
          exact ⟨v, by rw [e2, List.getElem?_map, hv1]; rfl, hv2⟩
      · have b : ¬ j < ps.length + ls.length := fun b => by
          unfold lamSt at ej
          rw [List.append_assoc, List.getElem?_append_right (by rw [List.length_map, hdl]; omega), List.getElem?_append_left (by rw [List.length_map, List.length_replicate, hdl]; omega), List.getElem?_replicate] at ej
          split at ej <;> cases ej
        have l1 : (ds.map some ++ List.replicate ls.length (none : Option D)).length = ps.length + ls.length := by rw [List.length_append, List.length_map, List.length_replicate, hdl]
        have l2 : (vs.map some ++ List.replicate ls.length (none : Option V)).length = ps.length + ls.length := by rw [List.length_append, List.length_map, List.length_replicate, hvl]
        have e1 : (lamSt ds ls.length ys ρ)[j]? = (ys.map fun z => (ρ[z.2]?).join)[j - (ps.length + ls.length)]? := by unfold lamSt; rw [List.getElem?_append_right (by omega), l1]
        have e2 : (lamSt vs ls.length ys σ)[j]? = (ys.map fun z => (σ[z.2]?).join)[j - (ps.length + ls.length)]? := by unfold lamSt; rw [List.getElem?_append_right (by omega), l2]
        rw [e1, List.getElem?_map] at ej
        cases ez : ys[j - (ps.length + ls.length)]? with
        | none => rw [ez] at ej; cases ej
        | some z =>
          rw [ez] at ej
          have h3 : (ρ[z.2]?).join = some d := Option.some.inj ej
          have h4 : ρ[z.2]? = some (some d) := by
            cases e5 : ρ[z.2]? with
            | none => rw [e5] at h3; cases h3
            | some w => rw [e5] at h3; exact congrArg some h3
          obtain ⟨v, hv1, hv2⟩ := R.env z.2 d h4
          refine ⟨v, ?_, hv2.mono (sF.trans bs1)⟩
          rw [e2, List.getElem?_map, ez]
          show some (σ[z.2]?).join = _
          rw [hv1]
          rfl, Same.refl F1⟩
  have run : codeAny (model X.prog X.w) (X.A.deeper (envOfC x sg s.heap.objs.size g cdg)) (.call (.ref f) ⟨us, []⟩) (CR CX0 (envOfC x sg s.heap.objs.size g cdg :: X.stack) X.prog X.w H1 s1 Q E0) s1 := by
    refine PySem.W.kla_callFunE hr.depth atF rfl L.co L.gen rfl ⟨c', oc, vs', tq, rfl, hoc, hdc, hvc⟩ ?_
    rw [hbind us hul]
    refine wpAny_pure (wpAny_newFunctionEnv (fun y hy => L.noc y hy) (fun y hy => L.par y.1 (List.of_mem_zip (show (y.1, y.2) ∈ ps.zip us from hy)).1) (fun h₁ hns hsb => ⟨I1.nolimit.fresh _ hsb, ?_⟩) L.kind)
    have kp : ∀ b o, s1.heap.get? b = some o → h₁.get? b = some o := fun b o e => hsb.extBut b o (Nat.ne_of_lt (Heap.lt_size e)) (Heap.get?_push_of_some _ e)
    have J : Inv (lamCxP X (X.A.deeper (envOfC x sg s.heap.objs.size g cdg)) (envOfC x sg s.heap.objs.size g cdg :: X.stack) s1 H1 ps ls ys scope f c') [] (lamSt vs ls.length ys σ) H1 { s1 with heap := h₁, toks := s1.toks + (ps.zip us).length } :=
      lamP_startC I L e0 hr.hd kc hvl r1 hns kp
    have B := hbody (X.A.deeper (envOfC x sg s.heap.objs.size g cdg)) (envOfC x sg s.heap.objs.size g cdg :: X.stack) s1 H1 F1 (hr.deeper _)
    refine PySem.W.kla_codeExpr (wpAny_mono (B.run [] _ _ H1 Q (J.wish _) ⟨_, C1, F1, Qd, RL, q, kq.at s1'⟩) (fun v s' hq => ?_) fun e s' hq => hq.elim)
    obtain ⟨w', H', J', rv, q⟩ := hq
    exact ⟨w', H', J'.os, J'.bare, J'.base, J'.hok, rv, q⟩
  refine wpAny_call (codeAny_mono run fun r s' hq => ?_)
  cases r with
  | error e => exact (show False from hq).elim
  | ok fl =>
    cases fl with
    | ret u => exact I1.after hq
    | next => exact False.elim hq
    | brk => exact False.elim hq
    | cont => exact False.elim hq
/-- with more that stands fixed -/
theorem de_base {B : Heap} {e : Expr} {te : DE} (hI : ∀ (pins : List (Addr × Obj)) (σ : L2.St) (H : Hp) (s : Shared), Inv X pins σ H s → Inv { X with base := B } pins σ H s) (h : PEd { X with base := B } cl e te) : PEd X cl e te := by
  refine ⟨fun pins s σ H Q I ht => ?_⟩
  refine wpAny_mono (h.run pins s σ H Q (hI pins σ H s I) ht) (fun v s' hq => ?_) fun e s' hq => hq
  obtain ⟨w, H', J, rv, q⟩ := hq
  exact ⟨w, H', ⟨I.ok, J.os, J.bare, J.base, J.loc, J.cell, J.free, J.freeC, J.pin, J.hok, J.len⟩, rv, q⟩
end
/-! what stands fixed, and some cells -/
theorem get_iff {h : Heap} {a : Addr} {o : Obj} : h.get? a = some o ↔ h.objs[a]? = some o ∧ o.data ≠ .freed := by
  unfold Heap.get?
  split
  · rename_i e
    rw [e]
    constructor
    · intro z; cases z
    · rintro ⟨z, n⟩
      cases z
      exact absurd rfl n
  · rename_i ho
    constructor
    · intro z
      refine ⟨z, fun n => ?_⟩
      obtain ⟨c, d, dt, sl⟩ := o
      cases n
      exact ho _ _ _ z
    · exact fun z => z.1
open Classical in
noncomputable def plusH (h base : Heap) (cs : Addr → Prop) : Heap := ⟨((List.range h.objs.size).map fun b => ((base.get? b).or (if cs b then h.get? b else none)).getD { cls := .none, data := .freed }).toArray, {}⟩
theorem plus_get {h base : Heap} {cs : Addr → Prop} {b : Addr} {o : Obj} (k : ∀ b o, base.get? b = some o → h.get? b = some o) : (plusH h base cs).get? b = some o ↔ base.get? b = some o ∨ (cs b ∧ h.get? b = some o) := by
  classical
  rw [get_iff]
  have e : (plusH h base cs).objs[b]? = if b < h.objs.size then some (((base.get? b).or (if cs b then h.get? b else none)).getD { cls := .none, data := .freed }) else none := by
    unfold plusH
    rw [List.getElem?_toArray, List.getElem?_map]
    by_cases hb : b < h.objs.size
    · rw [List.getElem?_range hb, if_pos hb]
      rfl
    · have z : (List.range h.objs.size)[b]? = none := List.getElem?_eq_none (by rw [List.length_range]; exact Nat.not_lt.mp hb)
      rw [z, if_neg hb]
      rfl
  rw [e]
  constructor
  · rintro ⟨z, n⟩
    split at z
    · cases hb : base.get? b with
      | some o' =>
        rw [hb] at z
        exact .inl z
      | none =>
        rw [hb] at z
        by_cases hc : cs b
        · rw [if_pos hc] at z
          cases ho : h.get? b with
          | some o' =>
            rw [ho] at z
            exact .inr ⟨hc, z⟩
          | none =>
            rw [ho] at z
            cases z
            exact absurd rfl n
        · rw [if_neg hc] at z
          cases z
          exact absurd rfl n
    · cases z
  · intro z
    have hh : h.get? b = some o := z.elim (k b o) (·.2)
    refine ⟨?_, (get_iff.mp hh).2⟩
    rw [if_pos (Heap.lt_size hh)]
    rcases z with z | ⟨hc, z⟩
    · rw [z]
      rfl
    · cases hb : base.get? b with
      | some o' =>
        rw [k b o' hb] at z
        cases z
        rfl
      | none =>
        rw [if_pos hc, z]
        rfl
theorem Ns_keeps {h h' : Heap} {a : Addr} {m : Str → Option Value} (x : h.Ns a m) (k : ∀ b o, h.get? b = some o → h'.get? b = some o) : h'.Ns a m := by
  obtain ⟨o, es, ep, e, r⟩ := x
  exact ⟨o, es, ep, k _ _ e, r⟩
theorem Mod_keeps {K : PySem.W.Frag} {mg : Str → Option Value} {h h' : Heap} (x : Mod K mg h) (k : ∀ b o, h.get? b = some o → h'.get? b = some o) : Mod K mg h' := by
  obtain ⟨mb, e, r⟩ := x.blt
  exact ⟨x.kin.keeps k, Ns_keeps x.glob k, ⟨mb, Ns_keeps e k, r⟩, x.nolimit.keeps k⟩
theorem frames_sub {h B B' : Heap} : ∀ {l : List Env}, (∀ L ∈ frs l, B.get? L = none → B'.get? L = none) → h.FunFrames B l → h.FunFrames B' l
  | [], _, _ => trivial
  | env :: l, k, ⟨a, ⟨L, o, e1, e2, e3, e4⟩, r⟩ => by
    have hL : L ∈ frs (env :: l) := by
      unfold frs
      rw [List.filterMap_cons, e1]
      exact List.mem_cons_self
    refine ⟨a, ⟨L, o, e1, k L hL e2, e3, e4⟩, frames_sub (fun L' h' => k L' ?_) r⟩
    unfold frs at h' ⊢
    rw [List.filterMap_cons, e1]
    exact List.mem_cons_of_mem _ h'
section
variable {X : Cx} {pins : List (Addr × Obj)} {σ : L2.St} {H : Hp} {s : Shared}
theorem plus_base (I : Inv X pins σ H s) : ∀ b o, X.base.get? b = some o → (plusH s.heap X.base fun b => ∃ y, X.env.cells.lookup y = some b).get? b = some o := fun b o e => (plus_get fun b o e => (I.bs b o e).1).mpr (.inl e)
theorem plus_cell (I : Inv X pins σ H s) : ∀ y c, X.env.cells.lookup y = some c → ∃ o, (plusH s.heap X.base fun b => ∃ y, X.env.cells.lookup y = some b).get? c = some o ∧ s.heap.get? c = some o := fun y c e => by
  obtain ⟨v, o, ho, hd⟩ := I.cell y c e
  exact ⟨o, (plus_get fun b o e => (I.bs b o e).1).mpr (.inr ⟨⟨y, e⟩, ho⟩), ho⟩
theorem plus_len {h base : Heap} {cs : Addr → Prop} : (plusH h base cs).objs.size = h.objs.size := by
  unfold plusH
  rw [List.size_toArray, List.length_map, List.length_range]
theorem plus_size (I : Inv X pins σ H s) : X.base.objs.size ≤ (plusH s.heap X.base fun b => ∃ y, X.env.cells.lookup y = some b).objs.size := by
  rw [plus_len]
  exact Nat.le_trans I.ok.bsz I.sz
theorem plus_inv {Ng : List Str} {x : Str} {sg : Scope} {g : Addr} {cdg : Value} {pins' : List (Addr × Obj)} {σ' : L2.St} {H' : Hp} {s' : Shared} (I : Inv X pins σ H s) (hfn : ∀ y, X.fn y = true) (J : Inv (gCx X Ng x sg g cdg s H).nox pins' σ' H' s') :
    Inv { (gCx X Ng x sg g cdg s H).nox with base := plusH s.heap X.base fun b => ∃ y, X.env.cells.lookup y = some b } pins' σ' H' s' := by
  have hbs := fun b o e => (I.bs b o e).1
  have ok := J.ok
  refine ⟨⟨Mod_keeps I.ok.mod (plus_base I), ok.kind, ok.glob, ok.blt, ok.above, ok.inj, ok.has, ok.cab, ok.hd, ok.frames, ok.stk, ok.exf, fun b o e => ?_, Nat.le_of_eq plus_len, fun b o _ hb => absurd (show b ∈ ([] : List Addr) from hb) (by simp), ok.exfs, frames_sub (fun L hL e => ?_) ok.funs, ok.frf⟩, J.os, J.bare, J.base, J.loc, J.cell, J.free, J.freeC, J.pin, J.hok, J.len⟩
  · rcases (plus_get hbs).mp e with z | ⟨⟨y, hy⟩, z⟩
    · exact I.bs b o z
    · exact ⟨z, I.freeC y b hy⟩
  · cases q : (plusH s.heap X.base fun b => ∃ y, X.env.cells.lookup y = some b).get? L with
    | none => rfl
    | some o =>
      rcases (plus_get hbs).mp q with z | ⟨⟨y, hy⟩, z⟩
      · have e : X.base.get? L = none := e
        rw [e] at z
        cases z
      · have hL : L ∈ frs X.stack := hL
        rcases List.mem_cons.mp (I.stkSub L hL) with h1 | h1
        · obtain ⟨m, ⟨o1, es, ep, e1, e2, _⟩, _⟩ := I.loc
          obtain ⟨v, o2, e3, e4⟩ := I.cell y L hy
          rw [h1] at e3
          rw [e1] at e3
          cases e3
          rw [e2] at e4
          cases e4
        · obtain ⟨_, o1, ho, _⟩ := I.ok.funs.mem h1
          exact absurd (Heap.lt_size ho) (Nat.not_lt.mpr (I.ok.cab y L (hfn y) hy))
end
section
variable {X : Cx} {cl : NmB}
theorem de_lam2C {Ng psg : List Str} {x a1 a2 : Str} {stg : Stmt} {g c P : Addr} {fdg : FuncData} {k : Nat} {q1 q2 : Arguments} {b1 b2 : Expr} {sc1 sc2 : Scope} {ps1 ls1 ps2 ls2 : List Str} {ys1 ys2 : List (Str × Nat)} {td : (DA → DE) → (DA → DE) → DS} {te1 te2 ta tb : DE} {e1 e2 : Expr} {p l1 l2 pos : Pos} {qs : String} {m1 n1 m2 n2 : Nat}
    (Fu : Fun X.K x x stg g fdg) (Sg : FnScope Ng psg (defScope stg)) (hN1 : Ng[2]? = some a1) (hN2 : Ng[3]? = some a2) (hv1 : Vis (defScope stg) a1) (hv2 : Vis (defScope stg) a2) (hlp : psg.length = 4) (hm : X.mg x = some (.ref g)) (hk : PySem.W.keepIn X.K (.ref g) = true) (hb : Binds X.K fdg psg [])
    (TB : LamX.TabB X.base X.mg c P) (hcode : X.env.code = .ref c) (hP : cl qs = P) (hq : lamQ X = (qs : Str)) (hr : Room (k + 2) X.A) (L1 : LamP X.N X.env.scope ps1 ls1 ys1 sc1) (L2 : LamP X.N X.env.scope ps2 ls2 ys2 sc2) (hd1 : defaultsOf q1 X.env = ([], [])) (hd2 : defaultsOf q2 X.env = ([], []))
    (hb1 : ∀ (q : Str) (cl : List (Str × Addr)) (pm cv ctv : Value) (us : List Value), us.length = ps1.length → bindArgs (PySem.W.kla_fn "<lambda>" q q1 b1 sc1 cl pm cv ctv) ⟨us, []⟩ = pure (ps1.zip us))
    (hb2 : ∀ (q : Str) (cl : List (Str × Addr)) (pm cv ctv : Value) (us : List Value), us.length = ps2.length → bindArgs (PySem.W.kla_fn "<lambda>" q q2 b2 sc2 cl pm cv ctv) ⟨us, []⟩ = pure (ps2.zip us))
    (ha : PEd X cl e1 ta) (hbe : PEd X cl e2 tb)
    (hG : ∀ (cdg : Value) (s : Shared) (H F0 : Hp) (f1 f2 : Addr) (tl1 tl2 : List D → Cl → DQ → Prop), Room (k + 1) (X.A.deeper (envOfC x (defScope stg) s.heap.objs.size g cdg)) →
      ActP (gCx X Ng x (defScope stg) g cdg s H).nox ⟨cl.f, F0⟩ a1 2 f1 tl1 ps1.length → ActP (gCx X Ng x (defScope stg) g cdg s H).nox ⟨cl.f, F0⟩ a2 3 f2 tl2 ps2.length →
      ∀ B : Heap, (∀ (pins : List (Addr × Obj)) (σ : List (Option V)) (H' : Hp) (s' : Shared), Inv (gCx X Ng x (defScope stg) g cdg s H).nox pins σ H' s' → Inv { (gCx X Ng x (defScope stg) g cdg s H).nox with base := B } pins σ H' s') → (∀ (s3 : Shared) (H3 : Hp) (sc3 : Scope) (ce : Env) (fp : List Addr), Vis ce.scope a1 → ActP (Cx.blk { (gCx X Ng x (defScope stg) g cdg s H).nox with base := B } s3 H3 sc3 ce fp) ⟨cl.f, F0⟩ a1 2 f1 tl1 ps1.length) →
      (∀ (s3 : Shared) (H3 : Hp) (sc3 : Scope) (ce : Env) (fp : List Addr), Vis ce.scope a2 → ActP (Cx.blk { (gCx X Ng x (defScope stg) g cdg s H).nox with base := B } s3 H3 sc3 ce fp) ⟨cl.f, F0⟩ a2 3 f2 tl2 ps2.length) →
      PSsd (gCx X Ng x (defScope stg) g cdg s H).nox ⟨cl.f, F0⟩ (defBody stg) (td (dActP 2 f1 tl1) (dActP 3 f2 tl2)))
    (hbody1 : ∀ (A : Around) (outer : List Env) (s : Shared) (H : Hp) (f c' : Addr) (F1 : Hp), Room k (A.deeper (LamX.lamEnv X sc1 s.heap.objs.size f c')) → PEd (lamCxP X A outer s H ps1 ls1 ys1 sc1 f c').nox ⟨cl.f, F1⟩ b1 te1)
    (hbody2 : ∀ (A : Around) (outer : List Env) (s : Shared) (H : Hp) (f c' : Addr) (F1 : Hp), Room k (A.deeper (LamX.lamEnv X sc2 s.heap.objs.size f c')) → PEd (lamCxP X A outer s H ps2 ls2 ys2 sc2 f c').nox ⟨cl.f, F1⟩ b2 te2)
    (hfn : ∀ y, X.fn y = true := by exact fun _ => rfl) (hg : Gl X x := by rfl) (hdb : (x == ("__debug__" : Str)) = false := by decide) (hda1 : (a1 == ("__debug__" : Str)) = false := by decide) (hca1 : (a1 == ("__classdict__" : Str)) = false := by decide) (hda2 : (a2 == ("__debug__" : Str)) = false := by decide) (hca2 : (a2 == ("__classdict__" : Str)) = false := by decide)
    (s1 : starEach [e1, e2, .Lambda q1 b1 sc1 l1, .Lambda q2 b2 sc2 l2] X.env = (false, eval e1 X.env) :: starEach [e2, .Lambda q1 b1 sc1 l1, .Lambda q2 b2 sc2 l2] X.env := by rfl)
    (s2 : starEach [e2, .Lambda q1 b1 sc1 l1, .Lambda q2 b2 sc2 l2] X.env = (false, eval e2 X.env) :: starEach [.Lambda q1 b1 sc1 l1, .Lambda q2 b2 sc2 l2] X.env := by rfl)
    (s3 : starEach [.Lambda q1 b1 sc1 l1, .Lambda q2 b2 sc2 l2] X.env = (false, eval (.Lambda q1 b1 sc1 l1) X.env) :: starEach [.Lambda q2 b2 sc2 l2] X.env := by rfl)
    (s4 : starEach [.Lambda q2 b2 sc2 l2] X.env = (false, eval (.Lambda q2 b2 sc2 l2) X.env) :: starEach [] X.env := by rfl)
    (hpl : (backTo pos (starEach [e2, .Lambda q1 b1 sc1 l1, .Lambda q2 b2 sc2 l2] X.env)).any (·.1) = false := by rfl) (hm1 : m1 = ps1.length := by rfl) (hn1 : n1 = ls1.length := by rfl) (hm2 : m2 = ps2.length := by rfl) (hn2 : n2 = ls2.length := by rfl) :
    PEd X cl (.Call (.Name x p) [e1, e2, .Lambda q1 b1 sc1 l1, .Lambda q2 b2 sc2 l2] [] pos) (dLam2 Ng qs td m1 n1 ys1 te1 m2 n2 ys2 te2 ta tb) := by
  subst hm1 hn1 hm2 hn2
  refine ⟨fun pins s σ H Q I ⟨ρ, C, F, Qd, R, h, kq⟩ => ?_⟩
  refine wpAny_Call_Name_kw (ld_glob I hg hm ?_ hdb)
  have PAA := pa_cons ha (pa_cons hbe (pa_cons (pe_lam (cl := cl) (params := q1) (body := b1) (scope := sc1) (lpos := l1) (qs := qs) TB hcode hP hq hd1 L1.has) (pa_cons (pe_lam (cl := cl) (params := q2) (body := b2) (scope := sc2) (lpos := l2) (qs := qs) TB hcode hP hq hd2 L2.has) pa_nil s4) s3) s2) s1
  refine PySem.W.callWith_K (h₀ := X.base) I.ok.mod.kin hk (thn (PAA.run pos pins s σ H (fun vs H' => ∃ v1 v2 f1 f2 c1 c2 pm1 pm2 ct1 ct2 d1 d2 C2 F2, vs = [v1, v2, .ref f1, .ref f2] ∧ Same F F2 ∧ RS X.K cl ρ C2 F2 σ H' ∧ Rep X.K cl.f F2 v1 d1 ∧ Rep X.K cl.f F2 v2 d2 ∧
      F2 f1 = some (lamO f1 (lamObj X q1 b1 sc1 pm1 c1 ct1)) ∧ F2 c1 = some (LamX.CodeO c1 (lamQ X)) ∧ F2 f2 = some (lamO f2 (lamObj X q2 b2 sc2 pm2 c2 ct2)) ∧ F2 c2 = some (LamX.CodeO c2 (lamQ X)) ∧
      td (dActP 2 f1 (lamTl ps1.length ls1.length ys1 te1 ρ)) (dActP 3 f2 (lamTl ps2.length ls2.length ys2 te2 ρ)) (endsD Qd) (startD Ng [d1, d2, .ref f1, .ref f2]) C2) I ?_) fun us s' ⟨vs, H1, I1, r1, v1, v2, f1, f2, c1, c2, pm1, pm2, ct1, ct2, d1, d2, C2, F2, ev, sF, R2, rv1, rv2, hf1, hc1, hf2, hc2, q⟩ => ⟨I1.kIn, ?_⟩) s1 hpl
  · refine ⟨ρ, C, F, _, R, h, fun v1 d1 C1 H1 F1 sF1 R1 rv1 q1 => ?_⟩
    refine ⟨ρ, C1, F1, _, R.next sF1 R1, q1, fun v2 d2 C2 H2 F2 sF2 R2 rv2 ⟨hP2, q2⟩ => ?_⟩
    refine ⟨ρ, C2, F2, R.next (sF1.trans sF2) R2, hP2, fun f1 c1 pm1 ct1 F3 H3 sF3 R3 hf1 hc1 => ?_⟩
    refine ⟨ρ, C2, F3, R3, hP2, fun f2 c2 pm2 ct2 F4 H4 sF4 R4 hf2 hc2 => ?_⟩
    exact ⟨v1, v2, f1, f2, c1, c2, pm1, pm2, ct1, ct2, d1, d2, C2, F4, rfl, ((sF1.trans sF2).trans sF3).trans sF4, R4, rv1.mono ((sF2.trans sF3).trans sF4), rv2.mono (sF3.trans sF4), sF4 _ _ hf1, sF4 _ _ hc1, hf2, hc2, q2 f1 f2⟩
  subst ev
  obtain ⟨oc, od, kV, doc, pm0, an, cdv, ct, osl, e, lk, hcd0⟩ := Fu.ex
  subst e
  have hl : us.length = psg.length := by rw [hlp, ← Paired.length r1]; rfl
  have run : codeAny (model X.prog X.w) X.A (.call (.ref g) ⟨us, []⟩) (CR CX0 X.stack X.prog X.w H1 s' Q E0) s' := by
    refine LamX.run_ofS (N := Ng) (ps := psg) (us := us) (vs := [v1, v2, .ref f1, .ref f2]) lk hcd0 Sg hr.r I1.env0 (by
      have b := hb s' us I1.kIn (by rw [List.append_nil]; exact hl)
      rwa [List.append_nil] at b) r1 (by rw [hlp]; rfl) fun hr' => ?_
    have hrg : Room (k + 1) (X.A.deeper (envOfC x (defScope stg) s'.heap.objs.size g cdv)) := ⟨hr', hr.gd⟩
    have B := hG cdv s' H1 F2 f1 f2 (lamTl ps1.length ls1.length ys1 te1 ρ) (lamTl ps2.length ls2.length ys2 te2 ρ) hrg
      (fun e es t p1 p2 hpa hln hse hpl' => de_actP I1 R2 (Same.refl F2) L1 hf1 hc1 (fun us hus => hb1 _ _ _ _ _ us hus) hrg (fun A outer s H F3 hr3 => hbody1 A outer s H f1 c1 F3 hr3) hN1 hv1 hda1 hca1 hpa hln hse hpl')
      (fun e es t p1 p2 hpa hln hse hpl' => de_actP I1 R2 (Same.refl F2) L2 hf2 hc2 (fun us hus => hb2 _ _ _ _ _ us hus) hrg (fun A outer s H F3 hr3 => hbody2 A outer s H f2 c2 F3 hr3) hN2 hv2 hda2 hca2 hpa hln hse hpl')
      (plusH s'.heap X.base fun b => ∃ y, X.env.cells.lookup y = some b) (fun _ _ _ _ J => plus_inv I1 hfn J)
      (fun s3 H3 sc3 ce fp hvs e es t p1 p2 hpa hln hse hpl' => de_actPY I1 R2 (Same.refl F2) L1 hf1 hc1 (fun us hus => hb1 _ _ _ _ _ us hus) hrg (fun A outer s H F3 hr3 => hbody1 A outer s H f1 c1 F3 hr3) hN1 hvs (plus_size I1) (plus_base I1) (plus_cell I1) hda1 hca1 hpa hln hse hpl')
      (fun s3 H3 sc3 ce fp hvs e es t p1 p2 hpa hln hse hpl' => de_actPY I1 R2 (Same.refl F2) L2 hf2 hc2 (fun us hus => hb2 _ _ _ _ _ us hus) hrg (fun A outer s H F3 hr3 => hbody2 A outer s H f2 c2 F3 hr3) hN2 hvs (plus_size I1) (plus_base I1) (plus_cell I1) hda2 hca2 hpa hln hse hpl')
    refine ⟨_, B.nox, startD Ng [d1, d2, .ref f1, .ref f2], C2, F2, _, RS.startB (cl := ⟨cl.f, F2⟩) Ng R2.rc (.cons rv1 (.cons rv2 (.cons (.ref f1) (.cons (.ref f2) .nil)))) (Same.refl F2), q, ?_⟩
    refine ⟨fun ρ C1 F3 σ H2 s1 R3 ⟨C3, sc, q⟩ => kq .non .non C3 H2 F3 (sF.trans s1) (R3.rc.drop sc) .non q, fun _ _ _ _ _ _ _ z => z.elim, fun _ _ _ _ _ _ _ z => z.elim, fun v d C1 F3 H2 s1 R3 r3 ⟨d', C3, gh, q⟩ => ?_⟩
    obtain ⟨F4, s4, R4, r4⟩ := gh.ok R3 r3
    exact kq v d' C3 H2 F4 (sF.trans (s1.trans s4)) R4 r4 q
  refine wpAny_call (codeAny_mono run fun r s2 hq => ?_)
  cases r with
  | error e => exact (show False from hq).elim
  | ok fl =>
    cases fl with
    | ret u => exact I1.after hq
    | next => exact False.elim hq
    | brk => exact False.elim hq
    | cont => exact False.elim hq
end
end G
set_option maxHeartbeats 2000000
namespace G
open PySem PySem.Spec PyProof.Rows L2
/-! ### dicts over texts and over tuples, told alike -/
def valA {α : Type} [DecidableEq α] (kvs : List (α × D)) (a : α) : Option D := (kvs.find? fun q => decide (q.1 = a)).map (·.2)
theorem valA_cons {α : Type} [DecidableEq α] {q : α × D} {r : List (α × D)} {a : α} : valA (q :: r) a = if q.1 = a then some q.2 else valA r a := by
  unfold valA
  rw [List.find?_cons]
  by_cases h : q.1 = a <;> simp [h]
theorem valA_none {α : Type} [DecidableEq α] {a : α} : ∀ {kvs : List (α × D)}, valA kvs a = none ↔ a ∉ kvs.map (·.1)
  | [] => by simp [valA]
  | q :: r => by
    rw [valA_cons, List.map_cons, List.mem_cons]
    by_cases h : q.1 = a
    · simp [h]
    · rw [if_neg h, valA_none]
      simp [Ne.symm h]
theorem valA_app {α : Type} [DecidableEq α] {a b : α} {v : D} : ∀ {kvs : List (α × D)}, valA (kvs ++ [(a, v)]) b = (valA kvs b).or (if a = b then some v else none)
  | [] => by rw [List.nil_append, valA_cons]; rfl
  | q :: r => by
    rw [List.cons_append, valA_cons, valA_cons, valA_app]
    by_cases h : q.1 = b <;> simp [h]
abbrev isDK (text : Bool) (C : Cl) (x : D) : Prop := cond text (∃ kvs, dicOf C x = some kvs) (∃ p kvs, x = .ref p ∧ C p = some (.dN p kvs))
abbrev setDK (text : Bool) (x y z : D) (C : Cl) (Q : DQ) : Prop := cond text (∃ a kvs k, x = .ref a ∧ C a = some (.dic kvs) ∧ keyD y = some k ∧ kvs.length < sizeLine ∧ (∀ v, valD kvs k = some v → Q v C) ∧ (valD kvs k = none → Q z (updC C a (.dic (putKD kvs k z)))))
  (∃ p kvs k, x = .ref p ∧ C p = some (.dN p kvs) ∧ keyTN y k ∧ kvs.length < sizeLine ∧ (∀ v, valN kvs k = some v → Q v C) ∧ (valN kvs k = none → Q z (updC C p (.dN p (putN kvs k y z)))))
abbrev putDK (text : Bool) (x y v : D) (C : Cl) (K : Cl → Prop) : Prop := cond text (∃ a kvs k, x = .ref a ∧ C a = some (.dic kvs) ∧ keyD y = some k ∧ kvs.length < sizeLine ∧ K (updC C a (.dic (putKD kvs k v)))) (∃ p kvs k, x = .ref p ∧ C p = some (.dN p kvs) ∧ keyTN y k ∧ kvs.length < sizeLine ∧ K (updC C p (.dN p (putN kvs k y v))))
abbrev oneDK (text : Bool) (p : Addr) (x y : D) (C : Cl) (Q : DQ) : Prop := cond text (C p = some (.dic []) ∧ ∃ k, keyD x = some k ∧ Q (.ref p) (updC C p (.dic [(k, y)]))) (C p = some (.dN p []) ∧ ∃ k, keyTN x k ∧ Q (.ref p) (updC C p (.dN p [(x, y)])))
/-- what is asked of such a dict -/
structure KD (α : Type) [DecidableEq α] where
  text : Bool
  enc : α → D
  cell : Addr → List (α × D) → Cell
  nil : ∀ p, cell p [] = cond text (.dic []) (.dN p [])
  one : ∀ {C : Cl} {Q : DQ} {p : Addr} {a : α} {y : D}, C p = some (cell p []) → Q (.ref p) (updC C p (cell p [(a, y)])) → oneDK text p (enc a) y C Q
  isD : ∀ {C : Cl} {p : Addr} {kvs : List (α × D)}, C p = some (cell p kvs) → isDK text C (.ref p)
  set : ∀ {C : Cl} {Q : DQ} {p : Addr} {kvs : List (α × D)} {a : α} {z : D}, C p = some (cell p kvs) → kvs.length < sizeLine → (∀ v, valA kvs a = some v → Q v C) → (valA kvs a = none → Q z (updC C p (cell p (kvs ++ [(a, z)])))) → setDK text (.ref p) (enc a) z C Q
  len : ∀ {C : Cl} {Q : DQ} {p : Addr} {kvs : List (α × D)}, C p = some (cell p kvs) → kvs.length ≤ sizeLine → Q (.int (kvs.length : Nat)) C → cond text rLenK rLenN [.ref p] C Q
  list : ∀ {C : Cl} {Q : DQ} {p : Addr} {kvs : List (α × D)}, C p = some (cell p kvs) → kvs.length ≤ sizeLine → Q (.lst (kvs.map fun q => enc q.1)) C → cond text rListK rListN [.ref p] C Q
  notin : ∀ {C : Cl} {Q : DQ} {p : Addr} {kvs : List (α × D)} {a : α}, C p = some (cell p kvs) → Q (.bl (!(valA kvs a).isSome)) C → cond text rNotInK rNotInN (enc a) (.ref p) C Q
  get : ∀ {C : Cl} {Q : DQ} {p : Addr} {kvs : List (α × D)} {a : α} {v : D}, C p = some (cell p kvs) → valA kvs a = some v → Q v C → cond text rGetK rGetN (.ref p) (enc a) C Q
  put : ∀ {C : Cl} {N : Cl → Prop} {p : Addr} {kvs : List (α × D)} {a : α} {v : D}, C p = some (cell p kvs) → kvs.length < sizeLine → valA kvs a = none → N (updC C p (cell p (kvs ++ [(a, v)]))) → putDK text (.ref p) (enc a) v C N
section
variable {α : Type} [DecidableEq α] (K : KD α) {to tk tx tv t u : DE} {tA : DA} {ρ : DEnv} {C : Cl} {Q : DQ}
theorem va_new (h : ∀ p, C p = none → Q (.ref p) (updC C p (K.cell p []))) : dOrE dNewK dNewN ρ C Q := by
  cases e : K.text with
  | true => exact .inl fun p hp => by have := h p hp; rw [K.nil, e] at this; exact this
  | false => exact .inr fun p hp => by have := h p hp; rw [K.nil, e] at this; exact this
theorem va_d1 (h : ∀ p, C p = none → t ρ (updC C p (K.cell p [])) fun x C1 => u ρ C1 fun y C2 => oneDK K.text p x y C2 Q) : dOrE (dD1K t u) (dD1N t u) ρ C Q := by
  cases e : K.text with
  | true => exact .inl fun p hp => by have := h p hp; simp only [K.nil, e, cond_true, oneDK] at this; exact this
  | false => exact .inr fun p hp => by have := h p hp; simp only [K.nil, e, cond_false, oneDK] at this; exact this
theorem va_setd (h : to ρ C fun x C1 => isDK K.text C1 x ∧ tk ρ C1 fun y C2 => tx ρ C2 fun z C3 => setDK K.text x y z C3 Q) : dOrE (dSetdK to tk tx) (dSetdN to tk tx) ρ C Q := by
  cases e : K.text with
  | true => simp only [e, cond_true, isDK, setDK] at h; exact .inl h
  | false => simp only [e, cond_false, isDK, setDK] at h; exact .inr h
theorem va_put {D : DEnds} (h : tv ρ C fun v C1 => to ρ C1 fun x C2 => tk ρ C2 fun y C3 => putDK K.text x y v C3 (D.nx ρ)) : dOrS (dPutK to tk tv) (dPutN to tk tv) D ρ C := by
  cases e : K.text with
  | true => simp only [e, cond_true, putDK] at h; exact .inl h
  | false => simp only [e, cond_false, putDK] at h; exact .inr h
theorem va_len (h : tA ρ C fun ds C1 => cond K.text rLenK rLenN ds C1 Q) : dOrE (dCB rLenK tA) (dCB rLenN tA) ρ C Q := by
  cases e : K.text with
  | true => simp only [e, cond_true] at h; exact .inl h
  | false => simp only [e, cond_false] at h; exact .inr h
theorem va_list (h : tA ρ C fun ds C1 => cond K.text rListK rListN ds C1 Q) : dOrE (dCB rListK tA) (dCB rListN tA) ρ C Q := by
  cases e : K.text with
  | true => simp only [e, cond_true] at h; exact .inl h
  | false => simp only [e, cond_false] at h; exact .inr h
theorem va_notin (h : tk ρ C fun y C1 => to ρ C1 fun x C2 => cond K.text rNotInK rNotInN y x C2 Q) : dOrE (dOp rNotInK tk to) (dOp rNotInN tk to) ρ C Q := by
  cases e : K.text with
  | true => simp only [e, cond_true] at h; exact .inl h
  | false => simp only [e, cond_false] at h; exact .inr h
theorem va_get (h : to ρ C fun x C1 => tk ρ C1 fun y C2 => cond K.text rGetK rGetN x y C2 Q) : dOrE (dOp rGetK to tk) (dOp rGetN to tk) ρ C Q := by
  cases e : K.text with
  | true => simp only [e, cond_true] at h; exact .inl h
  | false => simp only [e, cond_false] at h; exact .inr h
end
/-! texts -/
def keyL (l : List Nat) : Key := .inr ⟨l.toArray⟩
theorem keyL_inj {a b : List Nat} (h : keyL a = keyL b) : a = b := by
  have := Sum.inr.inj h
  simpa using this
theorem valD_L {a : List Nat} : ∀ {kvs : List (List Nat × D)}, valD (kvs.map fun q => (keyL q.1, q.2)) (keyL a) = valA kvs a
  | [] => rfl
  | q :: r => by
    rw [List.map_cons, valD_cons, valA_cons, valD_L]
    by_cases h : q.1 = a
    · rw [if_pos h, if_pos (by rw [h])]
    · rw [if_neg h, if_neg fun z => h (keyL_inj z)]
theorem putKD_none {κ : Type} [DecidableEq κ] {kvs : List (κ × D)} {k : κ} {v : D} (h : valD kvs k = none) : putKD kvs k v = kvs ++ [(k, v)] := by
  unfold putKD
  rw [valD_any, h]
  rfl
theorem keyT_L (l : List Nat) : keyT (keyL l) = .str l := by
  unfold keyL keyT
  simp
abbrev listTx (kvs : List (List Nat × D)) : List (Key × D) := kvs.map fun q => (keyL q.1, q.2)
def cellTx (kvs : List (List Nat × D)) : Cell := .dic (listTx kvs)
def KDL : KD (List Nat) where
  text := true
  enc := .str
  cell := fun _ => cellTx
  nil := fun _ => rfl
  one := fun h q => ⟨h, _, rfl, q⟩
  isD := fun h => ⟨_, dicOf_ref h⟩
  set := fun h hl h1 h2 => ⟨_, _, _, rfl, h, rfl, by rw [List.length_map]; exact hl, fun v e => h1 v (by rw [← valD_L]; exact e), fun e => by
    have e' := e
    rw [putKD_none e']
    have := h2 (by rw [← valD_L]; exact e)
    unfold cellTx listTx at this
    rw [List.map_append] at this
    exact this⟩
  len := fun {C Q p kvs} h hl q => ⟨_, _, rfl, h, by rw [List.length_map]; exact q⟩
  list := fun {C Q p kvs} h hl q => ⟨_, _, rfl, dicOf_ref h, by
    have e : (listTx kvs).map (fun p => keyT p.1) = kvs.map fun q => D.str q.1 := by
      rw [List.map_map]
      exact List.map_congr_left fun x _ => keyT_L _
    rw [e]
    exact q⟩
  notin := fun {C Q p kvs a} h q => ⟨listTx kvs, keyL a, dicOf_ref (kvs := listTx kvs) h, rfl, by rw [valD_L]; exact q⟩
  get := fun h hv q => ⟨_, _, _, dicOf_ref h, rfl, by exact (valD_L).trans hv, q⟩
  put := fun {C K p kvs a v} h hl hn q => ⟨p, listTx kvs, keyL a, rfl, h, rfl, by rw [List.length_map]; exact hl, by
    rw [putKD_none ((valD_L).trans hn)]
    unfold cellTx listTx at q
    rw [List.map_append] at q
    exact q⟩
/-! tuples of numbers, nested -/
/-- how such keys are told -/
structure KN (α : Type) [DecidableEq α] where
  enc : α → D
  key : α → NestedKey
  tup : ∀ a, ∃ xs, enc a = .tup xs
  nk : ∀ a, nk (enc a) = some (key a)
  dep : ∀ a, (key a).depth ≤ 8
  inj : ∀ a b, key a = key b → a = b
section
variable {α : Type} [DecidableEq α] (N : KN α)
def encKN (kvs : List (α × D)) : List (D × D) := kvs.map fun q => (N.enc q.1, q.2)
theorem valN_N {a : α} : ∀ {kvs : List (α × D)}, valN (encKN N kvs) (N.key a) = valA kvs a
  | [] => rfl
  | q :: r => by
    unfold encKN
    rw [List.map_cons]
    unfold valN
    rw [valA_cons, N.nk]
    by_cases h : q.1 = a
    · rw [if_pos (by rw [h]), if_pos h]
    · rw [if_neg fun z => h (N.inj _ _ (Option.some.inj z)), if_neg h]
      exact valN_N
theorem putN_N {a : α} {kvs : List (α × D)} {v : D} (h : valA kvs a = none) : putN (encKN N kvs) (N.key a) (N.enc a) v = encKN N (kvs ++ [(a, v)]) := by
  unfold putN
  rw [valN_N, h, if_neg (by simp)]
  unfold encKN
  rw [List.map_append]
  rfl
theorem keyTN_N (a : α) : keyTN (N.enc a) (N.key a) := ⟨N.tup a, N.nk a, N.dep a⟩
def KDN : KD α where
  text := false
  enc := N.enc
  cell := fun p kvs => .dN p (encKN N kvs)
  nil := fun _ => rfl
  one := fun h q => ⟨h, _, keyTN_N N _, q⟩
  isD := fun h => ⟨_, _, rfl, h⟩
  set := fun {C Q p kvs a z} h hl h1 h2 => ⟨p, encKN N kvs, N.key a, rfl, h, keyTN_N N a, by unfold encKN; rw [List.length_map]; exact hl, fun v e => h1 v (by rw [← valN_N N]; exact e), fun e => by
    have e' : valA kvs a = none := by rw [← valN_N N]; exact e
    rw [putN_N N e']
    exact h2 e'⟩
  len := fun {C Q p kvs} h hl q => ⟨p, encKN N kvs, rfl, h, by unfold encKN; rw [List.length_map]; exact hl, by unfold encKN; rw [List.length_map]; exact q⟩
  list := fun {C Q p kvs} h hl q => ⟨p, encKN N kvs, rfl, h, by unfold encKN; rw [List.length_map]; exact hl, by unfold encKN; rw [List.map_map]; exact q⟩
  notin := fun {C Q p kvs a} h q => ⟨p, encKN N kvs, N.key a, rfl, h, keyTN_N N a, by rw [valN_N N]; exact q⟩
  get := fun {C Q p kvs a v} h hv q => ⟨p, encKN N kvs, N.key a, v, rfl, h, keyTN_N N a, by rw [valN_N N]; exact hv, q⟩
  put := fun {C K p kvs a v} h hl hn q => ⟨p, encKN N kvs, N.key a, rfl, h, keyTN_N N a, by unfold encKN; rw [List.length_map]; exact hl, by rw [putN_N N hn]; exact q⟩
end
theorem nkL_ints : ∀ l : List Int, nkL (l.map D.int) = some (l.map NestedKey.num)
  | [] => by unfold nkL; rfl
  | i :: l => by
    rw [List.map_cons]
    unfold nkL
    rw [nkL_ints l]
    unfold nk
    rfl
theorem dep_nums : ∀ l : List Int, NestedKey.depthAll (l.map NestedKey.num) = 0
  | [] => by unfold NestedKey.depthAll; rfl
  | i :: l => by
    rw [List.map_cons]
    unfold NestedKey.depthAll
    rw [dep_nums l]
    unfold NestedKey.depth
    rfl
theorem nums_inj : ∀ {a b : List Int}, a.map NestedKey.num = b.map NestedKey.num → a = b
  | [], [], _ => rfl
  | [], _ :: _, h => by cases h
  | _ :: _, [], h => by cases h
  | x :: a, y :: b, h => by
    rw [List.map_cons, List.map_cons] at h
    injection h with h1 h2
    injection h1 with h1
    rw [h1, nums_inj h2]
/-- tuples of numbers -/
def KNI : KN (List Int) where
  enc := fun l => .tup (l.map D.int)
  key := fun l => .tup (l.map NestedKey.num)
  tup := fun _ => ⟨_, rfl⟩
  nk := fun l => by
    unfold nk
    rw [nkL_ints]
    rfl
  dep := fun l => by
    unfold NestedKey.depth
    rw [dep_nums]
    decide
  inj := fun a b h => nums_inj (by injection h)
/-- a number and a tuple of numbers -/
def KNP : KN (Int × List Int) where
  enc := fun q => .tup [.int q.1, .tup (q.2.map D.int)]
  key := fun q => .tup [.num q.1, .tup (q.2.map NestedKey.num)]
  tup := fun _ => ⟨_, rfl⟩
  nk := fun q => by
    unfold nk nkL nkL nkL
    unfold nk
    rw [nkL_ints]
    rfl
  dep := fun q => by
    unfold NestedKey.depth NestedKey.depthAll NestedKey.depthAll NestedKey.depthAll NestedKey.depth
    rw [dep_nums]
    decide
  inj := fun a b h => by
    injection h with h
    injection h with h1 h2
    injection h1 with h1
    injection h2 with h2 _
    injection h2 with h2
    exact Prod.ext h1 (nums_inj h2)
end G
set_option maxHeartbeats 4000000
namespace G
open PySem PySem.Spec PyProof.Rows L2
/-! ### the helpers of every law: the bag, its draws -/
def sp_l_take : DSp := fun ds C Q _ => ∃ b m n, ds = [.ref b, .int m] ∧ 0 < m ∧ m < 2 ^ 200 ∧ BagAt C b n ∧ n < 100000000000 ∧ ∀ i C', 0 ≤ i → i < m → Bagged C b C' (n + 1) → Q (.int i) C'
def td_l_take : DS :=
  (dSeq (dIfS (dTest (dOp rGtD (dOp rIx (dVar 0) (dC (.int 0))) (dC (.int 0)))) (dSeq (dAsg (dMod (dCB rInt (dCons (dOp rIx (dVar 0) (dC (.int 0))) dNil)) (dVar 1)) (dName 2))
    (dSeq (dAsg (dFdiv (dOp rIx (dVar 0) (dC (.int 0))) (dVar 1)) (dgSub (dVar 0) (dC (.int 0)) rSetL))
    (dRet (dVar 2)))) dNext)
    (dSeq (dAsg (dAdd (dOp rIx (dVar 0) (dC (.int 2))) (dC (.int 1))) (dgSub (dVar 0) (dC (.int 2)) rSetL))
    (dSeq (dAsg (dMod (dCB rInt (dCons (dPow (dAdd (dOp rIx (dVar 0) (dC (.int 1))) (dMul (dC (.int 1000003)) (dOp rIx (dVar 0) (dC (.int 2))))) (dC (.int 3))) dNil)) (dC (.int 2305843009213693921))) (dName 3))
    (dSeq (dAsg (dMod (dCB rInt (dCons (dPow (dAdd (dVar 3) (dMul (dC (.int 15485863)) (dOp rIx (dVar 0) (dC (.int 2))))) (dC (.int 2))) dNil)) (dC (.int 2305843009213693951))) (dName 3))
    (dRet (dMod (dCB rInt (dCons (dFdiv (dVar 3) (dC (.int 4096))) dNil)) (dVar 1)))))))
theorem len_l_take (ds : List D) (C : Cl) (Q : DQ) (E : DX) (h : sp_l_take ds C Q E) : ds.length = 2 := by obtain ⟨_, _, _, rfl, _⟩ := h; rfl
theorem seq_ref {C : Cl} {a : Addr} {ds : List D} (h : C a = some (.lst ds)) : seqOf C (.ref a) = some ds := cellL_of h
theorem divw {m : Int} (h0 : 0 < m) (h : m < 2 ^ 200) : CDivW 0 m := wide_div (b := 200) h0 (by omega) (by decide) (by decide)
theorem pure_l_take (ds : List D) (C : Cl) (Q : DQ) (E : DX) (h : sp_l_take ds C Q E) : td_l_take (endsD Q) (startD ["_law_bag_here", "_law_many", "_law_digit", "_law_mixed"] ds) C := by
  obtain ⟨b, m, n, rfl, m0, m1, ⟨x, y, z, hc, g⟩, hn, hq⟩ := h
  obtain ⟨x0, y0, y1, z0, z1⟩ := g
  refine ⟨_, rfl, _, rfl, .inr ⟨_, .int x, seq_ref hc, rfl, _, rfl, trivial, _, rfl, ite_d (fun h => ?_) (fun h => ?_)⟩⟩
  · refine ⟨_, rfl, _, rfl, .inr ⟨_, .int x, seq_ref hc, rfl, .inl ⟨_, rfl, _, rfl, _, _, rfl, rfl, m0, ?_⟩⟩⟩
    refine ⟨_, rfl, _, rfl, .inr ⟨_, .int x, seq_ref hc, rfl, _, rfl, _, _, rfl, rfl, divw m0 m1, ?_⟩⟩
    refine ⟨_, rfl, _, 0, 0, _, rfl, rfl, hc, rfl, ?_⟩
    refine ⟨_, rfl, _, _, .same, hq _ _ (Int.emod_nonneg _ (by omega)) (Int.emod_lt_of_pos _ m0) ⟨x / m, y, z, rfl, Int.ediv_nonneg x0 (by omega), y0, y1, z0, by omega⟩⟩
  · refine ⟨_, rfl, _, rfl, .inr ⟨_, .int z, seq_ref hc, rfl, _, rfl, trivial, ?_⟩⟩
    refine ⟨_, rfl, _, 2, 2, _, rfl, rfl, hc, rfl, ?_⟩
    have hc' : (updC C b (bagC x y (z + 1))) b = some (bagC x y (z + 1)) := updC_same
    have zz : z ≤ 100000000000 := by omega
    refine ⟨_, rfl, _, rfl, .inr ⟨_, .int y, seq_ref hc', rfl, _, rfl, _, rfl, .inr ⟨_, .int (z + 1), seq_ref hc', rfl, ?_⟩⟩⟩
    refine .inl ⟨_, _, rfl, rfl, .inl ⟨by decide, by decide⟩, _, rfl, trivial, _, _, rfl, rfl, ⟨by decide, by decide, ?_⟩, .inl ⟨_, rfl, _, _, rfl, rfl, (show (0 : Int) < 2305843009213693921 by decide), ?_⟩⟩
    · (try dsimp only); omega
    have b0 := Int.emod_nonneg ((y + 1000003 * (z + 1)) ^ (3 : Int).toNat) (show (2305843009213693921 : Int) ≠ 0 by decide)
    have b1 := Int.emod_lt_of_pos ((y + 1000003 * (z + 1)) ^ (3 : Int).toNat) (show (0 : Int) < 2305843009213693921 by decide)
    dsimp only
    generalize (y + 1000003 * (z + 1)) ^ (3 : Int).toNat % 2305843009213693921 = v at *
    refine ⟨_, rfl, _, rfl, _, rfl, .inr ⟨_, .int (z + 1), seq_ref hc', rfl, ?_⟩⟩
    refine .inl ⟨_, _, rfl, rfl, .inl ⟨by decide, by decide⟩, _, rfl, trivial, _, _, rfl, rfl, ⟨by decide, by decide, ?_⟩, .inl ⟨_, rfl, _, _, rfl, rfl, (show (0 : Int) < 2305843009213693951 by decide), ?_⟩⟩
    · (try dsimp only); omega
    dsimp only
    generalize (v + 15485863 * (z + 1)) ^ (2 : Int).toNat % 2305843009213693951 = u at *
    refine ⟨_, rfl, _, _, rfl, rfl, wide_div (b := 13) (by decide) (by decide) (by decide) (by decide), .inl ⟨_, rfl, _, rfl, _, _, rfl, rfl, m0, ?_⟩⟩
    exact ⟨_, _, .same, hq _ _ (Int.emod_nonneg _ (by omega)) (Int.emod_lt_of_pos _ m0) ⟨x, y, z + 1, rfl, x0, y0, y1, by omega, by omega⟩⟩

/-- one of some things: the things stand as a sequence, or are a text's signs -/
def itemsOf (C : Cl) : D → Option (List D)
  | .str l => some (signs l)
  | d => seqOf C d
def sp_l_of : DSp := fun ds C Q _ => ∃ b s xs n, ds = [.ref b, s] ∧ itemsOf C s = some xs ∧ s ≠ .ref b ∧ xs ≠ [] ∧ xs.length ≤ 1000000 ∧ BagAt C b n ∧ n < 100000000000 ∧ ∀ d C', d ∈ xs → Bagged C b C' (n + 1) → Q d C'
def td_l_of : DS :=
  (dRet (dOp rIx (dVar 1) (dCall sp_l_take [] (dCons (dVar 0) (dCons (dCB rLen (dCons (dVar 1) dNil)) dNil)))))
theorem len_l_of (ds : List D) (C : Cl) (Q : DQ) (E : DX) (h : sp_l_of ds C Q E) : ds.length = 2 := by obtain ⟨_, _, _, _, rfl, _⟩ := h; rfl
theorem atI_mem {α : Type} {l : List α} {i : Int} (h0 : 0 ≤ i) (h1 : i < l.length) : ∃ d, atI l i = some d ∧ d ∈ l := by
  have hl : i.toNat < l.length := by omega
  refine ⟨l[i.toNat], ?_, List.getElem_mem hl⟩
  unfold atI ixN
  rw [if_pos h0, if_pos h1]
  exact List.getElem?_eq_getElem hl
theorem seqOf_ne {C C' : Cl} {s : D} {b : Addr} {xs : List D} (h : ∀ a, a ≠ b → C' a = C a) (e : s ≠ .ref b) (hs : seqOf C s = some xs) : seqOf C' s = some xs := by
  cases s with
  | ref a =>
    have : a ≠ b := fun z => e (by rw [z])
    show cellL C' a = some xs
    have hs : cellL C a = some xs := hs
    unfold cellL at hs ⊢
    rw [h a this]
    exact hs
  | _ => exact hs
theorem pure_l_of (ds : List D) (C : Cl) (Q : DQ) (E : DX) (h : sp_l_of ds C Q E) : td_l_of (endsD Q) (startD ["_law_bag_here", "_law_some"] ds) C := by
  obtain ⟨b, s, xs, n, rfl, hx, hs, hne, hl, hb, hn, hq⟩ := h
  have l0 : 0 < xs.length := List.length_pos_iff.mpr hne
  have hL : lenF C s = some xs.length ∧ srcOk s := by
    cases s with
    | str l =>
      cases hx
      rw [signs_length'] at *
      exact ⟨rfl, Nat.le_trans (by omega) (by rw [sizeLine_eq]; decide : 1000000 ≤ sizeLine)⟩
    | ref a =>
      have e : cellL C a = some xs := hx
      exact ⟨by show (cellL C a).map List.length = _; rw [e]; rfl, trivial⟩
    | tup ds => cases hx; exact ⟨rfl, trivial⟩
    | lst ds => cases hx; exact ⟨rfl, trivial⟩
    | rol ds => cases hx; exact ⟨rfl, trivial⟩
    | _ => cases hx
  refine ⟨_, rfl, _, rfl, _, rfl, _, _, rfl, hL.1, hL.2, b, (xs.length : Int), n, rfl, by omega, by omega, hb, hn, fun i C' i0 i1 hB => ?_⟩
  obtain ⟨d, hd, hm⟩ := atI_mem (l := xs) i0 i1
  refine ⟨i, rfl, ?_⟩
  have fin := hq d C' hm hB
  cases s with
  | str l =>
    cases hx
    refine .inl ⟨l, ?_⟩
    have i1' : i < l.length := by rw [signs_length'] at i1; exact i1
    obtain ⟨c, hc, hmc⟩ := atI_mem (l := l) i0 i1'
    have e : d = .str [c] := by
      unfold atI at hd hc
      rw [signs_length'] at hd
      unfold ixN at hd hc
      rw [if_pos i0, if_pos i1'] at hd hc
      have hd : (signs l)[i.toNat]? = some d := hd
      have hc : l[i.toNat]? = some c := hc
      unfold signs at hd
      rw [List.getElem?_map, hc] at hd
      exact (Option.some.inj hd).symm
    subst e
    exact ⟨c, rfl, Nat.le_trans (by rw [signs_length'] at hl; omega) (by rw [sizeLine_eq]; decide : 1000000 ≤ sizeLine), hc, _, _, .same, fin⟩
  | ref a => exact .inr ⟨xs, d, seqOf_ne (fun a e => hB.ne e) hs hx, hd, _, _, .same, fin⟩
  | tup ds => exact .inr ⟨xs, d, hx, hd, _, _, .same, fin⟩
  | lst ds => exact .inr ⟨xs, d, hx, hd, _, _, .same, fin⟩
  | rol ds => exact .inr ⟨xs, d, hx, hd, _, _, .same, fin⟩
  | _ => cases hx
where
  signs_length' {l : List Nat} : (signs l).length = l.length := by unfold signs; rw [List.length_map]
end G
namespace G
open PySem PySem.Spec PyProof.Rows L2
local macro_rules | `(tactic| walk_at "d") => `(tactic| dsimp only [dSeq, dAsg, dVar, dC, dOp, dCB, dBM, dBM0, dCons, dNil, dTest, dIf, dAnd, dOr, dNot, dAndV, dOrV, dNotV, dRet, dIfS, dNext, dName, dTup, dLst, dLstC, dCall, dSl, dPart, dNoPart, dUn, dgTup, dgCons, dgNil, dgSub, dDrop, dPar])

/-! ### texts of digits -/
def digits10 : List Nat := [48, 49, 50, 51, 52, 53, 54, 55, 56, 57]
def isDig (c : Nat) : Bool := decide (c ∈ digits10)
def digs (l : List Nat) : Bool := decide (l ≠ []) && l.all isDig
theorem signs_get {l : List Nat} {i : Nat} {x : D} (h : (signs l)[i]? = some x) : ∃ c, l[i]? = some c ∧ x = .str [c] := by
  unfold signs at h
  rw [List.getElem?_map] at h
  cases e : l[i]? with
  | none => rw [e] at h; cases h
  | some c => rw [e] at h; exact ⟨c, rfl, (Option.some.inj h).symm⟩
theorem any_map (p : Nat → Bool) (l : List Nat) : (l.map p).any id = l.any p := by rw [List.any_map]; rfl

end G
namespace G
open PySem PySem.Spec PyProof.Rows L2

/-! ### slices with plain bounds -/
theorem cutL_to {α : Type} (l : List α) {v : Int} (h : 0 ≤ v) : cutL l none (some v) = l.take v.toNat := by
  unfold cutL
  show (l.drop 0).take ((if v < 0 then (v + (l.length : Int)).toNat else min v.toNat l.length) - 0) = _
  rw [if_neg (by omega), List.drop_zero, Nat.sub_zero]
  by_cases c : v.toNat ≤ l.length
  · rw [Nat.min_eq_left c]
  · rw [Nat.min_eq_right (by omega), List.take_length, List.take_of_length_le (by omega)]
theorem cutL_from {α : Type} (l : List α) {v : Int} (h : 0 ≤ v) : cutL l (some v) none = l.drop v.toNat := by
  unfold cutL
  show (l.drop (if v < 0 then (v + (l.length : Int)).toNat else min v.toNat l.length)).take (l.length - (if v < 0 then (v + (l.length : Int)).toNat else min v.toNat l.length)) = _
  rw [if_neg (by omega), ← List.length_drop, List.take_length]
  by_cases c : v.toNat ≤ l.length
  · rw [Nat.min_eq_left c]
  · rw [Nat.min_eq_right (by omega), List.drop_length, List.drop_of_length_le (by omega)]
theorem cutL_length {α : Type} (l : List α) (lo hi : Option Int) : (cutL l lo hi).length ≤ l.length := by
  unfold cutL
  rw [List.length_take, List.length_drop]
  omega

/-! ### a text at its first point -/
theorem parts_none {l : List Nat} (h : 46 ∉ l) : parts3 l [46] = (l, [], []) := by
  unfold parts3
  rw [TL.par_none1 h]
theorem parts_dot {x y : List Nat} (h : 46 ∉ x) : parts3 (x ++ 46 :: y) [46] = (x, [46], y) := by
  unfold parts3
  rw [show x ++ 46 :: y = x ++ ([46] ++ y) from rfl, TL.par_part1 (S := []) h]
  rfl
/-! ### a number text's parts -/
def sgnOf (l : List Nat) : List Nat := if l.take 1 = [43] ∨ l.take 1 = [45] then l.take 1 else []
abbrev NumParts := Option (List Nat × List Nat × Option (List Nat))
def splitN (l : List Nat) : NumParts :=
  let p := parts3 (l.drop (sgnOf l).length) [46]
  if digs p.1 = true then
    if p.2.1 = [] then some (sgnOf l, p.1, none) else if digs p.2.2 = true then some (sgnOf l, p.1, some p.2.2) else none
  else none
def optS : Option (List Nat) → D
  | none => .non
  | some l => .str l
/-- a number text put together -/
def tailN : Option (List Nat) → List Nat
  | none => []
  | some p => 46 :: p
theorem dig_dot {l : List Nat} (h : digs l = true) : 46 ∉ l := by
  intro hm
  unfold digs at h
  rw [Bool.and_eq_true] at h
  have := List.all_eq_true.mp h.2 46 hm
  revert this
  decide
theorem dig_ne {l : List Nat} (h : digs l = true) : l ≠ [] := by
  unfold digs at h
  rw [Bool.and_eq_true] at h
  exact of_decide_eq_true h.1
theorem dig_head {l : List Nat} (h : digs l = true) : ∃ c r, l = c :: r ∧ isDig c = true := by
  cases l with
  | nil => exact absurd rfl (dig_ne h)
  | cons c r =>
    unfold digs at h
    rw [Bool.and_eq_true, List.all_cons, Bool.and_eq_true] at h
    exact ⟨c, r, rfl, h.2.1⟩
theorem splitN_of {s w : List Nat} {o : Option (List Nat)} (hs : s = [] ∨ s = [43] ∨ s = [45]) (hw : digs w = true) (ho : ∀ p, o = some p → digs p = true) : splitN (s ++ w ++ tailN o) = some (s, w, o) := by
  obtain ⟨c, r, rfl, hc⟩ := dig_head hw
  have c43 : c ≠ 43 := by rintro rfl; revert hc; decide
  have c45 : c ≠ 45 := by rintro rfl; revert hc; decide
  have e1 : sgnOf (s ++ (c :: r) ++ tailN o) = s := by
    rcases hs with rfl | rfl | rfl
    · unfold sgnOf
      rw [if_neg]
      rintro (h | h)
      · exact c43 (by simpa using h)
      · exact c45 (by simpa using h)
    · rfl
    · rfl
  have e2 : (s ++ (c :: r) ++ tailN o).drop s.length = (c :: r) ++ tailN o := by
    rw [List.append_assoc, List.drop_left]
  unfold splitN
  rw [e1]
  dsimp only
  rw [e2]
  cases o with
  | none =>
    have e3 : parts3 ((c :: r) ++ tailN none) [46] = (c :: r, [], []) := by
      rw [show (c :: r) ++ tailN none = c :: r from List.append_nil _]
      exact parts_none (dig_dot hw)
    rw [e3]
    dsimp only
    rw [if_pos hw, if_pos rfl]
  | some p =>
    have e3 : parts3 ((c :: r) ++ tailN (some p)) [46] = (c :: r, [46], p) := parts_dot (dig_dot hw)
    rw [e3]
    dsimp only
    rw [if_pos hw, if_neg (by simp), if_pos (ho p rfl)]
/-! ### the law's own way to the parts -/
/-! ### the shortest text of a number -/
def isZ (c : Nat) : Bool := ([48] : List Nat).contains c
def wholeN (w : List Nat) : List Nat := if w.dropWhile isZ ≠ [] then w.dropWhile isZ else [48]
def shortN (s w p : List Nat) : List Nat :=
  let places := rdrop isZ p
  let number := if places ≠ [] then wholeN w ++ [46] ++ places else wholeN w
  if s = [45] ∧ number ≠ [48] then 45 :: number else number
def plainN (l : List Nat) : Option (List Nat) := (splitN l).map fun x => shortN x.1 x.2.1 (x.2.2.getD [])
end G
set_option maxHeartbeats 4000000
namespace G
open PySem PySem.Spec PyProof.Rows L2

/-! ### split_number -/
/-! ### shortest -/
/-! ### plain_form -/
end G
set_option maxHeartbeats 4000000
namespace G
open PySem PySem.Spec PyProof.Rows L2
/-! ### a new bag -/
def sp_l_bag : DSp := fun ds C Q _ => ∃ (ns : List Int) (k : Nat), ds = [.rol (ns.map D.int), .int k] ∧ k ≤ 1000 ∧ ∀ b C', C b = none → Bagged C b C' 0 → Q (.ref b) C'
def td_l_bag : DS :=
  (dSeq (dAsg (dIf (dTest (dOp rLtD (dVar 1) (dCB rLen (dCons (dVar 0) dNil)))) (dOp rIx (dVar 0) (dVar 1)) (dC (.int 0))) (dName 2))
    (dSeq (dAsg (dIf (dTest (dOp rGeD (dCB rAbs (dCons (dVar 2) dNil)) (dPow (dC (.int 10)) (dC (.int 18))))) (dCB rAbs (dCons (dVar 2) dNil)) (dC (.int 0))) (dName 3))
    (dRet (dLstC (dCons (dVar 3) (dCons (dAdd (dAdd (dMul (dMod (dCB rInt (dCons (dVar 2) dNil)) (dC (.int 2305843009213693951))) (dC (.int 5))) (dMul (dC (.int 6571)) (dVar 1))) (dC (.int 3083))) (dCons (dC (.int 0)) dNil)))))))
theorem len_l_bag (ds : List D) (C : Cl) (Q : DQ) (E : DX) (h : sp_l_bag ds C Q E) : ds.length = 2 := by obtain ⟨_, _, rfl, _⟩ := h; rfl
theorem pure_l_bag (ds : List D) (C : Cl) (Q : DQ) (E : DX) (h : sp_l_bag ds C Q E) : td_l_bag (endsD Q) (startD ["_law_script", "_law_at", "_law_cell", "_law_row"] ds) C := by
  obtain ⟨ns, k, rfl, hk, hq⟩ := h
  have go : ∀ c : Int, (dSeq (dAsg (dIf (dTest (dOp rGeD (dCB rAbs (dCons (dVar 2) dNil)) (dPow (dC (.int 10)) (dC (.int 18))))) (dCB rAbs (dCons (dVar 2) dNil)) (dC (.int 0))) (dName 3))
    (dRet (dLstC (dCons (dVar 3) (dCons (dAdd (dAdd (dMul (dMod (dCB rInt (dCons (dVar 2) dNil)) (dC (.int 2305843009213693951))) (dC (.int 5))) (dMul (dC (.int 6571)) (dVar 1))) (dC (.int 3083))) (dCons (dC (.int 0)) dNil)))))) (endsD Q) [some (.rol (ns.map D.int)), some (.int k), some (.int c), none] C := by
    intro c
    have fin : ∀ r : Int, 0 ≤ r → dRet (dLstC (dCons (dVar 3) (dCons (dAdd (dAdd (dMul (dMod (dCB rInt (dCons (dVar 2) dNil)) (dC (.int 2305843009213693951))) (dC (.int 5))) (dMul (dC (.int 6571)) (dVar 1))) (dC (.int 3083))) (dCons (dC (.int 0)) dNil)))) (endsD Q) [some (.rol (ns.map D.int)), some (.int k), some (.int c), some (.int r)] C := by
      intro r r0
      have b0 := Int.emod_nonneg c (show (2305843009213693951 : Int) ≠ 0 by decide)
      have b1 := Int.emod_lt_of_pos c (show (0 : Int) < 2305843009213693951 by decide)
      refine ⟨_, rfl, _, rfl, .inl ⟨_, rfl, _, _, rfl, rfl, (show (0 : Int) < 2305843009213693951 by decide), .inl ⟨_, _, rfl, rfl, ?_, _, rfl, .inl ⟨_, _, rfl, rfl, ?_, _, rfl, trivial, _, rfl, trivial, szl (by simp), fun p hp => ?_⟩⟩⟩⟩
      · exact .inr ⟨by decide, by decide⟩
      · exact .inl ⟨by decide, by omega⟩
      refine ⟨_, _, .same, hq _ _ hp ⟨r, _, 0, rfl, r0, ?_, ?_, by omega, by omega⟩⟩
      · show 0 ≤ c % 2305843009213693951 * 5 + 6571 * (k : Int) + 3083; omega
      · show c % 2305843009213693951 * 5 + 6571 * (k : Int) + 3083 ≤ _; omega
    refine ⟨_, rfl, c, rfl, _, _, rfl, rfl, ⟨by decide, by decide, by decide⟩, _, rfl, trivial, _, rfl, ite_d (fun h => ?_) (fun h => ?_)⟩
    · refine ⟨_, rfl, _, rfl, fin _ ?_⟩
      split <;> omega
    · exact fin 0 (by omega)
  refine ⟨_, rfl, _, rfl, _, _, rfl, rfl, trivial, _, rfl, trivial, _, rfl, ite_d (fun h => ?_) (fun h => ?_)⟩
  · have hl : k < ns.length := by
      have : (ns.map D.int).length = ns.length := List.length_map ..
      omega
    refine ⟨_, rfl, _, rfl, _, rfl, .inr ⟨_, .int ns[k], rfl, ?_, go _⟩⟩
    unfold atI ixN
    rw [if_pos (by omega), List.length_map, if_pos (by omega)]
    show (ns.map D.int)[(k : Int).toNat]? = _
    rw [List.getElem?_map, Int.toNat_natCast, List.getElem?_eq_getElem hl]
    rfl
  · exact go 0

/-! ### drawn digits -/
def sp_l_digits : DSp := fun ds C Q _ => ∃ b lo hi n, ds = [.ref b, .int (lo : Nat), .int (hi : Nat)] ∧ lo ≤ hi ∧ hi ≤ 1000 ∧ BagAt C b n ∧ n < 10000000000 ∧ ∀ l C', l.all isDig = true → lo ≤ l.length → l.length ≤ hi → Bagged C b C' (n + 2000) → Q (.str l) C'
def td_l_digits : DS :=
  (dSeq (dAsg (dC (.str [])) (dName 3))
    (dSeq (dFor (diRng1 (dCons (dAdd (dVar 1) (dCall sp_l_take [] (dCons (dVar 0) (dCons (dAdd (dSub (dVar 2) (dVar 1)) (dC (.int 1))) dNil)))) dNil)) (dName 4)
    (dAsg (dAdd (dVar 3) (dCall sp_l_of [] (dCons (dVar 0) (dCons (dC (.str [48, 48, 48, 49, 50, 51, 52, 53, 54, 55, 56, 57])) dNil)))) (dName 3)))
    (dRet (dVar 3))))
theorem len_l_digits (ds : List D) (C : Cl) (Q : DQ) (E : DX) (h : sp_l_digits ds C Q E) : ds.length = 3 := by obtain ⟨_, _, _, _, rfl, _⟩ := h; rfl
theorem pure_l_digits (ds : List D) (C : Cl) (Q : DQ) (E : DX) (h : sp_l_digits ds C Q E) : td_l_digits (endsD Q) (startD ["_law_bag_here", "_law_least", "_law_most", "_law_found", "_law_turn"] ds) C := by
  obtain ⟨b, lo, hi, n, rfl, h1, h2, hb, hn, hq⟩ := h
  refine ⟨_, rfl, _, rfl, _, rfl, _, rfl, _, rfl, trivial, _, rfl, trivial, b, (hi : Int) - lo + 1, n, rfl, by omega, by omega, hb, by omega, fun i C1 i0 i1 hB => ?_⟩
  refine ⟨_, rfl, trivial, _, rfl, ⟨by omega, by omega⟩, fun k ρ C2 => ∃ l x, ρ = [some (.ref b), some (.int lo), some (.int hi), some (.str l), x] ∧ l.all isDig = true ∧ l.length = k ∧ Bagged C b C2 (n + 1 + k), ⟨[], none, rfl, rfl, rfl, hB⟩, ?_, ?_⟩
  · rintro k d ρ C2 hx ⟨l, x, rfl, hd, hl, hB2⟩
    obtain ⟨hk, rfl⟩ := ranged_get hx
    refine ⟨_, rfl, _, rfl, b, _, signs [48, 48, 48, 49, 50, 51, 52, 53, 54, 55, 56, 57], n + 1 + k, rfl, rfl, nofun, by decide, by decide, hB2.at, by omega, fun d C3 hm hB3 => ?_⟩
    unfold signs at hm
    obtain ⟨c, hc, rfl⟩ := List.mem_map.mp hm
    refine ⟨_, rfl, szl ?_, l ++ [c], _, rfl, ?_, ?_, ?_⟩
    · show (l ++ [c]).length ≤ _
      rw [List.length_append, List.length_singleton]; omega
    · rw [List.all_append, hd, List.all_cons, List.all_nil, Bool.and_true, Bool.true_and]
      revert hc
      simp only [List.mem_cons, List.not_mem_nil, or_false]
      rintro (rfl | rfl | rfl | rfl | rfl | rfl | rfl | rfl | rfl | rfl | rfl | rfl) <;> decide
    · rw [List.length_append, hl, List.length_singleton]
    · have := hB2.trans hB3
      exact this.mono (by omega)
  · rintro ρ C2 ⟨l, x, rfl, hd, hl, hB2⟩
    rw [ranged_length] at hl hB2
    exact ⟨_, rfl, _, _, .same, hq _ _ hd (by omega) (by omega) (hB2.mono (by omega))⟩

/-! ### a drawn number text -/
def sp_l_number : DSp := fun ds C Q _ => ∃ b m n, ds = [.ref b, .int (m : Nat)] ∧ 1 ≤ m ∧ m ≤ 1000 ∧ BagAt C b n ∧ n < 1000000000 ∧
  ∀ s w o C', (s = [] ∨ s = [45] ∨ s = [43]) → digs w = true → w.length ≤ m → (∀ p, o = some p → digs p = true ∧ p.length ≤ m) → Bagged C b C' (n + 10000) → Q (.str (s ++ w ++ tailN o)) C'
def td_l_number : DS :=
  (dSeq (dAsg (dCall sp_l_of [] (dCons (dVar 0) (dCons (dLst (dCons (dC (.str [])) (dCons (dC (.str [])) (dCons (dC (.str [])) (dCons (dC (.str [45])) (dCons (dC (.str [43])) dNil)))))) dNil))) (dName 2))
    (dSeq (dAsg (dCall sp_l_digits [] (dCons (dVar 0) (dCons (dC (.int 1)) (dCons (dVar 1) dNil)))) (dName 3))
    (dSeq (dIfS (dTest (dOp rEqD (dCall sp_l_take [] (dCons (dVar 0) (dCons (dC (.int 2)) dNil))) (dC (.int 0)))) (dRet (dAdd (dVar 2) (dVar 3))) dNext)
    (dRet (dAdd (dAdd (dAdd (dVar 2) (dVar 3)) (dC (.str [46]))) (dCall sp_l_digits [] (dCons (dVar 0) (dCons (dC (.int 1)) (dCons (dVar 1) dNil)))))))))
theorem len_l_number (ds : List D) (C : Cl) (Q : DQ) (E : DX) (h : sp_l_number ds C Q E) : ds.length = 2 := by obtain ⟨_, _, _, rfl, _⟩ := h; rfl
theorem digs_of {l : List Nat} (h : l.all isDig = true) (h1 : 1 ≤ l.length) : digs l = true := by
  unfold digs
  rw [h, Bool.and_true]
  cases l with
  | nil => exact absurd h1 (by simp)
  | cons => rfl
theorem pure_l_number (ds : List D) (C : Cl) (Q : DQ) (E : DX) (h : sp_l_number ds C Q E) : td_l_number (endsD Q) (startD ["_law_bag_here", "_law_most", "_law_sign", "_law_before"] ds) C := by
  obtain ⟨b, m, n, rfl, h1, h2, hb, hn, hq⟩ := h
  refine ⟨_, rfl, szl (by simp), b, _, _, n, rfl, rfl, nofun, by simp, by simp, hb, by omega, fun d C1 hm B1 => ?_⟩
  have : ∃ s : List Nat, d = .str s ∧ (s = [] ∨ s = [45] ∨ s = [43]) := by
    simp only [List.mem_cons, List.not_mem_nil, or_false] at hm
    rcases hm with rfl | rfl | rfl | rfl | rfl <;> exact ⟨_, rfl, by simp⟩
  obtain ⟨s, rfl, hs⟩ := this
  have hsl : s.length ≤ 1 := by rcases hs with rfl | rfl | rfl <;> simp
  refine ⟨_, rfl, _, rfl, b, 1, m, n + 1, rfl, by omega, by omega, B1.at, by omega, fun w C2 w1 w2 w3 B2 => ?_⟩
  refine ⟨_, rfl, b, 2, n + 2001, rfl, by omega, by omega, B2.at, by omega, fun i C3 i0 i1 B3 => ?_⟩
  have B3' := (B1.trans B2).trans B3
  refine .inl ⟨_, rfl, _, rfl, ite_d (fun hi => ?_) (fun hi => ?_)⟩
  · refine ⟨_, rfl, _, rfl, _, rfl, szl (by rw [List.length_append]; omega), _, _, .same, ?_⟩
    have := hq s w none C3 hs (digs_of w1 w2) w3 nofun (B3'.mono (by omega))
    rw [tailN, List.append_nil] at this
    exact this
  · refine ⟨_, rfl, _, rfl, _, rfl, szl (by rw [List.length_append]; omega), _, rfl, szl (by simp only [List.length_append, List.length_cons, List.length_nil]; omega), _, rfl, _, rfl, b, 1, m, n + 2002, rfl, by omega, by omega, B3.at, by omega, fun p C4 p1 p2 p3 B4 => ?_⟩
    refine ⟨_, rfl, szl (by simp only [List.length_append, List.length_cons, List.length_nil]; omega), _, _, .same, ?_⟩
    have := hq s w (some p) C4 hs (digs_of w1 w2) w3 (fun q e => by cases e; exact ⟨digs_of p1 p2, p3⟩) ((B3'.trans B4).mono (by omega))
    rw [tailN] at this
    rw [List.append_assoc (s ++ w)]
    exact this
end G
set_option maxHeartbeats 4000000
namespace G
open PySem PySem.Spec PyProof.Rows L2
/-! ### the law's own number split -/
local macro_rules | `(tactic| walk_at "d") => `(tactic| dsimp only [dSeq, dAsg, dVar, dC, dOp, dCB, dBM, dBM0, dCons, dNil, dTest, dIf, dAnd, dOr, dNot, dAndV, dOrV, dNotV, dRet, dIfS, dNext, dName, dTup, dLst, dLstC, dCall, dSl, dPart, dNoPart, dUn, dgTup, dgCons, dgNil, dgSub, dDrop, dPar])
theorem txts_length (ps : List (List Nat)) : (txts ps).length = ps.length := List.length_map ..
theorem join_le : ∀ (ls : List (List Nat)), (TL.joinL [] ls).length ≤ (ls.map List.length).sum
  | [] => Nat.le_refl _
  | [x] => by simp [TL.joinL]
  | x :: y :: r => by
    have := join_le (y :: r)
    show (x ++ ([] ++ TL.joinL [] (y :: r))).length ≤ _
    rw [List.nil_append, List.length_append, List.map_cons, List.sum_cons]
    omega
end G
set_option maxHeartbeats 4000000
namespace G
open PySem PySem.Spec PyProof.Rows L2
/-! ### the law's own shortest -/
theorem shortN_eq (s w p : List Nat) : shortN s w p = if rdrop isZ p = [] ∧ wholeN w = [48] then [48] else (if s = [45] then [45] else []) ++ wholeN w ++ (if rdrop isZ p ≠ [] then [46] else []) ++ rdrop isZ p := by
  unfold shortN
  dsimp only
  generalize rdrop isZ p = q
  generalize wholeN w = v
  by_cases h1 : q = []
  · subst h1
    rw [if_neg (show ¬ ([] : List Nat) ≠ [] from fun h => h rfl), if_neg (show ¬ ([] : List Nat) ≠ [] from fun h => h rfl)]
    by_cases h2 : v = [48]
    · subst h2
      rw [if_neg (fun h => h.2 rfl), if_pos ⟨rfl, rfl⟩]
    · rw [if_neg (fun h : _ ∧ v = [48] => h2 h.2)]
      by_cases h3 : s = [45]
      · rw [if_pos ⟨h3, h2⟩, if_pos h3, List.append_nil, List.append_nil]; rfl
      · rw [if_neg (fun h => h3 h.1), if_neg h3, List.append_nil, List.append_nil]; rfl
  · rw [if_pos h1, if_pos h1, if_neg (fun h : q = [] ∧ _ => h1 h.1)]
    have hn : v ++ [46] ++ q ≠ [48] := by
      intro h
      have : (46 : Nat) ∈ ([48] : List Nat) := by rw [← h]; simp
      simp at this
    by_cases h3 : s = [45]
    · rw [if_pos ⟨h3, hn⟩, if_pos h3]; rfl
    · rw [if_neg (fun h => h3 h.1), if_neg h3]; rfl
/-! ### the law's own plain form -/
/-! ### plain forms -/
/-- a plain form: its sign, its digits ahead and behind -/
structure Canon (s w p : List Nat) : Prop where
  sg : s = [] ∨ s = [45]
  dw : digs w = true
  ww : wholeN w = w
  dp : p.all isDig = true
  pp : rdrop isZ p = p
  nz : ¬ (s = [45] ∧ w = [48] ∧ p = [])
def canT (s w p : List Nat) : List Nat := s ++ w ++ (if p ≠ [] then 46 :: p else [])
def ptail (p : List Nat) : Option (List Nat) := if p ≠ [] then some p else none
theorem canT_tail (s w p : List Nat) : canT s w p = s ++ w ++ tailN (ptail p) := by
  unfold canT ptail
  split <;> rfl
theorem Canon.short {s w p : List Nat} (h : Canon s w p) {z : List Nat} (hz : rdrop isZ z = p) : shortN s w z = canT s w p := by
  rw [shortN_eq, hz, h.ww]
  unfold canT
  by_cases c : p = [] ∧ w = [48]
  · rw [if_pos c]
    have : s = [] := by
      rcases h.sg with e | e
      · exact e
      · exact absurd ⟨e, c.2, c.1⟩ h.nz
    rw [this, c.1, c.2]; rfl
  · rw [if_neg c, List.append_assoc]
    congr 1
    · congr 1
      rcases h.sg with e | e <;> rw [e] <;> rfl
    · split
      · rfl
      · rename_i h1
        rw [Classical.not_not.mp h1]; rfl
theorem Canon.split {s w p : List Nat} (h : Canon s w p) : splitN (canT s w p) = some (s, w, ptail p) := by
  rw [canT_tail]
  refine splitN_of ?_ h.dw ?_
  · rcases h.sg with e | e
    · exact .inl e
    · exact .inr (.inr e)
  · intro q hq
    unfold ptail at hq
    split at hq
    · rename_i hp
      cases hq
      unfold digs
      rw [h.dp, decide_eq_true hp]; rfl
    · cases hq
theorem ptail_get (p : List Nat) : (ptail p).getD [] = p := by
  unfold ptail
  split
  · rfl
  · rename_i h; exact (Classical.not_not.mp h).symm
theorem Canon.plain {s w p : List Nat} (h : Canon s w p) : plainN (canT s w p) = some (canT s w p) := by
  unfold plainN
  rw [h.split]
  show some (shortN s w ((ptail p).getD [])) = _
  rw [ptail_get, h.short h.pp]
theorem Canon.len {s w p : List Nat} (h : Canon s w p) : (canT s w p).length ≤ w.length + p.length + 2 := by
  unfold canT
  rcases h.sg with e | e <;> rw [e] <;> split <;> simp <;> omega
end G
set_option maxHeartbeats 4000000
namespace G
open PySem PySem.Spec PyProof.Rows L2
/-! ### padding -/
structure NumT (s w q : List Nat) : Prop where
  sg : s = [] ∨ s = [45]
  dw : digs w = true
  dq : q.all isDig = true
theorem Canon.num {s w p : List Nat} (h : Canon s w p) : NumT s w p := ⟨h.sg, h.dw, h.dp⟩
section
variable {s w q : List Nat} (h : NumT s w q)
include h
theorem NumT.head : 46 ∉ s ++ w := by
  rw [List.mem_append]
  rintro (z | z)
  · rcases h.sg with e | e <;> rw [e] at z <;> simp at z
  · exact dig_dot h.dw z
theorem NumT.behind : 46 ∉ q := by
  intro z
  have := List.all_eq_true.mp h.dq 46 z
  revert this
  decide
theorem NumT.parts : parts3 (canT s w q) [46] = (s ++ w, if q ≠ [] then [46] else [], q) := by
  unfold canT
  by_cases e : q = []
  · subst e
    show parts3 (s ++ w ++ []) [46] = (s ++ w, [], [])
    rw [List.append_nil, parts_none h.head]
  · rw [if_pos e, if_pos e, parts_dot h.head]
theorem NumT.split : splitN (canT s w q) = some (s, w, ptail q) := by
  rw [canT_tail]
  refine splitN_of ?_ h.dw ?_
  · rcases h.sg with e | e
    · exact .inl e
    · exact .inr (.inr e)
  · intro z hq
    unfold ptail at hq
    split at hq
    · rename_i hp
      cases hq
      unfold digs
      rw [h.dq, decide_eq_true hp]; rfl
    · cases hq
theorem NumT.plain : plainN (canT s w q) = some (shortN s w q) := by
  unfold plainN
  rw [h.split]
  show some (shortN s w ((ptail q).getD [])) = _
  rw [ptail_get]
theorem NumT.len : (canT s w q).length ≤ w.length + q.length + 2 := by
  unfold canT
  rcases h.sg with e | e <;> rw [e] <;> split <;> simp <;> omega
end
end G
set_option maxHeartbeats 4000000
namespace G
open PySem PySem.Spec PyProof.Rows L2
/-! ### a law: its script, its answer -/
theorem rep_nums {K : PySem.W.Frag} {cl : Nm} {F : Hp} : ∀ ns : List Int, RepL K cl F (ns.map V.int) (ns.map D.int)
  | [] => .nil
  | n :: ns => .cons (.int n) (rep_nums ns)
/-- range(max(1, min(m, len(script)))) -/
theorem law_rng {ns : List Int} {m : Int} {ρ : DEnv} {C : Cl} {R : List D → Cl → Prop} (h0 : ρ[0]? = some (some (.rol (ns.map D.int)))) (hl : ns.length ≤ 63) (h : ∀ k, k ≤ 63 → R (ranged 0 k) C) :
    diRng1 (dCons (dCB rMax2 (dCons (dC (.int 1)) (dCons (dCB rMin2 (dCons (dC (.int m)) (dCons (dCB rLen (dCons (dVar 0) dNil)) dNil))) dNil))) dNil) ρ C R := by
  refine ⟨_, h0, _, _, rfl, rfl, trivial, _, _, rfl, _, _, rfl, _, rfl, ?_, ?_⟩
  · have : (ns.map D.int).length = ns.length := List.length_map ..
    repeat' split
    all_goals omega
  · refine h _ ?_
    have : (ns.map D.int).length = ns.length := List.length_map ..
    repeat' split
    all_goals omega
end G
namespace G
open PySem PySem.Spec PyProof.Rows L2
/-! ### the classes' addresses -/
def nm1 (c : String) (C : Addr) (r : Nm) : Nm := fun x => if x = c then C else r x
end G
namespace G
open PySem PySem.Spec PyProof.Rows L2
/-! ### a law some of whose defs make lambdas: the tables stand at the start -/
def sp_lawT (qs : List String) : DSp := fun ds C Q _ => ∃ ns : List Int, ds = [.rol (ns.map D.int)] ∧ ns.length ≤ 63 ∧ (∀ q ∈ qs, ∃ P, C P = some (.tbl q)) ∧ ∀ C', Q (.bl true) C'
theorem len_lawT {qs : List String} (ds : List D) (C : Cl) (Q : DQ) (E : DX) (h : sp_lawT qs ds C Q E) : ds.length = 1 := by obtain ⟨_, rfl, _⟩ := h; rfl
theorem law_inT {K : PySem.W.Frag} {cl : Nm} {H : Hp} {a : Addr} {E : XK} (qs : List String) (ns : List Int) (hl : ns.length ≤ 63) (hH : ∀ q ∈ qs, H (cl q) = some (.tbl #[])) (hinj : ∀ q ∈ qs, ∀ r ∈ qs, cl q = cl r → q = r) (hS : SqL K H a (ns.map V.int)) :
    lowSp K cl (sp_lawT qs) [.ref a] H (fun v _ => v = .bl true) E := by
  classical
  let C : Cl := fun b => if h : ∃ q ∈ qs, cl q = b then some (.tbl h.choose) else none
  have hC : ∀ {b c}, C b = some c → ∃ q ∈ qs, cl q = b ∧ c = .tbl q := fun {b c} e => by
    simp only [C] at e
    split at e
    · rename_i h
      cases e
      exact ⟨_, h.choose_spec.1, h.choose_spec.2, rfl⟩
    · cases e
  have CH : ∀ q ∈ qs, C (cl q) = some (.tbl q) := fun q hq => by
    simp only [C]
    have h : ∃ r ∈ qs, cl r = cl q := ⟨q, hq, rfl⟩
    rw [dif_pos h]
    exact congrArg (fun z => some (Cell.tbl z)) (hinj _ h.choose_spec.1 q hq h.choose_spec.2)
  let F : Hp := fun b => match H b with
    | some (.tbl _) => none
    | o => o
  have hF : ∀ {b o}, F b = some o → H b = some o := fun {b o} e => by
    simp only [F] at e
    split at e
    · cases e
    · exact e
  have sF : SqL K F a (ns.map V.int) := by
    rcases hS with (h | ⟨o, h⟩) | h
    · exact .inl (.inl (by simp only [F, h]))
    · exact .inl (.inr ⟨o, by simp only [F, h]⟩)
    · exact .inr h
  refine ⟨[.rol (ns.map D.int)], C, F, fun d _ => d = .bl true, fun _ _ _ => False, ⟨fun b o e => hF e, fun b c e => ?_, fun b q e => ?_⟩, .cons (.rol sF (rep_nums ns)) .nil, ⟨ns, rfl, hl, fun q hq => ⟨_, CH q hq⟩, fun _ => rfl⟩,
    fun v d C H F' s R r e => by subst e; cases r; rfl, fun _ _ _ _ _ _ _ _ _ _ z => z.elim⟩
  · obtain ⟨q, hq, rfl, rfl⟩ := hC e
    have e1 := hH q hq
    refine ⟨by simp only [F, e1], _, e1, .tbl trivial fun pos cv z => ?_⟩
    have z' : codeAmong pos [] = some cv := z
    simp [codeAmong] at z'
  · obtain ⟨r, hr, e1, e2⟩ := hC e
    cases e2
    exact e1.symm
end G
namespace G
open PySem PySem.Spec PyProof.Rows L2
theorem txts_lenG (ls : List (List Nat)) : (txts ls).length = ls.length := by unfold txts; simp
/-! ### steps of a reading, one lemma a head (printed by g16.py) -/
section
variable {D' : DEnds} {n b c : DEnv → Cl → Prop} {r : DQ} {ρ : DEnv} {C : Cl} {Q : DQ} {t u : DS} {te ta tb tc : DE} {g : DG} {A B : Prop}
theorem v_ends {t : DS} (h : t ⟨fun _ C => ∃ C', SubC C' C ∧ Q .non C', fun d C => ∃ d' C', Gh d C d' C' ∧ Q d' C', fun _ _ => False, fun _ _ => False⟩ ρ C) : t (endsD Q) ρ C := h
theorem v_seq (h : t ⟨u ⟨n, r, b, c⟩, r, b, c⟩ ρ C) : dSeq t u ⟨n, r, b, c⟩ ρ C := h
theorem v_next (h : n ρ C) : dNext ⟨n, r, b, c⟩ ρ C := h
theorem v_asg (h : te ρ C fun x C1 => g x ρ C1 n) : dAsg te g ⟨n, r, b, c⟩ ρ C := h
theorem v_drop (h : te ρ C fun _ C1 => n ρ C1) : dDrop te ⟨n, r, b, c⟩ ρ C := h
theorem v_ret (h : te ρ C r) : dRet te ⟨n, r, b, c⟩ ρ C := h
theorem v_ifS {ct : DT} (h : ct ρ C fun k C1 => if k = true then t ⟨n, r, b, c⟩ ρ C1 else u ⟨n, r, b, c⟩ ρ C1) : dIfS ct t u ⟨n, r, b, c⟩ ρ C := h
theorem v_isvar {i : Nat} (h : dVar i ρ C Q) : dVar i ρ C Q := h
theorem v_isname {i : Nat} {d : D} {K : DEnv → Cl → Prop} (h : dName i d ρ C K) : dName i d ρ C K := h
theorem v_const {d : D} (h : Q d C) : dC d ρ C Q := h
theorem v_op {rd : RD2} (h : ta ρ C fun x C1 => tb ρ C1 fun y C2 => rd x y C2 Q) : dOp rd ta tb ρ C Q := h
theorem v_un {rd : RD1} (h : ta ρ C fun x C1 => rd x C1 Q) : dUn rd ta ρ C Q := h
theorem v_test {K : Bool → Cl → Prop} (h : te ρ C fun x C1 => ∃ k, x = .bl k ∧ K k C1) : dTest te ρ C K := h
theorem v_bl {x : Bool} {K : Bool → Prop} (h : K x) : ∃ k, D.bl x = .bl k ∧ K k := ⟨x, rfl, h⟩
theorem v_dnot {tA : DT} {K : Bool → Cl → Prop} (h : tA ρ C fun k C1 => K (!k) C1) : dNot tA ρ C K := h
theorem v_dand {tA tB : DT} {K : Bool → Cl → Prop} (h : tA ρ C fun k C1 => if k = true then tB ρ C1 K else K false C1) : dAnd tA tB ρ C K := h
theorem v_dor {tA tB : DT} {K : Bool → Cl → Prop} (h : tA ρ C fun k C1 => if k = true then K true C1 else tB ρ C1 K) : dOr tA tB ρ C K := h
theorem v_andV (h : ta ρ C fun x C1 => ∃ k, x = .bl k ∧ if k = true then tb ρ C1 Q else Q (.bl false) C1) : dAndV ta tb ρ C Q := h
theorem v_notV (h : ta ρ C fun x C1 => ∃ k, x = .bl k ∧ Q (.bl (!k)) C1) : dNotV ta ρ C Q := h
theorem v_ifE {tA : DT} (h : tA ρ C fun k C1 => if k = true then ta ρ C1 Q else tb ρ C1 Q) : dIf tA ta tb ρ C Q := h
theorem v_tt (h : A) : if true = true then A else B := h
theorem v_ff (h : B) : if false = true then A else B := h
theorem v_ntt (h : B) : if (!true) = true then A else B := h
theorem v_nff (h : A) : if (!false) = true then A else B := h
theorem v_dt {p : Prop} [Decidable p] (hp : p) (h : A) : if decide p = true then A else B := by rw [decide_eq_true hp]; exact h
theorem v_df {p : Prop} [Decidable p] (hp : ¬ p) (h : B) : if decide p = true then A else B := by rw [decide_eq_false hp]; exact h
theorem v_ndt {p : Prop} [Decidable p] (hp : p) (h : B) : if (!decide p) = true then A else B := by rw [decide_eq_true hp]; exact h
theorem v_nil {K : List D → Cl → Prop} (h : K [] C) : dNil ρ C K := h
theorem v_cons {tr : DA} {K : List D → Cl → Prop} (h : ta ρ C fun x C1 => tr ρ C1 fun xs C2 => K (x :: xs) C2) : dCons ta tr ρ C K := h
theorem v_tup {tA : DA} (h : tA ρ C fun xs C1 => xs.length ≤ sizeLine ∧ Q (.tup xs) C1) : dTup tA ρ C Q := h
theorem v_lst {tA : DA} (h : tA ρ C fun xs C1 => xs.length ≤ sizeLine ∧ Q (.lst xs) C1) : dLst tA ρ C Q := h
theorem v_lstC {tA : DA} (h : tA ρ C fun xs C1 => xs.length ≤ sizeLine ∧ ∀ p, C1 p = none → Q (.ref p) (updC C1 p (.lst xs))) : dLstC tA ρ C Q := h
theorem v_cb {rd : RDC} {tA : DA} (h : tA ρ C fun ds C1 => rd ds C1 Q) : dCB rd tA ρ C Q := h
theorem v_bm {T : String} {rd : RDM} {tA : DA} (h : te ρ C fun x C1 => tyD T x C1 ∧ tA ρ C1 fun ds C2 => rd x ds C2 Q) : dBM T rd te tA ρ C Q := h
theorem v_tystr {l : List Nat} (h : A) : tyD "str" (.str l) C ∧ A := ⟨rfl, h⟩
theorem v_call0 {sp : DSp} {tA : DA} (h : tA ρ C fun xs C1 => sp xs C1 Q fun _ _ _ => False) : dCall sp [] tA ρ C Q := by
  show tA ρ C fun xs C1 => sp (xs ++ []) C1 Q fun _ _ _ => False
  simp only [List.append_nil]; exact h
theorem v_par (i j : Nat) {tA : DA} (h : tA ρ C fun ds C2 => ∃ v w, ds = [v, w] ∧ n ((ρ.set i (some v)).set j (some w)) C2) : dPar i j tA ⟨n, r, b, c⟩ ρ C := h
theorem v_par2 {i j : Nat} {v w : D} (h : n ((ρ.set i (some v)).set j (some w)) C) : ∃ v' w', [v, w] = [v', w'] ∧ n ((ρ.set i (some v')).set j (some w')) C := ⟨v, w, rfl, h⟩
theorem v_par3 (i j l : Nat) {tA : DA} (h : tA ρ C fun ds C2 => ∃ u v w, ds = [u, v, w] ∧ n (((ρ.set i (some u)).set j (some v)).set l (some w)) C2) : dPar3 i j l tA ⟨n, r, b, c⟩ ρ C := h
theorem v_par33 {i j l : Nat} {u v w : D} (h : n (((ρ.set i (some u)).set j (some v)).set l (some w)) C) : ∃ u' v' w', [u, v, w] = [u', v', w'] ∧ n (((ρ.set i (some u')).set j (some v')).set l (some w')) C := ⟨u, v, w, rfl, h⟩
theorem v_fld {cs : List String} {f : Str} (h : te ρ C fun d C1 => ∃ k fs v, k ∈ cs ∧ insOf C1 d = some (k, fs) ∧ fs.lookup f = some v ∧ Q v C1) : dFld cs te f ρ C Q := h
theorem v_meth {k : String} {m : Str} {sp : DSp2} {tA tk : DA} (h : te ρ C fun x C1 => ∃ fs, insOf C1 x = some (k, fs) ∧ fs.lookup m = none ∧ tA ρ C1 fun xs C2 => tk ρ C2 fun zs C3 => sp (x :: xs) zs C3 Q noX) : dMeth k m sp te tA tk ρ C Q := h
theorem v_cal {sp : DSp2} {tA tk : DA} (h : tA ρ C fun xs C2 => tk ρ C2 fun zs C3 => sp xs zs C3 Q noX) : dCal sp tA tk ρ C Q := h
theorem v_pos2 {sp : DSp} {dd ds : List D} {E : DX} (h : sp (ds ++ dd) C Q E) : pos2 sp dd ds [] C Q E := ⟨rfl, h⟩
/-- tuples of names -/
theorem v_gtup {k : Nat} {tG : DGs} {ds : List D} {K : DEnv → Cl → Prop} (hl : ds.length = k) (h : tG ds ρ C K) : dgTup k tG (.tup ds) ρ C K := ⟨ds, rfl, hl, h⟩
theorem v_gcons {tG : DG} {uG : DGs} {d : D} {ds : List D} {K : DEnv → Cl → Prop} (h : tG d ρ C fun ρ' C' => uG ds ρ' C' K) : dgCons tG uG (d :: ds) ρ C K := ⟨d, ds, rfl, h⟩
theorem v_gnil {K : DEnv → Cl → Prop} (h : K ρ C) : dgNil [] ρ C K := ⟨rfl, h⟩
theorem v_sameS {l : List Nat} (h : Q (.str l) C) : ∃ d' C', Gh (.str l) C d' C' ∧ Q d' C' := ⟨_, C, .same, h⟩
theorem v_sameB {x : Bool} (h : Q (.bl x) C) : ∃ d' C', Gh (.bl x) C d' C' ∧ Q d' C' := ⟨_, C, .same, h⟩
theorem v_sameI {x : Int} (h : Q (.int x) C) : ∃ d' C', Gh (.int x) C d' C' ∧ Q d' C' := ⟨_, C, .same, h⟩
theorem v_sameN (h : Q .non C) : ∃ d' C', Gh .non C d' C' ∧ Q d' C' := ⟨_, C, .same, h⟩
theorem v_sameT {ds : List D} (h : Q (.tup ds) C) : ∃ d' C', Gh (.tup ds) C d' C' ∧ Q d' C' := ⟨_, C, .same, h⟩
/-! operators on known things -/
theorem v_eqI {x y : Int} (h : Q (.bl (decide (x = y))) C) : rEqD (.int x) (.int y) C Q := .inl ⟨_, rfl, h⟩
theorem v_neB {x y : Bool} (h : Q (.bl (!decide (x = y))) C) : rNeD (.bl x) (.bl y) C Q := .inl ⟨_, rfl, h⟩
theorem v_lt {x y : Int} (h : Q (.bl (decide (x < y))) C) : rLtD (.int x) (.int y) C Q := ⟨_, rfl, trivial, h⟩
theorem v_gt {x y : Int} (h : Q (.bl (decide (y < x))) C) : rGtD (.int x) (.int y) C Q := ⟨_, rfl, trivial, h⟩
theorem v_ge {x y : Int} (h : Q (.bl (decide (y ≤ x))) C) : rGeD (.int x) (.int y) C Q := ⟨_, rfl, trivial, h⟩
theorem v_addS {x y : List Nat} (hl : (x ++ y).length ≤ sizeLine) (h : Q (.str (x ++ y)) C) : rOf addF (.str x) (.str y) C Q := ⟨_, rfl, hl, h⟩
theorem v_addL {x y : List D} (hl : (x ++ y).length ≤ sizeLine) (h : Q (.lst (x ++ y)) C) : rOf addF (.lst x) (.lst y) C Q := ⟨_, rfl, hl, h⟩
theorem v_isN {x : D} (h : Q (.bl (isNonD x)) C) : rIsN x .non C Q := ⟨rfl, h⟩
theorem v_notN {x : D} (h : Q (.bl (!isNonD x)) C) : rNotN x .non C Q := ⟨rfl, h⟩
theorem v_isNn (h : Q (.bl true) C) : rIsN .non .non C Q := ⟨rfl, h⟩
theorem v_notNn (h : Q (.bl false) C) : rNotN .non .non C Q := ⟨rfl, h⟩
theorem v_notNi {l : Int} (h : Q (.bl true) C) : rNotN (.int l) .non C Q := ⟨rfl, h⟩
theorem v_lenT {l : List D} (h : Q (.int (l.length : Nat)) C) : rLen [.tup l] C Q := ⟨_, _, rfl, rfl, trivial, h⟩
theorem v_lenL {l : List D} (h : Q (.int (l.length : Nat)) C) : rLen [.lst l] C Q := ⟨_, _, rfl, rfl, trivial, h⟩
theorem v_listL {l : List D} (h : Q (.lst l) C) : rList [.lst l] C Q := ⟨_, _, rfl, rfl, h⟩
theorem v_tupleL {l : List D} (h : Q (.tup l) C) : rTuple [.lst l] C Q := ⟨_, _, rfl, rfl, h⟩
theorem v_isiS {l : List Nat} (h : Q (.bl true) C) : rIsi "str" [.str l, .ty "str"] C Q := ⟨_, _, rfl, rfl, h⟩
theorem v_anyM {α : Type} {as : List α} {f : α → Bool} (h : Q (.bl (as.any f)) C) : rAnyL [.lst (as.map fun a => .bl (f a))] C Q := by
  refine ⟨_, as.map f, rfl, ?_, ?_⟩
  · show some _ = some _; unfold bls; rw [List.map_map]; rfl
  · rw [List.any_map]; exact h
theorem v_forL {te : DE} {R : List D → Cl → Prop} (h : te ρ C fun x C1 => ∃ xs, lstOf x = some xs ∧ R xs C1) : diList te ρ C R := h
theorem v_forT {te : DE} {R : List D → Cl → Prop} (h : te ρ C fun x C1 => ∃ xs, x = .tup xs ∧ R xs C1) : diTup te ρ C R := h
theorem v_forS {te : DE} {R : List D → Cl → Prop} (h : te ρ C fun x C1 => ∃ z, x = .str z ∧ R (signs z) C1) : diStr te ρ C R := h
theorem v_lstO {l : List D} {R : List D → Prop} (h : R l) : ∃ xs, lstOf (.lst l) = some xs ∧ R xs := ⟨l, rfl, h⟩
theorem v_tupO {l : List D} {R : List D → Prop} (h : R l) : ∃ xs, D.tup l = .tup xs ∧ R xs := ⟨l, rfl, h⟩
theorem v_nopart {K : Option Int → Cl → Prop} (h : K none C) : dNoPart ρ C K := h
theorem v_part {K : Option Int → Cl → Prop} (h : te ρ C fun x C1 => ∃ i, x = .int i ∧ K (some i) C1) : dPart te ρ C K := h
theorem v_slice {rd : RSl} {tl th : DO} (h : te ρ C fun x C1 => tl ρ C1 fun l C2 => th ρ C2 fun u C3 => rd x l u C3 Q) : dSl rd te tl th ρ C Q := h
theorem v_gsub {to ti : DE} {rd : RSet} {d : D} {K : DEnv → Cl → Prop} (h : to ρ C fun o C1 => ti ρ C1 fun i C2 => rd o i d C2 fun C3 => K ρ C3) : dgSub to ti rd d ρ C K := h
theorem v_rng1 {tA : DA} {R : List D → Cl → Prop} (h : tA ρ C fun ds C1 => ∃ j : Int, ds = [.int j] ∧ (-(2 ^ 62) ≤ j ∧ j < 2 ^ 62) ∧ R (ranged 0 j.toNat) C1) : diRng1 tA ρ C R := h
theorem v_rev {tA : DA} {R : List D → Cl → Prop} (h : tA ρ C fun ds C1 => ∃ x xs, ds = [x] ∧ lstOf x = some xs ∧ R xs.reverse C1) : diRev tA ρ C R := h
theorem v_enumS {tA : DA} {R : List D → Cl → Prop} (h : tA ρ C fun ds C1 => ∃ x xs, ds = [x] ∧ srcOf x = some xs ∧ R (numbered 0 xs) C1) : diEnumS tA ρ C R := h
theorem v_putK {to tk : DE} (h : te ρ C fun v C1 => to ρ C1 fun x C2 => tk ρ C2 fun y C3 => ∃ a kvs k, x = .ref a ∧ C3 a = some (.dic kvs) ∧ keyD y = some k ∧ kvs.length < sizeLine ∧ n ρ (updC C3 a (.dic (putKD kvs k v)))) : dPutK to tk te ⟨n, r, b, c⟩ ρ C := h
theorem v_make {k : String} {sp : DSp2} {tA tk : DA} (h : tA ρ C fun xs C2 => tk ρ C2 fun zs C3 => ∀ x, C3 x = none → sp (.ref x :: xs) zs (updC C3 x (.ins k [])) (fun v C4 => v = .non ∧ Q (.ref x) C4) noX) : dMake k sp tA tk ρ C Q := h
theorem v_fldSet {cs : List String} {to : DE} {f : Str} (h : te ρ C fun y C1 => to ρ C1 fun x C2 => ∃ a k fs, k ∈ cs ∧ x = .ref a ∧ C2 a = some (.ins k fs) ∧ fs.length < 1000 ∧ n ρ (updC C2 a (.ins k (putD f y fs)))) : dFldSet cs to te f ⟨n, r, b, c⟩ ρ C := h
theorem v_var0 {d : D} {ρ : DEnv} (h : Q d C) : dVar 0 (some d :: ρ) C Q := ⟨d, rfl, h⟩
theorem v_var1 {x0 : Option D} {d : D} {ρ : DEnv} (h : Q d C) : dVar 1 (x0 :: some d :: ρ) C Q := ⟨d, rfl, h⟩
theorem v_name1 {x0 y : Option D} {d : D} {ρ : DEnv} {K : DEnv → Cl → Prop} (h : K (x0 :: some d :: ρ) C) : dName 1 d (x0 :: y :: ρ) C K := h
theorem v_var2 {x0 x1 : Option D} {d : D} {ρ : DEnv} (h : Q d C) : dVar 2 (x0 :: x1 :: some d :: ρ) C Q := ⟨d, rfl, h⟩
theorem v_wname2 {x0 x1 y : Option D} {d : D} {ρ : DEnv} {K : DEnv → Cl → Prop} (h : K (x0 :: x1 :: some d :: ρ) C) : dName 2 d (wipeD (x0 :: x1 :: y :: ρ) [2]) C K := h
theorem v_name2 {x0 x1 y : Option D} {d : D} {ρ : DEnv} {K : DEnv → Cl → Prop} (h : K (x0 :: x1 :: some d :: ρ) C) : dName 2 d (x0 :: x1 :: y :: ρ) C K := h
theorem v_var3 {x0 x1 x2 : Option D} {d : D} {ρ : DEnv} (h : Q d C) : dVar 3 (x0 :: x1 :: x2 :: some d :: ρ) C Q := ⟨d, rfl, h⟩
theorem v_name3 {x0 x1 x2 y : Option D} {d : D} {ρ : DEnv} {K : DEnv → Cl → Prop} (h : K (x0 :: x1 :: x2 :: some d :: ρ) C) : dName 3 d (x0 :: x1 :: x2 :: y :: ρ) C K := h
theorem v_var4 {x0 x1 x2 x3 : Option D} {d : D} {ρ : DEnv} (h : Q d C) : dVar 4 (x0 :: x1 :: x2 :: x3 :: some d :: ρ) C Q := ⟨d, rfl, h⟩
theorem v_wname4 {x0 x1 x2 x3 y : Option D} {d : D} {ρ : DEnv} {K : DEnv → Cl → Prop} (h : K (x0 :: x1 :: x2 :: x3 :: some d :: ρ) C) : dName 4 d (wipeD (x0 :: x1 :: x2 :: x3 :: y :: ρ) [4]) C K := h
theorem v_name4 {x0 x1 x2 x3 y : Option D} {d : D} {ρ : DEnv} {K : DEnv → Cl → Prop} (h : K (x0 :: x1 :: x2 :: x3 :: some d :: ρ) C) : dName 4 d (x0 :: x1 :: x2 :: x3 :: y :: ρ) C K := h
theorem v_var5 {x0 x1 x2 x3 x4 : Option D} {d : D} {ρ : DEnv} (h : Q d C) : dVar 5 (x0 :: x1 :: x2 :: x3 :: x4 :: some d :: ρ) C Q := ⟨d, rfl, h⟩
theorem v_name5 {x0 x1 x2 x3 x4 y : Option D} {d : D} {ρ : DEnv} {K : DEnv → Cl → Prop} (h : K (x0 :: x1 :: x2 :: x3 :: x4 :: some d :: ρ) C) : dName 5 d (x0 :: x1 :: x2 :: x3 :: x4 :: y :: ρ) C K := h
theorem v_var6 {x0 x1 x2 x3 x4 x5 : Option D} {d : D} {ρ : DEnv} (h : Q d C) : dVar 6 (x0 :: x1 :: x2 :: x3 :: x4 :: x5 :: some d :: ρ) C Q := ⟨d, rfl, h⟩
theorem v_wname6 {x0 x1 x2 x3 x4 x5 y : Option D} {d : D} {ρ : DEnv} {K : DEnv → Cl → Prop} (h : K (x0 :: x1 :: x2 :: x3 :: x4 :: x5 :: some d :: ρ) C) : dName 6 d (wipeD (x0 :: x1 :: x2 :: x3 :: x4 :: x5 :: y :: ρ) [6]) C K := h
theorem v_name6 {x0 x1 x2 x3 x4 x5 y : Option D} {d : D} {ρ : DEnv} {K : DEnv → Cl → Prop} (h : K (x0 :: x1 :: x2 :: x3 :: x4 :: x5 :: some d :: ρ) C) : dName 6 d (x0 :: x1 :: x2 :: x3 :: x4 :: x5 :: y :: ρ) C K := h
theorem v_var7 {x0 x1 x2 x3 x4 x5 x6 : Option D} {d : D} {ρ : DEnv} (h : Q d C) : dVar 7 (x0 :: x1 :: x2 :: x3 :: x4 :: x5 :: x6 :: some d :: ρ) C Q := ⟨d, rfl, h⟩
theorem v_wname7 {x0 x1 x2 x3 x4 x5 x6 y : Option D} {d : D} {ρ : DEnv} {K : DEnv → Cl → Prop} (h : K (x0 :: x1 :: x2 :: x3 :: x4 :: x5 :: x6 :: some d :: ρ) C) : dName 7 d (wipeD (x0 :: x1 :: x2 :: x3 :: x4 :: x5 :: x6 :: y :: ρ) [7]) C K := h
theorem v_name7 {x0 x1 x2 x3 x4 x5 x6 y : Option D} {d : D} {ρ : DEnv} {K : DEnv → Cl → Prop} (h : K (x0 :: x1 :: x2 :: x3 :: x4 :: x5 :: x6 :: some d :: ρ) C) : dName 7 d (x0 :: x1 :: x2 :: x3 :: x4 :: x5 :: x6 :: y :: ρ) C K := h
theorem v_var8 {x0 x1 x2 x3 x4 x5 x6 x7 : Option D} {d : D} {ρ : DEnv} (h : Q d C) : dVar 8 (x0 :: x1 :: x2 :: x3 :: x4 :: x5 :: x6 :: x7 :: some d :: ρ) C Q := ⟨d, rfl, h⟩
theorem v_wname8 {x0 x1 x2 x3 x4 x5 x6 x7 y : Option D} {d : D} {ρ : DEnv} {K : DEnv → Cl → Prop} (h : K (x0 :: x1 :: x2 :: x3 :: x4 :: x5 :: x6 :: x7 :: some d :: ρ) C) : dName 8 d (wipeD (x0 :: x1 :: x2 :: x3 :: x4 :: x5 :: x6 :: x7 :: y :: ρ) [8]) C K := h
theorem v_name8 {x0 x1 x2 x3 x4 x5 x6 x7 y : Option D} {d : D} {ρ : DEnv} {K : DEnv → Cl → Prop} (h : K (x0 :: x1 :: x2 :: x3 :: x4 :: x5 :: x6 :: x7 :: some d :: ρ) C) : dName 8 d (x0 :: x1 :: x2 :: x3 :: x4 :: x5 :: x6 :: x7 :: y :: ρ) C K := h
theorem v_var9 {x0 x1 x2 x3 x4 x5 x6 x7 x8 : Option D} {d : D} {ρ : DEnv} (h : Q d C) : dVar 9 (x0 :: x1 :: x2 :: x3 :: x4 :: x5 :: x6 :: x7 :: x8 :: some d :: ρ) C Q := ⟨d, rfl, h⟩
theorem v_wname9 {x0 x1 x2 x3 x4 x5 x6 x7 x8 y : Option D} {d : D} {ρ : DEnv} {K : DEnv → Cl → Prop} (h : K (x0 :: x1 :: x2 :: x3 :: x4 :: x5 :: x6 :: x7 :: x8 :: some d :: ρ) C) : dName 9 d (wipeD (x0 :: x1 :: x2 :: x3 :: x4 :: x5 :: x6 :: x7 :: x8 :: y :: ρ) [9]) C K := h
theorem v_name9 {x0 x1 x2 x3 x4 x5 x6 x7 x8 y : Option D} {d : D} {ρ : DEnv} {K : DEnv → Cl → Prop} (h : K (x0 :: x1 :: x2 :: x3 :: x4 :: x5 :: x6 :: x7 :: x8 :: some d :: ρ) C) : dName 9 d (x0 :: x1 :: x2 :: x3 :: x4 :: x5 :: x6 :: x7 :: x8 :: y :: ρ) C K := h
theorem v_var10 {x0 x1 x2 x3 x4 x5 x6 x7 x8 x9 : Option D} {d : D} {ρ : DEnv} (h : Q d C) : dVar 10 (x0 :: x1 :: x2 :: x3 :: x4 :: x5 :: x6 :: x7 :: x8 :: x9 :: some d :: ρ) C Q := ⟨d, rfl, h⟩
theorem v_name10 {x0 x1 x2 x3 x4 x5 x6 x7 x8 x9 y : Option D} {d : D} {ρ : DEnv} {K : DEnv → Cl → Prop} (h : K (x0 :: x1 :: x2 :: x3 :: x4 :: x5 :: x6 :: x7 :: x8 :: x9 :: some d :: ρ) C) : dName 10 d (x0 :: x1 :: x2 :: x3 :: x4 :: x5 :: x6 :: x7 :: x8 :: x9 :: y :: ρ) C K := h
theorem v_var11 {x0 x1 x2 x3 x4 x5 x6 x7 x8 x9 x10 : Option D} {d : D} {ρ : DEnv} (h : Q d C) : dVar 11 (x0 :: x1 :: x2 :: x3 :: x4 :: x5 :: x6 :: x7 :: x8 :: x9 :: x10 :: some d :: ρ) C Q := ⟨d, rfl, h⟩
theorem v_wname11 {x0 x1 x2 x3 x4 x5 x6 x7 x8 x9 x10 y : Option D} {d : D} {ρ : DEnv} {K : DEnv → Cl → Prop} (h : K (x0 :: x1 :: x2 :: x3 :: x4 :: x5 :: x6 :: x7 :: x8 :: x9 :: x10 :: some d :: ρ) C) : dName 11 d (wipeD (x0 :: x1 :: x2 :: x3 :: x4 :: x5 :: x6 :: x7 :: x8 :: x9 :: x10 :: y :: ρ) [11]) C K := h
theorem v_var12 {x0 x1 x2 x3 x4 x5 x6 x7 x8 x9 x10 x11 : Option D} {d : D} {ρ : DEnv} (h : Q d C) : dVar 12 (x0 :: x1 :: x2 :: x3 :: x4 :: x5 :: x6 :: x7 :: x8 :: x9 :: x10 :: x11 :: some d :: ρ) C Q := ⟨d, rfl, h⟩
theorem v_name12 {x0 x1 x2 x3 x4 x5 x6 x7 x8 x9 x10 x11 y : Option D} {d : D} {ρ : DEnv} {K : DEnv → Cl → Prop} (h : K (x0 :: x1 :: x2 :: x3 :: x4 :: x5 :: x6 :: x7 :: x8 :: x9 :: x10 :: x11 :: some d :: ρ) C) : dName 12 d (x0 :: x1 :: x2 :: x3 :: x4 :: x5 :: x6 :: x7 :: x8 :: x9 :: x10 :: x11 :: y :: ρ) C K := h
theorem v_var13 {x0 x1 x2 x3 x4 x5 x6 x7 x8 x9 x10 x11 x12 : Option D} {d : D} {ρ : DEnv} (h : Q d C) : dVar 13 (x0 :: x1 :: x2 :: x3 :: x4 :: x5 :: x6 :: x7 :: x8 :: x9 :: x10 :: x11 :: x12 :: some d :: ρ) C Q := ⟨d, rfl, h⟩
theorem v_name13 {x0 x1 x2 x3 x4 x5 x6 x7 x8 x9 x10 x11 x12 y : Option D} {d : D} {ρ : DEnv} {K : DEnv → Cl → Prop} (h : K (x0 :: x1 :: x2 :: x3 :: x4 :: x5 :: x6 :: x7 :: x8 :: x9 :: x10 :: x11 :: x12 :: some d :: ρ) C) : dName 13 d (x0 :: x1 :: x2 :: x3 :: x4 :: x5 :: x6 :: x7 :: x8 :: x9 :: x10 :: x11 :: x12 :: y :: ρ) C K := h
theorem v_var14 {x0 x1 x2 x3 x4 x5 x6 x7 x8 x9 x10 x11 x12 x13 : Option D} {d : D} {ρ : DEnv} (h : Q d C) : dVar 14 (x0 :: x1 :: x2 :: x3 :: x4 :: x5 :: x6 :: x7 :: x8 :: x9 :: x10 :: x11 :: x12 :: x13 :: some d :: ρ) C Q := ⟨d, rfl, h⟩
theorem v_wname14 {x0 x1 x2 x3 x4 x5 x6 x7 x8 x9 x10 x11 x12 x13 y : Option D} {d : D} {ρ : DEnv} {K : DEnv → Cl → Prop} (h : K (x0 :: x1 :: x2 :: x3 :: x4 :: x5 :: x6 :: x7 :: x8 :: x9 :: x10 :: x11 :: x12 :: x13 :: some d :: ρ) C) : dName 14 d (wipeD (x0 :: x1 :: x2 :: x3 :: x4 :: x5 :: x6 :: x7 :: x8 :: x9 :: x10 :: x11 :: x12 :: x13 :: y :: ρ) [14]) C K := h
/-! comprehensions whose things are known -/
theorem v_lcmap {wi : DI} {vs : List Nat} {xs : List D} (f : D → D) (hw : ∀ R : List D → Cl → Prop, R xs C → wi ρ C R) (hl : xs.length ≤ sizeLine)
    (hs : ∀ (i : Nat) (x : D) (C' : Cl) (N : DQ), xs[i]? = some x → SubC C C' → N (f x) C' → g x (wipeD ρ vs) C' fun ρ2 C2 => te ρ2 C2 N) (hq : Q (.lst (xs.map f)) C) : dFz (dLc wi g dYes te vs) ρ C Q :=
  hw _ (lc_map f hl hs hq)
theorem v_lcfil {wi : DI} {tt : DT} {vs : List Nat} {xs : List D} (f : D → Option D) (hw : ∀ R : List D → Cl → Prop, R xs C → wi ρ C R) (hl : xs.length ≤ sizeLine)
    (hs : ∀ (i : Nat) (x : D) (C' : Cl) (N : DQ) (S : Cl → Prop), xs[i]? = some x → SubC C C' → (∀ y, f x = some y → N y C') → (f x = none → S C') → g x (wipeD ρ vs) C' fun ρ2 C2 => tt ρ2 C2 fun b C3 => if b = true then te ρ2 C3 N else S C3) (hq : Q (.lst (xs.filterMap f)) C) : dFz (dLc wi g tt te vs) ρ C Q :=
  hw _ (lc_filter f hl hs hq)
/-- the same over things that a function names -/
theorem v_lcmapF {α : Type} {wi : DI} {vs : List Nat} {as : List α} {e : α → D} (f : α → D) (hw : ∀ R : List D → Cl → Prop, R (as.map e) C → wi ρ C R) (hl : as.length ≤ sizeLine)
    (hs : ∀ (i : Nat) (a : α) (C' : Cl) (N : DQ), as[i]? = some a → a ∈ as → SubC C C' → N (f a) C' → g (e a) (wipeD ρ vs) C' fun ρ2 C2 => te ρ2 C2 N) (hq : Q (.lst (as.map f)) C) : dFz (dLc wi g dYes te vs) ρ C Q := by
  refine hw _ fun p hp => ?_
  refine ⟨fun i C' => ∃ C1, C' = updC C1 p (.lst ((as.take i).map f)) ∧ C1 = C, ⟨C, rfl, rfl⟩, ?_, ?_⟩
  · rintro i x _ hx ⟨C1, rfl, rfl⟩
    rw [List.getElem?_map] at hx
    cases ha : as[i]? with
    | none => rw [ha] at hx; cases hx
    | some a =>
      rw [ha] at hx; cases hx
      have hi : i < as.length := (List.getElem?_eq_some_iff.mp ha).1
      refine hs i a _ _ ha (List.mem_of_getElem? ha) ((SubC.refl _).new hp) ⟨_, updC_same, ?_, _, ?_, rfl⟩
      · rw [List.length_map, List.length_take]; omega
      · rw [updC_updC, List.take_add_one, ha]; simp
  · rintro _ ⟨C1, rfl, rfl⟩
    rw [List.length_map, List.take_length]
    exact ⟨p, _, rfl, updC_same, by rw [delC_new hp]; exact hq⟩
/-! loops -/
end
end G
section ZH
open PySem PySem.Spec PyProof.Rows L2 G
local macro_rules | `(tactic| sizeOf_list_dec) => `(tactic| exact szl (by first | omega | (simp only [List.length_append, List.length_cons, List.length_nil, List.length_map, List.length_reverse, List.length_singleton, txts_lenG]; omega) | (simp only [List.length_append, List.length_cons, List.length_nil, List.length_map, List.length_reverse, txts_lenG]; omega)))
local macro_rules | `(tactic| array_get_dec) => `(tactic| first | with_reducible refine v_seq ?_ | with_reducible refine v_next ?_ | with_reducible refine v_asg ?_ | (with_reducible refine v_isvar ?_; first | with_reducible refine v_var0 ?_ | with_reducible refine v_var1 ?_ | with_reducible refine v_var2 ?_ | with_reducible refine v_var3 ?_ | with_reducible refine v_var4 ?_ | with_reducible refine v_var5 ?_ | with_reducible refine v_var6 ?_ | with_reducible refine v_var7 ?_ | with_reducible refine v_var8 ?_ | with_reducible refine v_var9 ?_ | with_reducible refine v_var10 ?_ | with_reducible refine v_var11 ?_ | with_reducible refine v_var12 ?_ | with_reducible refine v_var13 ?_ | with_reducible refine v_var14 ?_ | with_reducible refine v_var15 ?_ | with_reducible refine v_var16 ?_ | with_reducible refine v_var17 ?_ | with_reducible refine v_var18 ?_ | with_reducible refine v_var19 ?_ | with_reducible refine v_var20 ?_ | with_reducible refine v_var21 ?_ | with_reducible refine v_var22 ?_ | with_reducible refine v_var23 ?_ | with_reducible refine v_var24 ?_ | with_reducible refine v_var25 ?_) | (with_reducible refine v_isname ?_; first | with_reducible refine v_name0 ?_ | with_reducible refine v_wname0 ?_ | with_reducible refine v_name1 ?_ | with_reducible refine v_wname1 ?_ | with_reducible refine v_name2 ?_ | with_reducible refine v_wname2 ?_ | with_reducible refine v_name3 ?_ | with_reducible refine v_wname3 ?_ | with_reducible refine v_name4 ?_ | with_reducible refine v_wname4 ?_ | with_reducible refine v_name5 ?_ | with_reducible refine v_wname5 ?_ | with_reducible refine v_name6 ?_ | with_reducible refine v_wname6 ?_ | with_reducible refine v_name7 ?_ | with_reducible refine v_wname7 ?_ | with_reducible refine v_name8 ?_ | with_reducible refine v_wname8 ?_ | with_reducible refine v_name9 ?_ | with_reducible refine v_wname9 ?_ | with_reducible refine v_name10 ?_ | with_reducible refine v_wname10 ?_ | with_reducible refine v_name11 ?_ | with_reducible refine v_wname11 ?_ | with_reducible refine v_name12 ?_ | with_reducible refine v_wname12 ?_ | with_reducible refine v_name13 ?_ | with_reducible refine v_wname13 ?_ | with_reducible refine v_name14 ?_ | with_reducible refine v_wname14 ?_ | with_reducible refine v_name15 ?_ | with_reducible refine v_wname15 ?_ | with_reducible refine v_name16 ?_ | with_reducible refine v_wname16 ?_ | with_reducible refine v_name17 ?_ | with_reducible refine v_wname17 ?_ | with_reducible refine v_name18 ?_ | with_reducible refine v_wname18 ?_ | with_reducible refine v_name19 ?_ | with_reducible refine v_wname19 ?_ | with_reducible refine v_name20 ?_ | with_reducible refine v_wname20 ?_ | with_reducible refine v_name21 ?_ | with_reducible refine v_wname21 ?_ | with_reducible refine v_name22 ?_ | with_reducible refine v_wname22 ?_ | with_reducible refine v_name23 ?_ | with_reducible refine v_wname23 ?_ | with_reducible refine v_name24 ?_ | with_reducible refine v_wname24 ?_ | with_reducible refine v_name25 ?_ | with_reducible refine v_wname25 ?_) | with_reducible refine v_drop ?_ | with_reducible refine v_ret ?_ | with_reducible refine v_ifS ?_ | with_reducible refine v_test ?_ | with_reducible refine v_bl ?_ | with_reducible refine v_const ?_ | with_reducible refine v_op ?_ | with_reducible refine v_cb ?_ | with_reducible refine v_nil ?_ | with_reducible refine v_cons ?_ | with_reducible refine v_fld ?_ | with_reducible refine v_meth ?_ | with_reducible refine v_cal ?_ | with_reducible refine v_call0 ?_ | with_reducible refine v_pos2 ?_ | with_reducible refine v_tt ?_ | with_reducible refine v_ff ?_ | with_reducible refine v_ntt ?_ | with_reducible refine v_nff ?_ | with_reducible refine v_dnot ?_ | with_reducible refine v_dand ?_ | with_reducible refine v_dor ?_ | with_reducible refine v_andV ?_ | with_reducible refine v_orV ?_ | with_reducible refine v_notV ?_ | with_reducible refine v_ifE ?_ | with_reducible refine v_bm0 ?_ | with_reducible refine v_eqS ?_ | with_reducible refine v_eqI ?_ | with_reducible refine v_neS ?_ | with_reducible refine v_neI ?_ | with_reducible refine v_eqB ?_ | with_reducible refine v_neB ?_ | with_reducible refine v_isNn ?_ | with_reducible refine v_isNs ?_ | with_reducible refine v_isNi ?_ | with_reducible refine v_isNt ?_ | with_reducible refine v_notNn ?_ | with_reducible refine v_notNs ?_ | with_reducible refine v_notNi ?_ | with_reducible refine v_notNt ?_ | with_reducible refine v_isN ?_ | with_reducible refine v_notN ?_ | with_reducible refine v_lt ?_ | with_reducible refine v_le ?_ | with_reducible refine v_gt ?_ | with_reducible refine v_ge ?_ | with_reducible refine v_addI ?_ | with_reducible refine v_subI ?_ | with_reducible refine v_lenT ?_ | with_reducible refine v_lenL ?_ | with_reducible refine v_chain ?_ | with_reducible refine v_un ?_ | with_reducible refine v_tup ?_ | with_reducible refine v_lst ?_ | with_reducible refine v_lstC ?_ | with_reducible refine v_gsub ?_ | with_reducible refine v_rng1 ?_ | with_reducible refine v_rng2 ?_ | with_reducible refine v_slice ?_ | with_reducible refine v_nopart ?_ | with_reducible refine v_part ?_ | with_reducible refine v_partI ?_ | with_reducible refine v_slT ?_ | with_reducible refine v_slL ?_ | with_reducible refine v_rev ?_ | with_reducible refine v_revO ?_ | with_reducible refine v_enumS ?_ | with_reducible refine v_enumL ?_ | with_reducible refine v_enumT ?_ | with_reducible refine v_zipS ?_ | with_reducible refine v_revL ?_ | with_reducible refine v_revT ?_ | with_reducible refine v_putT ?_ | with_reducible refine v_putK ?_ | with_reducible refine v_inT ?_ | with_reducible refine v_getT ?_ | with_reducible refine v_get2T ?_ | with_reducible refine v_make ?_ | with_reducible refine v_fldSet ?_ | with_reducible refine v_forL ?_ | with_reducible refine v_forT ?_ | with_reducible refine v_forS ?_ | with_reducible refine v_lstO ?_ | with_reducible refine v_rolO ?_ | with_reducible refine v_tupO ?_ | with_reducible refine v_strO ?_ | with_reducible refine v_listT ?_ | with_reducible refine v_listL ?_ | with_reducible refine v_tupleL ?_ | with_reducible refine v_tupleT ?_ | with_reducible refine v_isiS ?_ | with_reducible refine v_isiT ?_ | with_reducible refine v_isiL ?_ | with_reducible refine v_allM ?_ | with_reducible refine v_anyM ?_ | with_reducible refine v_eqNS ?_ | with_reducible refine v_neNS ?_ | with_reducible refine v_gcons ?_ | with_reducible refine v_gnil ?_ | with_reducible refine v_par2 ?_ | with_reducible refine v_par33 ?_ | with_reducible refine v_retN ?_ | with_reducible refine v_sameS ?_ | with_reducible refine v_sameB ?_ | with_reducible refine v_sameI ?_ | with_reducible refine v_sameN ?_ | with_reducible refine v_sameT ?_ | with_reducible refine v_sameL ?_ | with_reducible refine v_endN ?_ | with_reducible refine v_bm ?_ | with_reducible refine v_tystr ?_ | with_reducible refine v_break ?_ | with_reducible refine v_cont ?_ | ((with_reducible refine v_slS ?_ ?_); sizeOf_list_dec) | ((with_reducible refine v_lenS ?_ ?_); sizeOf_list_dec) | ((with_reducible refine v_addS ?_ ?_); sizeOf_list_dec) | ((with_reducible refine v_addT ?_ ?_); sizeOf_list_dec) | ((with_reducible refine v_addL ?_ ?_); sizeOf_list_dec) | (with_reducible refine v_par _ _ ?_) | (with_reducible refine v_par3 _ _ _ ?_) | ((with_reducible refine v_gtup ?_ ?_); rfl) | with_reducible refine v_ixT (by with_unfolding_all rfl) ?_ | with_reducible refine v_ixL (by with_unfolding_all rfl) ?_ | with_reducible refine v_ixR (by with_unfolding_all rfl) ?_ | ((with_reducible refine v_ixS ?_ (by with_unfolding_all rfl) ?_); sizeOf_list_dec) | ((with_reducible refine And.intro ?_ ?_); sizeOf_list_dec) | with_reducible refine v_dt (by first | assumption | with_unfolding_all rfl | omega | (simp only [List.length_map, List.length_append, List.length_cons, List.length_nil, List.length_reverse, txts_lenG]; first | done | omega)) ?_ | with_reducible refine v_ndt (by first | assumption | with_unfolding_all rfl | omega | (simp only [List.length_map, List.length_append, List.length_cons, List.length_nil, List.length_reverse, txts_lenG]; first | done | omega)) ?_ | with_reducible refine v_df (by first | assumption | omega | (with_unfolding_all decide) | (simp only [List.length_map, List.length_append, List.length_cons, List.length_nil, List.length_reverse, txts_lenG]; first | done | omega)) ?_ | with_reducible refine v_ndf (by first | assumption | omega | (with_unfolding_all decide) | (simp only [List.length_map, List.length_append, List.length_cons, List.length_nil, List.length_reverse, txts_lenG]; first | done | omega)) ?_ | decreasing_trivial_pre_omega | ((with_reducible refine v_isname ?_); dsimp only [wipeD, List.set]) | ((with_reducible refine v_isvar ?_); dsimp only [wipeD, List.set]))
local macro_rules | `(tactic| array_mem_dec) => `(tactic| repeat array_get_dec)
local macro_rules | `(tactic| bv_omega) => `(tactic| repeat' (first | array_get_dec | with_reducible refine ite_d (fun _ => ?_) (fun _ => ?_) | with_reducible refine ite_nd (fun _ => ?_) (fun _ => ?_) | with_reducible refine ite_b (fun _ => ?_) (fun _ => ?_) | with_reducible refine ite_nb (fun _ => ?_) (fun _ => ?_)))
set_option maxHeartbeats 2000000
namespace G
open PySem PySem.Spec PyProof.Rows L2
local macro_rules | `(tactic| decreasing_trivial_pre_omega) => `(tactic| first | with_reducible refine v_setdN ?_ | with_reducible refine v_putN ?_ | with_reducible refine v_d1N ?_ | with_reducible refine v_d1K ?_ | with_reducible refine v_newN ?_ | with_reducible refine v_exi ?_ | with_reducible refine v_exf ?_ | with_reducible refine v_exv ?_ | with_reducible refine v_con ?_ | with_reducible refine v_tryN ?_ | with_reducible refine v_pnil ?_ | with_reducible refine v_pcons ?_ | with_reducible refine v_dictD ?_ | with_reducible refine v_get1 ?_)
/-! ### classes of signs -/
def sgAll : List Nat := [32, 33, 34, 35, 36, 38, 39, 40, 41, 42, 43, 44, 45, 46, 47, 48, 49, 50, 51, 52, 53, 54, 55, 56, 57, 58, 59, 60, 61, 62, 63, 64, 65, 66, 67, 68, 69, 70, 71, 72, 73, 74, 75, 76, 77, 78, 79, 80, 81, 82, 83, 84, 85, 86, 87, 88, 89, 90, 91, 92, 93, 94, 95, 96, 97, 98, 99, 100, 101, 102, 103, 104, 105, 106, 107, 108, 109, 110, 111, 112, 113, 114, 115, 116, 117, 118, 119, 120, 121, 122, 123, 124, 125, 126]
theorem sgAll_nodup : sgAll.Nodup := by decide
theorem sgAll_len : sgAll.length = 94 := rfl
abbrev keyC (c : Nat) : Key := .inr ⟨#[c]⟩
theorem keyC_inj {a b : Nat} (h : keyC a = keyC b) : a = b := by
  have := Sum.inr.inj h
  simpa using this
theorem snocInd {α : Type} {P : List α → Prop} (h0 : P []) (h1 : ∀ l x, P l → P (l ++ [x])) (l : List α) : P l := by
  rw [← List.reverse_reverse l]
  induction l.reverse with
  | nil => exact h0
  | cons x r ih =>
    rw [List.reverse_cons]
    exact h1 _ _ ih
/-- the values in the order in which they first come -/
def firsts {α : Type} [DecidableEq α] (l : List α) : List α := l.foldl (fun acc x => if x ∈ acc then acc else acc ++ [x]) []
theorem firsts_snoc {α : Type} [DecidableEq α] (l : List α) (x : α) : firsts (l ++ [x]) = if x ∈ firsts l then firsts l else firsts l ++ [x] := by
  unfold firsts
  rw [List.foldl_append]
  rfl
theorem mem_firsts' {α : Type} [DecidableEq α] (l : List α) : ∀ a, a ∈ firsts l ↔ a ∈ l := by
  induction l using snocInd with
  | h0 => simp [firsts]
  | h1 l x ih =>
    intro a
    rw [firsts_snoc]
    by_cases h : x ∈ firsts l
    · rw [if_pos h, ih, List.mem_append, List.mem_singleton]
      exact ⟨.inl, fun z => z.elim id fun e => by rw [e]; exact (ih x).mp h⟩
    · rw [if_neg h, List.mem_append, List.mem_append, ih]
theorem mem_firsts {α : Type} [DecidableEq α] {l : List α} {a : α} : a ∈ firsts l ↔ a ∈ l := mem_firsts' l a
theorem nodup_firsts {α : Type} [DecidableEq α] : ∀ (l : List α), (firsts l).Nodup := by
  intro l
  induction l using snocInd with
  | h0 => simp [firsts]
  | h1 l x ih =>
    rw [firsts_snoc]
    by_cases h : x ∈ firsts l
    · rw [if_pos h]; exact ih
    · rw [if_neg h, List.nodup_append]
      refine ⟨ih, by simp, fun a ha b hb e => ?_⟩
      rw [List.mem_singleton.mp hb] at e
      rw [← e] at h
      exact h ha
theorem len_firsts {α : Type} [DecidableEq α] (l : List α) : (firsts l).length ≤ l.length := by
  induction l using snocInd with
  | h0 => simp [firsts]
  | h1 l x ih =>
    rw [firsts_snoc]
    by_cases h : x ∈ firsts l
    · rw [if_pos h, List.length_append]; omega
    · rw [if_neg h, List.length_append, List.length_append]
      simpa using ih
theorem firsts_take {α : Type} [DecidableEq α] {l : List α} {i : Nat} {x : α} (h : l[i]? = some x) : firsts (l.take (i + 1)) = if x ∈ firsts (l.take i) then firsts (l.take i) else firsts (l.take i) ++ [x] := by
  rw [List.take_add_one, h]
  exact firsts_snoc _ _
/-- values with their places -/
def numF {α : Type} : Nat → List α → List (α × D)
  | _, [] => []
  | k, a :: l => (a, .int (k : Nat)) :: numF (k + 1) l
abbrev numK {α : Type} (l : List α) : List (α × D) := numF 0 l
theorem numF_snoc {α : Type} (a : α) : ∀ (k : Nat) (l : List α), numF k (l ++ [a]) = numF k l ++ [(a, .int ((k + l.length : Nat) : Int))]
  | k, [] => rfl
  | k, b :: l => by
    rw [List.cons_append]
    unfold numF
    rw [numF_snoc a (k + 1) l, List.cons_append, List.length_cons, show k + 1 + l.length = k + (l.length + 1) by omega]
theorem numK_snoc {α : Type} (l : List α) (a : α) : numK (l ++ [a]) = numK l ++ [(a, .int (l.length : Nat))] := by
  unfold numK
  rw [numF_snoc, Nat.zero_add]
theorem numF_len {α : Type} : ∀ (k : Nat) (l : List α), (numF k l).length = l.length
  | _, [] => rfl
  | k, _ :: l => by
    unfold numF
    rw [List.length_cons, List.length_cons, numF_len (k + 1) l]
theorem numK_len {α : Type} (l : List α) : (numK l).length = l.length := numF_len 0 l
theorem numF_fst {α : Type} : ∀ (k : Nat) (l : List α), (numF k l).map (·.1) = l
  | _, [] => rfl
  | k, _ :: l => by
    unfold numF
    rw [List.map_cons, numF_fst (k + 1) l]
theorem numK_fst {α : Type} (l : List α) : (numK l).map (·.1) = l := numF_fst 0 l
theorem numK_val {α : Type} [DecidableEq α] {a : α} : ∀ {l : List α}, a ∈ l → valA (numK l) a = some (.int (l.idxOf a : Nat)) := by
  intro l
  induction l using snocInd with
  | h0 => simp
  | h1 l x ih =>
    intro h
    rw [numK_snoc, valA_app]
    by_cases hm : a ∈ l
    · rw [ih hm, Option.some_or, List.idxOf_append, if_pos hm]
    · have hx : x = a := by
        rcases List.mem_append.mp h with z | z
        · exact absurd z hm
        · exact (List.mem_singleton.mp z).symm
      have hn : valA (numK l) a = none := valA_none.mpr (by rw [numK_fst]; exact hm)
      rw [hn, Option.none_or, if_pos hx, List.idxOf_append, if_neg hm, hx]
      simp
theorem numK_none {α : Type} [DecidableEq α] {a : α} {l : List α} : valA (numK l) a = none ↔ a ∉ l := by rw [valA_none, numK_fst]
/-- the class of each sign -/
def clsOf {α : Type} [DecidableEq α] (m : Nat → α) (c : Nat) : Nat := (firsts (sgAll.map m)).idxOf (m c)
def clsD (f : Nat → Nat) (l : List Nat) : List (Key × D) := l.map fun c => (keyC c, .int (f c : Nat))
theorem clsD_val {f : Nat → Nat} {c : Nat} : ∀ {l : List Nat}, c ∈ l → valD (clsD f l) (keyC c) = some (.int (f c : Nat))
  | x :: l, h => by
    unfold clsD
    rw [List.map_cons, valD_cons]
    by_cases e : x = c
    · rw [if_pos (by rw [e])]
      rw [e]
    · rw [if_neg fun z => e (keyC_inj z)]
      exact clsD_val (by rcases List.mem_cons.mp h with z | z; exact absurd z.symm e; exact z)
theorem valD_no {κ : Type} [DecidableEq κ] {k : κ} : ∀ {kvs : List (κ × D)}, (∀ p ∈ kvs, p.1 ≠ k) → valD kvs k = none
  | [], _ => rfl
  | p :: r, h => by
    rw [valD_cons, if_neg (h p List.mem_cons_self)]
    exact valD_no fun q hq => h q (List.mem_cons_of_mem _ hq)
theorem clsD_none {f : Nat → Nat} {c : Nat} {l : List Nat} (h : c ∉ l) : valD (clsD f l) (keyC c) = none := valD_no fun p hp => by
  obtain ⟨x, hx, rfl⟩ := List.mem_map.mp hp
  intro e
  rw [keyC_inj e] at hx
  exact h hx
theorem dicOf_keep {C C' : Cl} {x : D} {kvs : List (Key × D)} (h : dicOf C x = some kvs) (k : ∀ a, C a ≠ none → C' a = C a) : dicOf C' x = some kvs := by
  cases x with
  | ref a =>
    have h' : (match C a with | some (.dic kvs) => some kvs | some (.dil _ _ kvs) => some kvs | _ => none) = some kvs := h
    have : C a ≠ none := fun e => by
      rw [e] at h'
      cases h'
    show (match C' a with | some (.dic kvs) => some kvs | some (.dil _ _ kvs) => some kvs | _ => none) = some kvs
    rw [k a this]
    exact h'
  | dic _ => exact h
  | _ => cases h
theorem v_forStr {l : List Nat} {g : DG} {tb : DS} {D : DEnds} {ρ : DEnv} {C : Cl} (Pv : Nat → DEnv → Cl → Prop) (h0 : Pv 0 ρ C) (hs : ∀ i x ρ C, (signs l)[i]? = some x → Pv i ρ C → g x ρ C fun ρ2 C2 => tb { D with nx := Pv (i + 1), ct := Pv (i + 1), bk := D.nx } ρ2 C2)
    (he : ∀ ρ C, Pv (signs l).length ρ C → D.nx ρ C) : dFor (diStr (dC (.str l))) g tb D ρ C := ⟨l, rfl, Pv, h0, hs, he⟩
def sp_sign_classes : DSp := fun ds C Q _ => ∃ (α : Type) (_ : DecidableEq α) (K : KD α) (x : D) (kvs : List (Key × D)) (m : Nat → α), ds = [x] ∧ dicOf C x = some kvs ∧ (∀ c ∈ sgAll, valD kvs (keyC c) = some (K.enc (m c))) ∧
  Q (.tup [.dic (clsD (clsOf m) sgAll), .lst ((firsts (sgAll.map m)).map K.enc)]) C
def td_sign_classes : DS :=
  (dSeq (dAsg dNewK (dName 1))
    (dSeq (dAsg (dOrE dNewK dNewN) (dName 2))
    (dSeq (dFor (diStr (dC (.str [32, 33, 34, 35, 36, 38, 39, 40, 41, 42, 43, 44, 45, 46, 47, 48, 49, 50, 51, 52, 53, 54, 55, 56, 57, 58, 59, 60, 61, 62, 63, 64, 65, 66, 67, 68, 69, 70, 71, 72, 73, 74, 75, 76, 77, 78, 79, 80, 81, 82, 83, 84, 85, 86, 87, 88, 89, 90, 91, 92, 93, 94, 95, 96, 97, 98, 99, 100, 101, 102, 103, 104, 105, 106, 107, 108, 109, 110, 111, 112, 113, 114, 115, 116, 117, 118, 119, 120, 121, 122, 123, 124, 125, 126]))) (dName 3)
    (dPutK (dVar 1) (dVar 3) (dOrE (dSetdK (dVar 2) (dOp rGetK (dVar 0) (dVar 3)) (dOrE (dCB rLenK (dCons (dVar 2) dNil)) (dCB rLenN (dCons (dVar 2) dNil)))) (dSetdN (dVar 2) (dOp rGetK (dVar 0) (dVar 3)) (dOrE (dCB rLenK (dCons (dVar 2) dNil)) (dCB rLenN (dCons (dVar 2) dNil)))))))
    (dLock 1 (dRet (dTup (dCons (dVar 1) (dCons (dOrE (dCB rListK (dCons (dVar 2) dNil)) (dCB rListN (dCons (dVar 2) dNil))) dNil))))))))
theorem len_sign_classes (ds : List D) (C : Cl) (Q : DQ) (E : DX) (h : sp_sign_classes ds C Q E) : ds.length = 1 := by repeat (first | (obtain ⟨rfl, _⟩ := h; exact rfl) | (obtain ⟨_, h⟩ := h))
theorem pure_sign_classes (ds : List D) (C : Cl) (Q : DQ) (E : DX) (h : sp_sign_classes ds C Q E) : td_sign_classes (endsD Q) (startD ["marks", "signs", "known", "sign"] ds) C := by
  obtain ⟨α, _, K, x, kvs, m, rfl, hx, hm, hq⟩ := h
  unfold td_sign_classes
  refine v_ends ?_
  simp only [startD, List.map_cons, List.map_nil, List.length_cons, List.length_nil, Nat.reduceAdd, Nat.reduceSub, List.reduceReplicate, List.cons_append, List.nil_append]
  array_mem_dec
  intro p1 h1
  array_mem_dec
  refine va_new K fun p2 h2 => ?_
  array_mem_dec
  have n12 : p1 ≠ p2 := fun e => by
    subst e
    rw [updC_same] at h2
    cases h2
  have h2' : C p2 = none := by rw [← h2, updC_ne (Ne.symm n12)]
  have hxC : ∀ C' : Cl, (∀ a, a ≠ p1 → a ≠ p2 → C' a = C a) → dicOf C' x = some kvs := fun C' hC => dicOf_keep hx fun a ha => hC a (fun e => by rw [e, h1] at ha; exact ha rfl) fun e => by rw [e, h2'] at ha; exact ha rfl
  refine v_forStr (fun i ρ C' => ∃ s, ρ = [some x, some (.ref p1), some (.ref p2), s] ∧ C' p1 = some (.dic (clsD (fun c => (firsts ((sgAll.map m).take i)).idxOf (m c)) (sgAll.take i))) ∧ C' p2 = some (K.cell p2 (numK (firsts ((sgAll.map m).take i)))) ∧ ∀ a, a ≠ p1 → a ≠ p2 → C' a = C a) ⟨_, rfl, ?_, updC_same, fun a ha hb => by rw [updC_ne hb, updC_ne ha]⟩ ?_ ?_
  · rw [updC_ne n12, updC_same]
    rfl
  · rintro i d ρ C' hd ⟨s, rfl, c1, c2, c3⟩
    obtain ⟨c, hc, rfl⟩ := signs_get hd
    have hc : sgAll[i]? = some c := hc
    have hcm : c ∈ sgAll := List.mem_of_getElem? hc
    have hi : i < 94 := (List.getElem?_eq_some_iff.mp hc).1
    have hmi : (sgAll.map m)[i]? = some (m c) := by rw [List.getElem?_map, hc]; rfl
    have hct : c ∉ sgAll.take i := fun z => by
      obtain ⟨j, hj⟩ := List.mem_iff_getElem?.mp z
      have hj2 : j < i := by have := (List.getElem?_eq_some_iff.mp hj).1; rw [List.length_take] at this; omega
      rw [List.getElem?_take_of_lt hj2] at hj
      have := (List.getElem?_inj (by show j < 94; omega) sgAll_nodup).mp (hj.trans hc.symm)
      omega
    have hkl : (firsts ((sgAll.map m).take i)).length ≤ 94 := Nat.le_trans (len_firsts _) (by rw [List.length_take, List.length_map, sgAll_len]; omega)
    have hsl : (clsD (fun c => (firsts ((sgAll.map m).take i)).idxOf (m c)) (sgAll.take i)).length ≤ 94 := by unfold clsD; rw [List.length_map, List.length_take, sgAll_len]; omega
    have htk : sgAll.take (i + 1) = sgAll.take i ++ [c] := by rw [List.take_add_one, hc]; rfl
    array_mem_dec
    refine va_setd K ?_
    array_mem_dec
    refine ⟨K.isD c2, ?_⟩
    array_mem_dec
    refine ⟨kvs, keyC c, _, hxC C' c3, rfl, hm c hcm, ?_⟩
    refine va_len K ?_
    array_mem_dec
    refine K.len c2 (szl (by rw [numK_len]; omega)) ?_
    rw [numK_len]
    refine K.set c2 (by rw [numK_len, sizeLine_eq]; omega) (fun v hv => ?_) (fun hn => ?_)
    · have hmem : m c ∈ firsts ((sgAll.map m).take i) := by
        refine Decidable.byContradiction fun z => ?_
        rw [numK_none.mpr z] at hv
        cases hv
      rw [numK_val hmem] at hv
      cases hv
      array_mem_dec
      refine ⟨p1, _, keyC c, rfl, c1, rfl, by rw [sizeLine_eq]; omega, _, rfl, ?_, ?_, fun a ha hb => by rw [updC_ne ha]; exact c3 a ha hb⟩
      · rw [updC_same, putKD_none (clsD_none hct), firsts_take hmi, if_pos hmem, htk]
        unfold clsD
        rw [List.map_append]
        rfl
      · rw [updC_ne (Ne.symm n12), c2, firsts_take hmi, if_pos hmem]
    · have hmem : m c ∉ firsts ((sgAll.map m).take i) := numK_none.mp hn
      array_mem_dec
      refine ⟨p1, _, keyC c, rfl, by rw [updC_ne n12]; exact c1, rfl, by rw [sizeLine_eq]; omega, _, rfl, ?_, ?_, fun a ha hb => by rw [updC_ne ha, updC_ne hb]; exact c3 a ha hb⟩
      · rw [updC_same, putKD_none (clsD_none hct), firsts_take hmi, if_neg hmem, htk]
        unfold clsD
        rw [List.map_append]
        congr 3
        · refine List.map_congr_left fun b hb => ?_
          have hbm : m b ∈ firsts ((sgAll.map m).take i) := mem_firsts.mpr (by rw [← List.map_take]; exact List.mem_map.mpr ⟨b, hb, rfl⟩)
          dsimp only
          rw [List.idxOf_append, if_pos hbm]
        · show [(keyC c, D.int _)] = [(keyC c, D.int _)]
          dsimp only
          rw [List.idxOf_append, if_neg hmem]
          simp
      · rw [updC_ne (Ne.symm n12), updC_same, firsts_take hmi, if_neg hmem, numK_snoc]
  · rintro ρ C' ⟨s, rfl, c1, c2, c3⟩
    have e1 : (sgAll.map m).take 94 = sgAll.map m := List.take_of_length_le (by rw [List.length_map, sgAll_len]; exact Nat.le_refl _)
    have e2 : sgAll.take 94 = sgAll := List.take_of_length_le (Nat.le_refl _)
    have c1 : C' p1 = some (.dic (clsD (fun c => (firsts ((sgAll.map m).take 94)).idxOf (m c)) (sgAll.take 94))) := c1
    have c2 : C' p2 = some (K.cell p2 (numK (firsts ((sgAll.map m).take 94)))) := c2
    rw [e1, e2] at c1
    rw [e1] at c2
    have hkl : (firsts (sgAll.map m)).length ≤ 94 := Nat.le_trans (len_firsts _) (by rw [List.length_map, sgAll_len]; exact Nat.le_refl _)
    refine ⟨p1, _, rfl, c1, ?_⟩
    dsimp only [List.set]
    array_mem_dec
    refine va_list K ?_
    array_mem_dec
    refine K.list (kvs := numK (firsts (sgAll.map m))) (by unfold delC; rw [if_neg (Ne.symm n12)]; exact c2) (szl (by rw [numK_len]; omega)) ?_
    rw [show (numK (firsts (sgAll.map m))).map (fun q => K.enc q.1) = (firsts (sgAll.map m)).map K.enc from by
      have := congrArg (List.map K.enc) (numK_fst (firsts (sgAll.map m)))
      rw [List.map_map] at this
      exact this]
    refine ⟨szl (Nat.le_of_ble_eq_true rfl), ⟨_, C, .drop fun a c ha => ?_, hq⟩⟩
    have ha1 : a ≠ p1 := fun e => by rw [e, h1] at ha; cases ha
    have ha2 : a ≠ p2 := fun e => by rw [e, h2'] at ha; cases ha
    unfold delC
    rw [if_neg ha1, c3 a ha1 ha2]
    exact ha
end G
set_option maxHeartbeats 2000000
namespace G
open PySem PySem.Spec PyProof.Rows L2
local macro_rules | `(tactic| decreasing_trivial_pre_omega) => `(tactic| first | with_reducible refine v_setdN ?_ | with_reducible refine v_putN ?_ | with_reducible refine v_d1N ?_ | with_reducible refine v_d1K ?_ | with_reducible refine v_newN ?_ | with_reducible refine v_exi ?_ | with_reducible refine v_exf ?_ | with_reducible refine v_exv ?_ | with_reducible refine v_con ?_ | with_reducible refine v_tryN ?_ | with_reducible refine v_pnil ?_ | with_reducible refine v_pcons ?_ | with_reducible refine v_dictD ?_ | with_reducible refine v_get1 ?_)
/-! ### machines: tables, what leads to an end -/
abbrev Tb := List (List Int)
def rowD (r : List Int) : D := .lst (r.map D.int)
def tbD (tb : Tb) : D := .lst (tb.map rowD)
def blD (bs : List Bool) : D := .lst (bs.map D.bl)
structure TbOk (tb : Tb) (ac : List Bool) : Prop where
  len : ac.length = tb.length
  pos : 0 < tb.length
  small : tb.length ≤ 100000
  row : ∀ r ∈ tb, r.length ≤ 94 ∧ ∀ t ∈ r, t < (tb.length : Int)
/-- s goes to t by some sign -/
def Edge (tb : Tb) (s t : Nat) : Prop := ∃ r, tb[s]? = some r ∧ (t : Int) ∈ r
inductive Lead (tb : Tb) (ac : List Bool) : Nat → Prop
  | here {s : Nat} : ac[s]? = some true → Lead tb ac s
  | there {s t : Nat} : Edge tb s t → Lead tb ac t → Lead tb ac s
theorem v_forX {wi : DI} {g : DG} {tb : DS} {D : DEnds} {ρ : DEnv} {C : Cl} (xs : List G.D) (hw : ∀ R : List G.D → Cl → Prop, R xs C → wi ρ C R) (Pv : Nat → DEnv → Cl → Prop) (h0 : Pv 0 ρ C) (hs : ∀ i x ρ C, xs[i]? = some x → Pv i ρ C → g x ρ C fun ρ2 C2 => tb { D with nx := Pv (i + 1), ct := Pv (i + 1), bk := D.nx } ρ2 C2)
    (he : ∀ ρ C, Pv xs.length ρ C → D.nx ρ C) : dFor wi g tb D ρ C := hw _ ⟨Pv, h0, hs, he⟩
theorem v_lcC {wi : DI} {g : DG} {te : DE} {vs : List Nat} {ρ : DEnv} {C1 : Cl} {Q : DQ} (xs : List D) (f : D → D) (hw : ∀ R : List D → Cl → Prop, R xs C1 → wi ρ C1 R) (hl : xs.length ≤ sizeLine)
    (h : ∀ (i : Nat) (x : D) (C : Cl) (N : DQ), xs[i]? = some x → SubC C1 C → N (f x) C → g x (wipeD ρ vs) C fun ρ2 C2 => te ρ2 C2 N) (hq : ∀ p, C1 p = none → Q (.ref p) (updC C1 p (.lst (xs.map f)))) : dLc wi g dYes te vs ρ C1 Q := by
  refine hw _ fun p np => ?_
  refine ⟨fun i C => C = updC C1 p (.lst ((xs.take i).map f)), by simp, fun i x C hx e => ?_, fun C e => ?_⟩
  · subst e
    refine h i x _ _ hx ((SubC.refl C1).new np) ⟨_, updC_same, ?_, ?_⟩
    · have := (List.getElem?_eq_some_iff.mp hx).1
      rw [List.length_map, List.length_take]
      omega
    · show updC (updC C1 p _) p _ = updC C1 p (.lst ((xs.take (i + 1)).map f))
      rw [updC_updC, List.take_add_one, hx, List.map_append]
      rfl
  · subst e
    rw [List.take_length]
    exact hq p np
theorem ix_list {C : Cl} {x d : D} {xs : List D} {j : Nat} {Q : DQ} (h : seqOf C x = some xs) (e : xs[j]? = some d) (q : Q d C) : rIx x (.int (j : Nat)) C Q := ⟨_, rfl, .inr ⟨xs, d, h, atI_nat e, q⟩⟩
theorem seq_cell {C : Cl} {p : Addr} {xs : List D} (h : C p = some (.lst xs)) : seqOf C (.ref p) = some xs := by
  show cellL C p = some xs
  unfold cellL
  rw [h]
theorem ty_cell {C : Cl} {p : Addr} {xs : List D} (h : C p = some (.lst xs)) : tyD "list" (.ref p) C := .inl ⟨rfl, xs, h⟩
theorem app_cell {C : Cl} {p : Addr} {xs : List D} {d : D} {Q : DQ} (h : C p = some (.lst xs)) (hl : xs.length < sizeLine) (q : Q .non (updC C p (.lst (xs ++ [d])))) : rAppend (.ref p) [d] C Q := ⟨p, d, xs, rfl, rfl, h, hl, q⟩
theorem ix_nat {n j : Nat} (hj : j < n) : ixN n (j : Int) = some j := by
  unfold ixN
  rw [if_pos (by omega), if_pos (by omega)]
  simp
theorem set_list {C : Cl} {p : Addr} {xs : List D} {j : Nat} {v : D} {Q : Cl → Prop} (h : C p = some (.lst xs)) (hj : j < xs.length) (q : Q (updC C p (.lst (xs.set j v)))) : rSetL (.ref p) (.int (j : Nat)) v C Q := ⟨p, _, j, xs, rfl, rfl, h, ix_nat hj, q⟩
def natsD (l : List Nat) : D := .lst (l.map fun x => D.int (x : Nat))
/-- what has been entered for row i, up to its column j -/
def Src (tb : Tb) (i j : Nat) (L : List (List Nat)) : Prop := L.length = tb.length ∧ (∀ (t : Nat) (l : List Nat), L[t]? = some l → l.length ≤ i * 94 + j) ∧ ∀ (t : Nat) (l : List Nat), L[t]? = some l → ∀ x, x ∈ l ↔ (x < i ∧ Edge tb x t) ∨ (x = i ∧ ∃ r, tb[i]? = some r ∧ (t : Int) ∈ r.take j)
theorem src_zero {tb : Tb} : Src tb 0 0 (tb.map fun _ => []) := by
  refine ⟨by simp, fun t l h => ?_, fun t l h x => ?_⟩
  · obtain ⟨_, _, rfl⟩ := List.getElem?_map ▸ h |> fun h => Option.map_eq_some_iff.mp h
    simp
  · obtain ⟨_, _, rfl⟩ := List.getElem?_map ▸ h |> fun h => Option.map_eq_some_iff.mp h
    simp
theorem src_row {tb : Tb} {i : Nat} {r : List Int} {L : List (List Nat)} (hr : tb[i]? = some r) (hl : r.length ≤ 94) (h : Src tb i r.length L) : Src tb (i + 1) 0 L := by
  obtain ⟨h1, h2, h3⟩ := h
  refine ⟨h1, fun t l e => Nat.le_trans (h2 t l e) (by omega), fun t l e x => ?_⟩
  rw [h3 t l e x]
  constructor
  · rintro (⟨a, b⟩ | ⟨rfl, r', e', hm⟩)
    · exact .inl ⟨by omega, b⟩
    · rw [hr] at e'
      cases e'
      rw [List.take_length] at hm
      exact .inl ⟨by omega, r, hr, hm⟩
  · rintro (⟨a, b⟩ | ⟨rfl, r', e', hm⟩)
    · by_cases z : x = i
      · subst z
        obtain ⟨r', e', hm⟩ := b
        rw [hr] at e'
        cases e'
        exact .inr ⟨rfl, r, hr, by rw [List.take_length]; exact hm⟩
      · exact .inl ⟨by omega, b⟩
    · simp at hm
theorem src_skip {tb : Tb} {i j : Nat} {r : List Int} {u : Int} {L : List (List Nat)} (hr : tb[i]? = some r) (hu : r[j]? = some u) (hn : u < 0) (h : Src tb i j L) : Src tb i (j + 1) L := by
  obtain ⟨h1, h2, h3⟩ := h
  refine ⟨h1, fun t l e => Nat.le_trans (h2 t l e) (by omega), fun t l e x => ?_⟩
  rw [h3 t l e x]
  refine or_congr Iff.rfl (and_congr Iff.rfl ⟨fun ⟨r', e', hm⟩ => ⟨r', e', ?_⟩, fun ⟨r', e', hm⟩ => ⟨r', e', ?_⟩⟩)
  · rw [List.take_add_one]
    exact List.mem_append_left _ hm
  · rw [hr] at e'
    cases e'
    rw [List.take_add_one, hu] at hm
    rcases List.mem_append.mp hm with z | z
    · exact z
    · have := List.mem_singleton.mp z
      omega
theorem src_add {tb : Tb} {i j t0 : Nat} {r : List Int} {l0 : List Nat} {L : List (List Nat)} (hr : tb[i]? = some r) (hu : r[j]? = some (t0 : Int)) (h0 : L[t0]? = some l0) (h : Src tb i j L) : Src tb i (j + 1) (L.set t0 (l0 ++ [i])) := by
  obtain ⟨h1, h2, h3⟩ := h
  have ht : t0 < L.length := (List.getElem?_eq_some_iff.mp h0).1
  have key : ∀ t l, (L.set t0 (l0 ++ [i]))[t]? = some l → (t = t0 ∧ l = l0 ++ [i]) ∨ (t ≠ t0 ∧ L[t]? = some l) := fun t l e => by
    by_cases z : t = t0
    · subst z
      rw [List.getElem?_set_self ht] at e
      exact .inl ⟨rfl, (Option.some.inj e).symm⟩
    · rw [List.getElem?_set_ne (Ne.symm z)] at e
      exact .inr ⟨z, e⟩
  refine ⟨by rw [List.length_set]; exact h1, fun t l e => ?_, fun t l e x => ?_⟩
  · rcases key t l e with ⟨rfl, rfl⟩ | ⟨_, e'⟩
    · have := h2 t l0 h0
      rw [List.length_append, List.length_singleton]
      omega
    · have := h2 t l e'
      omega
  · rcases key t l e with ⟨rfl, rfl⟩ | ⟨ne, e'⟩
    · rw [List.mem_append, List.mem_singleton, h3 t l0 h0 x]
      constructor
      · rintro ((a | ⟨rfl, r', e', hm⟩) | rfl)
        · exact .inl a
        · exact .inr ⟨rfl, r', e', by rw [List.take_add_one]; exact List.mem_append_left _ hm⟩
        · exact .inr ⟨rfl, r, hr, by rw [List.take_add_one, hu]; exact List.mem_append_right _ (List.mem_singleton.mpr rfl)⟩
      · rintro (a | ⟨rfl, r', e', hm⟩)
        · exact .inl (.inl a)
        · exact .inr rfl
    · rw [h3 t l e' x]
      refine or_congr Iff.rfl (and_congr Iff.rfl ⟨fun ⟨r', e', hm⟩ => ⟨r', e', ?_⟩, fun ⟨r', e', hm⟩ => ⟨r', e', ?_⟩⟩)
      · rw [List.take_add_one]
        exact List.mem_append_left _ hm
      · rw [hr] at e'
        cases e'
        rw [List.take_add_one, hu] at hm
        rcases List.mem_append.mp hm with z | z
        · exact z
        · have := List.mem_singleton.mp z
          exact absurd (Int.ofNat.inj this) ne
/-- where it is true -/
def truesF : Nat → List Bool → List Nat
  | _, [] => []
  | k, true :: bs => k :: truesF (k + 1) bs
  | k, false :: bs => truesF (k + 1) bs
theorem mem_truesF : ∀ {bs : List Bool} {k s : Nat}, s ∈ truesF k bs ↔ k ≤ s ∧ bs[s - k]? = some true
  | [], k, s => by simp [truesF]
  | true :: bs, k, s => by
    unfold truesF
    rw [List.mem_cons, mem_truesF]
    by_cases h : s = k
    · subst h
      simp
    · constructor
      · rintro (z | ⟨a, b⟩)
        · exact absurd z h
        · refine ⟨by omega, ?_⟩
          rw [show s - k = (s - (k + 1)) + 1 by omega, List.getElem?_cons_succ]
          exact b
      · rintro ⟨a, b⟩
        rw [show s - k = (s - (k + 1)) + 1 by omega, List.getElem?_cons_succ] at b
        exact .inr ⟨by omega, b⟩
  | false :: bs, k, s => by
    unfold truesF
    rw [mem_truesF]
    by_cases h : s = k
    · subst h
      simp
      omega
    · constructor
      · rintro ⟨a, b⟩
        refine ⟨by omega, ?_⟩
        rw [show s - k = (s - (k + 1)) + 1 by omega, List.getElem?_cons_succ]
        exact b
      · rintro ⟨a, b⟩
        rw [show s - k = (s - (k + 1)) + 1 by omega, List.getElem?_cons_succ] at b
        exact ⟨by omega, b⟩
theorem len_truesF : ∀ (k : Nat) (bs : List Bool), (truesF k bs).length ≤ bs.length
  | _, [] => Nat.le_refl _
  | k, true :: bs => by
    have := len_truesF (k + 1) bs
    unfold truesF
    rw [List.length_cons, List.length_cons]
    omega
  | k, false :: bs => by
    have := len_truesF (k + 1) bs
    unfold truesF
    rw [List.length_cons]
    omega
def truF : D → Option D
  | .tup [i, .bl true] => some i
  | _ => none
theorem truF_eq : ∀ (k : Nat) (bs : List Bool), (numbered k (bs.map D.bl)).filterMap truF = (truesF k bs).map fun x => D.int (x : Nat)
  | _, [] => rfl
  | k, true :: bs => by
    rw [List.map_cons]
    unfold numbered truesF
    rw [List.filterMap_cons, truF_eq (k + 1) bs]
    rfl
  | k, false :: bs => by
    rw [List.map_cons]
    unfold numbered truesF
    rw [List.filterMap_cons, truF_eq (k + 1) bs]
    rfl
def falses : List Bool → Nat
  | [] => 0
  | true :: bs => falses bs
  | false :: bs => falses bs + 1
theorem falses_set : ∀ {bs : List Bool} {s : Nat}, bs[s]? = some false → falses (bs.set s true) + 1 = falses bs
  | false :: bs, 0, _ => rfl
  | true :: bs, 0, h => by cases h
  | b :: bs, s + 1, h => by
    rw [List.getElem?_cons_succ] at h
    have := falses_set h
    rw [List.set_cons_succ]
    cases b
    · unfold falses
      omega
    · unfold falses
      exact this
theorem falses_len : ∀ bs : List Bool, falses bs ≤ bs.length
  | [] => Nat.le_refl _
  | true :: bs => by
    have := falses_len bs
    unfold falses
    rw [List.length_cons]
    omega
  | false :: bs => by
    have := falses_len bs
    unfold falses
    rw [List.length_cons]
    omega
/-- what is marked, what is to be looked at still -/
structure Mk (tb : Tb) (ac us : List Bool) (es : List Nat) : Prop where
  len : us.length = tb.length
  ends : ∀ s : Nat, ac[s]? = some true → us[s]? = some true
  lead : ∀ s : Nat, us[s]? = some true → Lead tb ac s
  sub : ∀ s ∈ es, us[s]? = some true
  done : ∀ t : Nat, us[t]? = some true → t ∉ es → ∀ s, Edge tb s t → us[s]? = some true
/-- amid a round: fs is left, ls has come up, of the first of fs the sources qs are looked at -/
structure Md (tb : Tb) (ac us0 us : List Bool) (fs ls : List Nat) (qs : List Nat) : Prop where
  len : us.length = tb.length
  ends : ∀ s : Nat, ac[s]? = some true → us[s]? = some true
  lead : ∀ s : Nat, us[s]? = some true → Lead tb ac s
  sub : ∀ s ∈ fs ++ ls, us[s]? = some true
  cnt : falses us + ls.length = falses us0
  done : ∀ t : Nat, us[t]? = some true → t ∉ fs → t ∉ ls → ∀ s, Edge tb s t → us[s]? = some true
  now : ∀ s ∈ qs, us[s]? = some true
theorem Md.old {tb : Tb} {ac us0 us : List Bool} {fs ls qs : List Nat} {s : Nat} (h : Md tb ac us0 us fs ls qs) (hs : us[s]? = some true) : Md tb ac us0 us fs ls (qs ++ [s]) :=
  ⟨h.len, h.ends, h.lead, h.sub, h.cnt, h.done, fun x hx => (List.mem_append.mp hx).elim (h.now x) fun e => by rw [List.mem_singleton.mp e]; exact hs⟩
theorem set_true {us : List Bool} {s x : Nat} (hs : s < us.length) : (us.set s true)[x]? = some true ↔ x = s ∨ us[x]? = some true := by
  by_cases e : x = s
  · subst e
    rw [List.getElem?_set_self hs]
    simp
  · rw [List.getElem?_set_ne (Ne.symm e)]
    simp [e]
theorem Md.fresh {tb : Tb} {ac us0 us : List Bool} {fs ls qs : List Nat} {s t : Nat} (h : Md tb ac us0 us (t :: fs) ls qs) (hs : us[s]? = some false) (he : Edge tb s t) : Md tb ac us0 (us.set s true) (t :: fs) (ls ++ [s]) (qs ++ [s]) := by
  have hl : s < us.length := (List.getElem?_eq_some_iff.mp hs).1
  have mono : ∀ x : Nat, us[x]? = some true → (us.set s true)[x]? = some true := fun x hx => (set_true hl).mpr (.inr hx)
  have me : (us.set s true)[s]? = some true := (set_true hl).mpr (.inl rfl)
  refine ⟨by rw [List.length_set]; exact h.len, fun x hx => mono x (h.ends x hx), fun x hx => ?_, fun x hx => ?_, ?_, fun x hx h1 h2 y hy => ?_, fun x hx => ?_⟩
  · rcases (set_true hl).mp hx with e | e
    · rw [e]
      exact .there he (h.lead t (h.sub t (List.mem_append_left _ List.mem_cons_self)))
    · exact h.lead x e
  · rw [← List.append_assoc] at hx
    rcases List.mem_append.mp hx with e | e
    · exact mono x (h.sub x e)
    · rw [List.mem_singleton.mp e]
      exact me
  · have := falses_set hs
    have := h.cnt
    rw [List.length_append, List.length_singleton]
    omega
  · rcases (set_true hl).mp hx with e | e
    · exact absurd (List.mem_append_right _ (List.mem_singleton.mpr e)) h2
    · exact mono y (h.done x e h1 (fun z => h2 (List.mem_append_left _ z)) y hy)
  · rcases List.mem_append.mp hx with e | e
    · exact mono x (h.now x e)
    · rw [List.mem_singleton.mp e]
      exact me
theorem Md.next {tb : Tb} {ac us0 us : List Bool} {fs ls qs : List Nat} {t : Nat} (h : Md tb ac us0 us (t :: fs) ls qs) (hq : ∀ s, Edge tb s t → s ∈ qs) : Md tb ac us0 us fs ls [] :=
  ⟨h.len, h.ends, h.lead, fun x hx => h.sub x (by rw [List.cons_append]; exact List.mem_cons_of_mem _ hx), h.cnt, fun x hx h1 h2 y hy => by
    by_cases e : x = t
    · subst e
      exact h.now y (hq y hy)
    · exact h.done x hx (fun z => (List.mem_cons.mp z).elim e h1) h2 y hy, nofun⟩
theorem Mk.start {tb : Tb} {ac us : List Bool} {es : List Nat} (h : Mk tb ac us es) : Md tb ac us us es [] [] :=
  ⟨h.len, h.ends, h.lead, by rw [List.append_nil]; exact h.sub, by simp, fun t ht h1 _ => h.done t ht h1, nofun⟩
theorem Md.stop {tb : Tb} {ac us0 us : List Bool} {ls : List Nat} (h : Md tb ac us0 us [] ls []) : Mk tb ac us ls :=
  ⟨h.len, h.ends, h.lead, fun s hs => h.sub s (by simpa using hs), fun t ht h1 => h.done t ht (by simp) h1⟩
theorem Mk.all {tb : Tb} {ac us : List Bool} (h : Mk tb ac us []) : ∀ s, Lead tb ac s → us[s]? = some true := fun s l => by
  induction l with
  | here e => exact h.ends _ e
  | there e _ ih => exact h.done _ ih (by simp) _ e
theorem mk_zero {tb : Tb} {ac : List Bool} (ok : TbOk tb ac) : Mk tb ac ac (truesF 0 ac) :=
  ⟨ok.len, fun _ h => h, fun _ h => .here h, fun s hs => by simpa using (mem_truesF.mp hs).2, fun t ht h => absurd (mem_truesF.mpr ⟨Nat.zero_le _, by simpa using ht⟩) h⟩
def sp_useful_states : DSp := fun ds C Q _ => ∃ tb ac, ds = [tbD tb, blD ac] ∧ TbOk tb ac ∧ ∀ us : List Bool, us.length = tb.length → (∀ s, us[s]? = some true ↔ (s < tb.length ∧ Lead tb ac s)) → Q (blD us) C
def td_useful_states : DS :=
  (dSeq (dAsg (dLc (diList (dVar 0)) (dName 9) dYes (dLst dNil) [9]) (dName 2))
    (dSeq (dFor (diEnumS (dCons (dVar 0) dNil)) (dgTup 2 (dgCons (dName 8) (dgCons (dName 9) dgNil)))
    (dFor (diList (dVar 9)) (dName 3)
    (dIfS (dTest (dOp rGeD (dVar 3) (dC (.int 0)))) (dAsg (dAdd (dOp rIx (dVar 2) (dVar 3)) (dLst (dCons (dVar 8) dNil))) (dgSub (dVar 2) (dVar 3) rSetL)) dNext)))
    (dSeq (dAsg (dCB rListC (dCons (dVar 1) dNil)) (dName 4))
    (dSeq (dAsg (dFz (dLc (diEnumS (dCons (dVar 1) dNil)) (dgTup 2 (dgCons (dName 8) (dgCons (dName 10) dgNil))) (dTest (dVar 10)) (dVar 8) [8, 10])) (dName 5))
    (dSeq (dWhile (dTest (dOp rGtD (dCB rLen (dCons (dVar 5) dNil)) (dC (.int 0)))) (dSeq (dAsg (dLstC dNil) (dName 6))
    (dSeq (dFor (diList (dVar 5)) (dName 7)
    (dFor (diList (dOp rIx (dVar 2) (dVar 7))) (dName 8)
    (dIfS (dNot (dTest (dOp rIx (dVar 4) (dVar 8)))) (dSeq (dAsg (dC (.bl true)) (dgSub (dVar 4) (dVar 8) rSetL))
    (dDrop (dBM "list" rAppend (dVar 6) (dCons (dVar 8) dNil)))) dNext)))
    (dAsg (dCB rList (dCons (dVar 6) dNil)) (dName 5)))))
    (dRet (dVar 4)))))))
theorem len_useful_states (ds : List D) (C : Cl) (Q : DQ) (E : DX) (h : sp_useful_states ds C Q E) : ds.length = 2 := by repeat (first | (obtain ⟨rfl, _⟩ := h; exact rfl) | (obtain ⟨_, h⟩ := h))
theorem pure_useful_states (ds : List D) (C : Cl) (Q : DQ) (E : DX) (h : sp_useful_states ds C Q E) : td_useful_states (endsD Q) (startD ["table", "accepts", "sources", "target", "useful", "ends", "later", "end", "state", "row", "told"] ds) C := by
  obtain ⟨tb, ac, rfl, ok, hq⟩ := h
  have hn := ok.small
  unfold td_useful_states
  refine v_ends ?_
  simp only [startD, List.map_cons, List.map_nil, List.length_cons, List.length_nil, Nat.reduceAdd, Nat.reduceSub, List.reduceReplicate, List.cons_append, List.nil_append]
  array_mem_dec
  refine v_lcC (tb.map rowD) (fun _ => .lst []) (fun R h => ?_) (szl (by rw [List.length_map]; omega)) (fun i x C' N hx s hN => ?_) fun p hp => ?_
  · array_mem_dec
    exact ⟨_, rfl, h⟩
  · array_mem_dec
    exact hN
  array_mem_dec
  rw [show (tb.map rowD).map (fun _ => D.lst []) = (tb.map fun _ => ([] : List Nat)).map natsD from by rw [List.map_map, List.map_map]; rfl]
  refine v_forX (numbered 0 (tb.map rowD)) (fun R h => ?_) (fun i ρ C' => ∃ s3 s8 s9 L, ρ = [some (tbD tb), some (blD ac), some (.ref p), s3, none, none, none, none, s8, s9, none] ∧ C' = updC C p (.lst (L.map natsD)) ∧ Src tb i 0 L) ⟨_, _, _, _, rfl, rfl, src_zero⟩ ?_ ?_
  · array_mem_dec
    exact ⟨_, _, rfl, rfl, h⟩
  · rintro i d ρ C' hd ⟨s3, s8, s9, L, rfl, rfl, hS⟩
    obtain ⟨d', hd', rfl⟩ := numbered_get hd
    rw [List.getElem?_map] at hd'
    obtain ⟨r, hr, rfl⟩ := Option.map_eq_some_iff.mp hd'
    have hrm : r ∈ tb := List.mem_of_getElem? hr
    obtain ⟨r94, rlt⟩ := ok.row r hrm
    array_mem_dec
    refine v_forX (r.map D.int) (fun R h => ?_) (fun j ρ C' => ∃ s3 L, ρ = [some (tbD tb), some (blD ac), some (.ref p), s3, none, none, none, none, some (.int (i : Nat)), some (rowD r), none] ∧ C' = updC C p (.lst (L.map natsD)) ∧ Src tb i j L) ⟨_, L, by rw [Nat.zero_add], rfl, hS⟩ ?_ ?_
    · array_mem_dec
      exact ⟨_, rfl, h⟩
    · rintro j d ρ C' hd ⟨s3, L, rfl, rfl, hS⟩
      rw [List.getElem?_map] at hd
      obtain ⟨u, hu, rfl⟩ := Option.map_eq_some_iff.mp hd
      array_mem_dec
      refine ite_d (fun h0 => ?_) (fun h0 => ?_)
      · obtain ⟨t0, rfl⟩ := Int.eq_ofNat_of_zero_le h0
        have ht0 : t0 < tb.length := by have := rlt _ (List.mem_of_getElem? hu); omega
        have hL : t0 < L.length := by rw [hS.1]; exact ht0
        obtain ⟨l0, hl0⟩ : ∃ l0, L[t0]? = some l0 := ⟨_, List.getElem?_eq_getElem hL⟩
        array_mem_dec
        refine ix_list (seq_cell updC_same) (d := natsD l0) (by rw [List.getElem?_map, hl0]; rfl) ?_
        array_mem_dec
        have hi : i < tb.length := (List.getElem?_eq_some_iff.mp hr).1
        have hj : j < r.length := (List.getElem?_eq_some_iff.mp hu).1
        have hlb := hS.2.1 t0 l0 hl0
        refine ⟨natsD (l0 ++ [i]), by unfold natsD; rw [List.map_append]; rfl, (show ((l0 ++ [i]).map fun x => D.int (x : Nat)).length ≤ sizeLine from szl (by rw [List.length_map, List.length_append, List.length_singleton]; omega)), ?_⟩
        array_mem_dec
        refine set_list updC_same (by rw [List.length_map]; exact hL) ?_
        rw [updC_updC, ← List.map_set]
        exact ⟨_, _, rfl, rfl, src_add hr hu hl0 hS⟩
      · array_mem_dec
        exact ⟨_, L, rfl, rfl, src_skip hr hu (by omega) hS⟩
    · rintro ρ C' ⟨s3, L, rfl, rfl, hS⟩
      rw [List.length_map] at hS
      exact ⟨_, _, _, L, rfl, rfl, src_row hr r94 hS⟩
  · rintro ρ C' ⟨s3, s8, s9, L, rfl, rfl, hS⟩
    rw [numbered_length, List.length_map] at hS
    array_mem_dec
    refine ⟨_, ac.map D.bl, rfl, rfl, fun q hq0 => ?_⟩
    have npq : p ≠ q := fun e => by rw [← e, updC_same] at hq0; cases hq0
    have hqC : C q = none := by rw [← hq0, updC_ne (Ne.symm npq)]
    array_mem_dec
    refine v_lcfil (xs := numbered 0 (ac.map D.bl)) truF (fun R h => ?_) (szl (by rw [numbered_length, List.length_map, ok.len]; omega)) (fun i x C' N S hx s h1 h2 => ?_) ?_
    · array_mem_dec
      exact ⟨_, _, rfl, rfl, h⟩
    · obtain ⟨d, hd, rfl⟩ := numbered_get hx
      rw [List.getElem?_map] at hd
      obtain ⟨b, hb, rfl⟩ := Option.map_eq_some_iff.mp hd
      array_mem_dec
      cases b with
      | true =>
        array_mem_dec
        exact h1 _ rfl
      | false =>
        array_mem_dec
        exact h2 rfl
    rw [truF_eq]
    array_mem_dec
    have sC : SubC C (updC (updC C p (.lst (L.map natsD))) q (.lst (ac.map D.bl))) := ((SubC.refl C).new hp).new hqC
    refine ⟨fun m ρ C' => ∃ s3 s6 s7 s8 s9 s10 us es, ρ = [some (tbD tb), some (blD ac), some (.ref p), s3, some (.ref q), some (natsD es), s6, s7, s8, s9, s10] ∧ C' p = some (.lst (L.map natsD)) ∧ C' q = some (.lst (us.map D.bl)) ∧ SubC C C' ∧ Mk tb ac us es ∧ es.length ≤ tb.length ∧ m = 2 * falses us + (if es = [] then 0 else 1), ⟨_, _, _, _, _, _, _, ac, truesF 0 ac, rfl, by rw [updC_ne npq, updC_same], updC_same, sC, mk_zero ok, Nat.le_trans (len_truesF 0 ac) (Nat.le_of_eq ok.len), rfl⟩, ?_⟩
    rintro m ρ C' ⟨s3, s6, s7, s8, s9, s10, us, es, rfl, cp, cq, sC', mk, esl, rfl⟩
    have lenes : rLen [natsD es] C' = fun Q => rLen [natsD es] C' Q := rfl
    array_mem_dec
    refine ⟨natsD es, _, rfl, rfl, trivial, ?_⟩
    rw [List.length_map]
    array_mem_dec
    by_cases he : es = []
    · subst he
      array_mem_dec
      refine ⟨blD us, C, .trans (.lst cq) (.drop fun a c ha => ?_), hq us mk.len fun s => ⟨fun h => ⟨by have := (List.getElem?_eq_some_iff.mp h).1; rw [mk.len] at this; exact this, mk.lead s h⟩, fun h => mk.all s h.2⟩⟩
      have : a ≠ q := fun e => by rw [e, hqC] at ha; cases ha
      unfold delC
      rw [if_neg this]
      exact sC' a c ha
    · have hpos : 0 < es.length := List.length_pos_iff.mpr he
      array_mem_dec
      intro r hr0
      have npr : p ≠ r := fun e => by rw [← e, cp] at hr0; cases hr0
      have nqr : q ≠ r := fun e => by rw [← e, cq] at hr0; cases hr0
      have hrC : C r = none := by
        cases e : C r with
        | none => rfl
        | some c => rw [sC' r c e] at hr0; cases hr0
      array_mem_dec
      refine v_forX (es.map fun x => D.int (x : Nat)) (fun R h => ?_) (fun i ρ C'' => ∃ s3 s7 s8 s9 s10 us' ls, ρ = [some (tbD tb), some (blD ac), some (.ref p), s3, some (.ref q), some (natsD es), some (.ref r), s7, s8, s9, s10] ∧ C'' p = some (.lst (L.map natsD)) ∧ C'' q = some (.lst (us'.map D.bl)) ∧ C'' r = some (.lst (ls.map fun x => D.int (x : Nat))) ∧ SubC C C'' ∧ Md tb ac us us' (es.drop i) ls []) ⟨_, _, _, _, _, us, [], rfl, by rw [updC_ne npr]; exact cp, by rw [updC_ne nqr]; exact cq, updC_same, sC'.new hrC, mk.start⟩ ?_ ?_
      · array_mem_dec
        exact ⟨_, rfl, h⟩
      · rintro i d ρ C'' hd ⟨s3, s7, s8, s9, s10, us', ls, rfl, cp, cq, cr, sC'', md⟩
        rw [List.getElem?_map] at hd
        obtain ⟨e, hei, rfl⟩ := Option.map_eq_some_iff.mp hd
        have hdr : es.drop i = e :: es.drop (i + 1) := by
          rw [← List.drop_drop, ← List.getElem_cons_drop (List.getElem?_eq_some_iff.mp hei).1, (List.getElem?_eq_some_iff.mp hei).2]
          simp
        rw [hdr] at md
        have heu := md.sub e (List.mem_append_left _ List.mem_cons_self)
        have hen : e < tb.length := by have := (List.getElem?_eq_some_iff.mp heu).1; rw [md.len] at this; exact this
        obtain ⟨l, hl⟩ : ∃ l, L[e]? = some l := ⟨_, List.getElem?_eq_getElem (by rw [hS.1]; exact hen)⟩
        have hml : ∀ x, x ∈ l ↔ x < tb.length ∧ Edge tb x e := fun x => by
          rw [hS.2.2 e l hl x]
          constructor
          · rintro (z | ⟨_, r', e', hm⟩)
            · exact z
            · simp at hm
          · exact .inl
        array_mem_dec
        refine v_forX (l.map fun x => D.int (x : Nat)) (fun R h => ?_) (fun j ρ C'' => ∃ s3 s8 s9 s10 us' ls, ρ = [some (tbD tb), some (blD ac), some (.ref p), s3, some (.ref q), some (natsD es), some (.ref r), some (.int (e : Nat)), s8, s9, s10] ∧ C'' p = some (.lst (L.map natsD)) ∧ C'' q = some (.lst (us'.map D.bl)) ∧ C'' r = some (.lst (ls.map fun x => D.int (x : Nat))) ∧ SubC C C'' ∧ Md tb ac us us' (e :: es.drop (i + 1)) ls (l.take j)) ⟨_, _, _, _, us', ls, rfl, cp, cq, cr, sC'', md⟩ ?_ ?_
        · array_mem_dec
          refine ix_list (seq_cell cp) (d := natsD l) (by rw [List.getElem?_map, hl]; rfl) ?_
          exact ⟨_, rfl, h⟩
        · rintro j d ρ C'' hd ⟨s3, s8, s9, s10, us', ls, rfl, cp, cq, cr, sC'', md⟩
          rw [List.getElem?_map] at hd
          obtain ⟨x, hxj, rfl⟩ := Option.map_eq_some_iff.mp hd
          have hxm := (hml x).mp (List.mem_of_getElem? hxj)
          have hxl : x < us'.length := by rw [md.len]; exact hxm.1
          obtain ⟨b, hb⟩ : ∃ b, us'[x]? = some b := ⟨_, List.getElem?_eq_getElem hxl⟩
          have htk : l.take (j + 1) = l.take j ++ [x] := by rw [List.take_add_one, hxj]; rfl
          array_mem_dec
          refine ix_list (seq_cell cq) (d := .bl b) (by rw [List.getElem?_map, hb]; rfl) ?_
          array_mem_dec
          cases b with
          | true =>
            array_mem_dec
            exact ⟨_, _, _, _, us', ls, rfl, cp, cq, cr, sC'', by rw [htk]; exact md.old hb⟩
          | false =>
            array_mem_dec
            refine set_list cq (by rw [List.length_map]; exact hxl) ?_
            array_mem_dec
            have hcnt := md.cnt
            have hfl := falses_len us
            rw [mk.len] at hfl
            have cr' : updC C'' q (.lst ((us'.map D.bl).set x (.bl true))) r = some (.lst (ls.map fun x => D.int (x : Nat))) := by rw [updC_ne (Ne.symm nqr)]; exact cr
            refine ⟨ty_cell cr', ?_⟩
            array_mem_dec
            refine app_cell cr' (by rw [List.length_map, sizeLine_eq]; omega) ?_
            refine ⟨_, _, _, _, us'.set x true, ls ++ [x], rfl, by rw [updC_ne npr, updC_ne npq]; exact cp, by rw [updC_ne nqr, updC_same, List.map_set], by rw [updC_same, List.map_append]; rfl, ?_, by rw [htk]; exact md.fresh hb hxm.2⟩
            intro a c ha
            have h1 : a ≠ q := fun e => by rw [e, hqC] at ha; cases ha
            have h2 : a ≠ r := fun e => by rw [e, hrC] at ha; cases ha
            rw [updC_ne h2, updC_ne h1]
            exact sC'' a c ha
        · rintro ρ C'' ⟨s3, s8, s9, s10, us', ls, rfl, cp, cq, cr, sC'', md⟩
          rw [List.length_map, List.take_length] at md
          exact ⟨_, _, _, _, _, us', ls, rfl, cp, cq, cr, sC'', md.next fun s hs => (hml s).mpr ⟨by obtain ⟨r', hr', _⟩ := hs; exact (List.getElem?_eq_some_iff.mp hr').1, hs⟩⟩
      · rintro ρ C'' ⟨s3, s7, s8, s9, s10, us', ls, rfl, cp, cq, cr, sC'', md⟩
        rw [List.length_map, List.drop_length] at md
        array_mem_dec
        refine ⟨_, _, rfl, seq_cell cr, ?_⟩
        array_mem_dec
        have hcnt := md.cnt
        have hfl := falses_len us
        rw [mk.len] at hfl
        refine ⟨_, ?_, _, _, _, _, _, _, us', ls, rfl, cp, cq, sC'', md.stop, by omega, rfl⟩
        rw [if_neg he]
        by_cases hz : ls = []
        · rw [if_pos hz]
          rw [hz] at hcnt
          simp at hcnt
          omega
        · rw [if_neg hz]
          have := List.length_pos_iff.mpr hz
          omega
end G
set_option maxHeartbeats 2000000
namespace G
open PySem PySem.Spec PyProof.Rows L2
local macro_rules | `(tactic| decreasing_trivial_pre_omega) => `(tactic| first | with_reducible refine v_setdN ?_ | with_reducible refine v_putN ?_ | with_reducible refine v_d1N ?_ | with_reducible refine v_d1K ?_ | with_reducible refine v_newN ?_ | with_reducible refine v_exi ?_ | with_reducible refine v_exf ?_ | with_reducible refine v_exv ?_ | with_reducible refine v_con ?_ | with_reducible refine v_tryN ?_ | with_reducible refine v_pnil ?_ | with_reducible refine v_pcons ?_ | with_reducible refine v_dictD ?_ | with_reducible refine v_get1 ?_)
/-! ### what a table takes; its states, grouped -/
def tgt (tb : Tb) (s c : Nat) : Option Nat := (tb[s]?).bind fun r => (r[c]?).bind fun t => if 0 ≤ t then some t.toNat else none
def accW (tb : Tb) (ac : List Bool) : Nat → List Nat → Bool
  | s, [] => ac[s]? == some true
  | s, c :: w => match tgt tb s c with
    | some t => accW tb ac t w
    | none => false
theorem tgt_some {tb : Tb} {s c t : Nat} (h : tgt tb s c = some t) : ∃ r, tb[s]? = some r ∧ r[c]? = some (t : Int) := by
  unfold tgt at h
  obtain ⟨r, hr, h⟩ := Option.bind_eq_some_iff.mp h
  obtain ⟨u, hu, h⟩ := Option.bind_eq_some_iff.mp h
  split at h
  · cases h
    exact ⟨r, hr, by rw [hu, Int.toNat_of_nonneg (by assumption)]⟩
  · cases h
theorem tgt_eq {tb : Tb} {s c t : Nat} {r : List Int} (hr : tb[s]? = some r) (hc : r[c]? = some (t : Int)) : tgt tb s c = some t := by
  unfold tgt
  rw [hr, Option.bind_some, hc, Option.bind_some, if_pos (by omega)]
  simp
theorem tgt_neg {tb : Tb} {s c : Nat} {r : List Int} {u : Int} (hr : tb[s]? = some r) (hc : r[c]? = some u) (hn : u < 0) : tgt tb s c = none := by
  unfold tgt
  rw [hr, Option.bind_some, hc, Option.bind_some, if_neg (by omega)]
theorem lead_acc {tb : Tb} {ac : List Bool} {s : Nat} : Lead tb ac s ↔ ∃ w, accW tb ac s w = true := by
  constructor
  · intro h
    induction h with
    | here e => exact ⟨[], by unfold accW; rw [e]; rfl⟩
    | there e _ ih =>
      obtain ⟨w, hw⟩ := ih
      obtain ⟨r, hr, hm⟩ := e
      obtain ⟨c, hc⟩ := List.mem_iff_getElem?.mp hm
      exact ⟨c :: w, by unfold accW; rw [tgt_eq hr hc]; exact hw⟩
  · rintro ⟨w, hw⟩
    induction w generalizing s with
    | nil =>
      unfold accW at hw
      exact .here (by simpa using hw)
    | cons c w ih =>
      unfold accW at hw
      cases e : tgt tb s c with
      | none => rw [e] at hw; cases hw
      | some t =>
        rw [e] at hw
        obtain ⟨r, hr, hc⟩ := tgt_some e
        exact .there ⟨r, hr, List.mem_of_getElem? hc⟩ (ih hw)
theorem not_lead {tb : Tb} {ac : List Bool} {s : Nat} (h : ¬ Lead tb ac s) (w : List Nat) : accW tb ac s w = false := by
  cases e : accW tb ac s w with
  | false => rfl
  | true => exact absurd (lead_acc.mpr ⟨w, e⟩) h
/-- marked as it should be -/
structure UsOk (tb : Tb) (ac us : List Bool) : Prop where
  len : us.length = tb.length
  iff : ∀ s, us[s]? = some true ↔ (s < tb.length ∧ Lead tb ac s)
theorem UsOk.neg {tb : Tb} {ac us : List Bool} (h : UsOk tb ac us) {s : Nat} (hs : us[s]? ≠ some true) (hn : s < tb.length) (w : List Nat) : accW tb ac s w = false := not_lead (fun l => hs ((h.iff s).mpr ⟨hn, l⟩)) w
/-- where it stands -/
abbrev posF {α : Type} [DecidableEq α] (l : List α) (a : α) : Nat := l.idxOf a
abbrev gAt (gs : List Int) (s : Nat) : Int := gs.getD s (-1)
/-- a group's mark of a target -/
def gT (gs : List Int) (u : Int) : Int := if 0 ≤ u then gAt gs u.toNat else -1
/-- the key of a state -/
def gk (tb : Tb) (gs : List Int) (s : Nat) : Int × List Int := (gAt gs s, (tb.getD s []).map (gT gs))
def keysG (tb : Tb) (us : List Bool) (gs : List Int) : List (Int × List Int) := (truesF 0 us).map (gk tb gs)
def nextG (tb : Tb) (us : List Bool) (gs : List Int) : List Int := (List.range us.length).map fun s => if us[s]? = some true then ((posF (firsts (keysG tb us gs)) (gk tb gs s) : Nat) : Int) else -1
/-- grouped so far -/
structure Gi (tb : Tb) (ac us : List Bool) (gs : List Int) : Prop where
  len : gs.length = tb.length
  neg : ∀ s, us[s]? ≠ some true → gAt gs s = -1
  pos : ∀ s, us[s]? = some true → 0 ≤ gAt gs s
  acc : ∀ s t : Nat, us[s]? = some true → us[t]? = some true → gAt gs s = gAt gs t → ac[s]? = ac[t]?
  sound : ∀ s t, us[s]? = some true → us[t]? = some true → (∀ w, accW tb ac s w = accW tb ac t w) → gAt gs s = gAt gs t
/-- grouped for good -/
structure Grp (tb : Tb) (ac us : List Bool) (gs : List Int) : Prop where
  len : gs.length = tb.length
  neg : ∀ s, us[s]? ≠ some true → gAt gs s = -1
  pos : ∀ s, us[s]? = some true → 0 ≤ gAt gs s
  eqv : ∀ s t, us[s]? = some true → us[t]? = some true → (gAt gs s = gAt gs t ↔ ∀ w, accW tb ac s w = accW tb ac t w)
def TbW (tb : Tb) (k : Nat) : Prop := ∀ r ∈ tb, r.length = k
theorem mem_us {us : List Bool} {s : Nat} : s ∈ truesF 0 us ↔ us[s]? = some true := by
  rw [mem_truesF]
  simp
theorem next_at {tb : Tb} {us : List Bool} {gs : List Int} {s : Nat} : gAt (nextG tb us gs) s = if us[s]? = some true then ((posF (firsts (keysG tb us gs)) (gk tb gs s) : Nat) : Int) else -1 := by
  unfold gAt nextG
  rw [List.getD_eq_getElem?_getD, List.getElem?_map]
  by_cases h : s < us.length
  · rw [List.getElem?_range h]
    rfl
  · rw [List.getElem?_eq_none (by rw [List.length_range]; omega), if_neg (by rw [List.getElem?_eq_none (by omega)]; simp)]
    rfl
theorem idx_inj {α : Type} [DecidableEq α] {l : List α} {a b : α} (ha : a ∈ l) (hb : b ∈ l) (h : l.idxOf a = l.idxOf b) : a = b := by
  have h1 := List.getElem_idxOf (List.idxOf_lt_length_iff.mpr ha)
  have h2 := List.getElem_idxOf (List.idxOf_lt_length_iff.mpr hb)
  rw [← h1, ← h2]
  congr 1
theorem mem_keys {tb : Tb} {us : List Bool} {gs : List Int} {s : Nat} (h : us[s]? = some true) : gk tb gs s ∈ firsts (keysG tb us gs) := mem_firsts.mpr (List.mem_map.mpr ⟨s, mem_us.mpr h, rfl⟩)
theorem next_eq {tb : Tb} {us : List Bool} {gs : List Int} {s t : Nat} (hs : us[s]? = some true) (ht : us[t]? = some true) : gAt (nextG tb us gs) s = gAt (nextG tb us gs) t ↔ gk tb gs s = gk tb gs t := by
  rw [next_at, next_at, if_pos hs, if_pos ht]
  exact ⟨fun h => idx_inj (mem_keys hs) (mem_keys ht) (Int.ofNat_inj.mp h), fun h => by rw [h]⟩
/-- what is alike has one key -/
theorem key_sound {tb : Tb} {ac us : List Bool} {gs : List Int} {k : Nat} (ok : TbOk tb ac) (hw : TbW tb k) (hu : UsOk tb ac us) (g : Gi tb ac us gs) {s t : Nat} (hs : us[s]? = some true) (ht : us[t]? = some true) (h : ∀ w, accW tb ac s w = accW tb ac t w) : gk tb gs s = gk tb gs t := by
  have sn := ((hu.iff s).mp hs).1
  have tn := ((hu.iff t).mp ht).1
  obtain ⟨r, hr⟩ : ∃ r, tb[s]? = some r := ⟨_, List.getElem?_eq_getElem sn⟩
  obtain ⟨r', hr'⟩ : ∃ r, tb[t]? = some r := ⟨_, List.getElem?_eq_getElem tn⟩
  have l1 := hw r (List.mem_of_getElem? hr)
  have l2 := hw r' (List.mem_of_getElem? hr')
  unfold gk
  rw [g.sound s t hs ht h, List.getD_eq_getElem?_getD, List.getD_eq_getElem?_getD, hr, hr', Option.getD_some, Option.getD_some]
  congr 1
  refine List.ext_getElem (by rw [List.length_map, List.length_map, l1, l2]) fun c h1 h2 => ?_
  rw [List.length_map] at h1 h2
  rw [List.getElem_map, List.getElem_map]
  have e1 : r[c]? = some r[c] := List.getElem?_eq_getElem h1
  have e2 : r'[c]? = some r'[c] := List.getElem?_eq_getElem h2
  have step : ∀ w, accW tb ac s (c :: w) = accW tb ac t (c :: w) := fun w => h (c :: w)
  have lt1 := (ok.row r (List.mem_of_getElem? hr)).2 _ (List.getElem_mem h1)
  have lt2 := (ok.row r' (List.mem_of_getElem? hr')).2 _ (List.getElem_mem h2)
  generalize r[c] = u at e1 lt1 ⊢
  generalize r'[c] = v at e2 lt2 ⊢
  -- a target's words
  have wd : ∀ (x : Nat) (rr : List Int) (y : Int), tb[x]? = some rr → rr[c]? = some y → y < (tb.length : Int) → (gT gs y = -1 ∧ ∀ w, accW tb ac x (c :: w) = false) ∨ ∃ z : Nat, y = (z : Int) ∧ us[z]? = some true ∧ gT gs y = gAt gs z ∧ ∀ w, accW tb ac x (c :: w) = accW tb ac z w := fun x rr y hx hy hlt => by
    by_cases h0 : 0 ≤ y
    · obtain ⟨z, rfl⟩ := Int.eq_ofNat_of_zero_le h0
      have hz : z < tb.length := by omega
      have e : ∀ w, accW tb ac x (c :: w) = accW tb ac z w := fun w => by
        rw [accW, tgt_eq hx hy]
      have gz : gT gs (z : Int) = gAt gs z := by
        unfold gT
        rw [if_pos h0]
        simp
      by_cases hzu : us[z]? = some true
      · exact .inr ⟨z, rfl, hzu, gz, e⟩
      · exact .inl ⟨by rw [gz]; exact g.neg z hzu, fun w => by rw [e w]; exact hu.neg hzu hz w⟩
    · exact .inl ⟨by unfold gT; rw [if_neg h0], fun w => by rw [accW, tgt_neg hx hy (by omega)]⟩
  rcases wd s r u hr e1 lt1 with ⟨a1, a2⟩ | ⟨z1, _, b1, b2, b3⟩
  · rcases wd t r' v hr' e2 lt2 with ⟨c1, c2⟩ | ⟨z2, _, d1, d2, d3⟩
    · rw [a1, c1]
    · obtain ⟨w, hw⟩ := lead_acc.mp ((hu.iff z2).mp d1).2
      have := step w
      rw [a2 w, d3 w, hw] at this
      cases this
  · rcases wd t r' v hr' e2 lt2 with ⟨c1, c2⟩ | ⟨z2, _, d1, d2, d3⟩
    · obtain ⟨w, hw⟩ := lead_acc.mp ((hu.iff z1).mp b1).2
      have := step w
      rw [c2 w, b3 w, hw] at this
      cases this
    · rw [b2, d2]
      exact g.sound z1 z2 b1 d1 fun w => by
        have := step w
        rw [b3 w, d3 w] at this
        exact this
theorem gi_next {tb : Tb} {ac us : List Bool} {gs : List Int} {k : Nat} (ok : TbOk tb ac) (hw : TbW tb k) (hu : UsOk tb ac us) (g : Gi tb ac us gs) : Gi tb ac us (nextG tb us gs) where
  len := by unfold nextG; rw [List.length_map, List.length_range, hu.len]
  neg := fun s h => by rw [next_at, if_neg h]
  pos := fun s h => by rw [next_at, if_pos h]; omega
  acc := fun s t hs ht e => g.acc s t hs ht (congrArg Prod.fst ((next_eq hs ht).mp e))
  sound := fun s t hs ht h => (next_eq hs ht).mpr (key_sound ok hw hu g hs ht h)
/-- no group falls apart: then a group is one language -/
theorem grp_of {tb : Tb} {ac us : List Bool} {gs : List Int} {k : Nat} (ok : TbOk tb ac) (hw : TbW tb k) (hu : UsOk tb ac us) (g : Gi tb ac us gs) (st : ∀ s t, us[s]? = some true → us[t]? = some true → gAt gs s = gAt gs t → gk tb gs s = gk tb gs t) : Grp tb ac us (nextG tb us gs) := by
  have g' := gi_next ok hw hu g
  have main : ∀ (w : List Nat) (s t : Nat), us[s]? = some true → us[t]? = some true → gAt gs s = gAt gs t → accW tb ac s w = accW tb ac t w := by
    intro w
    induction w with
    | nil =>
      intro s t hs ht e
      unfold accW
      rw [g.acc s t hs ht e]
    | cons c w ih =>
      intro s t hs ht e
      have sn := ((hu.iff s).mp hs).1
      have tn := ((hu.iff t).mp ht).1
      obtain ⟨r, hr⟩ : ∃ r, tb[s]? = some r := ⟨_, List.getElem?_eq_getElem sn⟩
      obtain ⟨r', hr'⟩ : ∃ r, tb[t]? = some r := ⟨_, List.getElem?_eq_getElem tn⟩
      have l1 := hw r (List.mem_of_getElem? hr)
      have l2 := hw r' (List.mem_of_getElem? hr')
      have hk := congrArg Prod.snd (st s t hs ht e)
      unfold gk at hk
      rw [List.getD_eq_getElem?_getD, List.getD_eq_getElem?_getD, hr, hr', Option.getD_some, Option.getD_some] at hk
      by_cases hc : c < k
      · have b1 : c < r.length := by rw [l1]; exact hc
        have b2 : c < r'.length := by rw [l2]; exact hc
        have e1 : r[c]? = some r[c] := List.getElem?_eq_getElem b1
        have e2 : r'[c]? = some r'[c] := List.getElem?_eq_getElem b2
        have hkc : gT gs r[c] = gT gs r'[c] := by
          have := congrArg (fun l : List Int => l[c]?) hk
          simp only [List.getElem?_map, e1, e2, Option.map_some, Option.some.injEq] at this
          exact this
        have lt1 := (ok.row r (List.mem_of_getElem? hr)).2 _ (List.mem_of_getElem? e1)
        have lt2 := (ok.row r' (List.mem_of_getElem? hr')).2 _ (List.mem_of_getElem? e2)
        generalize r[c] = u at e1 lt1 hkc
        generalize r'[c] = v at e2 lt2 hkc
        have dead : ∀ (x : Nat) (rr : List Int) (y : Int), tb[x]? = some rr → rr[c]? = some y → y < (tb.length : Int) → gT gs y = -1 → accW tb ac x (c :: w) = false := fun x rr y hx hy hlt hg => by
          by_cases h0 : 0 ≤ y
          · obtain ⟨z, rfl⟩ := Int.eq_ofNat_of_zero_le h0
            rw [accW, tgt_eq hx hy]
            refine hu.neg (fun hz => ?_) (by omega) w
            have := g.pos z hz
            unfold gT at hg
            rw [if_pos h0, Int.toNat_natCast] at hg
            omega
          · rw [accW, tgt_neg hx hy (by omega)]
        by_cases hg : gT gs u = -1
        · rw [dead s r u hr e1 lt1 hg, dead t r' v hr' e2 lt2 (hkc ▸ hg)]
        · have live : ∀ y : Int, y < (tb.length : Int) → gT gs y ≠ -1 → ∃ z : Nat, y = (z : Int) ∧ us[z]? = some true ∧ gT gs y = gAt gs z := fun y hlt hg => by
            unfold gT at hg ⊢
            by_cases h0 : 0 ≤ y
            · obtain ⟨z, rfl⟩ := Int.eq_ofNat_of_zero_le h0
              rw [if_pos h0] at hg ⊢
              refine ⟨z, rfl, ?_, by simp⟩
              refine Decidable.byContradiction fun hz => hg ?_
              simpa using g.neg z hz
            · rw [if_neg h0] at hg
              exact absurd rfl hg
          obtain ⟨z1, rfl, u1, x1⟩ := live u lt1 hg
          obtain ⟨z2, rfl, u2, x2⟩ := live v lt2 (hkc ▸ hg)
          rw [accW, tgt_eq hr e1, accW, tgt_eq hr' e2]
          exact ih z1 z2 u1 u2 (by rw [← x1, ← x2]; exact hkc)
      · have n1 : tgt tb s c = none := by
          unfold tgt
          rw [hr, Option.bind_some, List.getElem?_eq_none (by omega)]
          rfl
        have n2 : tgt tb t c = none := by
          unfold tgt
          rw [hr', Option.bind_some, List.getElem?_eq_none (by omega)]
          rfl
        rw [accW, n1, accW, n2]
  exact ⟨g'.len, g'.neg, g'.pos, fun s t hs ht => ⟨fun e w => main w s t hs ht (congrArg Prod.fst ((next_eq hs ht).mp e)), g'.sound s t hs ht⟩⟩

theorem nodup_lenM {α : Type} [DecidableEq α] : ∀ {l m : List α}, l.Nodup → (∀ x ∈ l, x ∈ m) → l.length ≤ m.length
  | [], _, _, _ => Nat.zero_le _
  | a :: l, m, nd, h => by
    rw [List.nodup_cons] at nd
    have ha := h a (.head _)
    have := nodup_lenM (l := l) (m := m.erase a) nd.2 fun x hx => by
      exact (List.mem_erase_of_ne (fun e : x = a => nd.1 (e ▸ hx))).mpr (h x (.tail _ hx))
    rw [List.length_erase_of_mem ha] at this
    have : 0 < m.length := List.length_pos_of_mem ha
    rw [List.length_cons]
    omega
theorem firsts_full {α : Type} [DecidableEq α] (l : List α) : (firsts l).length = l.length → l.Nodup := by
  induction l using snocInd with
  | h0 => simp
  | h1 l x ih =>
    intro h
    have hl := len_firsts l
    rw [firsts_snoc] at h
    by_cases hx : x ∈ firsts l
    · rw [if_pos hx, List.length_append, List.length_singleton] at h
      omega
    · rw [if_neg hx, List.length_append, List.length_append] at h
      rw [List.nodup_append]
      refine ⟨ih (by simpa using h), by simp, fun a ha b hb e => ?_⟩
      rw [List.mem_singleton.mp hb] at e
      rw [← e] at hx
      exact hx (mem_firsts.mpr ha)
theorem map_inj_on {α β : Type} {f : α → β} : ∀ {l : List α}, (l.map f).Nodup → ∀ a ∈ l, ∀ b ∈ l, f a = f b → a = b
  | x :: l, h, a, ha, b, hb, e => by
    rw [List.map_cons, List.nodup_cons] at h
    rcases List.mem_cons.mp ha with rfl | ha'
    · rcases List.mem_cons.mp hb with rfl | hb'
      · rfl
      · exact absurd (List.mem_map.mpr ⟨b, hb', e.symm⟩) h.1
    · rcases List.mem_cons.mp hb with rfl | hb'
      · exact absurd (List.mem_map.mpr ⟨a, ha', e⟩) h.1
      · exact map_inj_on h.2 a ha' b hb' e
theorem firsts_map_le {α β : Type} [DecidableEq α] [DecidableEq β] (l : List α) (g : α → β) : (firsts (l.map g)).length ≤ (firsts l).length := by
  have := nodup_lenM (l := firsts (l.map g)) (m := (firsts l).map g) (nodup_firsts _) fun x hx => by
    obtain ⟨a, ha, rfl⟩ := List.mem_map.mp (mem_firsts.mp hx)
    exact List.mem_map.mpr ⟨a, mem_firsts.mpr ha, rfl⟩
  rw [List.length_map] at this
  exact this
theorem firsts_map_inj {α β : Type} [DecidableEq α] [DecidableEq β] {l : List α} {g : α → β} (h : (firsts l).length ≤ (firsts (l.map g)).length) : ∀ a ∈ l, ∀ b ∈ l, g a = g b → a = b := by
  have h1 := nodup_lenM (l := firsts (l.map g)) (m := firsts ((firsts l).map g)) (nodup_firsts _) fun x hx => by
    obtain ⟨a, ha, rfl⟩ := List.mem_map.mp (mem_firsts.mp hx)
    exact mem_firsts.mpr (List.mem_map.mpr ⟨a, mem_firsts.mpr ha, rfl⟩)
  have h2 := len_firsts ((firsts l).map g)
  have nd := firsts_full ((firsts l).map g) (by rw [List.length_map] at h2 ⊢; omega)
  exact fun a ha b hb e => map_inj_on nd a (mem_firsts.mpr ha) b (mem_firsts.mpr hb) e
theorem firsts_inj_le {α β : Type} [DecidableEq α] [DecidableEq β] {l : List α} {g : α → β} (h : ∀ a ∈ l, ∀ b ∈ l, g a = g b → a = b) : (firsts l).length ≤ (firsts (l.map g)).length := by
  have nd : ∀ {m : List α}, m.Nodup → (∀ a ∈ m, a ∈ l) → (m.map g).Nodup := fun {m} => by
    induction m with
    | nil => intro _ _; simp
    | cons x m ih =>
      intro nd hm
      rw [List.nodup_cons] at nd
      rw [List.map_cons, List.nodup_cons]
      refine ⟨fun z => ?_, ih nd.2 fun a ha => hm a (.tail _ ha)⟩
      obtain ⟨b, hb, e⟩ := List.mem_map.mp z
      rw [h b (hm b (.tail _ hb)) x (hm x (.head _)) e] at hb
      exact nd.1 hb
  have := nodup_lenM (l := (firsts l).map g) (m := firsts (l.map g)) (nd (nodup_firsts l) fun a ha => mem_firsts.mp ha) fun x hx => by
    obtain ⟨a, ha, rfl⟩ := List.mem_map.mp hx
    exact mem_firsts.mpr (List.mem_map.mpr ⟨a, mem_firsts.mp ha, rfl⟩)
  rw [List.length_map] at this
  exact this
theorem firsts_pre {α : Type} [DecidableEq α] (l m : List α) : ∃ t, firsts (l ++ m) = firsts l ++ t := by
  induction m using snocInd with
  | h0 => exact ⟨[], by simp⟩
  | h1 m x ih =>
    obtain ⟨t, e⟩ := ih
    rw [← List.append_assoc, firsts_snoc]
    by_cases hx : x ∈ firsts (l ++ m)
    · rw [if_pos hx]; exact ⟨t, e⟩
    · rw [if_neg hx]; exact ⟨t ++ [x], by rw [e, List.append_assoc]⟩
theorem idx_pre {α : Type} [DecidableEq α] {l m : List α} {a : α} (h : a ∈ l) : (firsts (l ++ m)).idxOf a = (firsts l).idxOf a := by
  obtain ⟨t, e⟩ := firsts_pre l m
  rw [e, List.idxOf_append, if_pos (mem_firsts.mpr h)]
theorem pos_end {α : Type} [DecidableEq α] {l : List α} {a : α} (h : a ∉ l) : posF (l ++ [a]) a = l.length := by
  unfold posF
  rw [List.idxOf_append, if_neg h]
  simp
theorem truesF_app : ∀ (k : Nat) (a b : List Bool), truesF k (a ++ b) = truesF k a ++ truesF (k + a.length) b
  | k, [], b => rfl
  | k, true :: a, b => by
    have h1 : truesF k ((true :: a) ++ b) = k :: truesF (k + 1) (a ++ b) := rfl
    have h2 : truesF k (true :: a) = k :: truesF (k + 1) a := rfl
    rw [h1, h2, truesF_app (k + 1) a b, List.cons_append, List.length_cons, show k + 1 + a.length = k + (a.length + 1) by omega]
  | k, false :: a, b => by
    have h1 : truesF k ((false :: a) ++ b) = truesF (k + 1) (a ++ b) := rfl
    have h2 : truesF k (false :: a) = truesF (k + 1) a := rfl
    rw [h1, h2, truesF_app (k + 1) a b, List.length_cons, show k + 1 + a.length = k + (a.length + 1) by omega]
/-- the keys of the states before i -/
def keysU (tb : Tb) (us : List Bool) (gs : List Int) (i : Nat) : List (Int × List Int) := (truesF 0 (us.take i)).map (gk tb gs)
theorem keysU_all {tb : Tb} {us : List Bool} {gs : List Int} {i : Nat} (h : us.length ≤ i) : keysU tb us gs i = keysG tb us gs := by
  unfold keysU keysG
  rw [List.take_of_length_le h]
theorem keysU_pre {tb : Tb} {us : List Bool} {gs : List Int} (i : Nat) : ∃ m, keysG tb us gs = keysU tb us gs i ++ m := by
  unfold keysU keysG
  refine ⟨(truesF (0 + (us.take i).length) (us.drop i)).map (gk tb gs), ?_⟩
  rw [← List.map_append, ← truesF_app, List.take_append_drop]
theorem keysU_yes {tb : Tb} {us : List Bool} {gs : List Int} {i : Nat} (h : us[i]? = some true) : keysU tb us gs (i + 1) = keysU tb us gs i ++ [gk tb gs i] := by
  unfold keysU
  have hi := (List.getElem?_eq_some_iff.mp h).1
  rw [List.take_add_one, h, truesF_app, List.map_append]
  congr 1
  show [gk tb gs (0 + (us.take i).length)] = _
  rw [List.length_take, Nat.zero_add, Nat.min_eq_left (Nat.le_of_lt hi)]
theorem keysU_no {tb : Tb} {us : List Bool} {gs : List Int} {i : Nat} (h : us[i]? = some false) : keysU tb us gs (i + 1) = keysU tb us gs i := by
  unfold keysU
  rw [List.take_add_one, h, truesF_app, List.map_append]
  show _ ++ [] = _
  rw [List.append_nil]
theorem next_take {tb : Tb} {us : List Bool} {gs : List Int} {i : Nat} (h : i < us.length) : (nextG tb us gs).take (i + 1) = (nextG tb us gs).take i ++ [gAt (nextG tb us gs) i] := by
  have hl : i < (nextG tb us gs).length := by unfold nextG; rw [List.length_map, List.length_range]; exact h
  rw [List.take_add_one, List.getElem?_eq_getElem hl]
  unfold gAt
  rw [List.getD_eq_getElem?_getD, List.getElem?_eq_getElem hl]
  rfl
theorem seqOf_sub {C C' : Cl} (s : SubC C C') {x : D} {xs : List D} (h : seqOf C x = some xs) : seqOf C' x = some xs := by
  cases x with
  | ref a => exact seq_cell (s _ _ (cellL_eq h))
  | _ => exact h
theorem gAt_get {gs : List Int} {i : Nat} (h : i < gs.length) : (gs.map D.int)[i]? = some (.int (gAt gs i)) := by
  unfold gAt
  rw [List.getElem?_map, List.getD_eq_getElem?_getD, List.getElem?_eq_getElem h]
  rfl
theorem lenN_at {α : Type} [DecidableEq α] {N : KN α} {C : Cl} {Q : DQ} {p : Addr} {kvs : List (α × D)} (h : C p = some ((KDN N).cell p kvs)) (hl : kvs.length ≤ sizeLine) (q : Q (.int (kvs.length : Nat)) C) : rLenN [.ref p] C Q := ⟨p, encKN N kvs, rfl, h, by unfold encKN; rw [List.length_map]; exact hl, by unfold encKN; rw [List.length_map]; exact q⟩
def initG (ac us : List Bool) : List Int := (List.range ac.length).map fun s => if us[s]? = some true then (if ac[s]? = some true then 1 else 0) else -1
theorem init_at {ac us : List Bool} {s : Nat} (h : us.length = ac.length) : gAt (initG ac us) s = if us[s]? = some true then (if ac[s]? = some true then 1 else 0) else -1 := by
  unfold gAt initG
  rw [List.getD_eq_getElem?_getD, List.getElem?_map]
  by_cases hs : s < ac.length
  · rw [List.getElem?_range hs]
    rfl
  · rw [List.getElem?_eq_none (by rw [List.length_range]; omega), if_neg (by rw [List.getElem?_eq_none (by omega)]; simp)]
    rfl
theorem gi_init {tb : Tb} {ac us : List Bool} (ok : TbOk tb ac) (hu : UsOk tb ac us) : Gi tb ac us (initG ac us) := by
  have hl : us.length = ac.length := by rw [hu.len, ok.len]
  have bool : ∀ s, us[s]? = some true → ∃ b, ac[s]? = some b := fun s hs => ⟨_, List.getElem?_eq_getElem (by have := (List.getElem?_eq_some_iff.mp hs).1; omega)⟩
  refine ⟨by unfold initG; rw [List.length_map, List.length_range, ok.len], fun s h => by rw [init_at hl, if_neg h], fun s h => ?_, fun s t hs ht e => ?_, fun s t hs ht e => ?_⟩
  · rw [init_at hl, if_pos h]
    split <;> omega
  · rw [init_at hl, init_at hl, if_pos hs, if_pos ht] at e
    obtain ⟨a, ha⟩ := bool s hs
    obtain ⟨b, hb⟩ := bool t ht
    rw [ha, hb] at e ⊢
    cases a <;> cases b <;> simp at e <;> rfl
  · rw [init_at hl, init_at hl, if_pos hs, if_pos ht]
    have := e []
    obtain ⟨a, ha⟩ := bool s hs
    obtain ⟨b, hb⟩ := bool t ht
    unfold accW at this
    rw [ha, hb] at this ⊢
    cases a <;> cases b <;> simp at this <;> rfl
theorem range_numbered {α : Type} (e : α → D) (l : List α) : numbered 0 (l.map e) = (List.range l.length).map fun i => .tup [.int (i : Nat), (l[i]?.map e).getD .non] := by
  refine List.ext_getElem? fun i => ?_
  rw [List.getElem?_map]
  by_cases h : i < l.length
  · rw [List.getElem?_range h]
    have hn : i < (numbered 0 (l.map e)).length := by rw [numbered_length, List.length_map]; exact h
    obtain ⟨d, hd, hx⟩ := numbered_get (List.getElem?_eq_getElem hn)
    rw [List.getElem?_map, List.getElem?_eq_getElem h] at hd
    rw [List.getElem?_eq_getElem hn, hx, Nat.zero_add, Option.map_some, List.getElem?_eq_getElem h]
    cases hd
    rfl
  · rw [List.getElem?_eq_none (by rw [numbered_length, List.length_map]; omega), List.getElem?_eq_none (by rw [List.length_range]; omega)]
    rfl
def sp_refined : DSp := fun ds C Q _ => ∃ tb ac us k, ds = [tbD tb, blD ac, blD us] ∧ TbOk tb ac ∧ TbW tb k ∧ UsOk tb ac us ∧ ∀ gs, Grp tb ac us gs → Q (.lst (gs.map D.int)) C
def td_refined : DS :=
  (dSeq (dAsg (dFz (dLc (diEnumS (dCons (dVar 1) dNil)) (dgTup 2 (dgCons (dName 9) (dgCons (dName 10) dgNil))) dYes (dIf (dTest (dOp rIx (dVar 2) (dVar 9))) (dCB rInt (dCons (dVar 10) dNil)) (dUn rNeg (dC (.int 1)))) [9, 10])) (dName 3))
    (dSeq (dAsg (dC (.int 0)) (dName 4))
    (dWhile (dTest (dC (.bl true))) (dSeq (dAsg dNewN (dName 5))
    (dSeq (dAsg (dLstC dNil) (dName 6))
    (dSeq (dFor (diEnumS (dCons (dVar 0) dNil)) (dgTup 2 (dgCons (dName 9) (dgCons (dName 7) dgNil)))
    (dIfS (dTest (dOp rIx (dVar 2) (dVar 9))) (dSeq (dAsg (dTup (dCons (dOp rIx (dVar 3) (dVar 9)) (dCons (dCB rTuple (dCons (dFz (dLc (diList (dVar 7)) (dName 11) dYes (dIf (dTest (dOp rGeD (dVar 11) (dC (.int 0)))) (dOp rIx (dVar 3) (dVar 11)) (dUn rNeg (dC (.int 1)))) [11])) dNil)) dNil))) (dName 8))
    (dDrop (dBM "list" rAppend (dVar 6) (dCons (dSetdN (dVar 5) (dVar 8) (dCB rLenN (dCons (dVar 5) dNil))) dNil)))) (dDrop (dBM "list" rAppend (dVar 6) (dCons (dUn rNeg (dC (.int 1))) dNil)))))
    (dSeq (dAsg (dVar 6) (dName 3))
    (dSeq (dIfS (dTest (dOp rEqD (dCB rLenN (dCons (dVar 5) dNil)) (dVar 4))) (dRet (dVar 3)) dNext)
    (dAsg (dCB rLenN (dCons (dVar 5) dNil)) (dName 4))))))))))
theorem len_refined (ds : List D) (C : Cl) (Q : DQ) (E : DX) (h : sp_refined ds C Q E) : ds.length = 3 := by repeat (first | (obtain ⟨rfl, _⟩ := h; exact rfl) | (obtain ⟨_, h⟩ := h))
theorem pure_refined (ds : List D) (C : Cl) (Q : DQ) (E : DX) (h : sp_refined ds C Q E) : td_refined (endsD Q) (startD ["table", "accepts", "useful", "groups", "many", "known", "later", "row", "key", "state", "told", "target"] ds) C := by
  obtain ⟨tb, ac, us, k, rfl, ok, hw, hu, hq⟩ := h
  have hn := ok.small
  have hun := hu.len
  have han := ok.len
  unfold td_refined
  refine v_ends ?_
  simp only [startD, List.map_cons, List.map_nil, List.length_cons, List.length_nil, Nat.reduceAdd, Nat.reduceSub, List.reduceReplicate, List.cons_append, List.nil_append]
  array_mem_dec
  refine v_lcmapF (as := List.range ac.length) (e := fun i => .tup [.int (i : Nat), (ac[i]?.map D.bl).getD .non]) (fun s => D.int (if us[s]? = some true then (if ac[s]? = some true then 1 else 0) else -1)) (fun R h => ?_) (szl (by rw [List.length_range]; omega)) (fun i a C' N hi hm hs hN => ?_) ?_
  · array_mem_dec
    refine ⟨_, _, rfl, rfl, ?_⟩
    rw [range_numbered]
    exact h
  · have ha : a < ac.length := List.mem_range.mp hm
    obtain ⟨b, hb⟩ : ∃ b, ac[a]? = some b := ⟨_, List.getElem?_eq_getElem ha⟩
    obtain ⟨v, hv⟩ : ∃ v, us[a]? = some v := ⟨_, List.getElem?_eq_getElem (by omega)⟩
    rw [hb, hv] at hN
    rw [hb]
    array_mem_dec
    refine ix_list rfl (d := .bl v) (by rw [List.getElem?_map, hv]; rfl) ?_
    array_mem_dec
    cases v with
    | true =>
      array_mem_dec
      cases b with
      | true => exact .inr ⟨true, rfl, hN⟩
      | false => exact .inr ⟨false, rfl, hN⟩
    | false =>
      array_mem_dec
      exact ⟨1, rfl, hN⟩
  array_mem_dec
  refine ⟨fun m ρ C' => ∃ g gs many s5 s6 s7 s8 s9 s10 s11, ρ = [some (tbD tb), some (blD ac), some (blD us), some g, some (.int (many : Nat)), s5, s6, s7, s8, s9, s10, s11] ∧ seqOf C' g = some (gs.map D.int) ∧ SubC C C' ∧ Gi tb ac us gs ∧ many ≤ (firsts ((truesF 0 us).map (gAt gs))).length ∧ m + many = tb.length + 1, ⟨_, _, initG ac us, 0, _, _, _, _, _, _, _, rfl, ?_, SubC.refl C, gi_init ok hu, Nat.zero_le _, rfl⟩, ?_⟩
  · unfold initG
    rw [List.map_map]
    rfl
  rintro m ρ C' ⟨g, gs, many, s5, s6, s7, s8, s9, s10, s11, rfl, hg, sC, gi, hm, hmm⟩
  array_mem_dec
  intro p hp
  array_mem_dec
  intro q hq0
  have npq : p ≠ q := fun e => by rw [← e, updC_same] at hq0; cases hq0
  have hqC' : C' q = none := by rw [← hq0, updC_ne (Ne.symm npq)]
  have new : ∀ {a : Addr}, C' a = none → C a = none := fun {a} h => by
    cases e : C a with
    | none => rfl
    | some c => rw [sC a c e] at h; cases h
  array_mem_dec
  refine v_forX (numbered 0 (tb.map rowD)) (fun R h => ?_) (fun i ρ C'' => ∃ s7 s8 s9 s10 s11, ρ = [some (tbD tb), some (blD ac), some (blD us), some g, some (.int (many : Nat)), some (.ref p), some (.ref q), s7, s8, s9, s10, s11] ∧ C'' p = some ((KDN KNP).cell p (numK (firsts (keysU tb us gs i)))) ∧ C'' q = some (.lst (((nextG tb us gs).take i).map D.int)) ∧ SubC C' C'') ⟨_, _, _, _, _, rfl, by rw [updC_ne npq, updC_same]; rfl, updC_same, ((SubC.refl _).new hp).new hqC'⟩ ?_ ?_
  · array_mem_dec
    exact ⟨_, _, rfl, rfl, h⟩
  · rintro i d ρ C'' hd ⟨s7, s8, s9, s10, s11, rfl, cp, cq, sC'⟩
    obtain ⟨d', hd', rfl⟩ := numbered_get hd
    rw [List.getElem?_map] at hd'
    obtain ⟨r, hr, rfl⟩ := Option.map_eq_some_iff.mp hd'
    have hi : i < tb.length := (List.getElem?_eq_some_iff.mp hr).1
    obtain ⟨r94, rlt⟩ := ok.row r (List.mem_of_getElem? hr)
    obtain ⟨v, hv⟩ : ∃ v, us[i]? = some v := ⟨_, List.getElem?_eq_getElem (by omega)⟩
    have ltk : (((nextG tb us gs).take i).map D.int).length < sizeLine := by
      rw [List.length_map, List.length_take, sizeLine_eq]
      omega
    rw [Nat.zero_add]
    array_mem_dec
    refine ix_list rfl (d := .bl v) (by rw [List.getElem?_map, hv]; rfl) ?_
    array_mem_dec
    cases v with
    | true =>
      array_mem_dec
      refine ix_list (seqOf_sub sC' hg) (gAt_get (by rw [gi.len]; exact hi)) ?_
      array_mem_dec
      refine v_lcmapF (as := r) (e := D.int) (fun u => D.int (gT gs u)) (fun R h => ?_) (szl (by omega)) (fun j u C3 N hj hm hs hN => ?_) ?_
      · array_mem_dec
        exact ⟨_, rfl, h⟩
      · have hlt := rlt u hm
        array_mem_dec
        refine ite_d (fun h0 => ?_) (fun h0 => ?_)
        · obtain ⟨t, rfl⟩ := Int.eq_ofNat_of_zero_le h0
          array_mem_dec
          refine ix_list (seqOf_sub (sC'.trans hs) hg) (gAt_get (by rw [gi.len]; omega)) ?_
          unfold gT at hN
          rw [if_pos h0, Int.toNat_natCast] at hN
          exact hN
        · array_mem_dec
          refine ⟨1, rfl, ?_⟩
          unfold gT at hN
          rw [if_neg h0] at hN
          exact hN
      array_mem_dec
      have hkl : (firsts (keysU tb us gs i)).length ≤ tb.length := Nat.le_trans (len_firsts _) (by unfold keysU; rw [List.length_map]; exact Nat.le_trans (len_truesF _ _) (by rw [List.length_take]; omega))
      have ek : gk tb gs i = (gAt gs i, r.map (gT gs)) := by
        unfold gk
        rw [List.getD_eq_getElem?_getD, hr]
        rfl
      have ed : D.tup [.int (gAt gs i), .tup (r.map fun u => D.int (gT gs u))] = KNP.enc (gk tb gs i) := by
        rw [ek]
        show _ = D.tup [.int (gAt gs i), .tup ((r.map (gT gs)).map D.int)]
        rw [List.map_map]
        rfl
      rw [ed]
      have eg : gAt (nextG tb us gs) i = ((posF (firsts (keysU tb us gs (i + 1))) (gk tb gs i) : Nat) : Int) := by
        rw [next_at, if_pos hv]
        obtain ⟨m, em⟩ := keysU_pre (tb := tb) (us := us) (gs := gs) (i + 1)
        rw [em]
        unfold posF
        rw [idx_pre (by rw [keysU_yes hv]; simp)]
      have e1 := firsts_snoc (keysU tb us gs i) (gk tb gs i)
      rw [← keysU_yes hv] at e1
      have etk : ((nextG tb us gs).take (i + 1)).map D.int = ((nextG tb us gs).take i).map D.int ++ [.int (gAt (nextG tb us gs) i)] := by
        rw [next_take (by omega), List.map_append]
        rfl
      refine ⟨ty_cell cq, ?_⟩
      array_mem_dec
      refine ⟨⟨_, _, rfl, cp⟩, ?_⟩
      array_mem_dec
      refine lenN_at cp (szl (by rw [numK_len]; omega)) ?_
      rw [numK_len]
      refine ⟨p, _, KNP.key (gk tb gs i), rfl, cp, keyTN_N KNP _, by unfold encKN; rw [List.length_map, numK_len, sizeLine_eq]; omega, fun v hv2 => ?_, fun hn2 => ?_⟩
      · rw [valN_N] at hv2
        have hmem : gk tb gs i ∈ firsts (keysU tb us gs i) := by
          refine Decidable.byContradiction fun z => ?_
          rw [numK_none.mpr z] at hv2
          cases hv2
        rw [numK_val hmem] at hv2
        cases hv2
        rw [if_pos hmem] at e1
        array_mem_dec
        refine app_cell cq ltk ?_
        refine ⟨_, _, _, _, _, rfl, by rw [updC_ne npq, e1]; exact cp, by rw [updC_same, etk, eg, e1], fun a c ha => ?_⟩
        rw [updC_ne (fun e => by rw [e, hqC'] at ha; cases ha)]
        exact sC' a c ha
      · rw [valN_N] at hn2
        have hmem : gk tb gs i ∉ firsts (keysU tb us gs i) := numK_none.mp hn2
        rw [if_neg hmem] at e1
        have ev : posF (firsts (keysU tb us gs (i + 1))) (gk tb gs i) = (firsts (keysU tb us gs i)).length := by
          rw [e1, pos_end hmem]
        rw [putN_N KNP hn2]
        array_mem_dec
        refine app_cell (by rw [updC_ne (Ne.symm npq)]; exact cq) ltk ?_
        refine ⟨_, _, _, _, _, rfl, by rw [updC_ne npq, updC_same, e1, numK_snoc]; rfl, by rw [updC_same, etk, eg, ev], fun a c ha => ?_⟩
        rw [updC_ne (fun e => by rw [e, hqC'] at ha; cases ha), updC_ne (fun e => by rw [e, hp] at ha; cases ha)]
        exact sC' a c ha
    | false =>
      array_mem_dec
      refine ⟨ty_cell cq, ?_⟩
      array_mem_dec
      refine ⟨1, rfl, ?_⟩
      array_mem_dec
      refine app_cell cq ltk ?_
      refine ⟨_, _, _, _, _, rfl, by rw [updC_ne npq, keysU_no hv]; exact cp, by rw [updC_same, next_take (by omega), next_at, if_neg (by rw [hv]; simp), List.map_append]; rfl, fun a c ha => ?_⟩
      rw [updC_ne (fun e => by rw [e, hqC'] at ha; cases ha)]
      exact sC' a c ha
  · rintro ρ C'' ⟨s7, s8, s9, s10, s11, rfl, cp, cq, sC'⟩
    rw [numbered_length, List.length_map] at cp cq
    rw [keysU_all (by omega)] at cp
    have nl : (nextG tb us gs).length = tb.length := by unfold nextG; rw [List.length_map, List.length_range, hun]
    rw [List.take_of_length_le (by omega)] at cq
    have hkl : (firsts (keysG tb us gs)).length ≤ tb.length := Nat.le_trans (len_firsts _) (by unfold keysG; rw [List.length_map]; exact Nat.le_trans (len_truesF _ _) (by omega))
    have fst : (keysG tb us gs).map Prod.fst = (truesF 0 us).map (gAt gs) := by
      unfold keysG
      rw [List.map_map]
      rfl
    have hge := firsts_map_le (keysG tb us gs) Prod.fst
    rw [fst] at hge
    array_mem_dec
    refine lenN_at cp (szl (by rw [numK_len]; omega)) ?_
    rw [numK_len]
    array_mem_dec
    refine ite_d (fun he => ?_) (fun he => ?_)
    · have he : (firsts (keysG tb us gs)).length = many := Int.ofNat_inj.mp he
      array_mem_dec
      refine ⟨.lst ((nextG tb us gs).map D.int), C, .trans (.lst cq) (.drop fun a c ha => ?_), hq _ (grp_of ok hw hu gi fun s t hs ht e => ?_)⟩
      · have : a ≠ q := fun e => by rw [e, new hqC'] at ha; cases ha
        unfold delC
        rw [if_neg this]
        exact sC' a c (sC a c ha)
      · refine firsts_map_inj (l := keysG tb us gs) (g := Prod.fst) (by rw [fst, he]; exact hm) _ (List.mem_map.mpr ⟨s, mem_us.mpr hs, rfl⟩) _ (List.mem_map.mpr ⟨t, mem_us.mpr ht, rfl⟩) e
    · have he : (firsts (keysG tb us gs)).length ≠ many := fun e => he (by rw [e])
      array_mem_dec
      refine lenN_at cp (szl (by rw [numK_len]; omega)) ?_
      rw [numK_len]
      array_mem_dec
      refine ⟨tb.length + 1 - (firsts (keysG tb us gs)).length, by omega, _, nextG tb us gs, _, _, _, _, _, _, _, _, rfl, seq_cell cq, sC.trans sC', gi_next ok hw hu gi, ?_, by omega⟩
      have e2 : (truesF 0 us).map (gAt (nextG tb us gs)) = (keysG tb us gs).map fun x => ((posF (firsts (keysG tb us gs)) x : Nat) : Int) := by
        unfold keysG
        rw [List.map_map]
        refine List.map_congr_left fun s hs => ?_
        rw [next_at, if_pos (mem_us.mp hs)]
        rfl
      rw [e2]
      exact firsts_inj_le fun a ha b hb e => idx_inj (mem_firsts.mpr ha) (mem_firsts.mpr hb) (Int.ofNat_inj.mp e)
end G
set_option maxHeartbeats 2000000
namespace G
open PySem PySem.Spec PyProof.Rows L2
local macro_rules | `(tactic| decreasing_trivial_pre_omega) => `(tactic| first | with_reducible refine v_setdN ?_ | with_reducible refine v_putN ?_ | with_reducible refine v_d1N ?_ | with_reducible refine v_d1K ?_ | with_reducible refine v_newN ?_ | with_reducible refine v_exi ?_ | with_reducible refine v_exf ?_ | with_reducible refine v_exv ?_ | with_reducible refine v_con ?_ | with_reducible refine v_tryN ?_ | with_reducible refine v_pnil ?_ | with_reducible refine v_pcons ?_ | with_reducible refine v_dictD ?_ | with_reducible refine v_get1 ?_)
/-! ### dicts over numbers -/
def keyI (i : Int) : Key := .inl i
theorem valD_I {a : Int} : ∀ {kvs : List (Int × D)}, valD (kvs.map fun q => (keyI q.1, q.2)) (keyI a) = valA kvs a
  | [] => rfl
  | q :: r => by
    rw [List.map_cons, valD_cons, valA_cons, valD_I]
    by_cases h : q.1 = a
    · rw [if_pos h, if_pos (by rw [h])]
    · rw [if_neg h]
      exact if_neg fun z => h (Sum.inl.inj z)
abbrev listI (kvs : List (Int × D)) : List (Key × D) := kvs.map fun q => (keyI q.1, q.2)
def cellI (kvs : List (Int × D)) : Cell := .dic (listI kvs)
theorem getI_at {C : Cl} {Q : DQ} {p : Addr} {kvs : List (Int × D)} {a : Int} {v : D} (h : C p = some (cellI kvs)) (hv : valA kvs a = some v) (q : Q v C) : rGetK (.ref p) (.int a) C Q := ⟨listI kvs, keyI a, v, dicOf_ref h, rfl, valD_I.trans hv, q⟩
theorem notinI_at {C : Cl} {Q : DQ} {p : Addr} {kvs : List (Int × D)} {a : Int} (h : C p = some (cellI kvs)) (q : Q (.bl (!(valA kvs a).isSome)) C) : rNotInK (.int a) (.ref p) C Q := ⟨listI kvs, keyI a, dicOf_ref (kvs := listI kvs) h, rfl, by rw [valD_I]; exact q⟩
theorem putI_eq {kvs : List (Int × D)} {a : Int} {v : D} (h : valA kvs a = none) : Cell.dic (putKD (listI kvs) (keyI a) v) = cellI (kvs ++ [(a, v)]) := by
  rw [putKD_none (valD_I.trans h)]
  unfold cellI listI
  rw [List.map_append]
  rfl
/-! ### one state of each group, in order -/
theorem posF_pre {α : Type} [DecidableEq α] {l m : List α} {a : α} (h : a ∈ l) : posF (l ++ m) a = posF l a := by
  unfold posF
  rw [List.idxOf_append, if_pos h]
def ent (gs G : List Int) (t : Int) : Int := if 0 ≤ gT gs t then ((posF G (gT gs t) : Nat) : Int) else -1
def InG (gs G : List Int) (t : Int) : Prop := 0 ≤ gT gs t → gT gs t ∈ G
theorem ent_pre {gs G m : List Int} {t : Int} (h : InG gs G t) : ent gs (G ++ m) t = ent gs G t := by
  unfold ent
  by_cases z : 0 ≤ gT gs t
  · rw [if_pos z, if_pos z, posF_pre (h z)]
  · rw [if_neg z, if_neg z]
theorem InG.pre {gs G m : List Int} {t : Int} (h : InG gs G t) : InG gs (G ++ m) t := fun z => List.mem_append_left _ (h z)
abbrev grpO (gs : List Int) (ord : List Nat) : List Int := ord.map (gAt gs)
structure Num (tb : Tb) (us : List Bool) (gs : List Int) (ord : List Nat) (rows : Tb) : Prop where
  start : ord[0]? = some 0
  nd : (grpO gs ord).Nodup
  sub : ∀ s ∈ ord, us[s]? = some true
  len : rows.length ≤ ord.length
  row : ∀ i s r, i < rows.length → ord[i]? = some s → tb[s]? = some r → rows[i]? = some (r.map (ent gs (grpO gs ord))) ∧ ∀ t ∈ r, InG gs (grpO gs ord) t
theorem Num.more {tb : Tb} {us : List Bool} {gs : List Int} {ord : List Nat} {rows : Tb} {t : Nat} (h : Num tb us gs ord rows) (ht : us[t]? = some true) (hn : gAt gs t ∉ grpO gs ord) : Num tb us gs (ord ++ [t]) rows := by
  have e : grpO gs (ord ++ [t]) = grpO gs ord ++ [gAt gs t] := by unfold grpO; rw [List.map_append]; rfl
  have h0 : 0 < ord.length := (List.getElem?_eq_some_iff.mp h.start).1
  refine ⟨by rw [List.getElem?_append_left h0]; exact h.start, ?_, fun s hs => ?_, by rw [List.length_append]; have := h.len; omega, fun i s r hi hs hr => ?_⟩
  · rw [e, List.nodup_append]
    refine ⟨h.nd, by simp, fun a ha b hb z => ?_⟩
    rw [List.mem_singleton.mp hb] at z
    rw [z] at ha
    exact hn ha
  · rcases List.mem_append.mp hs with z | z
    · exact h.sub s z
    · rw [List.mem_singleton.mp z]
      exact ht
  · have hl := h.len
    rw [List.getElem?_append_left (by omega)] at hs
    obtain ⟨a, b⟩ := h.row i s r hi hs hr
    rw [e]
    refine ⟨?_, fun t ht => (b t ht).pre⟩
    rw [a]
    congr 1
    exact List.map_congr_left fun t ht => (ent_pre (b t ht)).symm
theorem Num.done {tb : Tb} {us : List Bool} {gs : List Int} {ord : List Nat} {rows : Tb} {s : Nat} {r : List Int} (h : Num tb us gs ord rows) (hs : ord[rows.length]? = some s) (hr : tb[s]? = some r) (hi : ∀ t ∈ r, InG gs (grpO gs ord) t) : Num tb us gs ord (rows ++ [r.map (ent gs (grpO gs ord))]) := by
  have hl := (List.getElem?_eq_some_iff.mp hs).1
  refine ⟨h.start, h.nd, h.sub, by rw [List.length_append, List.length_singleton]; omega, fun i s' r' hi' hs' hr' => ?_⟩
  rw [List.length_append, List.length_singleton] at hi'
  by_cases z : i < rows.length
  · rw [List.getElem?_append_left z]
    exact h.row i s' r' z hs' hr'
  · have e : i = rows.length := by omega
    subst e
    rw [hs] at hs'
    cases hs'
    rw [hr] at hr'
    cases hr'
    exact ⟨by simp, hi⟩
theorem Num.small {tb : Tb} {ac us : List Bool} {gs : List Int} {ord : List Nat} {rows : Tb} (h : Num tb us gs ord rows) (hu : UsOk tb ac us) : ord.length ≤ tb.length := by
  have nd : ∀ {l : List Nat}, (l.map (gAt gs)).Nodup → l.Nodup := fun {l} => by
    induction l with
    | nil => intro _; simp
    | cons a l ih =>
      intro n
      rw [List.map_cons, List.nodup_cons] at n
      rw [List.nodup_cons]
      exact ⟨fun z => n.1 (List.mem_map.mpr ⟨a, z, rfl⟩), ih n.2⟩
  have := nodup_lenM (nd h.nd) (m := List.range tb.length) fun x hx => List.mem_range.mpr ((hu.iff x).mp (h.sub x hx)).1
  rw [List.length_range] at this
  exact this
theorem gT_live {tb : Tb} {ac us : List Bool} {gs : List Int} {t : Int} (g : Grp tb ac us gs) (h : 0 ≤ gT gs t) : ∃ z : Nat, t = (z : Int) ∧ us[z]? = some true ∧ gT gs t = gAt gs z := by
  unfold gT at h ⊢
  by_cases h0 : 0 ≤ t
  · obtain ⟨z, rfl⟩ := Int.eq_ofNat_of_zero_le h0
    rw [if_pos h0, Int.toNat_natCast] at h ⊢
    refine ⟨z, rfl, ?_, rfl⟩
    refine Decidable.byContradiction fun hz => ?_
    rw [g.neg z hz] at h
    omega
  · rw [if_neg h0] at h
    omega
theorem sub_delM {C C' : Cl} {p : Addr} (s : SubC C C') (h : C p = none) : SubC C (delC C' p) := fun a c ha => by
  unfold delC
  rw [if_neg (fun e => by rw [e, h] at ha; cases ha)]
  exact s a c ha
theorem none_of {C C' : Cl} {a : Addr} (s : SubC C C') (h : C' a = none) : C a = none := by
  cases e : C a with
  | none => rfl
  | some c => rw [s a c e] at h; cases h
theorem ne_of {C : Cl} {a b : Addr} {c : Cell} (h : C a = none) (h' : C b = some c) : b ≠ a := fun e => by
  rw [e, h] at h'
  cases h'
theorem len_at {C : Cl} {Q : DQ} {p : Addr} {xs : List D} (h : C p = some (.lst xs)) (q : Q (.int (xs.length : Nat)) C) : rLen [.ref p] C Q := ⟨.ref p, xs.length, rfl, by show (cellL C p).map List.length = _; unfold cellL; rw [h]; rfl, trivial, q⟩
theorem v_pick {i k : Nat} {ρ : DEnv} {C : Cl} {Q' : DQ} {gs : List Int} {t : Int} {x : D} (h1 : ρ[i]? = some (some x)) (hx : seqOf C x = some (gs.map D.int)) (h2 : ρ[k]? = some (some (.int t))) (ht : t < (gs.length : Int)) (q : Q' (.int (gT gs t)) C) : if decide (0 ≤ t) = true then dOp rIx (dVar i) (dVar k) ρ C Q' else dUn rNeg (dC (.int 1)) ρ C Q' := by
  refine ite_d (fun h0 => ?_) (fun h0 => ?_)
  · obtain ⟨z, rfl⟩ := Int.eq_ofNat_of_zero_le h0
    refine ⟨x, h1, _, h2, ix_list hx (gAt_get (by omega)) ?_⟩
    unfold gT at q
    rw [if_pos h0, Int.toNat_natCast] at q
    exact q
  · refine ⟨1, rfl, ?_⟩
    unfold gT at q
    rw [if_neg h0] at q
    exact q
def sp_numbered : DSp := fun ds C Q _ => ∃ tb ac us gs, ds = [tbD tb, .lst (gs.map D.int)] ∧ TbOk tb ac ∧ UsOk tb ac us ∧ us[0]? = some true ∧ Grp tb ac us gs ∧ ∀ ord rows, Num tb us gs ord rows → rows.length = ord.length → Q (.tup [natsD ord, tbD rows]) C
def td_numbered : DS :=
  (dSeq (dAsg (dLstC (dCons (dC (.int 0)) dNil)) (dName 2))
    (dSeq (dAsg (dD1K (dOp rIx (dVar 1) (dC (.int 0))) (dC (.int 0))) (dName 3))
    (dSeq (dAsg (dLstC dNil) (dName 4))
    (dSeq (dWhile (dTest (dOp rLtD (dCB rLen (dCons (dVar 4) dNil)) (dCB rLen (dCons (dVar 2) dNil)))) (dSeq (dAsg (dLstC dNil) (dName 5))
    (dSeq (dFor (diList (dOp rIx (dVar 0) (dOp rIx (dVar 2) (dCB rLen (dCons (dVar 4) dNil))))) (dName 6)
    (dSeq (dAsg (dIf (dTest (dOp rGeD (dVar 6) (dC (.int 0)))) (dOp rIx (dVar 1) (dVar 6)) (dUn rNeg (dC (.int 1)))) (dName 7))
    (dSeq (dIfS (dAnd (dTest (dOp rGeD (dVar 7) (dC (.int 0)))) (dTest (dOp rNotInK (dVar 7) (dVar 3)))) (dSeq (dPutK (dVar 3) (dVar 7) (dCB rLen (dCons (dVar 2) dNil)))
    (dDrop (dBM "list" rAppend (dVar 2) (dCons (dVar 6) dNil)))) dNext)
    (dDrop (dBM "list" rAppend (dVar 5) (dCons (dIf (dTest (dOp rGeD (dVar 7) (dC (.int 0)))) (dOp rGetK (dVar 3) (dVar 7)) (dUn rNeg (dC (.int 1)))) dNil))))))
    (dView 5 (dDrop (dBM "list" rAppend (dVar 4) (dCons (dVar 5) dNil)))))))
    (dView 4 (dView 2 (dRet (dTup (dCons (dVar 2) (dCons (dVar 4) dNil))))))))))
theorem len_numbered (ds : List D) (C : Cl) (Q : DQ) (E : DX) (h : sp_numbered ds C Q E) : ds.length = 2 := by repeat (first | (obtain ⟨rfl, _⟩ := h; exact rfl) | (obtain ⟨_, h⟩ := h))
theorem pure_numbered (ds : List D) (C : Cl) (Q : DQ) (E : DX) (h : sp_numbered ds C Q E) : td_numbered (endsD Q) (startD ["table", "groups", "order", "places", "rows", "row", "target", "group"] ds) C := by
  obtain ⟨tb, ac, us, gs, rfl, ok, hu, h0, g, hq⟩ := h
  have hn := ok.small
  have h1 := ok.pos
  unfold td_numbered
  refine v_ends ?_
  simp only [startD, List.map_cons, List.map_nil, List.length_cons, List.length_nil, Nat.reduceAdd, Nat.reduceSub, List.reduceReplicate, List.cons_append, List.nil_append]
  array_mem_dec
  intro p2 n2
  array_mem_dec
  intro p3 n3'
  have n3 : C p3 = none := none_of ((SubC.refl C).new n2) n3'
  have d23 : p2 ≠ p3 := ne_of n3' updC_same
  array_mem_dec
  refine ix_list (j := 0) rfl (gAt_get (by rw [g.len]; exact h1)) ?_
  array_mem_dec
  refine ⟨updC_same, _, rfl, ?_⟩
  array_mem_dec
  intro p4 n4'
  rw [updC_updC] at n4'
  have n4 : C p4 = none := none_of (((SubC.refl C).new n2).new n3) n4'
  have d24 : p2 ≠ p4 := ne_of n4' (by rw [updC_ne d23]; exact updC_same)
  have d34 : p3 ≠ p4 := ne_of n4' updC_same
  array_mem_dec
  refine ⟨fun m ρ C' => ∃ s5 s6 s7 ord rows, ρ = [some (tbD tb), some (.lst (gs.map D.int)), some (.ref p2), some (.ref p3), some (.ref p4), s5, s6, s7] ∧ C' p2 = some (.lst (ord.map fun x => D.int (x : Nat))) ∧ C' p3 = some (cellI (numK (grpO gs ord))) ∧ C' p4 = some (.lst (rows.map rowD)) ∧ SubC C C' ∧ Num tb us gs ord rows ∧ m + rows.length = tb.length, ⟨tb.length, _, _, _, [0], [], rfl, ?_, ?_, updC_same, (((((SubC.refl C).new n2).new n3).new n3).new n4), ?_, rfl⟩, ?_⟩
  · rw [updC_ne d24, updC_updC, updC_ne d23, updC_same]
    rfl
  · rw [updC_ne d34, updC_updC, updC_same]
    rfl
  · exact ⟨rfl, by simp, fun s hs => by rw [List.mem_singleton.mp hs]; exact h0, by simp, fun i s r hi => by simp at hi⟩
  rintro m ρ C' ⟨s5, s6, s7, ord, rows, rfl, c2, c3, c4, sC, nu, hm⟩
  have hol := nu.small hu
  have hrl := nu.len
  array_mem_dec
  refine len_at c4 ?_
  rw [List.length_map]
  array_mem_dec
  refine len_at c2 ?_
  rw [List.length_map]
  array_mem_dec
  refine ite_d (fun hlt => ?_) (fun hlt => ?_)
  · have hlt : rows.length < ord.length := Int.ofNat_lt.mp hlt
    array_mem_dec
    intro p5 n5
    have n5C : C p5 = none := none_of sC n5
    have d25 : p2 ≠ p5 := ne_of n5 c2
    have d35 : p3 ≠ p5 := ne_of n5 c3
    have d45 : p4 ≠ p5 := ne_of n5 c4
    obtain ⟨s, hs⟩ : ∃ s, ord[rows.length]? = some s := ⟨_, List.getElem?_eq_getElem hlt⟩
    have hsu := nu.sub s (List.mem_of_getElem? hs)
    have hsn := ((hu.iff s).mp hsu).1
    obtain ⟨r, hr⟩ : ∃ r, tb[s]? = some r := ⟨_, List.getElem?_eq_getElem hsn⟩
    obtain ⟨r94, rlt⟩ := ok.row r (List.mem_of_getElem? hr)
    array_mem_dec
    refine v_forX (r.map D.int) (fun R h => ?_) (fun j ρ C'' => ∃ s6 s7 ord', ρ = [some (tbD tb), some (.lst (gs.map D.int)), some (.ref p2), some (.ref p3), some (.ref p4), some (.ref p5), s6, s7] ∧ C'' p2 = some (.lst (ord'.map fun x => D.int (x : Nat))) ∧ C'' p3 = some (cellI (numK (grpO gs ord'))) ∧ C'' p4 = some (.lst (rows.map rowD)) ∧ C'' p5 = some (.lst (((r.take j).map (ent gs (grpO gs ord'))).map D.int)) ∧ SubC C C'' ∧ Num tb us gs ord' rows ∧ ord'[rows.length]? = some s ∧ ∀ t ∈ r.take j, InG gs (grpO gs ord') t) ⟨_, _, ord, rfl, by rw [updC_ne d25]; exact c2, by rw [updC_ne d35]; exact c3, by rw [updC_ne d45]; exact c4, by rw [updC_same]; rfl, sC.new n5C, nu, hs, by simp⟩ ?_ ?_
    · array_mem_dec
      refine len_at (by rw [updC_ne d45]; exact c4) ?_
      rw [List.length_map]
      array_mem_dec
      refine ix_list (seq_cell (by rw [updC_ne d25]; exact c2)) (d := .int (s : Nat)) (by rw [List.getElem?_map, hs]; rfl) ?_
      array_mem_dec
      refine ix_list rfl (d := rowD r) (by rw [List.getElem?_map, hr]; rfl) ?_
      exact ⟨_, rfl, h⟩
    · rintro j d ρ C'' hd ⟨s6, s7, ord', rfl, c2, c3, c4, c5, sC'', nu', hs', hin⟩
      rw [List.getElem?_map] at hd
      obtain ⟨t, ht, rfl⟩ := Option.map_eq_some_iff.mp hd
      have hol' := nu'.small hu
      have htk : r.take (j + 1) = r.take j ++ [t] := by rw [List.take_add_one, ht]; rfl
      have hj : j < r.length := (List.getElem?_eq_some_iff.mp ht).1
      have htn : t < (gs.length : Int) := by rw [g.len]; exact rlt t (List.mem_of_getElem? ht)
      have l5 : (((r.take j).map (ent gs (grpO gs ord'))).map D.int).length < sizeLine := by
        rw [List.length_map, List.length_map, List.length_take, sizeLine_eq]
        omega
      have row' : ∀ G, ((r.take (j + 1)).map (ent gs G)).map D.int = ((r.take j).map (ent gs G)).map D.int ++ [.int (ent gs G t)] := fun G => by
        rw [htk, List.map_append, List.map_append]
        rfl
      have inn : ∀ {G : List Int}, (∀ t ∈ r.take j, InG gs G t) → InG gs G t → ∀ t ∈ r.take (j + 1), InG gs G t := fun {G} h h' x hx => by
        rw [htk] at hx
        rcases List.mem_append.mp hx with z | z
        · exact h x z
        · rw [List.mem_singleton.mp z]; exact h'
      array_mem_dec
      refine v_pick rfl rfl rfl htn ?_
      array_mem_dec
      refine ite_d (fun hg => ?_) (fun hg => ?_)
      · obtain ⟨z, rfl, hzu, ez⟩ := gT_live g hg
        array_mem_dec
        refine notinI_at c3 ?_
        array_mem_dec
        by_cases hmem : gT gs (z : Int) ∈ grpO gs ord'
        · have hI : InG gs (grpO gs ord') (z : Int) := fun _ => hmem
          rw [numK_val hmem]
          simp only [Option.isSome_some, Bool.not_true]
          array_mem_dec
          refine ⟨ty_cell c5, ?_⟩
          array_mem_dec
          refine getI_at c3 (numK_val hmem) ?_
          array_mem_dec
          refine app_cell c5 l5 ?_
          refine ⟨_, _, ord', rfl, by rw [updC_ne d25]; exact c2, by rw [updC_ne d35]; exact c3, by rw [updC_ne d45]; exact c4, ?_, sC''.new n5C, nu', hs', inn hin hI⟩
          rw [updC_same, row', ent, if_pos hg]
        · have hnone := numK_none.mpr hmem
          rw [hnone]
          refine v_nff ?_
          have hnu := nu'.more hzu (by rw [← ez]; exact hmem)
          have eG : grpO gs (ord' ++ [z]) = grpO gs ord' ++ [gT gs (z : Int)] := by
            unfold grpO
            rw [List.map_append, ez]
            rfl
          have hI : InG gs (grpO gs (ord' ++ [z])) (z : Int) := fun _ => by rw [eG]; simp
          have hin' : ∀ t ∈ r.take j, InG gs (grpO gs (ord' ++ [z])) t := fun x hx => by rw [eG]; exact (hin x hx).pre
          have hnl := hnu.small hu
          rw [List.length_append, List.length_singleton] at hnl
          have hent : (r.take j).map (ent gs (grpO gs (ord' ++ [z]))) = (r.take j).map (ent gs (grpO gs ord')) := List.map_congr_left fun x hx => by rw [eG, ent_pre (hin x hx)]
          have hpos : posF (grpO gs (ord' ++ [z])) (gT gs (z : Int)) = ord'.length := by
            rw [eG, pos_end hmem]
            unfold grpO
            rw [List.length_map]
          array_mem_dec
          refine len_at c2 ?_
          rw [List.length_map]
          array_mem_dec
          refine ⟨p3, listI (numK (grpO gs ord')), keyI (gT gs (z : Int)), rfl, c3, rfl, by unfold listI; rw [List.length_map, numK_len, sizeLine_eq]; unfold grpO; rw [List.length_map]; omega, ?_⟩
          rw [putI_eq hnone]
          have c3' : cellI (numK (grpO gs ord') ++ [(gT gs (z : Int), .int (ord'.length : Nat))]) = cellI (numK (grpO gs (ord' ++ [z]))) := by
            rw [eG, numK_snoc]
            unfold grpO
            rw [List.length_map]
          rw [c3']
          have q2 := (updC_ne (c := cellI (numK (grpO gs (ord' ++ [z])))) d23).trans c2
          array_mem_dec
          refine ⟨ty_cell q2, ?_⟩
          array_mem_dec
          refine app_cell q2 (by rw [List.length_map, sizeLine_eq]; omega) ?_
          have q5 : updC (updC C'' p3 (cellI (numK (grpO gs (ord' ++ [z]))))) p2 (.lst ((ord'.map fun x => D.int (x : Nat)) ++ [.int (z : Nat)])) p5 = some (.lst (((r.take j).map (ent gs (grpO gs ord'))).map D.int)) := by
            rw [updC_ne (Ne.symm d25), updC_ne (Ne.symm d35)]
            exact c5
          array_mem_dec
          refine ⟨ty_cell q5, ?_⟩
          array_mem_dec
          refine getI_at (kvs := numK (grpO gs (ord' ++ [z]))) (by rw [updC_ne (Ne.symm d23), updC_same]) (numK_val (hI hg)) ?_
          array_mem_dec
          refine app_cell q5 l5 ?_
          refine ⟨_, _, ord' ++ [z], rfl, by rw [updC_ne d25, updC_same, List.map_append]; rfl, by rw [updC_ne d35, updC_ne (Ne.symm d23), updC_same], by rw [updC_ne d45, updC_ne (Ne.symm d24), updC_ne (Ne.symm d34)]; exact c4, ?_, ((sC''.new n3).new n2).new n5C, hnu, by rw [List.getElem?_append_left (List.getElem?_eq_some_iff.mp hs').1]; exact hs', inn hin' hI⟩
          rw [updC_same, row', hent, ent, if_pos hg]
      · array_mem_dec
        refine ⟨ty_cell c5, ?_⟩
        array_mem_dec
        refine ⟨1, rfl, ?_⟩
        array_mem_dec
        refine app_cell c5 l5 ?_
        refine ⟨_, _, ord', rfl, by rw [updC_ne d25]; exact c2, by rw [updC_ne d35]; exact c3, by rw [updC_ne d45]; exact c4, ?_, sC''.new n5C, nu', hs', inn hin fun z => absurd z hg⟩
        rw [updC_same, row', ent, if_neg hg]
    · rintro ρ C'' ⟨s6, s7, ord', rfl, c2, c3, c4, c5, sC'', nu', hs', hin⟩
      rw [List.length_map, List.take_length] at c5 hin
      array_mem_dec
      refine ⟨.ref p5, rowD (r.map (ent gs (grpO gs ord'))), _, rfl, .lst c5, ?_⟩
      dsimp only [List.set]
      have hol' := nu'.small hu
      have k2 : delC C'' p5 p2 = C'' p2 := by unfold delC; rw [if_neg d25]
      have k3 : delC C'' p5 p3 = C'' p3 := by unfold delC; rw [if_neg d35]
      have k4 : delC C'' p5 p4 = C'' p4 := by unfold delC; rw [if_neg d45]
      array_mem_dec
      refine ⟨ty_cell (k4.trans c4), ?_⟩
      array_mem_dec
      refine app_cell (k4.trans c4) (by rw [List.length_map, sizeLine_eq]; omega) ?_
      have ln : (rows ++ [r.map (ent gs (grpO gs ord'))]).length = rows.length + 1 := by rw [List.length_append]; rfl
      have hlt' := (List.getElem?_eq_some_iff.mp hs').1
      refine ⟨m - 1, by omega, _, _, _, ord', rows ++ [r.map (ent gs (grpO gs ord'))], rfl, by rw [updC_ne d24, k2]; exact c2, by rw [updC_ne d34, k3]; exact c3, by rw [updC_same, List.map_append]; rfl, ?_, nu'.done hs' hr hin, by omega⟩
      exact fun a c ha => by
        rw [updC_ne (ne_of n4 ha)]
        exact sub_delM sC'' n5C a c ha
  · have hge : rows.length = ord.length := by
      have : ¬ rows.length < ord.length := fun z => hlt (Int.ofNat_lt.mpr z)
      omega
    array_mem_dec
    refine ⟨.ref p4, tbD rows, _, rfl, .lst c4, ?_⟩
    dsimp only [List.set]
    refine ⟨.ref p2, natsD ord, C, rfl, .trans (.lst (by unfold delC; rw [if_neg d24]; exact c2)) (.drop (sub_delM (sub_delM sC n4) n2)), ?_⟩
    dsimp only [List.set]
    array_mem_dec
    exact hq ord rows nu hge
end G
set_option maxHeartbeats 2000000
namespace G
open PySem PySem.Spec PyProof.Rows L2
local macro_rules | `(tactic| decreasing_trivial_pre_omega) => `(tactic| first | with_reducible refine v_setdN ?_ | with_reducible refine v_putN ?_ | with_reducible refine v_d1N ?_ | with_reducible refine v_d1K ?_ | with_reducible refine v_newN ?_ | with_reducible refine v_exi ?_ | with_reducible refine v_exf ?_ | with_reducible refine v_exv ?_ | with_reducible refine v_con ?_ | with_reducible refine v_tryN ?_ | with_reducible refine v_pnil ?_ | with_reducible refine v_pcons ?_ | with_reducible refine v_dictD ?_ | with_reducible refine v_get1 ?_)
/-! ### signs that lead alike have one class -/
def colM (f : Nat → Nat) (rows : Tb) (c : Nat) : List Int := rows.map fun r => r.getD (f c) (-1)
def mrgF (f : Nat → Nat) (rows : Tb) : Nat → Nat := clsOf (colM f rows)
def mrgC (f : Nat → Nat) (rows : Tb) : List (List Int) := firsts (sgAll.map (colM f rows))
def mrgT (f : Nat → Nat) (rows : Tb) : Tb := (List.range rows.length).map fun s => (mrgC f rows).map fun col => col.getD s (-1)
theorem pos_get {α : Type} [DecidableEq α] {l : List α} {a : α} (h : a ∈ l) : l[posF l a]? = some a := by
  unfold posF
  have h1 := List.idxOf_lt_length_iff.mpr h
  rw [List.getElem?_eq_getElem h1, List.getElem_idxOf h1]
theorem clsOf_lt {α : Type} [DecidableEq α] {m : Nat → α} {c : Nat} (h : c ∈ sgAll) : clsOf m c < (firsts (sgAll.map m)).length := List.idxOf_lt_length_iff.mpr (mem_firsts.mpr (List.mem_map.mpr ⟨c, h, rfl⟩))
theorem clsOf_at {α : Type} [DecidableEq α] {m : Nat → α} {c : Nat} (h : c ∈ sgAll) : (firsts (sgAll.map m))[clsOf m c]? = some (m c) := pos_get (mem_firsts.mpr (List.mem_map.mpr ⟨c, h, rfl⟩))
theorem mrgF_lt {f : Nat → Nat} {rows : Tb} {c : Nat} (h : c ∈ sgAll) : mrgF f rows c < (mrgC f rows).length := clsOf_lt h
theorem mrgC_at {f : Nat → Nat} {rows : Tb} {c : Nat} (h : c ∈ sgAll) : (mrgC f rows)[mrgF f rows c]? = some (colM f rows c) := clsOf_at h
theorem mrgC_len {f : Nat → Nat} {rows : Tb} : (mrgC f rows).length ≤ 94 := Nat.le_trans (len_firsts _) (by rw [List.length_map, sgAll_len]; exact Nat.le_refl _)
theorem mrgT_len {f : Nat → Nat} {rows : Tb} : (mrgT f rows).length = rows.length := by
  unfold mrgT
  rw [List.length_map, List.length_range]
theorem mrgT_row {f : Nat → Nat} {rows : Tb} {s : Nat} (h : s < rows.length) : (mrgT f rows)[s]? = some ((mrgC f rows).map fun col => col.getD s (-1)) := by
  unfold mrgT
  rw [List.getElem?_map, List.getElem?_range h]
  rfl
theorem colM_at {f : Nat → Nat} {rows : Tb} {c s : Nat} {r : List Int} (h : rows[s]? = some r) : (colM f rows c).getD s (-1) = r.getD (f c) (-1) := by
  unfold colM
  rw [List.getD_eq_getElem?_getD, List.getElem?_map, h]
  rfl
/-- by each sign it goes where it went -/
theorem mrgT_tgt {f : Nat → Nat} {rows : Tb} {k c s : Nat} (hw : TbW rows k) (hf : f c < k) (hc : c ∈ sgAll) (hs : s < rows.length) : tgt (mrgT f rows) s (mrgF f rows c) = tgt rows s (f c) := by
  obtain ⟨r, hr⟩ : ∃ r, rows[s]? = some r := ⟨_, List.getElem?_eq_getElem hs⟩
  have hl := hw r (List.mem_of_getElem? hr)
  obtain ⟨u, hu⟩ : ∃ u, r[f c]? = some u := ⟨_, List.getElem?_eq_getElem (by rw [hl]; exact hf)⟩
  unfold tgt
  rw [mrgT_row hs, hr, Option.bind_some, Option.bind_some, List.getElem?_map, mrgC_at hc, Option.map_some, colM_at hr, List.getD_eq_getElem?_getD, hu]
  rfl
theorem mrgT_ent {f : Nat → Nat} {rows : Tb} {k : Nat} (hw : TbW rows k) (hf : ∀ c ∈ sgAll, f c < k) {r : List Int} (hr : r ∈ mrgT f rows) {t : Int} (ht : t ∈ r) : ∃ r' ∈ rows, t ∈ r' := by
  unfold mrgT at hr
  obtain ⟨s, hs, rfl⟩ := List.mem_map.mp hr
  have hs := List.mem_range.mp hs
  obtain ⟨col, hcol, rfl⟩ := List.mem_map.mp ht
  obtain ⟨c, hc, rfl⟩ := List.mem_map.mp (mem_firsts.mp hcol)
  obtain ⟨r, hr⟩ : ∃ r, rows[s]? = some r := ⟨_, List.getElem?_eq_getElem hs⟩
  have hl := hw r (List.mem_of_getElem? hr)
  rw [colM_at hr]
  refine ⟨r, List.mem_of_getElem? hr, ?_⟩
  rw [List.getD_eq_getElem?_getD, List.getElem?_eq_getElem (by rw [hl]; exact hf c hc)]
  exact List.getElem_mem _
theorem mrgT_w {f : Nat → Nat} {rows : Tb} : TbW (mrgT f rows) (mrgC f rows).length := fun r hr => by
  unfold mrgT at hr
  obtain ⟨s, hs, rfl⟩ := List.mem_map.mp hr
  rw [List.length_map]
theorem mapD_val {g : Nat → D} {c : Nat} : ∀ {l : List Nat}, c ∈ l → valD (l.map fun c => (keyC c, g c)) (keyC c) = some (g c)
  | x :: l, h => by
    rw [List.map_cons, valD_cons]
    by_cases e : x = c
    · rw [if_pos (by rw [e]), e]
    · rw [if_neg fun z => e (keyC_inj z)]
      exact mapD_val (by rcases List.mem_cons.mp h with z | z; exact absurd z.symm e; exact z)
def sp_merged : DSp := fun ds C Q _ => ∃ f rows k, ds = [.dic (clsD f sgAll), tbD rows] ∧ (∀ c ∈ sgAll, f c < k) ∧ TbW rows k ∧ rows.length ≤ 100000 ∧ Q (.tup [.dic (clsD (mrgF f rows) sgAll), tbD (mrgT f rows)]) C
def td_merged : DS :=
  (dSeq (dAsg dNewK (dName 2))
    (dSeq (dFor (diStr (dC (.str [32, 33, 34, 35, 36, 38, 39, 40, 41, 42, 43, 44, 45, 46, 47, 48, 49, 50, 51, 52, 53, 54, 55, 56, 57, 58, 59, 60, 61, 62, 63, 64, 65, 66, 67, 68, 69, 70, 71, 72, 73, 74, 75, 76, 77, 78, 79, 80, 81, 82, 83, 84, 85, 86, 87, 88, 89, 90, 91, 92, 93, 94, 95, 96, 97, 98, 99, 100, 101, 102, 103, 104, 105, 106, 107, 108, 109, 110, 111, 112, 113, 114, 115, 116, 117, 118, 119, 120, 121, 122, 123, 124, 125, 126]))) (dName 3)
    (dPutK (dVar 2) (dVar 3) (dCB rTuple (dCons (dFz (dLc (diList (dVar 1)) (dName 6) dYes (dOp rIx (dVar 6) (dOp rGetK (dVar 0) (dVar 3))) [6])) dNil))))
    (dSeq (dAsg (dCall sp_sign_classes [] (dCons (dVar 2) dNil)) (dgTup 2 (dgCons (dName 4) (dgCons (dName 5) dgNil))))
    (dRet (dTup (dCons (dVar 4) (dCons (dFz (dLc (diRng1 (dCons (dCB rLen (dCons (dVar 1) dNil)) dNil)) (dName 7) dYes (dFz (dLc (diList (dVar 5)) (dName 8) dYes (dOp rIx (dVar 8) (dVar 7)) [8])) [7])) dNil)))))))
theorem len_merged (ds : List D) (C : Cl) (Q : DQ) (E : DX) (h : sp_merged ds C Q E) : ds.length = 2 := by repeat (first | (obtain ⟨rfl, _⟩ := h; exact rfl) | (obtain ⟨_, h⟩ := h))
theorem pure_merged (ds : List D) (C : Cl) (Q : DQ) (E : DX) (h : sp_merged ds C Q E) : td_merged (endsD Q) (startD ["signs", "rows", "marks", "sign", "classes", "columns", "row", "state", "column"] ds) C := by
  obtain ⟨f, rows, k, rfl, hf, hw, hn, hq⟩ := h
  unfold td_merged
  refine v_ends ?_
  simp only [startD, List.map_cons, List.map_nil, List.length_cons, List.length_nil, Nat.reduceAdd, Nat.reduceSub, List.reduceReplicate, List.cons_append, List.nil_append]
  array_mem_dec
  intro p n2
  array_mem_dec
  refine v_forStr (fun i ρ C' => ∃ s3, ρ = [some (.dic (clsD f sgAll)), some (tbD rows), some (.ref p), s3, none, none, none, none, none] ∧ C' p = some (.dic ((sgAll.take i).map fun c => (keyC c, KNI.enc (colM f rows c)))) ∧ SubC C C') ⟨_, rfl, updC_same, (SubC.refl C).new n2⟩ ?_ ?_
  · rintro i d ρ C' hd ⟨s3, rfl, c2, sC⟩
    obtain ⟨c, hc, rfl⟩ := signs_get hd
    have hc : sgAll[i]? = some c := hc
    have hcm : c ∈ sgAll := List.mem_of_getElem? hc
    have hct : c ∉ sgAll.take i := fun z => by
      obtain ⟨j, hj⟩ := List.mem_iff_getElem?.mp z
      have hi : i < 94 := (List.getElem?_eq_some_iff.mp hc).1
      have hj2 : j < i := by have := (List.getElem?_eq_some_iff.mp hj).1; rw [List.length_take] at this; omega
      rw [List.getElem?_take_of_lt hj2] at hj
      have := (List.getElem?_inj (by show j < 94; omega) sgAll_nodup).mp (hj.trans hc.symm)
      omega
    have htk : sgAll.take (i + 1) = sgAll.take i ++ [c] := by rw [List.take_add_one, hc]; rfl
    array_mem_dec
    refine v_lcmapF (as := rows) (e := rowD) (fun r => D.int (r.getD (f c) (-1))) (fun R h => ?_) (szl (by omega)) (fun j r C3 N hj hm hs hN => ?_) ?_
    · array_mem_dec
      exact ⟨_, rfl, h⟩
    · have hl := hw r hm
      array_mem_dec
      refine ⟨_, keyC c, _, rfl, rfl, clsD_val hcm, ?_⟩
      refine ix_list rfl (by rw [List.getElem?_map, List.getElem?_eq_getElem (by rw [hl]; exact hf c hcm)]; rfl) ?_
      rw [List.getD_eq_getElem?_getD, List.getElem?_eq_getElem (by rw [hl]; exact hf c hcm)] at hN
      exact hN
    array_mem_dec
    have hno : valD ((sgAll.take i).map fun c => (keyC c, KNI.enc (colM f rows c))) (keyC c) = none := valD_no fun q hq2 => by
      obtain ⟨x, hx, rfl⟩ := List.mem_map.mp hq2
      intro e
      rw [keyC_inj e] at hx
      exact hct hx
    have ecol : D.tup (rows.map fun r => D.int (r.getD (f c) (-1))) = KNI.enc (colM f rows c) := by
      show _ = D.tup ((rows.map fun r => r.getD (f c) (-1)).map D.int)
      rw [List.map_map]
      rfl
    refine ⟨p, _, keyC c, rfl, c2, rfl, by rw [List.length_map, List.length_take, sgAll_len, sizeLine_eq]; omega, _, rfl, ?_, sC.new n2⟩
    rw [updC_same, putKD_none hno, htk, List.map_append, ecol]
    rfl
  · rintro ρ C' ⟨s3, rfl, c2, sC⟩
    have c2 : C' p = some (.dic ((sgAll.take 94).map fun c => (keyC c, KNI.enc (colM f rows c)))) := c2
    have e2 : sgAll.take 94 = sgAll := List.take_of_length_le (Nat.le_refl _)
    rw [e2] at c2
    array_mem_dec
    refine ⟨List Int, inferInstance, KDN KNI, .ref p, _, colM f rows, rfl, dicOf_ref c2, fun c hc => ?_, ?_⟩
    · exact mapD_val (g := fun c => KNI.enc (colM f rows c)) hc
    have ecs : (firsts (sgAll.map (colM f rows))).map (KDN KNI).enc = (mrgC f rows).map fun col => D.tup (col.map D.int) := rfl
    rw [ecs]
    array_mem_dec
    refine v_lcmapF (as := List.range rows.length) (e := fun i => .int (i : Nat)) (fun s => rowD ((mrgC f rows).map fun col => col.getD s (-1))) (fun R h => ?_) (szl (by rw [List.length_range]; omega)) (fun i s C3 N hi hm hs hN => ?_) ?_
    · array_mem_dec
      refine ⟨tbD rows, rows.length, rfl, by show some _ = _; rw [List.length_map], trivial, ?_⟩
      array_mem_dec
      refine ⟨_, rfl, by omega, ?_⟩
      rw [Int.toNat_natCast, show ranged 0 rows.length = (List.range rows.length).map fun i => D.int (i : Nat) from by unfold ranged; exact List.map_congr_left fun i _ => by rw [Int.zero_add]]
      exact h
    · have hsl := List.mem_range.mp hm
      array_mem_dec
      refine v_lcmapF (as := mrgC f rows) (e := fun col => D.tup (col.map D.int)) (fun col => D.int (col.getD s (-1))) (fun R h => ?_) (szl (by have := mrgC_len (f := f) (rows := rows); omega)) (fun j col C4 N hj hm hs hN => ?_) ?_
      · array_mem_dec
        exact h
      · array_mem_dec
        obtain ⟨c, hc, rfl⟩ := List.mem_map.mp (mem_firsts.mp hm)
        have hcl : s < (colM f rows c).length := by unfold colM; rw [List.length_map]; exact hsl
        refine ix_list rfl (by rw [List.getElem?_map, List.getElem?_eq_getElem hcl]; rfl) ?_
        rw [List.getD_eq_getElem?_getD, List.getElem?_eq_getElem hcl] at hN
        exact hN
      · unfold rowD at hN
        rw [List.map_map] at hN
        exact hN
    refine ⟨szl (Nat.le_of_ble_eq_true rfl), _, C, .drop sC, ?_⟩
    have e3 : D.lst ((List.range rows.length).map fun s => rowD ((mrgC f rows).map fun col => col.getD s (-1))) = tbD (mrgT f rows) := by
      unfold tbD mrgT
      rw [List.map_map]
      rfl
    rw [e3]
    exact hq
end G
set_option maxHeartbeats 2000000
namespace G
open PySem PySem.Spec PyProof.Rows L2
local macro_rules | `(tactic| decreasing_trivial_pre_omega) => `(tactic| first | with_reducible refine v_setdN ?_ | with_reducible refine v_putN ?_ | with_reducible refine v_d1N ?_ | with_reducible refine v_d1K ?_ | with_reducible refine v_newN ?_ | with_reducible refine v_exi ?_ | with_reducible refine v_exf ?_ | with_reducible refine v_exv ?_ | with_reducible refine v_con ?_ | with_reducible refine v_tryN ?_ | with_reducible refine v_pnil ?_ | with_reducible refine v_pcons ?_ | with_reducible refine v_dictD ?_ | with_reducible refine v_get1 ?_)
local macro_rules | `(tactic| decreasing_trivial_pre_omega) => `(tactic| with_reducible refine v_frz ?_)
/-! ### the machine -/
abbrev natT (l : List Nat) : List D := l.map fun x => D.int (x : Nat)
abbrev mcFs (f : Nat → Nat) (tb : Tb) (acc : List Nat) : List (Str × D) := [("signs", .dic (clsD f sgAll)), ("table", tbD tb), ("accepting", .tup (natT acc))]
abbrev machD (f : Nat → Nat) (tb : Tb) (acc : List Nat) : D := .ins "Machine" (mcFs f tb acc)
def sp_Machine_init : DSp := fun ds C Q _ => ∃ p f tb acc, ds = [.ref p, .dic (clsD f sgAll), tbD tb, .tup (natT acc)] ∧ C p = some (.ins "Machine" []) ∧ Q .non (updC C p (.ins "Machine" (mcFs f tb acc)))
def td_Machine_init : DS :=
  (dSeq (dFldSet ["Machine"] (dVar 0) (dVar 1) "signs")
    (dSeq (dFldSet ["Machine"] (dVar 0) (dVar 2) "table")
    (dFldSet ["Machine"] (dVar 0) (dVar 3) "accepting")))
theorem len_Machine_init (ds : List D) (C : Cl) (Q : DQ) (E : DX) (h : sp_Machine_init ds C Q E) : ds.length = 4 := by repeat (first | (obtain ⟨rfl, _⟩ := h; exact rfl) | (obtain ⟨_, h⟩ := h))
theorem pure_Machine_init (ds : List D) (C : Cl) (Q : DQ) (E : DX) (h : sp_Machine_init ds C Q E) : td_Machine_init (endsD Q) (startD ["self", "signs", "table", "accepting"] ds) C := by
  obtain ⟨p, f, tb, acc, rfl, hp, hq⟩ := h
  unfold td_Machine_init
  refine v_ends ?_
  simp only [startD, List.map_cons, List.map_nil, List.length_cons, List.length_nil, Nat.reduceAdd, Nat.reduceSub, List.reduceReplicate, List.cons_append, List.nil_append]
  array_mem_dec
  refine ⟨p, _, _, .head _, rfl, hp, by decide, ?_⟩
  rw [show putD ("signs" : Str) (.dic (clsD f sgAll)) [] = (mcFs f tb acc).take 1 from rfl]
  array_mem_dec
  refine ⟨p, _, _, .head _, rfl, updC_same, by show 1 < 1000; decide, ?_⟩
  rw [updC_updC, show putD ("table" : Str) (tbD tb) ((mcFs f tb acc).take 1) = (mcFs f tb acc).take 2 from rfl]
  array_mem_dec
  refine ⟨p, _, _, .head _, rfl, updC_same, by show 2 < 1000; decide, _, SubC.refl _, ?_⟩
  rw [updC_updC, show putD ("accepting" : Str) (.tup (natT acc)) ((mcFs f tb acc).take 2) = mcFs f tb acc from rfl]
  exact hq
structure Mach (f : Nat → Nat) (tb : Tb) (acc : List Nat) : Prop where
  wid : ∃ k, k ≤ 94 ∧ TbW tb k ∧ ∀ c ∈ sgAll, f c < k
  pos : 0 < tb.length
  small : tb.length ≤ 100000
  row : ∀ r ∈ tb, ∀ t ∈ r, t < (tb.length : Int)
  acc : acc.length ≤ tb.length
def runM (f : Nat → Nat) (tb : Tb) : Nat → List Nat → Option Nat
  | s, [] => some s
  | s, c :: w => if c ∈ sgAll then (match tgt tb s (f c) with | some t => runM f tb t w | none => none) else none
def acM (acc : List Nat) : Option Nat → Bool
  | some s => decide (s ∈ acc)
  | none => false
def langM (f : Nat → Nat) (tb : Tb) (acc : List Nat) (w : List Nat) : Bool := acM acc (runM f tb 0 w)
def sgW (w : List Nat) : Bool := w.all fun c => decide (c ∈ sgAll)
theorem num_acc {tb : Tb} {ac us : List Bool} {gs : List Int} {ord : List Nat} {rows : Tb} (ok : TbOk tb ac) (hu : UsOk tb ac us) (g : Grp tb ac us gs) (nu : Num tb us gs ord rows) (hl : rows.length = ord.length) : ∀ (w : List Nat) (i s : Nat), ord[i]? = some s → accW rows (ord.map fun s => ac.getD s false) i w = accW tb ac s w := by
  intro w
  induction w with
  | nil =>
    intro i s h
    have hs := nu.sub s (List.mem_of_getElem? h)
    have hn := ((hu.iff s).mp hs).1
    unfold accW
    rw [List.getElem?_map, h, Option.map_some, List.getD_eq_getElem?_getD, List.getElem?_eq_getElem (by rw [ok.len]; exact hn)]
    rfl
  | cons c w ih =>
    intro i s h
    have hs := nu.sub s (List.mem_of_getElem? h)
    have hn := ((hu.iff s).mp hs).1
    have hi : i < rows.length := by rw [hl]; exact (List.getElem?_eq_some_iff.mp h).1
    obtain ⟨r, hr⟩ : ∃ r, tb[s]? = some r := ⟨_, List.getElem?_eq_getElem hn⟩
    obtain ⟨e1, e2⟩ := nu.row i s r hi h hr
    cases hc : r[c]? with
    | none =>
      have t1 : tgt tb s c = none := by unfold tgt; rw [hr, Option.bind_some, hc]; rfl
      have t2 : tgt rows i c = none := by unfold tgt; rw [e1, Option.bind_some, List.getElem?_map, hc]; rfl
      rw [accW, accW, t1, t2]
    | some t =>
      have hrow : (r.map (ent gs (grpO gs ord)))[c]? = some (ent gs (grpO gs ord) t) := by rw [List.getElem?_map, hc]; rfl
      by_cases hg : 0 ≤ gT gs t
      · obtain ⟨z, rfl, hz, ez⟩ := gT_live g hg
        have hm := e2 _ (List.mem_of_getElem? hc) hg
        have hp := pos_get hm
        have t1 : tgt tb s c = some z := tgt_eq hr hc
        have t2 : tgt rows i c = some (posF (grpO gs ord) (gT gs (z : Int))) := tgt_eq e1 (by rw [hrow, ent, if_pos hg])
        unfold grpO at hp
        rw [List.getElem?_map] at hp
        obtain ⟨s', hs', eq⟩ := Option.map_eq_some_iff.mp hp
        rw [accW, accW, t1, t2]
        have hs2 := nu.sub s' (List.mem_of_getElem? hs')
        exact (ih _ s' hs').trans ((g.eqv s' z hs2 hz).mp (by rw [eq, ez]) w)
      · have t2 : tgt rows i c = none := tgt_neg e1 hrow (by rw [ent, if_neg hg]; omega)
        rw [accW, t2]
        by_cases h0 : 0 ≤ t
        · obtain ⟨z, rfl⟩ := Int.eq_ofNat_of_zero_le h0
          have hzn : z < tb.length := by have := (ok.row r (List.mem_of_getElem? hr)).2 _ (List.mem_of_getElem? hc); omega
          rw [accW, tgt_eq hr hc]
          refine (hu.neg (fun hz => hg ?_) hzn w).symm
          unfold gT
          rw [if_pos h0, Int.toNat_natCast]
          exact g.pos z hz
        · rw [accW, tgt_neg hr hc (by omega)]
theorem mrg_acc {f : Nat → Nat} {rows : Tb} {ac : List Bool} {k : Nat} (hw : TbW rows k) (hf : ∀ c ∈ sgAll, f c < k) (hr : ∀ r ∈ rows, ∀ t ∈ r, t < (rows.length : Int)) : ∀ (w : List Nat) (s : Nat), s < rows.length → acM (truesF 0 ac) (runM (mrgF f rows) (mrgT f rows) s w) = (sgW w && accW rows ac s (w.map f)) := by
  intro w
  induction w with
  | nil =>
    intro s hs
    unfold runM acM sgW
    rw [List.map_nil, accW, List.all_nil, Bool.true_and]
    by_cases h : ac[s]? = some true
    · rw [h]
      exact decide_eq_true (mem_us.mpr h)
    · rw [beq_eq_false_iff_ne.mpr h]
      exact decide_eq_false (fun z => h (mem_us.mp z))
  | cons c w ih =>
    intro s hs
    have e : sgW (c :: w) = (decide (c ∈ sgAll) && sgW w) := by unfold sgW; rw [List.all_cons]
    rw [e, List.map_cons, runM, accW]
    by_cases hc : c ∈ sgAll
    · rw [if_pos hc, decide_eq_true hc, Bool.true_and, mrgT_tgt hw (hf c hc) hc hs]
      cases ht : tgt rows s (f c) with
      | none => simp [acM]
      | some t =>
        obtain ⟨r, h1, h2⟩ := tgt_some ht
        have := hr r (List.mem_of_getElem? h1) _ (List.mem_of_getElem? h2)
        exact ih t (by omega)
    · rw [if_neg hc, decide_eq_false hc, Bool.false_and, Bool.false_and]
      rfl
/-- each class has a sign -/
def Onto (f : Nat → Nat) (k : Nat) : Prop := ∀ j < k, ∃ c ∈ sgAll, f c = j
theorem onto_word {f : Nat → Nat} {tb : Tb} {ac : List Bool} {k : Nat} (hw : TbW tb k) (ho : Onto f k) : ∀ (w : List Nat) (s : Nat), accW tb ac s w = true → ∃ v, sgW v = true ∧ v.map f = w
  | [], _, _ => ⟨[], rfl, rfl⟩
  | c :: w, s, h => by
    rw [accW] at h
    cases ht : tgt tb s c with
    | none => rw [ht] at h; cases h
    | some t =>
      rw [ht] at h
      obtain ⟨r, h1, h2⟩ := tgt_some ht
      have hl := hw r (List.mem_of_getElem? h1)
      have hck : c < k := by rw [← hl]; exact (List.getElem?_eq_some_iff.mp h2).1
      obtain ⟨d, hd, rfl⟩ := ho c hck
      obtain ⟨v, hv, rfl⟩ := onto_word hw ho w t h
      refine ⟨d :: v, ?_, rfl⟩
      unfold sgW
      rw [List.all_cons, decide_eq_true hd]
      exact hv
def selA (ac : List Bool) : D → Option D
  | .tup [i, .int s] => if ac.getD s.toNat false = true then some i else none
  | _ => none
theorem selA_eq {ac : List Bool} : ∀ (k : Nat) (ord : List Nat), (numbered k (natT ord)).filterMap (selA ac) = natT (truesF k (ord.map fun s => ac.getD s false))
  | _, [] => rfl
  | k, s :: ord => by
    have e : numbered k (natT (s :: ord)) = .tup [.int (k : Nat), .int (s : Nat)] :: numbered (k + 1) (natT ord) := rfl
    rw [e, List.filterMap_cons, selA_eq (k + 1) ord, List.map_cons]
    unfold selA
    dsimp only
    rw [Int.toNat_natCast]
    cases h : ac.getD s false with
    | true => rfl
    | false => rfl
structure FinM (f : Nat → Nat) (tb : Tb) (ac : List Bool) (f' : Nat → Nat) (tb' : Tb) (acc : List Nat) : Prop where
  mach : Mach f' tb' acc
  lang : ∀ w, langM f' tb' acc w = (sgW w && accW tb ac 0 (w.map f))
  some_ : acc ≠ [] ↔ ∃ w, langM f' tb' acc w = true
theorem num_row {tb : Tb} {ac us : List Bool} {gs : List Int} {ord : List Nat} {rows : Tb} (ok : TbOk tb ac) (hu : UsOk tb ac us) (nu : Num tb us gs ord rows) (hl : rows.length = ord.length) (r : List Int) (hr : r ∈ rows) : (∀ {k : Nat}, TbW tb k → r.length = k) ∧ ∀ t ∈ r, t < (rows.length : Int) := by
  obtain ⟨i, hi⟩ := List.mem_iff_getElem?.mp hr
  have hil := (List.getElem?_eq_some_iff.mp hi).1
  obtain ⟨s, hs⟩ : ∃ s, ord[i]? = some s := ⟨_, List.getElem?_eq_getElem (by rw [← hl]; exact hil)⟩
  have hsn := ((hu.iff s).mp (nu.sub s (List.mem_of_getElem? hs))).1
  obtain ⟨r', hr'⟩ : ∃ r, tb[s]? = some r := ⟨_, List.getElem?_eq_getElem hsn⟩
  obtain ⟨e, e2⟩ := nu.row i s r' hil hs hr'
  rw [hi] at e
  cases e
  refine ⟨fun {k} hw => ?_, fun t ht => ?_⟩
  · rw [List.length_map]
    exact hw r' (List.mem_of_getElem? hr')
  · obtain ⟨u, hu2, rfl⟩ := List.mem_map.mp ht
    unfold ent
    by_cases hg : 0 ≤ gT gs u
    · rw [if_pos hg]
      have hm := e2 u hu2 hg
      have := (List.getElem?_eq_some_iff.mp (pos_get hm)).1
      unfold grpO at this ⊢
      rw [List.length_map] at this
      omega
    · rw [if_neg hg]
      omega
def sp_finished : DSp := fun ds C Q _ => ∃ f tb ac k, ds = [.dic (clsD f sgAll), tbD tb, blD ac] ∧ TbOk tb ac ∧ TbW tb k ∧ (∀ c ∈ sgAll, f c < k) ∧ Onto f k ∧ ∀ f' tb' acc, FinM f tb ac f' tb' acc → Q (machD f' tb' acc) C
def td_finished : DS :=
  (dSeq (dAsg (dCall sp_useful_states [] (dCons (dVar 1) (dCons (dVar 2) dNil))) (dName 3))
    (dSeq (dIfS (dNot (dTest (dOp rIx (dVar 3) (dC (.int 0))))) (dRet (dMake "Machine" (pos2 sp_Machine_init []) (dCons (dFrz (dDc (diStr (dC (.str [32, 33, 34, 35, 36, 38, 39, 40, 41, 42, 43, 44, 45, 46, 47, 48, 49, 50, 51, 52, 53, 54, 55, 56, 57, 58, 59, 60, 61, 62, 63, 64, 65, 66, 67, 68, 69, 70, 71, 72, 73, 74, 75, 76, 77, 78, 79, 80, 81, 82, 83, 84, 85, 86, 87, 88, 89, 90, 91, 92, 93, 94, 95, 96, 97, 98, 99, 100, 101, 102, 103, 104, 105, 106, 107, 108, 109, 110, 111, 112, 113, 114, 115, 116, 117, 118, 119, 120, 121, 122, 123, 124, 125, 126]))) (dName 8) dYes (dVar 8) (dC (.int 0)) [8])) (dCons (dLst (dCons (dLst (dCons (dUn rNeg (dC (.int 1))) dNil)) dNil)) (dCons (dTup dNil) dNil))) dNil)) dNext)
    (dSeq (dAsg (dCall sp_refined [] (dCons (dVar 1) (dCons (dVar 2) (dCons (dVar 3) dNil)))) (dName 4))
    (dSeq (dAsg (dCall sp_numbered [] (dCons (dVar 1) (dCons (dVar 4) dNil))) (dgTup 2 (dgCons (dName 5) (dgCons (dName 6) dgNil))))
    (dSeq (dAsg (dCall sp_merged [] (dCons (dVar 0) (dCons (dVar 6) dNil))) (dgTup 2 (dgCons (dName 7) (dgCons (dName 6) dgNil))))
    (dRet (dMake "Machine" (pos2 sp_Machine_init []) (dCons (dVar 7) (dCons (dVar 6) (dCons (dCB rTuple (dCons (dFz (dLc (diEnumS (dCons (dVar 5) dNil)) (dgTup 2 (dgCons (dName 9) (dgCons (dName 10) dgNil))) (dTest (dOp rIx (dVar 2) (dVar 10))) (dVar 9) [9, 10])) dNil)) dNil))) dNil)))))))
theorem len_finished (ds : List D) (C : Cl) (Q : DQ) (E : DX) (h : sp_finished ds C Q E) : ds.length = 3 := by repeat (first | (obtain ⟨rfl, _⟩ := h; exact rfl) | (obtain ⟨_, h⟩ := h))
theorem pure_finished (ds : List D) (C : Cl) (Q : DQ) (E : DX) (h : sp_finished ds C Q E) : td_finished (endsD Q) (startD ["signs", "table", "accepts", "useful", "groups", "order", "rows", "classes", "sign", "place", "state"] ds) C := by
  obtain ⟨f, tb, ac, k, rfl, ok, hw, hf, ho, hq⟩ := h
  unfold td_finished
  refine v_ends ?_
  simp only [startD, List.map_cons, List.map_nil, List.length_cons, List.length_nil, Nat.reduceAdd, Nat.reduceSub, List.reduceReplicate, List.cons_append, List.nil_append]
  array_mem_dec
  refine ⟨tb, ac, rfl, ok, fun us hul hus => ?_⟩
  have hu : UsOk tb ac us := ⟨hul, hus⟩
  obtain ⟨b, hb⟩ : ∃ b, us[0]? = some b := ⟨_, List.getElem?_eq_getElem (by rw [hul]; exact ok.pos)⟩
  array_mem_dec
  refine ix_list (j := 0) rfl (d := .bl b) (by rw [List.getElem?_map, hb]; rfl) ?_
  array_mem_dec
  cases b with
  | false =>
    array_mem_dec
    have nk : (sgAll.map keyC).Nodup := by
      have : ∀ {l : List Nat}, l.Nodup → (l.map keyC).Nodup := fun {l} => by
        induction l with
        | nil => intro _; simp
        | cons a l ih =>
          intro n
          rw [List.nodup_cons] at n
          rw [List.map_cons, List.nodup_cons]
          refine ⟨fun z => ?_, ih n.2⟩
          obtain ⟨b, hb, e⟩ := List.mem_map.mp z
          rw [keyC_inj e] at hb
          exact n.1 hb
      exact this sgAll_nodup
    refine v_dcmap (as := sgAll) (e := fun c => D.str [c]) keyC (fun _ => .int 0) (fun R h => ?_) (by rw [sgAll_len]; omega) (fun i c C8 N hi hm s8 hN => ?_) fun p hp => ?_
    · array_mem_dec
      exact ⟨sgAll, rfl, h⟩
    · array_mem_dec
      exact hN _ rfl
    rw [dcKvs_map nk]
    refine ⟨p, _, rfl, updC_same, ?_⟩
    rw [delC_new hp]
    array_mem_dec
    refine ⟨1, rfl, ?_⟩
    array_mem_dec
    intro x hx
    array_mem_dec
    have noL : ¬ Lead tb ac 0 := fun l => by
      rw [(hu.iff 0).mpr ⟨ok.pos, l⟩] at hb
      cases hb
    have nolang : ∀ w, langM (fun _ => 0) [[-1]] [] w = false := fun w => by
      unfold langM
      cases runM (fun _ => 0) [[-1]] 0 w with
      | none => rfl
      | some s => rfl
    refine ⟨x, fun _ => 0, [[-1]], [], rfl, updC_same, rfl, machD (fun _ => 0) [[-1]] [], C, .trans (.ins updC_same) (.drop ?_), hq _ _ _ ⟨⟨⟨1, by omega, fun r hr => by rw [List.mem_singleton.mp hr]; rfl, fun c _ => by omega⟩, by decide, by decide, fun r hr t ht => ?_, by decide⟩, fun w => ?_, ⟨fun z => absurd rfl z, fun ⟨w, e⟩ => ?_⟩⟩⟩
    · rw [updC_updC, delC_new hx]
      exact SubC.refl C
    · rw [List.mem_singleton.mp hr] at ht
      rw [List.mem_singleton.mp ht]
      decide
    · rw [nolang, not_lead noL, Bool.and_false]
    · rw [nolang] at e
      cases e
  | true =>
    array_mem_dec
    refine ⟨tb, ac, us, k, rfl, ok, hw, hu, fun gs g => ?_⟩
    array_mem_dec
    refine ⟨tb, ac, us, gs, rfl, ok, hu, hb, g, fun ord rows nu hl => ?_⟩
    array_mem_dec
    refine ⟨f, rows, k, rfl, hf, ?_, ?_, ?_⟩
    · exact fun r hr => (num_row ok hu nu hl r hr).1 hw
    · rw [hl]
      exact Nat.le_trans (nu.small hu) ok.small
    array_mem_dec
    have hol := nu.small hu
    have hn := ok.small
    have rw_ : TbW rows k := fun r hr => (num_row ok hu nu hl r hr).1 hw
    have rlt : ∀ r ∈ rows, ∀ t ∈ r, t < (rows.length : Int) := fun r hr => (num_row ok hu nu hl r hr).2
    have hmem : ∀ s ∈ ord, s < ac.length := fun s hs => by
      rw [ok.len]
      exact ((hu.iff s).mp (nu.sub s hs)).1
    refine v_lcfil (xs := numbered 0 (natT ord)) (selA ac) (fun R h => ?_) (szl (by rw [numbered_length, List.length_map]; omega)) (fun i x C' N S hx s h1 h2 => ?_) ?_
    · array_mem_dec
      exact ⟨_, _, rfl, rfl, h⟩
    · obtain ⟨d, hd, rfl⟩ := numbered_get hx
      rw [List.getElem?_map] at hd
      obtain ⟨st, hst, rfl⟩ := Option.map_eq_some_iff.mp hd
      have hsl := hmem st (List.mem_of_getElem? hst)
      have eb : ac.getD st false = ac[st] := by rw [List.getD_eq_getElem?_getD, List.getElem?_eq_getElem hsl]; rfl
      array_mem_dec
      refine ix_list rfl (d := .bl ac[st]) (by rw [List.getElem?_map, List.getElem?_eq_getElem hsl]; rfl) ?_
      array_mem_dec
      unfold selA at h1 h2
      dsimp only at h1 h2
      rw [Int.toNat_natCast, eb] at h1 h2
      cases hac : ac[st] with
      | true =>
        array_mem_dec
        exact h1 _ (by rw [hac]; rfl)
      | false =>
        array_mem_dec
        exact h2 (by rw [hac]; rfl)
    rw [selA_eq]
    array_mem_dec
    intro x hx
    array_mem_dec
    have e0 := nu.start
    have h0 : 0 < rows.length := by rw [hl]; exact (List.getElem?_eq_some_iff.mp e0).1
    have lang : ∀ w, langM (mrgF f rows) (mrgT f rows) (truesF 0 (ord.map fun s => ac.getD s false)) w = (sgW w && accW tb ac 0 (w.map f)) := fun w => by
      unfold langM
      rw [mrg_acc rw_ hf rlt w 0 h0, num_acc ok hu g nu hl _ 0 0 e0]
    refine ⟨x, mrgF f rows, mrgT f rows, truesF 0 (ord.map fun s => ac.getD s false), rfl, updC_same, rfl, machD (mrgF f rows) (mrgT f rows) (truesF 0 (ord.map fun s => ac.getD s false)), C, .trans (.ins updC_same) (.drop ?_), hq _ _ _ ⟨⟨⟨_, mrgC_len, mrgT_w, fun c hc => mrgF_lt hc⟩, by rw [mrgT_len]; exact h0, by rw [mrgT_len, hl]; omega, fun r hr t ht => ?_, ?_⟩, lang, fun _ => ?_, fun ⟨w, e⟩ z => ?_⟩⟩
    · rw [updC_updC, delC_new hx]
      exact SubC.refl C
    · obtain ⟨r', h1, h2⟩ := mrgT_ent rw_ hf hr ht
      rw [mrgT_len]
      exact rlt r' h1 t h2
    · refine Nat.le_trans (len_truesF _ _) ?_
      rw [List.length_map, mrgT_len, hl]
      exact Nat.le_refl _
    · obtain ⟨w, e⟩ := lead_acc.mp ((hu.iff 0).mp hb).2
      obtain ⟨v, hv, rfl⟩ := onto_word hw ho w 0 e
      exact ⟨v, by rw [lang, hv, e]; rfl⟩
    · unfold langM at e
      rw [z] at e
      cases hr : runM (mrgF f rows) (mrgT f rows) 0 w with
      | none => rw [hr] at e; cases e
      | some s => rw [hr] at e; simp [acM] at e
end G
set_option maxHeartbeats 2000000
namespace G
open PySem PySem.Spec PyProof.Rows L2
local macro_rules | `(tactic| decreasing_trivial_pre_omega) => `(tactic| first | with_reducible refine v_frz ?_ | with_reducible refine v_setdN ?_ | with_reducible refine v_putN ?_ | with_reducible refine v_d1N ?_ | with_reducible refine v_d1K ?_ | with_reducible refine v_newN ?_ | with_reducible refine v_exi ?_ | with_reducible refine v_exf ?_ | with_reducible refine v_exv ?_ | with_reducible refine v_con ?_ | with_reducible refine v_tryN ?_ | with_reducible refine v_pnil ?_ | with_reducible refine v_pcons ?_ | with_reducible refine v_dictD ?_ | with_reducible refine v_get1 ?_)
/-! ### a machine of states that are found one after the other -/
def td_explored (act_step act_accepts : DA → DE) : DS :=
  (dSeq (dAsg (dCall sp_sign_classes [] (dCons (dVar 0) dNil)) (dgTup 2 (dgCons (dName 4) (dgCons (dName 5) dgNil))))
    (dSeq (dAsg (dOp rRepLC (dLst (dCons (dC (.str [])) dNil)) (dCB rLen (dCons (dVar 5) dNil))) (dName 6))
    (dSeq (dFor (diRev (dCons (dCB rListS (dCons (dC (.str [32, 33, 34, 35, 36, 38, 39, 40, 41, 42, 43, 44, 45, 46, 47, 48, 49, 50, 51, 52, 53, 54, 55, 56, 57, 58, 59, 60, 61, 62, 63, 64, 65, 66, 67, 68, 69, 70, 71, 72, 73, 74, 75, 76, 77, 78, 79, 80, 81, 82, 83, 84, 85, 86, 87, 88, 89, 90, 91, 92, 93, 94, 95, 96, 97, 98, 99, 100, 101, 102, 103, 104, 105, 106, 107, 108, 109, 110, 111, 112, 113, 114, 115, 116, 117, 118, 119, 120, 121, 122, 123, 124, 125, 126])) dNil)) dNil)) (dName 7)
    (dAsg (dVar 7) (dgSub (dVar 6) (dOp rGetK (dVar 4) (dVar 7)) rSetL)))
    (dSeq (dPar3 8 9 10 (dCons (dOrE (dD1K (dVar 1) (dC (.int 0))) (dD1N (dVar 1) (dC (.int 0)))) (dCons (dLstC (dCons (dVar 1) dNil)) (dCons (dLstC dNil) dNil))))
    (dView 6 (dSeq (dWhile (dTest (dOp rLtD (dCB rLen (dCons (dVar 10) dNil)) (dCB rLen (dCons (dVar 9) dNil)))) (dSeq (dPar 14 11 (dCons (dOp rIx (dVar 9) (dCB rLen (dCons (dVar 10) dNil))) (dCons (dLstC dNil) dNil)))
    (dView 6 (dSeq (dFor (diList (dVar 6)) (dName 12)
    (dSeq (dAsg (act_step (dCons (dVar 14) (dCons (dVar 12) dNil))) (dName 13))
    (dSeq (dIfS (dAnd (dTest (dOp rNotN (dVar 13) (dC .non))) (dTest (dOrE (dOp rNotInK (dVar 13) (dVar 8)) (dOp rNotInN (dVar 13) (dVar 8))))) (dSeq (dOrS (dPutK (dVar 8) (dVar 13) (dCB rLen (dCons (dVar 9) dNil))) (dPutN (dVar 8) (dVar 13) (dCB rLen (dCons (dVar 9) dNil))))
    (dDrop (dBM "list" rAppend (dVar 9) (dCons (dVar 13) dNil)))) dNext)
    (dDrop (dBM "list" rAppend (dVar 11) (dCons (dIf (dTest (dOp rIsN (dVar 13) (dC .non))) (dUn rNeg (dC (.int 1))) (dOrE (dOp rGetK (dVar 8) (dVar 13)) (dOp rGetN (dVar 8) (dVar 13)))) dNil))))))
    (dView 11 (dDrop (dBM "list" rAppend (dVar 10) (dCons (dVar 11) dNil))))))))
    (dView 10 (dView 9 (dRet (dCall sp_finished [] (dCons (dVar 4) (dCons (dVar 10) (dCons (dFz (dLc (diList (dVar 9)) (dName 14) dYes (act_accepts (dCons (dVar 14) dNil)) [14])) dNil)))))))))))))
def accS {α : Type} (stp : α → Nat → Option α) (acc : α → Bool) : α → List Nat → Bool
  | a, [] => acc a
  | a, c :: w => match stp a c with
    | some b => accS stp acc b w
    | none => false
/-- where it leads, as a number -/
def entS {α : Type} [DecidableEq α] (stp : α → Nat → Option α) (ord : List α) (a : α) (c : Nat) : Int := match stp a c with
  | some b => ((posF ord b : Nat) : Int)
  | none => -1
def InS {α : Type} (stp : α → Nat → Option α) (ord : List α) (a : α) (c : Nat) : Prop := ∀ b, stp a c = some b → b ∈ ord
section
variable {α : Type} [DecidableEq α] {stp : α → Nat → Option α} {acc : α → Bool}
theorem InS.pre {ord m : List α} {a : α} {c : Nat} (h : InS stp ord a c) : InS stp (ord ++ m) a c := fun b e => List.mem_append_left _ (h b e)
theorem entS_pre {ord m : List α} {a : α} {c : Nat} (h : InS stp ord a c) : entS stp (ord ++ m) a c = entS stp ord a c := by
  unfold entS
  cases e : stp a c with
  | none => rfl
  | some b => exact congrArg _ (posF_pre (h b e))
structure Exp (stp : α → Nat → Option α) (S : List α) (a0 : α) (hd : List Nat) (ord : List α) (tab : Tb) : Prop where
  start : ord[0]? = some a0
  nd : ord.Nodup
  sub : ∀ a ∈ ord, a ∈ S
  len : tab.length ≤ ord.length
  row : ∀ i a, i < tab.length → ord[i]? = some a → tab[i]? = some (hd.map (entS stp ord a)) ∧ ∀ c ∈ hd, InS stp ord a c
theorem Exp.more {S : List α} {a0 : α} {hd : List Nat} {ord : List α} {tab : Tb} {b : α} (h : Exp stp S a0 hd ord tab) (hb : b ∈ S) (hn : b ∉ ord) : Exp stp S a0 hd (ord ++ [b]) tab := by
  have h0 : 0 < ord.length := (List.getElem?_eq_some_iff.mp h.start).1
  refine ⟨by rw [List.getElem?_append_left h0]; exact h.start, ?_, fun s hs => ?_, by rw [List.length_append]; have := h.len; omega, fun i a hi ha => ?_⟩
  · rw [List.nodup_append]
    refine ⟨h.nd, by simp, fun x hx y hy z => ?_⟩
    rw [List.mem_singleton.mp hy] at z
    rw [z] at hx
    exact hn hx
  · rcases List.mem_append.mp hs with z | z
    · exact h.sub s z
    · rw [List.mem_singleton.mp z]
      exact hb
  · have hl := h.len
    rw [List.getElem?_append_left (by omega)] at ha
    obtain ⟨e1, e2⟩ := h.row i a hi ha
    refine ⟨?_, fun c hc => (e2 c hc).pre⟩
    rw [e1]
    congr 1
    exact List.map_congr_left fun c hc => (entS_pre (e2 c hc)).symm
theorem Exp.done {S : List α} {a0 a : α} {hd : List Nat} {ord : List α} {tab : Tb} (h : Exp stp S a0 hd ord tab) (ha : ord[tab.length]? = some a) (hi : ∀ c ∈ hd, InS stp ord a c) : Exp stp S a0 hd ord (tab ++ [hd.map (entS stp ord a)]) := by
  have hl := (List.getElem?_eq_some_iff.mp ha).1
  refine ⟨h.start, h.nd, h.sub, by rw [List.length_append, List.length_singleton]; omega, fun i a' hi' ha' => ?_⟩
  rw [List.length_append, List.length_singleton] at hi'
  by_cases z : i < tab.length
  · rw [List.getElem?_append_left z]
    exact h.row i a' z ha'
  · have e : i = tab.length := by omega
    subst e
    rw [ha] at ha'
    cases ha'
    exact ⟨by simp, hi⟩
theorem Exp.small {S : List α} {a0 : α} {hd : List Nat} {ord : List α} {tab : Tb} (h : Exp stp S a0 hd ord tab) : ord.length ≤ S.length := nodup_lenM h.nd h.sub
theorem exp_acc {S : List α} {a0 : α} {hd : List Nat} {ord : List α} {tab : Tb} {f : Nat → Nat} (h : Exp stp S a0 hd ord tab) (hl : tab.length = ord.length) (hf : ∀ c ∈ sgAll, ∃ d, hd[f c]? = some d ∧ ∀ a, stp a d = stp a c) : ∀ (w : List Nat) (i : Nat) (a : α), sgW w = true → ord[i]? = some a → accW tab (ord.map acc) i (w.map f) = accS stp acc a w := by
  intro w
  induction w with
  | nil =>
    intro i a _ ha
    rw [List.map_nil, accW, List.getElem?_map, ha, accS, Option.map_some]
    cases acc a <;> rfl
  | cons c w ih =>
    intro i a hw ha
    unfold sgW at hw
    rw [List.all_cons, Bool.and_eq_true] at hw
    have hc : c ∈ sgAll := of_decide_eq_true hw.1
    obtain ⟨d, hd', e⟩ := hf c hc
    have hi : i < tab.length := by rw [hl]; exact (List.getElem?_eq_some_iff.mp ha).1
    obtain ⟨e1, e2⟩ := h.row i a hi ha
    have hrow : (hd.map (entS stp ord a))[f c]? = some (entS stp ord a d) := by rw [List.getElem?_map, hd']; rfl
    rw [List.map_cons, accW, accS, ← e a]
    cases hs : stp a d with
    | none =>
      have : tgt tab i (f c) = none := tgt_neg e1 hrow (by unfold entS; rw [hs]; exact (by decide : (-1 : Int) < 0))
      rw [this]
    | some b =>
      have hm := e2 d (List.mem_of_getElem? hd') b hs
      have : tgt tab i (f c) = some (posF ord b) := tgt_eq e1 (by rw [hrow]; unfold entS; rw [hs])
      rw [this]
      exact ih _ b hw.2 (pos_get hm)
end

/-- the first sign of each class -/
structure Hds {α : Type} [DecidableEq α] (m : Nat → α) (hd : List Nat) : Prop where
  len : hd.length = (firsts (sgAll.map m)).length
  at_ : ∀ j c, hd[j]? = some c → c ∈ sgAll ∧ clsOf m c = j
theorem cls_onto {α : Type} [DecidableEq α] {m : Nat → α} {j : Nat} (h : j < (firsts (sgAll.map m)).length) : ∃ c ∈ sgAll, clsOf m c = j := by
  have hg := List.getElem?_eq_getElem h
  obtain ⟨c, hc, e⟩ := List.mem_map.mp (mem_firsts.mp (List.mem_of_getElem? hg))
  refine ⟨c, hc, ?_⟩
  have h2 := clsOf_at (m := m) hc
  have h3 := clsOf_lt (m := m) hc
  rw [← e] at hg
  exact (List.getElem?_inj h3 (nodup_firsts _)).mp (h2.trans hg.symm)
theorem hds_eq {α : Type} [DecidableEq α] {m : Nat → α} {hd : List Nat} (h : Hds m hd) {c : Nat} (hc : c ∈ sgAll) : ∃ d, hd[clsOf m c]? = some d ∧ m d = m c := by
  have hl := clsOf_lt (m := m) hc
  obtain ⟨d, hd'⟩ : ∃ d, hd[clsOf m c]? = some d := ⟨_, List.getElem?_eq_getElem (by rw [h.len]; exact hl)⟩
  obtain ⟨h1, h2⟩ := h.at_ _ d hd'
  refine ⟨d, hd', ?_⟩
  have e1 := clsOf_at (m := m) h1
  have e2 := clsOf_at (m := m) hc
  rw [h2] at e1
  exact Option.some.inj (e1.symm.trans e2)
/-- the heads after i signs from the end -/
def HdG (cl : Nat → Nat) (k : Nat) (l : List Nat) (i : Nat) (L : List D) : Prop := L.length = k ∧ ∀ j d, L[j]? = some d → (∃ c ∈ l, d = .str [c] ∧ cl c = j) ∨ ∀ c ∈ l.reverse.take i, cl c ≠ j
def HdI {α : Type} [DecidableEq α] (m : Nat → α) (i : Nat) (L : List D) : Prop := HdG (clsOf m) (firsts (sgAll.map m)).length sgAll i L
theorem hdG_zero {cl : Nat → Nat} {k : Nat} {l : List Nat} {d : D} : HdG cl k l 0 (List.replicate k [d]).flatten := by
  refine ⟨?_, fun j d _ => .inr fun c hc => ?_⟩
  · induction k with
    | zero => rfl
    | succ n ih =>
      rw [List.replicate_succ, List.flatten_cons, List.length_append, ih, List.length_singleton, Nat.add_comm]
  · rw [List.take_zero] at hc
    cases hc
theorem hdG_step {cl : Nat → Nat} {k : Nat} {l : List Nat} {i c : Nat} {L : List D} (hL : HdG cl k l i L) (hc : l.reverse[i]? = some c) (hk : cl c < k) : HdG cl k l (i + 1) (L.set (cl c) (.str [c])) := by
  have hcm : c ∈ l := List.mem_reverse.mp (List.mem_of_getElem? hc)
  have hcl : cl c < L.length := by rw [hL.1]; exact hk
  refine ⟨by rw [List.length_set]; exact hL.1, fun j d hj => ?_⟩
  by_cases e : j = cl c
  · rw [e, List.getElem?_set_self hcl] at hj
    exact .inl ⟨c, hcm, (Option.some.inj hj).symm, e.symm⟩
  · rw [List.getElem?_set_ne (Ne.symm e)] at hj
    rcases hL.2 j d hj with z | z
    · exact .inl z
    · refine .inr fun c' hc' => ?_
      rw [List.take_add_one, hc] at hc'
      rcases List.mem_append.mp hc' with y | y
      · exact z c' y
      · rw [List.mem_singleton.mp (show c' ∈ [c] from y)]
        exact Ne.symm e
theorem hdG_of {cl : Nat → Nat} {k : Nat} {l : List Nat} {n : Nat} {L : List D} (on : ∀ j, j < k → ∃ c ∈ l, cl c = j) (hn : l.length ≤ n) (h : HdG cl k l n L) : ∃ hd : List Nat, L = hd.map (fun c => D.str [c]) ∧ hd.length = k ∧ ∀ j c, hd[j]? = some c → c ∈ l ∧ cl c = j := by
  have key : ∀ j d, L[j]? = some d → ∃ c ∈ l, d = .str [c] ∧ cl c = j := fun j d e => by
    rcases h.2 j d e with z | z
    · exact z
    · have hj : j < k := by rw [← h.1]; exact (List.getElem?_eq_some_iff.mp e).1
      obtain ⟨c, hc, ec⟩ := on j hj
      exact absurd ec (z c (by rw [List.take_of_length_le (by rw [List.length_reverse]; exact hn)]; exact List.mem_reverse.mpr hc))
  let g : D → Nat := fun d => match d with | .str [c] => c | _ => 0
  have eL : L = (L.map g).map fun c => D.str [c] := by
    rw [List.map_map]
    refine List.ext_getElem? fun j => ?_
    rw [List.getElem?_map]
    cases e : L[j]? with
    | none => rfl
    | some d =>
      obtain ⟨c, hc, rfl, _⟩ := key j d e
      rfl
  refine ⟨L.map g, eL, by rw [List.length_map]; exact h.1, fun j c e => ?_⟩
  rw [List.getElem?_map] at e
  obtain ⟨d, hd, rfl⟩ := Option.map_eq_some_iff.mp e
  obtain ⟨c, hc, rfl, e2⟩ := key j d hd
  exact ⟨hc, e2⟩
theorem hds_of {α : Type} [DecidableEq α] {m : Nat → α} {L : List D} (h : HdI m 94 L) : ∃ hd : List Nat, L = hd.map (fun c => D.str [c]) ∧ Hds m hd := by
  obtain ⟨hd, e, h1, h2⟩ := hdG_of (fun j hj => cls_onto hj) (Nat.le_of_eq sgAll_len) h
  exact ⟨hd, e, h1, h2⟩
theorem hdI_step {α : Type} [DecidableEq α] {m : Nat → α} {i c : Nat} {L : List D} (hL : HdI m i L) (hc : sgAll.reverse[i]? = some c) (hcm : c ∈ sgAll) : HdI m (i + 1) (L.set (clsOf m c) (.str [c])) := hdG_step hL hc (clsOf_lt hcm)
theorem v_explored {f1 f2 : Addr} {tl1 tl2 : List D → Cl → DQ → Prop} {x : D} {C : Cl} {Q : DQ} {α : Type} [DecidableEq α] (K : KD α) {β : Type} [DecidableEq β] (KM : KD β) (m : Nat → β) (kvs : List (Key × D)) (a0 : α) (S : List α) (stp : α → Nat → Option α) (acc : α → Bool)
    (hx : dicOf C x = some kvs) (hm : ∀ c ∈ sgAll, valD kvs (keyC c) = some (KM.enc (m c))) (hk : ∀ a, isNonD (K.enc a) = false) (h0 : a0 ∈ S) (hS : S.length ≤ 100000) (cl : ∀ a ∈ S, ∀ c ∈ sgAll, ∀ b, stp a c = some b → b ∈ S) (hst : ∀ c d, m c = m d → ∀ a, stp a c = stp a d)
    (hs : ∀ a ∈ S, ∀ c ∈ sgAll, ∀ (C' : Cl) (N : DQ), SubC C C' → N ((stp a c).elim .non K.enc) C' → tl1 [K.enc a, .str [c]] C' N)
    (ha : ∀ a ∈ S, ∀ (C' : Cl) (N : DQ), SubC C C' → N (.bl (acc a)) C' → tl2 [K.enc a] C' N)
    (hq : ∀ f' tb' acc', Mach f' tb' acc' → (∀ w, langM f' tb' acc' w = (sgW w && accS stp acc a0 w)) → (acc' ≠ [] ↔ ∃ w, langM f' tb' acc' w = true) → Q (machD f' tb' acc') C) :
    td_explored (dActP 2 f1 tl1) (dActP 3 f2 tl2) (endsD Q) (startD ["marks", "start", "step", "accepts", "signs", "known", "heads", "sign", "places", "order", "table", "row", "head", "target", "state"] [x, K.enc a0, .ref f1, .ref f2]) C := by
  unfold td_explored
  refine v_ends ?_
  simp only [startD, List.map_cons, List.map_nil, List.length_cons, List.length_nil, Nat.reduceAdd, Nat.reduceSub, List.reduceReplicate, List.cons_append, List.nil_append]
  array_mem_dec
  refine ⟨β, inferInstance, KM, x, kvs, m, rfl, hx, hm, ?_⟩
  array_mem_dec
  have hk94 : (firsts (sgAll.map m)).length ≤ 94 := Nat.le_trans (len_firsts _) (by rw [List.length_map, sgAll_len]; exact Nat.le_refl _)
  rw [List.length_map]
  refine ⟨_, _, rfl, rfl, by omega, by omega, ?_, fun p6 n6 => ?_⟩
  · rw [Int.toNat_natCast, List.length_singleton]
    omega
  rw [Int.toNat_natCast]
  array_mem_dec
  refine v_forX (signs sgAll).reverse (fun R h => ?_) (fun i ρ C' => ∃ s7 L, ρ = [some x, some (K.enc a0), some (.ref f1), some (.ref f2), some (.dic (clsD (clsOf m) sgAll)), some (.lst ((firsts (sgAll.map m)).map KM.enc)), some (.ref p6), s7, none, none, none, none, none, none, none] ∧ C' p6 = some (.lst L) ∧ SubC C C' ∧ HdI m i L) ⟨_, _, rfl, updC_same, (SubC.refl C).new n6, ?_⟩ ?_ ?_
  · array_mem_dec
    refine ⟨sgAll, rfl, szl (by rw [sgAll_len]; omega), ?_⟩
    array_mem_dec
    exact ⟨_, _, rfl, rfl, h⟩
  · exact hdG_zero
  · rintro i d ρ C' hd ⟨s7, L, rfl, c6, sC, hL⟩
    have hd : (sgAll.map fun c => D.str [c]).reverse[i]? = some d := hd
    rw [← List.map_reverse, List.getElem?_map] at hd
    obtain ⟨c, hc, rfl⟩ := Option.map_eq_some_iff.mp hd
    have hcm : c ∈ sgAll := List.mem_reverse.mp (List.mem_of_getElem? hc)
    have hcl : clsOf m c < L.length := by rw [hL.1]; exact clsOf_lt hcm
    array_mem_dec
    refine ⟨_, keyC c, _, rfl, rfl, clsD_val hcm, ?_⟩
    exact set_list c6 hcl ⟨_, _, rfl, updC_same, sC.new n6, hdI_step hL hc hcm⟩
  · rintro ρ C' ⟨s7, L, rfl, c6, sC, hL⟩
    have hL : HdI m 94 L := hL
    obtain ⟨hd, rfl, hh⟩ := hds_of hL
    array_mem_dec
    refine va_d1 K fun p8 n8 => ?_
    array_mem_dec
    refine K.one updC_same ?_
    array_mem_dec
    intro p9 n9
    array_mem_dec
    intro p10 n10
    array_mem_dec
    rw [updC_updC] at n9 n10 ⊢
    have d68 : p6 ≠ p8 := ne_of n8 c6
    have d89 : p8 ≠ p9 := ne_of n9 updC_same
    have d69 : p6 ≠ p9 := ne_of n9 (by rw [updC_ne d68]; exact c6)
    have d910 : p9 ≠ p10 := ne_of n10 updC_same
    have d810 : p8 ≠ p10 := ne_of n10 (by rw [updC_ne d89]; exact updC_same)
    have d610 : p6 ≠ p10 := ne_of n10 (by rw [updC_ne d69, updC_ne d68]; exact c6)
    have n8C : C p8 = none := none_of sC n8
    have n9C : C p9 = none := none_of (sC.new n8C) n9
    have n10C : C p10 = none := none_of ((sC.new n8C).new n9C) n10
    dsimp only [List.set]
    refine ⟨.ref p6, .lst (hd.map fun c => .str [c]), _, rfl, .lst (by rw [updC_ne d610, updC_ne d69, updC_ne d68]; exact c6), ?_⟩
    dsimp only [List.set]
    array_mem_dec
    have hdl : hd.length ≤ 94 := by rw [hh.len]; exact hk94
    have hdm : ∀ c ∈ hd, c ∈ sgAll := fun c hc => by
      obtain ⟨j, hj⟩ := List.mem_iff_getElem?.mp hc
      exact (hh.at_ j c hj).1
    refine ⟨fun mm ρ C' => ∃ s7 s11 s12 s13 s14 ord tab, ρ = [some x, some (K.enc a0), some (.ref f1), some (.ref f2), some (.dic (clsD (clsOf m) sgAll)), some (.lst ((firsts (sgAll.map m)).map KM.enc)), some (.lst (hd.map fun c => .str [c])), s7, some (.ref p8), some (.ref p9), some (.ref p10), s11, s12, s13, s14] ∧ C' p8 = some (K.cell p8 (numK ord)) ∧ C' p9 = some (.lst (ord.map K.enc)) ∧ C' p10 = some (.lst (tab.map rowD)) ∧ SubC C C' ∧ Exp stp S a0 hd ord tab ∧ mm + tab.length = S.length, ⟨S.length, _, _, _, _, _, [a0], [], rfl, ?_, ?_, ?_, ?_, ?_, rfl⟩, ?_⟩
    · unfold delC
      rw [if_neg (Ne.symm d68), updC_ne d810, updC_ne d89, updC_same]
      rfl
    · unfold delC
      rw [if_neg (Ne.symm d69), updC_ne d910, updC_same]
      rfl
    · unfold delC
      rw [if_neg (Ne.symm d610), updC_same]
      rfl
    · exact sub_delM (((sC.new n8C).new n9C).new n10C) n6
    · exact ⟨rfl, by simp, fun a ha => by rw [List.mem_singleton.mp ha]; exact h0, by simp, fun i a hi => by simp at hi⟩
    rintro mm ρ C' ⟨s7, s11, s12, s13, s14, ord, tab, rfl, c8, c9, c10, sC, ex, hmm⟩
    have hol := ex.small
    have htl := ex.len
    array_mem_dec
    refine len_at c10 ?_
    rw [List.length_map]
    array_mem_dec
    refine len_at c9 ?_
    rw [List.length_map]
    array_mem_dec
    refine ite_d (fun hlt => ?_) (fun hlt => ?_)
    · have hlt : tab.length < ord.length := Int.ofNat_lt.mp hlt
      obtain ⟨a, hao⟩ : ∃ a, ord[tab.length]? = some a := ⟨_, List.getElem?_eq_getElem hlt⟩
      have haS := ex.sub a (List.mem_of_getElem? hao)
      array_mem_dec
      refine len_at c10 ?_
      rw [List.length_map]
      array_mem_dec
      refine ix_list (seq_cell c9) (d := K.enc a) (by rw [List.getElem?_map, hao]; rfl) ?_
      array_mem_dec
      intro p11 n11
      have n11C : C p11 = none := none_of sC n11
      have d811 : p8 ≠ p11 := ne_of n11 c8
      have d911 : p9 ≠ p11 := ne_of n11 c9
      have d1011 : p10 ≠ p11 := ne_of n11 c10
      array_mem_dec
      dsimp only [List.set]
      refine ⟨_, _, _, rfl, .same, ?_⟩
      dsimp only [List.set]
      array_mem_dec
      refine v_forX (hd.map fun c => D.str [c]) (fun R h => ?_) (fun j ρ C'' => ∃ s12 s13 ord', ρ = [some x, some (K.enc a0), some (.ref f1), some (.ref f2), some (.dic (clsD (clsOf m) sgAll)), some (.lst ((firsts (sgAll.map m)).map KM.enc)), some (.lst (hd.map fun c => .str [c])), s7, some (.ref p8), some (.ref p9), some (.ref p10), some (.ref p11), s12, s13, some (K.enc a)] ∧ C'' p8 = some (K.cell p8 (numK ord')) ∧ C'' p9 = some (.lst (ord'.map K.enc)) ∧ C'' p10 = some (.lst (tab.map rowD)) ∧ C'' p11 = some (.lst (((hd.take j).map (entS stp ord' a)).map D.int)) ∧ SubC C C'' ∧ Exp stp S a0 hd ord' tab ∧ ord'[tab.length]? = some a ∧ ∀ c ∈ hd.take j, InS stp ord' a c) ⟨_, _, ord, rfl, by rw [updC_ne d811]; exact c8, by rw [updC_ne d911]; exact c9, by rw [updC_ne d1011]; exact c10, by rw [updC_same]; rfl, sC.new n11C, ex, hao, by simp⟩ ?_ ?_
      · array_mem_dec
        exact h
      · rintro j d ρ C'' hd' ⟨s12, s13, ord', rfl, c8, c9, c10, c11, sC'', ex', hao', hin⟩
        rw [List.getElem?_map] at hd'
        obtain ⟨c, hc, rfl⟩ := Option.map_eq_some_iff.mp hd'
        have hcm := hdm c (List.mem_of_getElem? hc)
        have hol' := ex'.small
        have htk : hd.take (j + 1) = hd.take j ++ [c] := by rw [List.take_add_one, hc]; rfl
        have hj : j < hd.length := (List.getElem?_eq_some_iff.mp hc).1
        have l11 : (((hd.take j).map (entS stp ord' a)).map D.int).length < sizeLine := by
          rw [List.length_map, List.length_map, List.length_take, sizeLine_eq]
          omega
        have row' : ∀ G, ((hd.take (j + 1)).map (entS stp G a)).map D.int = ((hd.take j).map (entS stp G a)).map D.int ++ [.int (entS stp G a c)] := fun G => by
          rw [htk, List.map_append, List.map_append]
          rfl
        have inn : ∀ {G : List α}, (∀ c ∈ hd.take j, InS stp G a c) → InS stp G a c → ∀ c ∈ hd.take (j + 1), InS stp G a c := fun {G} h h' x hx => by
          rw [htk] at hx
          rcases List.mem_append.mp hx with z | z
          · exact h x z
          · rw [List.mem_singleton.mp z]; exact h'
        array_mem_dec
        refine ⟨rfl, ?_⟩
        array_mem_dec
        refine hs a haS c hcm C'' _ sC'' ?_
        cases est : stp a c with
        | none =>
          have ee : ∀ G, entS stp G a c = -1 := fun G => by unfold entS; rw [est]
          show dName 13 D.non _ _ _
          array_mem_dec
          refine ⟨ty_cell c11, ?_⟩
          array_mem_dec
          refine ⟨1, rfl, ?_⟩
          array_mem_dec
          refine app_cell c11 l11 ?_
          refine ⟨_, _, ord', rfl, by rw [updC_ne d811]; exact c8, by rw [updC_ne d911]; exact c9, by rw [updC_ne d1011]; exact c10, ?_, sC''.new n11C, ex', hao', inn hin fun b e => by rw [est] at e; cases e⟩
          rw [updC_same, row', ee]
        | some b =>
          show dName 13 (K.enc b) _ _ _
          have ee : ∀ G, entS stp G a c = ((posF G b : Nat) : Int) := fun G => by unfold entS; rw [est]
          have hbS := cl a haS c hcm b est
          array_mem_dec
          rw [hk b]
          refine v_nff ?_
          array_mem_dec
          refine va_notin K ?_
          array_mem_dec
          refine K.notin c8 ?_
          by_cases hmem : b ∈ ord'
          · have hI : InS stp ord' a c := fun b' e => by rw [est] at e; cases e; exact hmem
            rw [numK_val hmem]
            array_mem_dec
            refine v_ntt ?_
            array_mem_dec
            refine ⟨ty_cell c11, ?_⟩
            array_mem_dec
            rw [hk b]
            array_mem_dec
            refine va_get K ?_
            array_mem_dec
            refine K.get c8 (numK_val hmem) ?_
            array_mem_dec
            refine app_cell c11 l11 ?_
            refine ⟨_, _, ord', rfl, by rw [updC_ne d811]; exact c8, by rw [updC_ne d911]; exact c9, by rw [updC_ne d1011]; exact c10, ?_, sC''.new n11C, ex', hao', inn hin hI⟩
            rw [updC_same, row', ee]
          · have hnone := numK_none.mpr hmem
            rw [hnone]
            refine ⟨true, rfl, ?_⟩
            have exn := ex'.more hbS hmem
            have hI : InS stp (ord' ++ [b]) a c := fun b' e => by rw [est] at e; cases e; simp
            have hin' : ∀ c ∈ hd.take j, InS stp (ord' ++ [b]) a c := fun x hx => (hin x hx).pre
            have hnl := exn.small
            rw [List.length_append, List.length_singleton] at hnl
            have hent : (hd.take j).map (entS stp (ord' ++ [b]) a) = (hd.take j).map (entS stp ord' a) := List.map_congr_left fun x hx => entS_pre (hin x hx)
            array_mem_dec
            refine va_put K ?_
            array_mem_dec
            refine len_at c9 ?_
            rw [List.length_map]
            array_mem_dec
            refine K.put c8 (by rw [numK_len, sizeLine_eq]; omega) hnone ?_
            rw [← numK_snoc]
            have q9 := (updC_ne (c := K.cell p8 (numK (ord' ++ [b]))) (Ne.symm d89)).trans c9
            array_mem_dec
            refine ⟨ty_cell q9, ?_⟩
            array_mem_dec
            refine app_cell q9 (by rw [List.length_map, sizeLine_eq]; omega) ?_
            have q11 : updC (updC C'' p8 (K.cell p8 (numK (ord' ++ [b])))) p9 (.lst (ord'.map K.enc ++ [K.enc b])) p11 = some (.lst (((hd.take j).map (entS stp ord' a)).map D.int)) := by
              rw [updC_ne (Ne.symm d911), updC_ne (Ne.symm d811)]
              exact c11
            have q8 : updC (updC C'' p8 (K.cell p8 (numK (ord' ++ [b])))) p9 (.lst (ord'.map K.enc ++ [K.enc b])) p8 = some (K.cell p8 (numK (ord' ++ [b]))) := by rw [updC_ne d89, updC_same]
            array_mem_dec
            refine ⟨ty_cell q11, ?_⟩
            array_mem_dec
            rw [hk b]
            array_mem_dec
            refine va_get K ?_
            array_mem_dec
            refine K.get q8 (numK_val (List.mem_append_right _ (List.mem_singleton.mpr rfl))) ?_
            array_mem_dec
            refine app_cell q11 l11 ?_
            refine ⟨_, _, ord' ++ [b], rfl, by rw [updC_ne d811]; exact q8, by rw [updC_ne d911, updC_same, List.map_append]; rfl, by rw [updC_ne d1011, updC_ne (Ne.symm d910), updC_ne (Ne.symm d810)]; exact c10, ?_, ((sC''.new n8C).new n9C).new n11C, exn, by rw [List.getElem?_append_left (List.getElem?_eq_some_iff.mp hao').1]; exact hao', inn hin' hI⟩
            rw [updC_same, row', hent, ee]
      · rintro ρ C'' ⟨s12, s13, ord', rfl, c8, c9, c10, c11, sC'', ex', hao', hin⟩
        rw [List.length_map, List.take_length] at c11 hin
        array_mem_dec
        refine ⟨.ref p11, rowD (hd.map (entS stp ord' a)), _, rfl, .lst c11, ?_⟩
        dsimp only [List.set]
        have hol' := ex'.small
        have k8 : delC C'' p11 p8 = C'' p8 := by unfold delC; rw [if_neg d811]
        have k9 : delC C'' p11 p9 = C'' p9 := by unfold delC; rw [if_neg d911]
        have k10 : delC C'' p11 p10 = C'' p10 := by unfold delC; rw [if_neg d1011]
        array_mem_dec
        refine ⟨ty_cell (k10.trans c10), ?_⟩
        array_mem_dec
        have hlt' := (List.getElem?_eq_some_iff.mp hao').1
        refine app_cell (k10.trans c10) (by rw [List.length_map, sizeLine_eq]; omega) ?_
        have ln : (tab ++ [hd.map (entS stp ord' a)]).length = tab.length + 1 := by rw [List.length_append]; rfl
        refine ⟨mm - 1, by omega, _, _, _, _, _, ord', tab ++ [hd.map (entS stp ord' a)], rfl, by rw [updC_ne d810, k8]; exact c8, by rw [updC_ne d910, k9]; exact c9, by rw [updC_same, List.map_append]; rfl, ?_, ex'.done hao' hin, by omega⟩
        exact fun a c ha => by
          rw [updC_ne (ne_of n10C ha)]
          exact sub_delM sC'' n11C a c ha
    · have hge : tab.length = ord.length := by
        have : ¬ tab.length < ord.length := fun z => hlt (Int.ofNat_lt.mpr z)
        omega
      array_mem_dec
      refine ⟨.ref p10, tbD tab, _, rfl, .lst c10, ?_⟩
      dsimp only [List.set]
      refine ⟨.ref p9, .lst (ord.map K.enc), C, rfl, .trans (.lst (by unfold delC; rw [if_neg d910]; exact c9)) (.drop (sub_delM (sub_delM sC n10C) n9C)), ?_⟩
      dsimp only [List.set]
      array_mem_dec
      refine v_lcmapF (as := ord) (e := K.enc) (fun a => D.bl (acc a)) (fun R h => ?_) (szl (by omega)) (fun i a C' N hi hma hs' hN => ?_) ?_
      · array_mem_dec
        exact h
      · array_mem_dec
        refine ⟨rfl, ?_⟩
        array_mem_dec
        exact ha a (ex.sub a hma) C' N hs' hN
      array_mem_dec
      have tl_ : TbOk tab (ord.map acc) := ⟨by rw [List.length_map, hge], by rw [hge]; exact (List.getElem?_eq_some_iff.mp ex.start).1, by omega, fun r hr => ?_⟩
      · have tw : TbW tab (firsts (sgAll.map m)).length := fun r hr => by
          obtain ⟨i, hi⟩ := List.mem_iff_getElem?.mp hr
          have hil := (List.getElem?_eq_some_iff.mp hi).1
          obtain ⟨a, hao⟩ : ∃ a, ord[i]? = some a := ⟨_, List.getElem?_eq_getElem (by rw [← hge]; exact hil)⟩
          have e := (ex.row i a hil hao).1
          rw [hi] at e
          cases e
          rw [List.length_map, hh.len]
        have eac : D.lst (ord.map fun a => D.bl (acc a)) = blD (ord.map acc) := by
          unfold blD
          rw [List.map_map]
          rfl
        rw [eac]
        have lang : ∀ w, sgW w = true → accW tab (ord.map acc) 0 (w.map (clsOf m)) = accS stp acc a0 w := fun w hw => exp_acc ex hge (fun c hc => by
          obtain ⟨d, h1, h2⟩ := hds_eq hh hc
          exact ⟨d, h1, hst d c h2⟩) w 0 a0 hw ex.start
        have lang2 : ∀ w, (sgW w && accW tab (ord.map acc) 0 (w.map (clsOf m))) = (sgW w && accS stp acc a0 w) := fun w => by
          cases hw : sgW w with
          | false => rfl
          | true => rw [lang w hw]
        refine ⟨clsOf m, tab, ord.map acc, (firsts (sgAll.map m)).length, rfl, tl_, tw, fun c hc => clsOf_lt hc, fun j hj => cls_onto hj, fun f' tb' acc' fin => ?_⟩
        exact ⟨_, C, .same, hq f' tb' acc' fin.mach (fun w => (fin.lang w).trans (lang2 w)) fin.some_⟩
      · obtain ⟨i, hi⟩ := List.mem_iff_getElem?.mp hr
        have hil := (List.getElem?_eq_some_iff.mp hi).1
        obtain ⟨a, hao⟩ : ∃ a, ord[i]? = some a := ⟨_, List.getElem?_eq_getElem (by rw [← hge]; exact hil)⟩
        obtain ⟨e, e2⟩ := ex.row i a hil hao
        rw [hi] at e
        cases e
        refine ⟨by rw [List.length_map]; exact hdl, fun t ht => ?_⟩
        obtain ⟨c, hc, rfl⟩ := List.mem_map.mp ht
        unfold entS
        cases est : stp a c with
        | none =>
          show (-1 : Int) < _
          omega
        | some b =>
          have := (List.getElem?_eq_some_iff.mp (pos_get (e2 c hc b est))).1
          show ((posF ord b : Nat) : Int) < _
          omega
end G
set_option maxHeartbeats 2000000
namespace G
open PySem PySem.Spec PyProof.Rows L2
local macro_rules | `(tactic| decreasing_trivial_pre_omega) => `(tactic| first | with_reducible refine v_frz ?_ | with_reducible refine v_setdN ?_ | with_reducible refine v_putN ?_ | with_reducible refine v_d1N ?_ | with_reducible refine v_d1K ?_ | with_reducible refine v_newN ?_ | with_reducible refine v_exi ?_ | with_reducible refine v_exf ?_ | with_reducible refine v_exv ?_ | with_reducible refine v_con ?_ | with_reducible refine v_tryN ?_ | with_reducible refine v_pnil ?_ | with_reducible refine v_pcons ?_ | with_reducible refine v_dictD ?_ | with_reducible refine v_get1 ?_)
/-! ### a machine at work -/
def optD : Option Nat → D
  | some s => .int (s : Nat)
  | none => .non
def stepM (f : Nat → Nat) (tb : Tb) (s c : Nat) : Option Nat := if c ∈ sgAll then tgt tb s (f c) else none
theorem runM_cons {f : Nat → Nat} {tb : Tb} {s c : Nat} {w : List Nat} : runM f tb s (c :: w) = (stepM f tb s c).bind fun t => runM f tb t w := by
  unfold stepM
  rw [runM]
  by_cases h : c ∈ sgAll
  · rw [if_pos h, if_pos h]
    cases tgt tb s (f c) <;> rfl
  · rw [if_neg h, if_neg h]
    rfl
theorem runM_snoc {f : Nat → Nat} {tb : Tb} {c : Nat} : ∀ (w : List Nat) (s : Nat), runM f tb s (w ++ [c]) = (runM f tb s w).bind fun t => stepM f tb t c
  | [], s => by
    rw [List.nil_append, runM_cons, runM, Option.bind_some]
    cases stepM f tb s c <;> rfl
  | d :: w, s => by
    rw [List.cons_append, runM_cons, runM_cons, Option.bind_assoc]
    congr 1
    funext t
    exact runM_snoc w t
theorem stepM_lt {f : Nat → Nat} {tb : Tb} {acc : List Nat} {s c t : Nat} (M : Mach f tb acc) (h : stepM f tb s c = some t) : t < tb.length := by
  unfold stepM at h
  split at h
  · obtain ⟨r, h1, h2⟩ := tgt_some h
    have := M.row r (List.mem_of_getElem? h1) _ (List.mem_of_getElem? h2)
    omega
  · cases h
theorem runM_lt {f : Nat → Nat} {tb : Tb} {acc : List Nat} (M : Mach f tb acc) : ∀ (w : List Nat) (s t : Nat), s < tb.length → runM f tb s w = some t → t < tb.length
  | [], s, t, hs, h => by
    rw [runM] at h
    cases h
    exact hs
  | c :: w, s, t, hs, h => by
    rw [runM_cons] at h
    obtain ⟨u, hu, h⟩ := Option.bind_eq_some_iff.mp h
    exact runM_lt M w u t (stepM_lt M hu) h
def sp_Machine_next_state : DSp := fun ds C Q _ => ∃ x f tb acc s c, ds = [x, .int (s : Nat), .str [c]] ∧ insOf C x = some ("Machine", mcFs f tb acc) ∧ Mach f tb acc ∧ s < tb.length ∧ Q (optD (stepM f tb s c)) C
def td_Machine_next_state : DS :=
  (dSeq (dIfS (dOr (dNot (dTest (dCB (rIsi "str") (dCons (dVar 2) (dCons (dC (.ty "str")) dNil))))) (dTest (dOp rNotInK (dVar 2) (dFld ["Machine"] (dVar 0) "signs")))) (dRet (dC .non)) dNext)
    (dSeq (dAsg (dOp rIx (dOp rIx (dFld ["Machine"] (dVar 0) "table") (dVar 1)) (dOp rGetK (dFld ["Machine"] (dVar 0) "signs") (dVar 2))) (dName 3))
    (dRet (dIf (dTest (dOp rGeD (dVar 3) (dC (.int 0)))) (dVar 3) (dC .non)))))
theorem len_Machine_next_state (ds : List D) (C : Cl) (Q : DQ) (E : DX) (h : sp_Machine_next_state ds C Q E) : ds.length = 3 := by repeat (first | (obtain ⟨rfl, _⟩ := h; exact rfl) | (obtain ⟨_, h⟩ := h))
theorem pure_Machine_next_state (ds : List D) (C : Cl) (Q : DQ) (E : DX) (h : sp_Machine_next_state ds C Q E) : td_Machine_next_state (endsD Q) (startD ["self", "state", "sign", "target"] ds) C := by
  obtain ⟨x, f, tb, acc, s, c, rfl, hx, M, hs, hq⟩ := h
  obtain ⟨k, hk, hw, hf⟩ := M.wid
  unfold td_Machine_next_state
  refine v_ends ?_
  simp only [startD, List.map_cons, List.map_nil, List.length_cons, List.length_nil, Nat.reduceAdd, Nat.reduceSub, List.reduceReplicate, List.cons_append, List.nil_append]
  array_mem_dec
  refine ⟨_, _, _, .head _, hx, rfl, ?_⟩
  by_cases hc : c ∈ sgAll
  · refine ⟨clsD f sgAll, keyC c, rfl, rfl, ?_⟩
    rw [clsD_val hc]
    refine ⟨false, rfl, ?_⟩
    obtain ⟨r, hr⟩ : ∃ r, tb[s]? = some r := ⟨_, List.getElem?_eq_getElem hs⟩
    have hl := hw r (List.mem_of_getElem? hr)
    obtain ⟨u, hu⟩ : ∃ u, r[f c]? = some u := ⟨_, List.getElem?_eq_getElem (by rw [hl]; exact hf c hc)⟩
    array_mem_dec
    refine ⟨_, _, _, .head _, hx, rfl, ?_⟩
    array_mem_dec
    refine ix_list rfl (d := rowD r) (by rw [List.getElem?_map, hr]; rfl) ?_
    array_mem_dec
    refine ⟨_, _, _, .head _, hx, rfl, ?_⟩
    array_mem_dec
    refine ⟨clsD f sgAll, keyC c, _, rfl, rfl, clsD_val hc, ?_⟩
    refine ix_list rfl (d := .int u) (by rw [List.getElem?_map, hu]; rfl) ?_
    array_mem_dec
    unfold stepM at hq
    rw [if_pos hc] at hq
    refine ite_d (fun h0 => ?_) (fun h0 => ?_)
    · obtain ⟨t, rfl⟩ := Int.eq_ofNat_of_zero_le h0
      rw [tgt_eq hr hu] at hq
      array_mem_dec
      exact hq
    · rw [tgt_neg hr hu (by omega)] at hq
      array_mem_dec
      exact hq
  · refine ⟨clsD f sgAll, keyC c, rfl, rfl, ?_⟩
    rw [clsD_none hc]
    refine ⟨true, rfl, ?_⟩
    unfold stepM at hq
    rw [if_neg hc] at hq
    array_mem_dec
    exact hq
def sp_Machine_state_after : DSp := fun ds C Q _ => ∃ x f tb acc w, ds = [x, .str w] ∧ insOf C x = some ("Machine", mcFs f tb acc) ∧ Mach f tb acc ∧ Q (optD (runM f tb 0 w)) C
def td_Machine_state_after : DS :=
  (dSeq (dAsg (dC (.int 0)) (dName 2))
    (dSeq (dFor (diStr (dVar 1)) (dName 3)
    (dIfS (dTest (dOp rNotN (dVar 2) (dC .non))) (dAsg (dMeth "Machine" "next_state" (pos2 sp_Machine_next_state []) (dVar 0) (dCons (dVar 2) (dCons (dVar 3) dNil)) dNil) (dName 2)) dNext))
    (dRet (dVar 2))))
theorem len_Machine_state_after (ds : List D) (C : Cl) (Q : DQ) (E : DX) (h : sp_Machine_state_after ds C Q E) : ds.length = 2 := by repeat (first | (obtain ⟨rfl, _⟩ := h; exact rfl) | (obtain ⟨_, h⟩ := h))
theorem pure_Machine_state_after (ds : List D) (C : Cl) (Q : DQ) (E : DX) (h : sp_Machine_state_after ds C Q E) : td_Machine_state_after (endsD Q) (startD ["self", "text", "state", "sign"] ds) C := by
  obtain ⟨x, f, tb, acc, w, rfl, hx, M, hq⟩ := h
  unfold td_Machine_state_after
  refine v_ends ?_
  simp only [startD, List.map_cons, List.map_nil, List.length_cons, List.length_nil, Nat.reduceAdd, Nat.reduceSub, List.reduceReplicate, List.cons_append, List.nil_append]
  array_mem_dec
  refine v_forX (signs w) (fun R h => ?_) (fun i ρ C' => ∃ s3, ρ = [some x, some (.str w), some (optD (runM f tb 0 (w.take i))), s3] ∧ C' = C) ⟨_, rfl, rfl⟩ ?_ ?_
  · array_mem_dec
    exact ⟨w, rfl, h⟩
  · rintro i d ρ C' hd ⟨s3, rfl, rfl⟩
    obtain ⟨c, hc, rfl⟩ := signs_get hd
    have htk : w.take (i + 1) = w.take i ++ [c] := by rw [List.take_add_one, hc]; rfl
    rw [htk, runM_snoc]
    cases hr : runM f tb 0 (w.take i) with
    | none =>
      show dName 3 (D.str [c]) [some x, some (.str w), some .non, s3] C' _
      array_mem_dec
      exact ⟨_, rfl, rfl⟩
    | some s =>
      show dName 3 (D.str [c]) [some x, some (.str w), some (.int (s : Nat)), s3] C' _
      have hs := runM_lt M _ 0 s M.pos hr
      array_mem_dec
      refine ⟨_, hx, rfl, ?_⟩
      array_mem_dec
      refine ⟨x, f, tb, acc, s, c, rfl, hx, M, hs, ?_⟩
      array_mem_dec
      exact ⟨_, rfl, rfl⟩
  · rintro ρ C' ⟨s3, rfl, rfl⟩
    have e : w.take (signs w).length = w := by unfold signs; rw [List.length_map, List.take_length]
    rw [e]
    array_mem_dec
    exact ⟨_, _, .same, hq⟩
def sp_Machine_contains : DSp := fun ds C Q _ => ∃ x f tb acc d, ds = [x, d] ∧ insOf C x = some ("Machine", mcFs f tb acc) ∧ Mach f tb acc ∧ ((∃ w, d = .str w ∧ Q (.bl (langM f tb acc w)) C) ∨ (∃ n, tyNm d C = some n ∧ isSub n "str" = false ∧ Q (.bl false) C))
def td_Machine_contains : DS :=
  (dRet (dAndV (dCB (rIsi "str") (dCons (dVar 1) (dCons (dC (.ty "str")) dNil))) (dOp rIn (dMeth "Machine" "state_after" (pos2 sp_Machine_state_after []) (dVar 0) (dCons (dVar 1) dNil) dNil) (dFld ["Machine"] (dVar 0) "accepting"))))
theorem len_Machine_contains (ds : List D) (C : Cl) (Q : DQ) (E : DX) (h : sp_Machine_contains ds C Q E) : ds.length = 2 := by repeat (first | (obtain ⟨rfl, _⟩ := h; exact rfl) | (obtain ⟨_, h⟩ := h))
theorem pure_Machine_contains (ds : List D) (C : Cl) (Q : DQ) (E : DX) (h : sp_Machine_contains ds C Q E) : td_Machine_contains (endsD Q) (startD ["self", "thing"] ds) C := by
  obtain ⟨x, f, tb, acc, d, rfl, hx, M, hq⟩ := h
  unfold td_Machine_contains
  refine v_ends ?_
  simp only [startD, List.map_cons, List.map_nil, List.length_cons, List.length_nil, Nat.reduceAdd, Nat.reduceSub, List.reduceReplicate, List.cons_append, List.nil_append]
  array_mem_dec
  rcases hq with ⟨w, rfl, hq⟩ | ⟨n, hn, hsub, hq⟩
  · array_mem_dec
    refine ⟨_, hx, rfl, ?_⟩
    array_mem_dec
    refine ⟨x, f, tb, acc, w, rfl, hx, M, ?_⟩
    array_mem_dec
    refine ⟨_, _, _, .head _, hx, rfl, ?_⟩
    refine .inr (.inr ⟨natT acc, rfl, ?_, ?_, ?_⟩)
    · cases runM f tb 0 w <;> rfl
    · rw [List.all_eq_true]
      intro y hy
      obtain ⟨a, _, rfl⟩ := List.mem_map.mp hy
      rfl
    · have e : ((natT acc).any fun e => eqFl e (optD (runM f tb 0 w))) = langM f tb acc w := by
        unfold langM
        cases runM f tb 0 w with
        | none =>
          rw [List.any_eq_false.mpr]
          · rfl
          · intro y hy
            obtain ⟨a, _, rfl⟩ := List.mem_map.mp hy
            simp [eqFl, optD]
        | some s =>
          rw [List.any_map, Bool.eq_iff_iff, List.any_eq_true]
          show _ ↔ decide (s ∈ acc) = true
          rw [decide_eq_true_eq]
          constructor
          · rintro ⟨a, ha, e⟩
            have : (((a : Nat) : Int) == ((s : Nat) : Int)) = true := e
            have : a = s := by
              have := beq_iff_eq.mp this
              omega
            rw [← this]
            exact ha
          · exact fun h => ⟨s, h, beq_iff_eq.mpr rfl⟩
      rw [e]
      exact ⟨_, _, .same, hq⟩
  · refine ⟨_, n, rfl, hn, ?_⟩
    rw [hsub]
    array_mem_dec
    exact hq
def sp_Machine_bool : DSp := fun ds C Q _ => ∃ x f tb acc, ds = [x] ∧ insOf C x = some ("Machine", mcFs f tb acc) ∧ Q (.bl (!acc.isEmpty)) C
def td_Machine_bool : DS :=
  (dRet (dCB rBoolB (dCons (dOp rGtD (dCB rLen (dCons (dFld ["Machine"] (dVar 0) "accepting") dNil)) (dC (.int 0))) dNil)))
theorem len_Machine_bool (ds : List D) (C : Cl) (Q : DQ) (E : DX) (h : sp_Machine_bool ds C Q E) : ds.length = 1 := by repeat (first | (obtain ⟨rfl, _⟩ := h; exact rfl) | (obtain ⟨_, h⟩ := h))
theorem pure_Machine_bool (ds : List D) (C : Cl) (Q : DQ) (E : DX) (h : sp_Machine_bool ds C Q E) : td_Machine_bool (endsD Q) (startD ["self"] ds) C := by
  obtain ⟨x, f, tb, acc, rfl, hx, hq⟩ := h
  unfold td_Machine_bool
  refine v_ends ?_
  simp only [startD, List.map_cons, List.map_nil, List.length_cons, List.length_nil, Nat.reduceAdd, Nat.reduceSub, List.reduceReplicate, List.cons_append, List.nil_append]
  array_mem_dec
  refine ⟨_, _, _, .head _, hx, rfl, ?_⟩
  array_mem_dec
  have e : decide ((0 : Int) < ((natT acc).length : Nat)) = !acc.isEmpty := by
    rw [List.length_map]
    cases acc with
    | nil => rfl
    | cons a r =>
      show decide _ = true
      exact decide_eq_true (by rw [List.length_cons]; omega)
  rw [e]
  exact ⟨_, rfl, _, _, .same, hq⟩
def sp_grown : DSp := fun ds C Q _ => ∃ ls s, ds = [.lst (txts ls), .str s] ∧ ls.length ≤ 100000 ∧ Q (if ls.any (begins s) = true then .str s else .non) C
def td_grown : DS :=
  (dRet (dIf (dTest (dCB rAnyL (dCons (dFz (dLc (diList (dVar 0)) (dName 2) dYes (dBM "str" rStarts (dVar 2) (dCons (dVar 1) dNil)) [2])) dNil))) (dVar 1) (dC .non)))
theorem len_grown (ds : List D) (C : Cl) (Q : DQ) (E : DX) (h : sp_grown ds C Q E) : ds.length = 2 := by repeat (first | (obtain ⟨rfl, _⟩ := h; exact rfl) | (obtain ⟨_, h⟩ := h))
theorem pure_grown (ds : List D) (C : Cl) (Q : DQ) (E : DX) (h : sp_grown ds C Q E) : td_grown (endsD Q) (startD ["texts", "start", "text"] ds) C := by
  obtain ⟨ls, s, rfl, hl, hq⟩ := h
  unfold td_grown
  refine v_ends ?_
  simp only [startD, List.map_cons, List.map_nil, List.length_cons, List.length_nil, Nat.reduceAdd, Nat.reduceSub, List.reduceReplicate, List.cons_append, List.nil_append]
  array_mem_dec
  refine v_lcmapF (as := ls) (e := D.str) (fun l => D.bl (begins s l)) (fun R h => ?_) (szl (by omega)) (fun i l C' N hi hm hs hN => ?_) ?_
  · array_mem_dec
    exact h
  · array_mem_dec
    exact ⟨l, s, rfl, rfl, trivial, hN⟩
  array_mem_dec
  cases h : ls.any (begins s) with
  | true =>
    rw [if_pos h] at hq
    array_mem_dec
    exact hq
  | false =>
    rw [if_neg (by rw [h]; decide)] at hq
    array_mem_dec
    exact hq
end G
set_option maxHeartbeats 2000000
namespace G
open PySem PySem.Spec PyProof.Rows L2
local macro_rules | `(tactic| decreasing_trivial_pre_omega) => `(tactic| first | with_reducible refine v_frz ?_ | with_reducible refine v_setdN ?_ | with_reducible refine v_putN ?_ | with_reducible refine v_d1N ?_ | with_reducible refine v_d1K ?_ | with_reducible refine v_newN ?_ | with_reducible refine v_exi ?_ | with_reducible refine v_exf ?_ | with_reducible refine v_exv ?_ | with_reducible refine v_con ?_ | with_reducible refine v_tryN ?_ | with_reducible refine v_pnil ?_ | with_reducible refine v_pcons ?_ | with_reducible refine v_dictD ?_ | with_reducible refine v_get1 ?_)
/-! ### the machine of some texts -/
abbrev qMl : String := "Machine.listing.<locals>.<lambda>"
def mkL (ls : List (List Nat)) (c : Nat) : List Nat := if (ls.any fun l => decide (c ∈ l)) = true then [c] else []
def stpL (ls : List (List Nat)) (a : List Nat) (c : Nat) : Option (List Nat) := if ls.any (begins (a ++ [c])) = true then some (a ++ [c]) else none
def accL (ls : List (List Nat)) (a : List Nat) : Bool := decide (a ∈ ls)
def allPre (ls : List (List Nat)) : List (List Nat) := [] :: ls.flatMap fun l => (List.range (l.length + 1)).map fun i => l.take i
theorem begins_iff {a z : List Nat} : begins a z = true ↔ ∃ t, z = a ++ t := by
  unfold begins
  rw [beq_iff_eq]
  constructor
  · intro h
    refine ⟨z.drop a.length, ?_⟩
    conv => lhs; rw [← List.take_append_drop a.length z, h]
  · rintro ⟨t, rfl⟩
    simp
theorem stpL_some {ls : List (List Nat)} {a b : List Nat} {c : Nat} (h : stpL ls a c = some b) : b = a ++ [c] ∧ ∃ l ∈ ls, ∃ t, l = (a ++ [c]) ++ t := by
  unfold stpL at h
  split at h
  · cases h
    rename_i hb
    obtain ⟨l, hl, e⟩ := List.any_eq_true.mp hb
    exact ⟨rfl, l, hl, begins_iff.mp e⟩
  · cases h
theorem stpL_pre {ls : List (List Nat)} {a b : List Nat} {c : Nat} (h : stpL ls a c = some b) : b ∈ allPre ls := by
  obtain ⟨rfl, l, hl, t, e⟩ := stpL_some h
  refine List.mem_cons_of_mem _ (List.mem_flatMap.mpr ⟨l, hl, List.mem_map.mpr ⟨(a ++ [c]).length, List.mem_range.mpr ?_, ?_⟩⟩)
  · rw [e, List.length_append (as := a ++ [c])]
    omega
  · rw [e, List.take_left]
theorem stpL_mk {ls : List (List Nat)} {c d : Nat} (h : mkL ls c = mkL ls d) (a : List Nat) : stpL ls a c = stpL ls a d := by
  have no : ∀ x, (ls.any fun l => decide (x ∈ l)) = false → stpL ls a x = none := fun x hx => by
    cases e : stpL ls a x with
    | none => rfl
    | some b =>
      obtain ⟨rfl, l, hl, t, et⟩ := stpL_some e
      have := List.any_eq_false.mp hx l hl
      rw [et] at this
      simp at this
  unfold mkL at h
  cases hc : (ls.any fun l => decide (c ∈ l)) with
  | true =>
    rw [if_pos hc] at h
    cases hd : (ls.any fun l => decide (d ∈ l)) with
    | true =>
      rw [if_pos hd] at h
      injection h with h
      rw [h]
    | false =>
      rw [if_neg (by rw [hd]; decide)] at h
      cases h
  | false =>
    rw [if_neg (by rw [hc]; decide)] at h
    cases hd : (ls.any fun l => decide (d ∈ l)) with
    | true =>
      rw [if_pos hd] at h
      cases h
    | false => rw [no c hc, no d hd]
theorem accL_eq {ls : List (List Nat)} : ∀ (w a : List Nat), accS (stpL ls) (accL ls) a w = decide (a ++ w ∈ ls)
  | [], a => by rw [accS, accL, List.append_nil]
  | c :: w, a => by
    rw [accS]
    cases h : stpL ls a c with
    | some b =>
      obtain ⟨rfl, _⟩ := stpL_some h
      show accS (stpL ls) (accL ls) (a ++ [c]) w = _
      rw [accL_eq w (a ++ [c]), List.append_assoc]
      rfl
    | none =>
      refine (decide_eq_false fun hm => ?_).symm
      unfold stpL at h
      rw [if_pos (List.any_eq_true.mpr ⟨_, hm, begins_iff.mpr ⟨w, by simp⟩⟩)] at h
      cases h
theorem allPre_len {ls : List (List Nat)} {n m : Nat} (h1 : ls.length ≤ n) (h2 : ∀ l ∈ ls, l.length ≤ m) : (allPre ls).length ≤ n * (m + 1) + 1 := by
  unfold allPre
  rw [List.length_cons]
  have : ∀ {ls : List (List Nat)}, (∀ l ∈ ls, l.length ≤ m) → (ls.flatMap fun l => (List.range (l.length + 1)).map fun i => l.take i).length ≤ ls.length * (m + 1) := fun {ls} => by
    induction ls with
    | nil => intro _; simp
    | cons l ls ih =>
      intro h
      rw [List.flatMap_cons, List.length_append, List.length_map, List.length_range, List.length_cons, Nat.succ_mul]
      have := ih fun x hx => h x (.tail _ hx)
      have := h l (.head _)
      omega
  have h3 := this h2
  have h4 := Nat.mul_le_mul_right (m + 1) h1
  omega
theorem pre_len {ls : List (List Nat)} {m : Nat} (h : ∀ l ∈ ls, l.length ≤ m) {a : List Nat} (ha : a ∈ allPre ls) : a.length ≤ m := by
  unfold allPre at ha
  rcases List.mem_cons.mp ha with rfl | ha
  · exact Nat.zero_le _
  · obtain ⟨l, hl, ha⟩ := List.mem_flatMap.mp ha
    obtain ⟨i, _, rfl⟩ := List.mem_map.mp ha
    have := h l hl
    rw [List.length_take]
    omega
theorem txts_flat {ls : List (List Nat)} : (txts ls).all flatD = true := by
  rw [List.all_eq_true]
  intro y hy
  obtain ⟨a, _, rfl⟩ := List.mem_map.mp hy
  rfl
theorem txts_any {ls : List (List Nat)} {a : List Nat} : ((txts ls).any fun e => eqFl e (.str a)) = decide (a ∈ ls) := by
  unfold txts
  rw [List.any_map, Bool.eq_iff_iff, List.any_eq_true, decide_eq_true_eq]
  constructor
  · rintro ⟨b, hb, e⟩
    have : (b == a) = true := e
    rw [← beq_iff_eq.mp this]
    exact hb
  · exact fun h => ⟨a, h, beq_iff_eq.mpr rfl⟩
def sp_Machine_listing : DSp := fun ds C Q _ => ∃ x ls, ds = [x] ∧ seqOf C x = some (txts ls) ∧ ls.length ≤ 300 ∧ (∀ l ∈ ls, l.length ≤ 300) ∧ (∃ P, C P = some (.tbl qMl)) ∧ ∀ f tb acc, Mach f tb acc → (∀ w, langM f tb acc w = (sgW w && decide (w ∈ ls))) → (acc ≠ [] ↔ ∃ w, langM f tb acc w = true) → Q (machD f tb acc) C
def td_Machine_listing : DS :=
  (dSeq (dAsg (dCB rList (dCons (dVar 0) dNil)) (dName 1))
    (dSeq (dAsg dNewK (dName 2))
    (dSeq (dFor (diStr (dC (.str [32, 33, 34, 35, 36, 38, 39, 40, 41, 42, 43, 44, 45, 46, 47, 48, 49, 50, 51, 52, 53, 54, 55, 56, 57, 58, 59, 60, 61, 62, 63, 64, 65, 66, 67, 68, 69, 70, 71, 72, 73, 74, 75, 76, 77, 78, 79, 80, 81, 82, 83, 84, 85, 86, 87, 88, 89, 90, 91, 92, 93, 94, 95, 96, 97, 98, 99, 100, 101, 102, 103, 104, 105, 106, 107, 108, 109, 110, 111, 112, 113, 114, 115, 116, 117, 118, 119, 120, 121, 122, 123, 124, 125, 126]))) (dName 3)
    (dPutK (dVar 2) (dVar 3) (dIf (dTest (dCB rAnyL (dCons (dFz (dLc (diList (dVar 1)) (dName 4) dYes (dOp rIn (dVar 3) (dVar 4)) [4])) dNil))) (dVar 3) (dC (.str [])))))
    (dRet (dLam2 ["marks", "start", "step", "accepts", "signs", "known", "heads", "sign", "places", "order", "table", "row", "head", "target", "state"] "Machine.listing.<locals>.<lambda>" td_explored 2 0 [("kept", 1)] (dCall sp_grown [] (dCons (dVar 2) (dCons (dAdd (dVar 0) (dVar 1)) dNil))) 1 0 [("kept", 1)] (dOp rIn (dVar 0) (dVar 1)) (dVar 2) (dC (.str [])))))))
theorem len_Machine_listing (ds : List D) (C : Cl) (Q : DQ) (E : DX) (h : sp_Machine_listing ds C Q E) : ds.length = 1 := by repeat (first | (obtain ⟨rfl, _⟩ := h; exact rfl) | (obtain ⟨_, h⟩ := h))
theorem pure_Machine_listing (ds : List D) (C : Cl) (Q : DQ) (E : DX) (h : sp_Machine_listing ds C Q E) : td_Machine_listing (endsD Q) (startD ["texts", "kept", "marks", "sign", "text"] ds) C := by
  obtain ⟨x, ls, rfl, hx, hl, hll, ⟨P, hP⟩, hq⟩ := h
  unfold td_Machine_listing
  refine v_ends ?_
  simp only [startD, List.map_cons, List.map_nil, List.length_cons, List.length_nil, Nat.reduceAdd, Nat.reduceSub, List.reduceReplicate, List.cons_append, List.nil_append]
  array_mem_dec
  refine ⟨_, _, rfl, hx, ?_⟩
  array_mem_dec
  intro p n2
  array_mem_dec
  refine v_forStr (fun i ρ C' => ∃ s3, ρ = [some x, some (.lst (txts ls)), some (.ref p), s3, none] ∧ C' p = some (.dic ((sgAll.take i).map fun c => (keyC c, D.str (mkL ls c)))) ∧ SubC C C') ⟨_, rfl, updC_same, (SubC.refl C).new n2⟩ ?_ ?_
  · rintro i d ρ C' hd ⟨s3, rfl, c2, sC⟩
    obtain ⟨c, hc, rfl⟩ := signs_get hd
    have hc : sgAll[i]? = some c := hc
    have hct : c ∉ sgAll.take i := fun z => by
      obtain ⟨j, hj⟩ := List.mem_iff_getElem?.mp z
      have hi : i < 94 := (List.getElem?_eq_some_iff.mp hc).1
      have hj2 : j < i := by have := (List.getElem?_eq_some_iff.mp hj).1; rw [List.length_take] at this; omega
      rw [List.getElem?_take_of_lt hj2] at hj
      have := (List.getElem?_inj (by show j < 94; omega) sgAll_nodup).mp (hj.trans hc.symm)
      omega
    have hno : valD ((sgAll.take i).map fun c => (keyC c, D.str (mkL ls c))) (keyC c) = none := valD_no fun q hq2 => by
      obtain ⟨x, hx, rfl⟩ := List.mem_map.mp hq2
      intro e
      rw [keyC_inj e] at hx
      exact hct hx
    have htk : sgAll.take (i + 1) = sgAll.take i ++ [c] := by rw [List.take_add_one, hc]; rfl
    have put : ∀ v, v = D.str (mkL ls c) → ∃ a kvs k, D.ref p = .ref a ∧ C' a = some (.dic kvs) ∧ keyD (.str [c]) = some k ∧ kvs.length < sizeLine ∧ ∃ s3', [some x, some (.lst (txts ls)), some (.ref p), some (.str [c]), none] = [some x, some (.lst (txts ls)), some (.ref p), s3', none] ∧ updC C' a (.dic (putKD kvs k v)) p = some (.dic ((sgAll.take (i + 1)).map fun c => (keyC c, D.str (mkL ls c)))) ∧ SubC C (updC C' a (.dic (putKD kvs k v))) := fun v ev => by
      refine ⟨p, _, keyC c, rfl, c2, rfl, by rw [List.length_map, List.length_take, sgAll_len, sizeLine_eq]; omega, _, rfl, ?_, sC.new n2⟩
      rw [updC_same, putKD_none hno, htk, List.map_append, ev]
      rfl
    array_mem_dec
    refine v_lcmapF (as := ls) (e := D.str) (fun l => D.bl (decide (c ∈ l))) (fun R h => ?_) (szl (by omega)) (fun j l C3 N hj hm hs hN => ?_) ?_
    · array_mem_dec
      exact h
    · array_mem_dec
      exact .inl ⟨c, l, rfl, rfl, hN⟩
    array_mem_dec
    cases h : (ls.any fun l => decide (c ∈ l)) with
    | true =>
      array_mem_dec
      exact put _ (by unfold mkL; rw [if_pos h])
    | false =>
      array_mem_dec
      exact put _ (by unfold mkL; rw [if_neg (by rw [h]; decide)])
  · rintro ρ C' ⟨s3, rfl, c2, sC⟩
    have c2 : C' p = some (.dic ((sgAll.take 94).map fun c => (keyC c, D.str (mkL ls c)))) := c2
    have e2 : sgAll.take 94 = sgAll := List.take_of_length_le (Nat.le_refl _)
    rw [e2] at c2
    array_mem_dec
    refine ⟨_, rfl, ⟨P, sC _ _ hP⟩, fun f1 f2 => ?_⟩
    refine v_explored KDL KDL (mkL ls) _ [] (allPre ls) (stpL ls) (accL ls) (dicOf_ref c2) (fun c hc => mapD_val (g := fun c => D.str (mkL ls c)) hc) (fun _ => rfl) List.mem_cons_self (by have := allPre_len hl hll; omega) (fun a _ c _ b e => stpL_pre e) (fun c d e a => stpL_mk e a) (fun a haS c hc C2 N s2 hN => ⟨rfl, ?_⟩) (fun a haS C2 N s2 hN => ⟨rfl, ?_⟩) fun f tb acc M lang some_ => ?_
    · have hal : a.length ≤ 300 := pre_len hll haS
      show (dCall sp_grown [] (dCons (dVar 2) (dCons (dAdd (dVar 0) (dVar 1)) dNil))) [some (.str a), some (.str [c]), some (.lst (txts ls))] C2 N
      array_mem_dec
      refine ⟨ls, a ++ [c], rfl, by omega, ?_⟩
      unfold stpL at hN
      cases h : ls.any (begins (a ++ [c])) with
      | true =>
        rw [if_pos h] at hN
        exact hN
      | false =>
        rw [if_neg (by rw [h]; decide)] at hN
        exact hN
    · show (dOp rIn (dVar 0) (dVar 1)) [some (.str a), some (.lst (txts ls))] C2 N
      array_mem_dec
      refine .inr (.inr ⟨txts ls, rfl, rfl, txts_flat, ?_⟩)
      rw [txts_any]
      exact hN
    · refine ⟨_, C, .drop sC, hq f tb acc M (fun w => ?_) some_⟩
      rw [lang w, accL_eq, List.nil_append]
end G
set_option maxHeartbeats 4000000
namespace G
open PySem PySem.Spec PyProof.Rows L2
/-! ### lists of drawn things -/
theorem updC_comm {C : Cl} {a b : Addr} {c d : Cell} (h : a ≠ b) : updC (updC C a c) b d = updC (updC C b d) a c := by
  funext x
  unfold updC
  by_cases e : x = a
  · subst e; rw [if_neg h, if_pos rfl, if_pos rfl]
  · rw [if_neg e]
    by_cases e2 : x = b
    · rw [if_pos e2, if_neg e]
    · rw [if_neg e2, if_neg e]
theorem delC_updC {C : Cl} {p : Addr} {c : Cell} (h : C p = none) : delC (updC C p c) p = C := by
  funext x
  unfold delC
  by_cases e : x = p
  · rw [if_pos e, e, h]
  · rw [if_neg e, updC_ne e]
theorem BagAt.ne {C : Cl} {b p : Addr} {n : Nat} (h : BagAt C b n) (e : C p = none) : b ≠ p := by
  rintro rfl
  obtain ⟨x, y, z, hc, _⟩ := h
  rw [e] at hc; cases hc
theorem BagAt.upd {C : Cl} {b p : Addr} {c : Cell} {n : Nat} (h : BagAt C b n) (e : b ≠ p) : BagAt (updC C p c) b n := by
  obtain ⟨x, y, z, hc, g⟩ := h
  exact ⟨x, y, z, by rw [updC_ne e]; exact hc, g⟩
theorem lc_bag {g : DG} {te : DE} {ρ : DEnv} {vs : List Nat} {C1 : Cl} {b : Addr} {n k : Nat} {xs : List D} {Q : DQ} (Y : D → Prop) (hb : BagAt C1 b n) (hl : xs.length ≤ sizeLine)
    (h : ∀ i x C (N : DQ), xs[i]? = some x → BagAt C b (n + i * k) → (∀ a, C1 a ≠ none → a ≠ b → C a = C1 a) → (∀ y C', Y y → Bagged C b C' (n + (i + 1) * k) → N y C') → g x (wipeD ρ vs) C fun ρ2 C2 => te ρ2 C2 N)
    (hq : ∀ ys C', ys.length = xs.length → (∀ y ∈ ys, Y y) → Bagged C1 b C' (n + xs.length * k) → Q (.lst ys) C') :
    ∀ p, C1 p = none → ∃ Pv : Nat → Cl → Prop, Pv 0 (updC C1 p (.lst [])) ∧
      (∀ i x C, xs[i]? = some x → Pv i C → g x (wipeD ρ vs) C fun ρ2 C2 => dYes ρ2 C2 fun b C3 =>
        if b = true then te ρ2 C3 fun y C4 => ∃ acc, C4 p = some (.lst acc) ∧ acc.length < sizeLine ∧ Pv (i + 1) (updC C4 p (.lst (acc ++ [y]))) else Pv (i + 1) C3) ∧
      ∀ C, Pv xs.length C → ∃ a ds, D.ref p = .ref a ∧ C a = some (.lst ds) ∧ Q (.lst ds) (delC C a) := by
  intro p hp
  refine ⟨fun i C => ∃ ys C', C = updC C' p (.lst ys) ∧ ys.length = i ∧ (∀ y ∈ ys, Y y) ∧ Bagged C1 b C' (n + i * k), ⟨[], C1, rfl, rfl, nofun, by rw [Nat.zero_mul]; exact hb.self⟩, ?_, ?_⟩
  · rintro i x C hx ⟨ys, C', rfl, hyl, hY, B⟩
    have bp := hb.ne hp
    have i1 : i < xs.length := (List.getElem?_eq_some_iff.mp hx).1
    refine h i x _ _ hx (B.at.upd bp) (fun a ha hab => ?_) fun y C2 hy B2 => ?_
    · have : a ≠ p := by rintro rfl; exact ha hp
      rw [updC_ne this]
      exact B.ne hab
    · obtain ⟨u1, u2, u3, rfl, G2⟩ := B2
      obtain ⟨v1, v2, v3, rfl, G1⟩ := B
      refine ⟨ys, by rw [updC_ne (Ne.symm bp), updC_same], by omega, ys ++ [y], updC C1 b (bagC u1 u2 u3), ?_, by rw [List.length_append, hyl, List.length_singleton], ?_, ⟨u1, u2, u3, rfl, G2⟩⟩
      · rw [updC_comm (C := updC C1 b (bagC v1 v2 v3)) (Ne.symm bp), updC_updC, updC_updC]
      · intro z hz
        rcases List.mem_append.mp hz with e | e
        · exact hY z e
        · rw [List.mem_singleton.mp e]; exact hy
  · rintro C ⟨ys, C', rfl, hyl, hY, B⟩
    refine ⟨p, ys, rfl, updC_same, ?_⟩
    have bp := hb.ne hp
    rw [delC_updC (by rw [B.ne (Ne.symm bp), hp])]
    exact hq ys C' hyl hY B
/-- drawn texts put together -/
theorem txts_of {P : List Nat → Prop} : ∀ {ys : List D}, (∀ y ∈ ys, ∃ l, y = .str l ∧ P l) → ∃ ls : List (List Nat), ys = txts ls ∧ ∀ l ∈ ls, P l
  | [], _ => ⟨[], rfl, nofun⟩
  | y :: ys, h => by
    obtain ⟨l, rfl, hl⟩ := h y (by simp)
    obtain ⟨ls, rfl, hs⟩ := txts_of (P := P) (ys := ys) fun z hz => h z (by simp [hz])
    exact ⟨l :: ls, rfl, fun z hz => by
      rcases List.mem_cons.mp hz with e | e
      · rw [e]; exact hl
      · exact hs z e⟩
theorem sum_le {m : Nat} : ∀ {ls : List (List Nat)}, (∀ l ∈ ls, l.length ≤ m) → (ls.map List.length).sum ≤ ls.length * m
  | [], _ => Nat.zero_le _
  | l :: ls, h => by
    have := sum_le (m := m) (ls := ls) fun z hz => h z (by simp [hz])
    have := h l (by simp)
    simp only [List.map_cons, List.sum_cons, List.length_cons, Nat.add_mul]
    omega

/-! ### any sign, any text -/
def sgns1 : List Nat := [32, 33, 34, 35, 36, 38, 39, 40, 41, 42, 43, 44, 45, 46, 47, 48, 49, 50, 51, 52, 53, 54, 55, 56, 57, 58, 59, 60, 61, 62, 63, 64, 65, 66, 67, 68, 69, 70, 71, 72, 73, 74, 75, 76, 77, 78, 79, 80, 81, 82, 83, 84, 85, 86, 87, 88, 89, 90, 91, 92, 93, 94, 95]
def sgns2 : List Nat := [96, 97, 98, 99, 100, 101, 102, 103, 104, 105, 106, 107, 108, 109, 110, 111, 112, 113, 114, 115, 116, 117, 118, 119, 120, 121, 122, 123, 124, 125, 126]
def sp_l_signs : DSp := fun ds C Q _ => ds = [] ∧ Q (.str (sgns1 ++ sgns2)) C
def td_l_signs : DS :=
  (dSeq (dAsg (dC (.str [32, 33, 34, 35, 36, 38, 39, 40, 41, 42, 43, 44, 45, 46, 47, 48, 49, 50, 51, 52, 53, 54, 55, 56, 57, 58, 59, 60, 61, 62, 63, 64, 65, 66, 67, 68, 69, 70, 71, 72, 73, 74, 75, 76, 77, 78, 79, 80, 81, 82, 83, 84, 85, 86, 87, 88, 89, 90, 91, 92, 93, 94, 95])) (dName 0))
    (dRet (dAdd (dVar 0) (dC (.str [96, 97, 98, 99, 100, 101, 102, 103, 104, 105, 106, 107, 108, 109, 110, 111, 112, 113, 114, 115, 116, 117, 118, 119, 120, 121, 122, 123, 124, 125, 126])))))
theorem len_l_signs (ds : List D) (C : Cl) (Q : DQ) (E : DX) (h : sp_l_signs ds C Q E) : ds.length = 0 := by obtain ⟨rfl, _⟩ := h; rfl
theorem pure_l_signs (ds : List D) (C : Cl) (Q : DQ) (E : DX) (h : sp_l_signs ds C Q E) : td_l_signs (endsD Q) (startD ["_law_some"] ds) C := by
  obtain ⟨rfl, hq⟩ := h
  exact ⟨_, rfl, _, rfl, szl (by simp), _, _, .same, hq⟩
theorem mem_signs {l : List Nat} {d : D} (h : d ∈ signs l) : ∃ c, d = .str [c] ∧ c ∈ l := by
  unfold signs at h
  obtain ⟨c, hc, rfl⟩ := List.mem_map.mp h
  exact ⟨c, rfl, hc⟩
/-- signs that may stand in a text -/
def okSign (c : Nat) : Bool := decide (32 ≤ c ∧ c ≤ 126) && decide (c ≠ 37)
theorem all_join {p : Nat → Bool} : ∀ {ls : List (List Nat)}, (∀ l ∈ ls, l.all p = true) → (TL.joinL [] ls).all p = true
  | [], _ => rfl
  | [x], h => h x (by simp)
  | x :: y :: r, h => by
    have := all_join (p := p) (ls := y :: r) fun z hz => h z (by simp [hz])
    show (x ++ ([] ++ TL.joinL [] (y :: r))).all p = true
    rw [List.nil_append, List.all_append, h x (by simp), this]
    rfl
theorem dig_ok {l : List Nat} (h : digs l = true) : l.all okSign = true := by
  unfold digs at h
  rw [Bool.and_eq_true] at h
  rw [List.all_eq_true] at h ⊢
  intro c hc
  have := h.2 c hc
  unfold isDig digits10 at this
  have this := of_decide_eq_true this
  simp only [List.mem_cons, List.not_mem_nil, or_false] at this
  rcases this with rfl | rfl | rfl | rfl | rfl | rfl | rfl | rfl | rfl | rfl <;> decide
/-- a text that does not end with eight q -/
def noQ (l : List Nat) : Bool := !(l.reverse.take 8 == List.replicate 8 113)
theorem noQ_of {l : List Nat} (h : l.reverse.take 8 ≠ List.replicate 8 113) : noQ l = true := by
  unfold noQ
  rw [beq_eq_false_iff_ne.mpr h]; rfl
theorem noQ_short {l : List Nat} (h : l.length < 8) : noQ l = true := noQ_of fun e => by
  have := congrArg List.length e
  rw [List.length_take, List.length_reverse, List.length_replicate] at this
  omega
theorem noQ_mem {l : List Nat} (h : 113 ∉ l) : noQ l = true := noQ_of fun e => by
  have : 113 ∈ l.reverse.take 8 := by rw [e]; decide
  exact h (List.mem_reverse.mp (List.mem_of_mem_take this))
theorem dig_noQ {l : List Nat} (h : digs l = true) : 113 ∉ l := fun hm => by
  unfold digs at h
  rw [Bool.and_eq_true] at h
  have := List.all_eq_true.mp h.2 _ hm
  exact absurd this (by decide)
/-- any text of at most thirty signs -/
def sp_l_text : DSp := fun ds C Q _ => ∃ b n, ds = [.ref b] ∧ BagAt C b n ∧ n < 500000000 ∧ ∀ l C', l.length ≤ 30 → l.all okSign = true → noQ l = true → Bagged C b C' (n + 20000) → Q (.str l) C'
def td_l_text : DS :=
  (dSeq (dAsg (dCall sp_l_take [] (dCons (dVar 0) (dCons (dC (.int 5)) dNil))) (dName 1))
    (dSeq (dIfS (dTest (dOp rEqD (dVar 1) (dC (.int 0)))) (dRet (dBM "str" rJoin (dC (.str [])) (dCons (dFz (dLc (diRng1 (dCons (dCall sp_l_take [] (dCons (dVar 0) (dCons (dC (.int 7)) dNil))) dNil)) (dName 2) dYes (dCall sp_l_of [] (dCons (dVar 0) (dCons (dCall sp_l_signs [] dNil) dNil))) [2])) dNil))) dNext)
    (dSeq (dIfS (dTest (dOp rEqD (dVar 1) (dC (.int 1)))) (dRet (dBM "str" rJoin (dC (.str [])) (dCons (dFz (dLc (diRng1 (dCons (dCall sp_l_take [] (dCons (dVar 0) (dCons (dC (.int 7)) dNil))) dNil)) (dName 2) dYes (dCall sp_l_of [] (dCons (dVar 0) (dCons (dC (.str [48, 48, 49, 57, 43, 45, 46, 32])) dNil))) [2])) dNil))) dNext)
    (dSeq (dIfS (dTest (dOp rEqD (dVar 1) (dC (.int 2)))) (dRet (dCall sp_l_of [] (dCons (dVar 0) (dCons (dLst (dCons (dC (.str [])) (dCons (dC (.str [78, 65])) (dCons (dC (.str [121, 101, 115])) (dCons (dC (.str [110, 111])) (dCons (dC (.str [120])) (dCons (dC (.str [116, 114, 117, 101])) (dCons (dC (.str [45])) (dCons (dC (.str [49])) (dCons (dC (.str [48])) (dCons (dC (.str [48, 48])) (dCons (dC (.str [48, 49])) (dCons (dC (.str [49, 46, 48])) (dCons (dC (.str [45, 48])) (dCons (dC (.str [43, 49])) dNil))))))))))))))) dNil)))) dNext)
    (dRet (dCall sp_l_number [] (dCons (dVar 0) (dCons (dC (.int 4)) dNil))))))))
theorem len_l_text (ds : List D) (C : Cl) (Q : DQ) (E : DX) (h : sp_l_text ds C Q E) : ds.length = 1 := by obtain ⟨_, _, rfl, _⟩ := h; rfl
theorem getWipe {ρ : DEnv} {i v : Nat} {d x : D} (h : ρ[i]? = some (some d)) (e : i ≠ v) : ((wipeD ρ [v]).set v (some x))[i]? = some (some d) := by
  show ((ρ.set v none).set v (some x))[i]? = _
  rw [List.getElem?_set_ne (Ne.symm e), List.getElem?_set_ne (Ne.symm e)]
  exact h
/-- [_law_of(bag, things) for turn in range(_law_take(bag, m))] -/
theorem lc_of {src : DE} {ρ : DEnv} {C : Cl} {b : Addr} {n ib iv : Nat} {m : Int} {items : List D} {sv : D} {Q : DQ} (h0 : ρ[ib]? = some (some (.ref b))) (hi : ib ≠ iv) (hb : BagAt C b n) (hn : n < 10000000000) (m0 : 0 < m) (m1 : m ≤ 1000)
    (hs : ∀ ρ' C' (N : DQ), N sv C' → src ρ' C' N) (hv : ∀ C', itemsOf C' sv = some items) (hr : sv ≠ .ref b) (he : items ≠ []) (hl : items.length ≤ 1000000)
    (hq : ∀ ys C', ys.length < m.toNat → (∀ y ∈ ys, y ∈ items) → Bagged C b C' (n + 1001) → Q (.lst ys) C') :
    dFz (dLc (diRng1 (dCons (dCall sp_l_take [] (dCons (dVar ib) (dCons (dC (.int m)) dNil))) dNil)) (dName iv) dYes (dCall sp_l_of [] (dCons (dVar ib) (dCons src dNil))) [iv]) ρ C Q := by
  refine ⟨_, h0, b, m, n, rfl, m0, by omega, hb, by omega, fun i C1 i0 i1 B1 => ?_⟩
  refine ⟨i, rfl, ⟨by omega, by omega⟩, ?_⟩
  refine lc_bag (k := 1) (fun y => y ∈ items) B1.at (by rw [ranged_length]; exact szl (by omega)) (fun i' x C2 N hx hb2 _ hN => ?_) fun ys C2 hyl hY B2 => ?_
  · have hx := (ranged_get hx).1
    refine ⟨_, getWipe h0 hi, hs _ _ _ ⟨b, sv, items, _, rfl, hv _, hr, he, hl, hb2, by omega, fun d C3 hd B3 => hN d C3 hd (B3.mono (by omega))⟩⟩
  · rw [ranged_length] at hyl B2
    exact hq ys C2 (by omega) hY ((B1.trans B2).mono (by omega))
theorem pure_l_text (ds : List D) (C : Cl) (Q : DQ) (E : DX) (h : sp_l_text ds C Q E) : td_l_text (endsD Q) (startD ["_law_bag_here", "_law_road", "_law_turn"] ds) C := by
  obtain ⟨b, n, rfl, hb, hn, hq⟩ := h
  refine ⟨_, rfl, b, 5, n, rfl, by decide, by decide, hb, by omega, fun i C1 i0 i1 B1 => ?_⟩
  have fin : ∀ (zs : List Nat), zs.all okSign = true → ∀ ys C2, (ys : List D).length < 7 → (∀ y ∈ ys, y ∈ signs zs) → Bagged C1 b C2 (n + 1 + 1001) → (fun x C2 => dNil [some (.ref b), some (.int i), none] C2 fun xs C3 => rJoin (.str []) (x :: xs) C3 (endsD Q).rt) (.lst ys) C2 := by
    intro zs zok ys C2 hyl hY B2
    obtain ⟨ls, rfl, hs⟩ := txts_of (P := fun l => l.length ≤ 1 ∧ l.all okSign = true) fun y hy => by
      obtain ⟨c, rfl, hc⟩ := mem_signs (hY y hy)
      exact ⟨[c], rfl, by simp, by rw [List.all_cons, List.all_nil, Bool.and_true]; exact List.all_eq_true.mp zok c hc⟩
    rw [txts_length] at hyl
    have h1 := sum_le fun l hl => (hs l hl).1
    have h3 := all_join fun l hl => (hs l hl).2
    have h2 := join_le ls
    exact ⟨[], _, ls, rfl, rfl, rfl, by simp only [List.length_nil, Nat.mul_zero]; omega, _, _, .same, hq _ _ (by omega) h3 (noQ_short (by omega)) ((B1.trans B2).mono (by omega))⟩
  refine ⟨_, rfl, .inl ⟨_, rfl, _, rfl, ite_d (fun h => ?_) (fun h => ?_)⟩⟩
  · exact ⟨rfl, lc_of (items := signs (sgns1 ++ sgns2)) (sv := .str (sgns1 ++ sgns2)) rfl (by decide) B1.at (by omega) (by decide) (by decide) (fun ρ' C' N h => ⟨rfl, h⟩) (fun _ => rfl) nofun (by decide) (by decide) (fin _ (by decide))⟩
  refine ⟨_, rfl, .inl ⟨_, rfl, _, rfl, ite_d (fun h => ?_) (fun h => ?_)⟩⟩
  · exact ⟨rfl, lc_of (items := signs [48, 48, 49, 57, 43, 45, 46, 32]) (sv := .str [48, 48, 49, 57, 43, 45, 46, 32]) rfl (by decide) B1.at (by omega) (by decide) (by decide) (fun ρ' C' N h => h) (fun _ => rfl) nofun (by decide) (by decide) (fin _ (by decide))⟩
  refine ⟨_, rfl, .inl ⟨_, rfl, _, rfl, ite_d (fun h => ?_) (fun h => ?_)⟩⟩
  · refine ⟨_, rfl, szl (by simp), b, _, _, n + 1, rfl, rfl, nofun, by simp, by simp, B1.at, by omega, fun d C2 hm B2 => ?_⟩
    have : ∃ l, d = .str l ∧ (l.length ≤ 30 ∧ l.all okSign = true ∧ noQ l = true) := by
      have all : ([.str [], .str [78, 65], .str [121, 101, 115], .str [110, 111], .str [120], .str [116, 114, 117, 101], .str [45], .str [49], .str [48], .str [48, 48], .str [48, 49], .str [49, 46, 48], .str [45, 48], .str [43, 49]] : List D) = txts [[], [78, 65], [121, 101, 115], [110, 111], [120], [116, 114, 117, 101], [45], [49], [48], [48, 48], [48, 49], [49, 46, 48], [45, 48], [43, 49]] := rfl
      rw [all] at hm
      obtain ⟨l, hl, rfl⟩ := List.mem_map.mp hm
      refine ⟨l, rfl, ?_⟩
      clear hm all
      revert l
      decide
    obtain ⟨l, rfl, hl⟩ := this
    exact ⟨_, _, .same, hq _ _ hl.1 hl.2.1 hl.2.2 ((B1.trans B2).mono (by omega))⟩
  · refine ⟨_, rfl, b, 4, n + 1, rfl, by decide, by decide, B1.at, by omega, fun s w o C2 hs hw hwl ho B2 => ⟨_, _, .same, hq _ _ ?_ ?_ ?_ ((B1.trans B2).mono (by omega))⟩⟩
    rotate_left
    rotate_left
    · refine noQ_mem fun hm => ?_
      simp only [List.mem_append] at hm
      rcases hm with (hm | hm) | hm
      · rcases hs with rfl | rfl | rfl <;> simp at hm
      · exact dig_noQ hw hm
      · cases o with
        | none => simp [tailN] at hm
        | some p => simp only [tailN, List.mem_cons] at hm; rcases hm with e | e; (· cases e); exact dig_noQ (ho p rfl).1 e
    rotate_left
    · rw [List.all_append, List.all_append, dig_ok hw]
      have h4 : s.all okSign = true := by rcases hs with rfl | rfl | rfl <;> decide
      have h5 : (tailN o).all okSign = true := by
        cases o with
        | none => rfl
        | some p => show (46 :: p).all okSign = true; rw [List.all_cons, dig_ok (ho p rfl).1]; decide
      rw [h4, h5]; rfl
    have : (tailN o).length ≤ 5 := by
      cases o with
      | none => simp [tailN]
      | some p => have := (ho p rfl).2; simp only [tailN, List.length_cons]; omega
    have hsl : s.length ≤ 1 := by rcases hs with rfl | rfl | rfl <;> simp
    simp only [List.length_append]
    omega
end G
set_option maxHeartbeats 4000000
namespace G
open PySem PySem.Spec PyProof.Rows L2
/-! ### a text nearly another -/
def sp_l_near : DSp := fun ds C Q _ => ∃ b t n, ds = [.ref b, .str t] ∧ t.length ≤ 1000 ∧ BagAt C b n ∧ n < 1000000000 ∧ ∀ l C', l.length ≤ 2 * t.length + 1 → (t.all okSign = true → l.all okSign = true) → Bagged C b C' (n + 10) → Q (.str l) C'
def td_l_near : DS :=
  (dSeq (dPar 2 3 (dCons (dCall sp_l_take [] (dCons (dVar 0) (dCons (dC (.int 6)) dNil))) (dCons (dCall sp_l_of [] (dCons (dVar 0) (dCons (dCall sp_l_signs [] dNil) dNil))) dNil)))
    (dSeq (dAsg (dCall sp_l_take [] (dCons (dVar 0) (dCons (dAdd (dCB rLen (dCons (dVar 1) dNil)) (dC (.int 1))) dNil))) (dName 4))
    (dSeq (dIfS (dTest (dOp rEqD (dVar 2) (dC (.int 0)))) (dRet (dVar 1)) dNext)
    (dSeq (dIfS (dTest (dOp rEqD (dVar 2) (dC (.int 1)))) (dRet (dSl rSl (dVar 1) dNoPart (dPart (dUn rNeg (dC (.int 1)))))) dNext)
    (dSeq (dIfS (dTest (dOp rEqD (dVar 2) (dC (.int 2)))) (dRet (dSl rSl (dVar 1) (dPart (dC (.int 1))) dNoPart)) dNext)
    (dSeq (dIfS (dTest (dOp rEqD (dVar 2) (dC (.int 3)))) (dRet (dAdd (dAdd (dSl rSl (dVar 1) dNoPart (dPart (dVar 4))) (dVar 3)) (dSl rSl (dVar 1) (dPart (dVar 4)) dNoPart))) dNext)
    (dSeq (dIfS (dTest (dOp rEqD (dVar 2) (dC (.int 4)))) (dRet (dAdd (dAdd (dSl rSl (dVar 1) dNoPart (dPart (dVar 4))) (dVar 3)) (dSl rSl (dVar 1) (dPart (dAdd (dVar 4) (dC (.int 1)))) dNoPart))) dNext)
    (dRet (dAdd (dVar 1) (dVar 1))))))))))
theorem len_l_near (ds : List D) (C : Cl) (Q : DQ) (E : DX) (h : sp_l_near ds C Q E) : ds.length = 2 := by obtain ⟨_, _, _, rfl, _⟩ := h; rfl
theorem cut_all {p : Nat → Bool} {l : List Nat} {lo hi : Option Int} (h : l.all p = true) : (cutL l lo hi).all p = true := by
  rw [List.all_eq_true] at *
  intro x hx
  unfold cutL at hx
  exact h x (List.mem_of_mem_drop (List.mem_of_mem_take hx))
theorem cuts_le {α : Type} (l : List α) {v : Int} (h : 0 ≤ v) : (cutL l none (some v)).length + (cutL l (some v) none).length ≤ l.length := by
  rw [cutL_to _ h, cutL_from _ h, List.length_take, List.length_drop]
  omega
theorem pure_l_near (ds : List D) (C : Cl) (Q : DQ) (E : DX) (h : sp_l_near ds C Q E) : td_l_near (endsD Q) (startD ["_law_bag_here", "_law_text_here", "_law_road", "_law_sign", "_law_at"] ds) C := by
  obtain ⟨b, t, n, rfl, ht, hb, hn, hq⟩ := h
  refine ⟨_, rfl, b, 6, n, rfl, by decide, by decide, hb, by omega, fun i C1 i0 i1 B1 => ?_⟩
  refine ⟨_, rfl, rfl, b, .str (sgns1 ++ sgns2), _, n + 1, rfl, rfl, nofun, by decide, by decide, B1.at, by omega, fun d C2 hm B2 => ?_⟩
  obtain ⟨c, rfl, hcm⟩ := mem_signs hm
  have cok : okSign c = true := List.all_eq_true.mp (show (sgns1 ++ sgns2).all okSign = true by decide) c hcm
  refine ⟨_, _, rfl, _, rfl, _, rfl, _, _, rfl, rfl, szl (by omega), _, rfl, trivial, b, _, n + 2, rfl, by omega, by omega, B2.at, by omega, fun k C3 k0 k1 B3 => ?_⟩
  have B := (B1.trans B2).trans B3
  have B' : Bagged C b C3 (n + 10) := B.mono (by omega)
  have c1 := cuts_le t k0
  have c2 := cutL_length t (some (k + 1)) none
  have c3 := cutL_length t none (some k)
  refine ⟨_, rfl, .inl ⟨_, rfl, _, rfl, ite_d (fun h => ⟨_, rfl, _, _, .same, hq _ _ (by omega) (fun z => z) B'⟩) (fun h => ?_)⟩⟩
  refine ⟨_, rfl, .inl ⟨_, rfl, _, rfl, ite_d (fun h => ?_) (fun h => ?_)⟩⟩
  · exact ⟨_, rfl, _, rfl, _, rfl, _, rfl, szl (by omega), _, _, .same, hq _ _ (by have := cutL_length t none (some (-1)); omega) cut_all B'⟩
  refine ⟨_, rfl, .inl ⟨_, rfl, _, rfl, ite_d (fun h => ?_) (fun h => ?_)⟩⟩
  · exact ⟨_, rfl, _, rfl, _, rfl, szl (by omega), _, _, .same, hq _ _ (by have := cutL_length t (some 1) none; omega) cut_all B'⟩
  refine ⟨_, rfl, .inl ⟨_, rfl, _, rfl, ite_d (fun h => ?_) (fun h => ?_)⟩⟩
  · refine ⟨_, rfl, _, rfl, _, rfl, _, rfl, szl (by omega), _, rfl, _, rfl, szl ?_, _, rfl, _, rfl, _, rfl, _, rfl, szl (by omega), _, rfl, szl ?_, _, _, .same, hq _ _ ?_ (fun z => by rw [List.all_append, List.all_append, cut_all z, cut_all z, List.all_cons, cok]; rfl) B'⟩
    all_goals
      simp only [List.length_append, List.length_cons, List.length_nil]
      omega
  refine ⟨_, rfl, .inl ⟨_, rfl, _, rfl, ite_d (fun h => ?_) (fun h => ?_)⟩⟩
  · refine ⟨_, rfl, _, rfl, _, rfl, _, rfl, szl (by omega), _, rfl, _, rfl, szl ?_, _, rfl, _, rfl, _, rfl, trivial, _, rfl, _, rfl, szl (by omega), _, rfl, szl ?_, _, _, .same, hq _ _ ?_ (fun z => by rw [List.all_append, List.all_append, cut_all z, cut_all z, List.all_cons, cok]; rfl) B'⟩
    all_goals
      simp only [List.length_append, List.length_cons, List.length_nil]
      omega
  · refine ⟨_, rfl, _, rfl, _, rfl, szl ?_, _, _, .same, hq _ _ ?_ (fun z => by rw [List.all_append, z]; rfl) B'⟩
    all_goals
      simp only [List.length_append]
      omega

/-- the same, told of the whole comprehension -/
theorem lc_bagW {wi : DI} {g : DG} {te : DE} {ρ : DEnv} {vs : List Nat} {C1 : Cl} {b : Addr} {n k : Nat} {xs : List D} {Q : DQ} (Y : D → Prop) (hw : ∀ R : List D → Cl → Prop, R xs C1 → wi ρ C1 R) (hb : BagAt C1 b n) (hl : xs.length ≤ sizeLine)
    (h : ∀ (i : Nat) (x : D) (C : Cl) (N : DQ), xs[i]? = some x → BagAt C b (n + i * k) → (∀ a, C1 a ≠ none → a ≠ b → C a = C1 a) → (∀ y C', Y y → Bagged C b C' (n + (i + 1) * k) → N y C') → g x (wipeD ρ vs) C fun ρ2 C2 => te ρ2 C2 N)
    (hq : ∀ ys C', ys.length = xs.length → (∀ y ∈ ys, Y y) → Bagged C1 b C' (n + xs.length * k) → Q (.lst ys) C') : dFz (dLc wi g dYes te vs) ρ C1 Q := hw _ (lc_bag Y hb hl h hq)
theorem get_txts {d : D} {ls : List (List Nat)} {i : Nat} (h : (txts ls)[i]? = some d) : ∃ l, d = .str l ∧ ls[i]? = some l := by
  unfold txts at h
  rw [List.getElem?_map] at h
  cases e : ls[i]? with
  | none => rw [e] at h; cases h
  | some l => rw [e] at h; exact ⟨l, (Option.some.inj h).symm, rfl⟩
theorem txts_app (a b : List (List Nat)) : txts (a ++ b) = txts a ++ txts b := List.map_append ..
end G
set_option maxHeartbeats 2000000
namespace G
open PySem PySem.Spec PyProof.Rows L2
local macro_rules | `(tactic| decreasing_trivial_pre_omega) => `(tactic| first | with_reducible refine v_frz ?_ | with_reducible refine v_setdN ?_ | with_reducible refine v_putN ?_ | with_reducible refine v_d1N ?_ | with_reducible refine v_d1K ?_ | with_reducible refine v_newN ?_ | with_reducible refine v_exi ?_ | with_reducible refine v_exf ?_ | with_reducible refine v_exv ?_ | with_reducible refine v_con ?_ | with_reducible refine v_tryN ?_ | with_reducible refine v_pnil ?_ | with_reducible refine v_pcons ?_ | with_reducible refine v_dictD ?_ | with_reducible refine v_get1 ?_)
/-! ### texts of a list: the law -/
def TxtM (l : List Nat) : Prop := l.length ≤ 30 ∧ l.all okSign = true
theorem ok_sg {c : Nat} (h : okSign c = true) : c ∈ sgAll := by
  unfold okSign at h
  simp only [Bool.and_eq_true, decide_eq_true_eq] at h
  obtain ⟨⟨h1, h2⟩, h3⟩ := h
  have : ∀ c : _root_.Fin 127, 32 ≤ c.val → c.val ≠ 37 → c.val ∈ sgAll := by decide
  exact this ⟨c, by omega⟩ h1 h3
theorem ok_sgW {l : List Nat} (h : l.all okSign = true) : sgW l = true := by
  unfold sgW
  rw [List.all_eq_true] at h ⊢
  exact fun c hc => decide_eq_true (ok_sg (h c hc))
theorem v_fzlcM {wi : DI} {g : DG} {te : DE} {vs : List Nat} {ρ : DEnv} {C : Cl} {Q : DQ} (h : wi ρ C fun xs C1 => dFz (dLc (fun _ C R => R xs C) g dYes te vs) ρ C1 Q) : dFz (dLc wi g dYes te vs) ρ C Q := h
theorem ok_small {l : List Nat} (h : l.all okSign = true) : small l = true := by
  unfold small
  rw [List.all_eq_true] at h ⊢
  intro c hc
  have := h c hc
  unfold okSign at this
  simp only [Bool.and_eq_true, decide_eq_true_eq] at this
  exact decide_eq_true (by omega)
theorem atI_last {α : Type} {l : List α} {a : α} : atI (l ++ [a]) (-1) = some a := by
  have e : ixN (l ++ [a]).length (-1) = some l.length := by
    unfold ixN
    rw [List.length_append, List.length_singleton, if_neg (by omega), if_pos (by omega)]
    congr 1
    omega
  unfold atI
  rw [e]
  simp
def sp_l_right : DSp := fun ds C Q _ => ∃ b, ds = [.ref b] ∧ BagAt C b 0 ∧ (∃ P, C P = some (.tbl qMl)) ∧ ∀ C', (∃ P, C' P = some (.tbl qMl)) → Q (.bl true) C'
def td_l_right : DS :=
  (dSeq (dAsg (dFz (dLc (diRng1 (dCons (dCall sp_l_take [] (dCons (dVar 0) (dCons (dC (.int 9)) dNil))) dNil)) (dName 6) dYes (dCall sp_l_text [] (dCons (dVar 0) dNil)) [6])) (dName 1))
    (dSeq (dAsg (dAdd (dVar 1) (dSl rSl (dVar 1) dNoPart (dPart (dCall sp_l_take [] (dCons (dVar 0) (dCons (dC (.int 2)) dNil)))))) (dName 1))
    (dSeq (dAsg (dCB rListC (dCons (dVar 1) dNil)) (dName 2))
    (dSeq (dAsg (dCal (pos2 sp_Machine_listing []) (dCons (dVar 2) dNil) dNil) (dName 3))
    (dSeq (dIfS (dOr (dTest (dOp rNeC (dVar 2) (dVar 1))) (dTest (dOp rNeD (dCB (rBoolO "Machine" (pos2 sp_Machine_bool [])) (dCons (dVar 3) dNil)) (dOp rGtD (dCB rLen (dCons (dVar 1) dNil)) (dC (.int 0)))))) (dRet (dC (.bl false))) dNext)
    (dSeq (dDrop (dBM "list" rAppend (dVar 2) (dCons (dAdd (dC (.str [99, 104, 97, 110, 103, 101, 100])) (dBM "str" rJoin (dC (.str [])) (dCons (dVar 1) dNil))) dNil)))
    (dSeq (dAsg (dOp rAddC (dCB rList (dCons (dVar 1) dNil)) (dLst (dCons (dCall sp_l_text [] (dCons (dVar 0) dNil)) (dCons (dC (.str [])) (dCons (dOp rIx (dVar 2) (dUn rNeg (dC (.int 1)))) dNil))))) (dName 4))
    (dSeq (dFor (diList (dCB rList (dCons (dVar 4) dNil))) (dName 5)
    (dDrop (dBM "list" rAppend (dVar 4) (dCons (dCall sp_l_near [] (dCons (dVar 0) (dCons (dVar 5) dNil))) dNil))))
    (dView 4 (dSeq (dFor (diList (dVar 4)) (dName 5)
    (dIfS (dTest (dOp rNeD (dOp (rInO "Machine" (pos2 sp_Machine_contains []) false) (dVar 5) (dVar 3)) (dOp rIn (dVar 5) (dVar 1)))) (dRet (dC (.bl false))) dNext))
    (dRet (dNotV (dCB rAnyL (dCons (dFz (dLc (diTup (dTup (dCons (dC .non) (dCons (dC (.int 0)) (dCons (dC (.int 7)) (dCons (dC (.bl true)) (dCons (dLst (dCons (dC (.str [97])) dNil)) (dCons (dTup (dCons (dC (.str [])) dNil)) (dCons (dCB rList (dCons (dVar 1) dNil)) dNil))))))))) (dName 7) dYes (dOp (rInO "Machine" (pos2 sp_Machine_contains []) false) (dVar 7) (dVar 3)) [7])) dNil))))))))))))))
theorem len_l_right (ds : List D) (C : Cl) (Q : DQ) (E : DX) (h : sp_l_right ds C Q E) : ds.length = 1 := by repeat (first | (obtain ⟨rfl, _⟩ := h; exact rfl) | (obtain ⟨_, h⟩ := h))
theorem pure_l_right (ds : List D) (C : Cl) (Q : DQ) (E : DX) (h : sp_l_right ds C Q E) : td_l_right (endsD Q) (startD ["_law_bag_here", "_law_texts", "_law_handed", "_law_told", "_law_asked", "_law_text_here", "_law_turn", "_law_thing"] ds) C := by
  obtain ⟨b, rfl, hb, ⟨P, hP⟩, hq⟩ := h
  unfold td_l_right
  refine v_ends ?_
  simp only [startD, List.map_cons, List.map_nil, List.length_cons, List.length_nil, Nat.reduceAdd, Nat.reduceSub, List.reduceReplicate, List.cons_append, List.nil_append]
  array_mem_dec
  refine v_fzlcM ?_
  array_mem_dec
  refine ⟨b, 9, 0, rfl, by decide, by decide, hb, by omega, fun t C1 t0 t1 B1 => ?_⟩
  array_mem_dec
  refine ⟨_, rfl, ⟨by omega, by omega⟩, ?_⟩
  refine lc_bagW (xs := ranged 0 t.toNat) (b := b) (k := 20000) (fun y => ∃ l, y = .str l ∧ TxtM l) (fun R h => h) B1.at (szl (by rw [ranged_length]; omega)) (fun i x C2 N hx B2 _ hN => ?_) fun ys C2 hyl hY B2 => ?_
  · obtain ⟨hi', rfl⟩ := ranged_get hx
    array_mem_dec
    exact ⟨b, _, rfl, B2, by omega, fun l C3 ll lk _ B3 => hN _ C3 ⟨l, rfl, ll, lk⟩ (B3.mono (by omega))⟩
  obtain ⟨as, rfl, has⟩ := txts_of (P := TxtM) hY
  rw [txts_lenG, ranged_length] at hyl
  rw [ranged_length] at B2
  have b2 : Bagged C b C2 200000 := (B1.trans B2).mono (by omega)
  array_mem_dec
  refine ⟨b, 2, _, rfl, by decide, by decide, b2.at, by omega, fun u C3 u0 u1 B3 => ?_⟩
  have b3 : Bagged C b C3 200001 := b2.trans B3
  clear B3 B2 B1 b2
  refine ⟨u, rfl, ?_⟩
  have ec : cutL (txts as) none (some u) = txts (as.take u.toNat) := by rw [cutL_to _ u0]; unfold txts; rw [List.map_take]
  refine ⟨.lst (cutL (txts as) none (some u)), rfl, trivial, ?_⟩
  rw [ec]
  refine v_addL (szl (by rw [List.length_append, txts_lenG, txts_lenG, List.length_take]; omega)) ?_
  rw [← txts_app]
  have hls : ∀ l ∈ as ++ as.take u.toNat, TxtM l := fun l hl => (List.mem_append.mp hl).elim (has l) fun z => has l (List.mem_of_mem_take z)
  have hln : (as ++ as.take u.toNat).length ≤ 16 := by rw [List.length_append, List.length_take]; omega
  generalize as ++ as.take u.toNat = ls at hls hln ⊢
  clear ec hyl hY has
  obtain ⟨bx, by_, bz, eC3, hBag⟩ := b3
  have b3 : Bagged C b C3 200001 := ⟨bx, by_, bz, eC3, hBag⟩
  have hPb : P ≠ b := fun e => by
    obtain ⟨_, _, _, hc, _⟩ := hb
    rw [e, hc] at hP
    cases hP
  have hP3 : C3 P = some (.tbl qMl) := by rw [eC3, updC_ne hPb]; exact hP
  array_mem_dec
  refine ⟨_, _, rfl, rfl, fun p n3 => ?_⟩
  have bp : b ≠ p := b3.at.ne n3
  have Pp : P ≠ p := ne_of n3 hP3
  array_mem_dec
  refine ⟨.ref p, ls, rfl, seq_cell updC_same, by omega, fun l hl => by have := (hls l hl).1; omega, ⟨P, by rw [updC_ne Pp]; exact hP3⟩, fun f tb acc M lang some_ => ?_⟩
  array_mem_dec
  have hsm : ∀ l ∈ ls, small l = true := fun l hl => ok_small (hls l hl).2
  have hsh : Sh 1 (.lst (txts ls)) := sh_lst (sh_txts hsm)
  have hv : viewC (updC C3 p (.lst (txts ls))) (.ref p) = .lst (txts ls) := viewC_ref updC_same
  refine ⟨by rw [hv]; exact hsh.shp, hsh.shp, ?_⟩
  rw [hv, show viewC (updC C3 p (.lst (txts ls))) (.lst (txts ls)) = .lst (txts ls) from rfl, eqT_self hsh]
  array_mem_dec
  refine ⟨_, _, rfl, rfl, ?_⟩
  array_mem_dec
  refine ⟨machD f tb acc, f, tb, acc, rfl, rfl, ?_⟩
  refine ⟨_, rfl, ?_⟩
  have eb : (!acc.isEmpty) = decide ((0 : Int) < ((txts ls).length : Nat)) := by
    rw [txts_lenG]
    cases hls0 : ls with
    | nil =>
      have : acc = [] := Decidable.byContradiction fun z => by
        obtain ⟨w, e⟩ := some_.mp z
        rw [lang w, hls0] at e
        simp at e
      rw [this]
      rfl
    | cons l r =>
      have : acc ≠ [] := some_.mpr ⟨l, by rw [lang l, ok_sgW (hls l (by rw [hls0]; exact .head _)).2, hls0]; simp⟩
      rw [decide_eq_true (by rw [List.length_cons]; omega)]
      cases acc with
      | nil => exact absurd rfl this
      | cons _ _ => rfl
  array_mem_dec
  have hsum : (ls.map List.length).sum ≤ 480 := by
    have := sum_le (m := 30) fun l hl => (hls l hl).1
    omega
  refine ⟨ty_cell updC_same, ?_⟩
  array_mem_dec
  refine ⟨[], .lst (txts ls), ls, rfl, rfl, rfl, by rw [List.length_nil]; omega, ?_⟩
  have hjl : (TL.joinL [] ls).length ≤ 480 := Nat.le_trans (join_le ls) hsum
  have hjo : (TL.joinL [] ls).all okSign = true := all_join fun l hl => (hls l hl).2
  generalize TL.joinL [] ls = jn at hjl hjo ⊢
  refine v_addS (szl (by rw [List.length_append]; show 7 + _ ≤ _; omega)) ?_
  generalize htx : ([99, 104, 97, 110, 103, 101, 100] : List Nat) ++ jn = tx
  have htl : tx.length ≤ 487 := by rw [← htx, List.length_append]; show 7 + _ ≤ _; omega
  have hto : tx.all okSign = true := by rw [← htx, List.all_append, hjo]; rfl
  array_mem_dec
  refine app_cell updC_same (by rw [txts_lenG, sizeLine_eq]; omega) ?_
  rw [updC_updC]
  array_mem_dec
  refine ⟨b, 200001, rfl, b3.at.upd bp, by omega, fun l C5 ll lk _ B5 => ?_⟩
  have p5 : C5 p = some (.lst (txts ls ++ [.str tx])) := by rw [B5.ne (Ne.symm bp), updC_same]
  have P5 : C5 P = some (.tbl qMl) := by rw [B5.ne hPb, updC_ne Pp]; exact hP3
  have b5 : BagAt C5 b 300000 := B5.at.mono (by omega)
  clear B5
  array_mem_dec
  refine ⟨1, rfl, ?_⟩
  refine ⟨_, rfl, .inr ⟨_, .str tx, seq_cell p5, atI_last, ?_⟩⟩
  array_mem_dec
  refine ⟨_, _, rfl, rfl, szl (by rw [txts_lenG]; show _ + 3 ≤ _; omega), fun p4 n4 => ?_⟩
  have p4p : p ≠ p4 := ne_of n4 p5
  have bp4 : b ≠ p4 := b5.ne n4
  have Pp4 : P ≠ p4 := ne_of n4 P5
  have enl : txts ls ++ [.str l, .str [], .str tx] = txts (ls ++ [l, [], tx]) := by rw [txts_app]; rfl
  rw [enl]
  have hnl : ∀ x ∈ ls ++ [l, [], tx], x.length ≤ 487 ∧ x.all okSign = true := fun x hx => by
    rcases List.mem_append.mp hx with z | z
    · exact ⟨by have := (hls x z).1; omega, (hls x z).2⟩
    · rcases List.mem_cons.mp z with rfl | z
      · exact ⟨by omega, lk⟩
      · rcases List.mem_cons.mp z with rfl | z
        · exact ⟨by simp, rfl⟩
        · rw [List.mem_singleton.mp z]
          exact ⟨htl, hto⟩
  have hnlen : (ls ++ [l, [], tx]).length ≤ 19 := by rw [List.length_append]; show _ + 3 ≤ _; omega
  generalize ls ++ [l, [], tx] = nl at hnl hnlen ⊢
  array_mem_dec
  refine v_forX (txts nl) (fun R h => ?_) (fun i ρ C' => ∃ s5 ms, ρ = [some (.ref b), some (.lst (txts ls)), some (.ref p), some (machD f tb acc), some (.ref p4), s5, none, none] ∧ C' P = some (.tbl qMl) ∧ C' p4 = some (.lst (txts (nl ++ ms))) ∧ BagAt C' b (300000 + i * 10) ∧ ms.length = i ∧ ∀ x ∈ ms, x.all okSign = true) ⟨_, [], rfl, by rw [updC_ne Pp4]; exact P5, by rw [updC_same, List.append_nil], b5.upd bp4, rfl, nofun⟩ ?_ ?_
  · array_mem_dec
    exact ⟨_, _, rfl, seq_cell updC_same, _, rfl, h⟩
  · rintro i d ρ C' hd ⟨s5, ms, rfl, PP, c4, bb, hml, hms⟩
    obtain ⟨x, rfl, hx⟩ := get_txts hd
    have hi := (List.getElem?_eq_some_iff.mp hx).1
    have hxm := hnl x (List.mem_of_getElem? hx)
    array_mem_dec
    refine ⟨ty_cell c4, ?_⟩
    array_mem_dec
    refine ⟨b, x, _, rfl, by omega, bb, by omega, fun y C7 yl yo B7 => ?_⟩
    have c7 : C7 p4 = some (.lst (txts (nl ++ ms))) := by rw [B7.ne (Ne.symm bp4)]; exact c4
    array_mem_dec
    refine app_cell c7 (by rw [txts_lenG, List.length_append, sizeLine_eq]; omega) ?_
    refine ⟨_, ms ++ [y], rfl, by rw [updC_ne Pp4, B7.ne hPb]; exact PP, ?_, (B7.at.upd bp4).mono (by omega), by rw [List.length_append, hml]; rfl, fun z hz => ?_⟩
    · rw [updC_same, ← List.append_assoc, txts_app (nl ++ ms)]
      rfl
    · rcases List.mem_append.mp hz with e | e
      · exact hms z e
      · rw [List.mem_singleton.mp e]
        exact yo hxm.2
  rintro ρ C' ⟨s5, ms, rfl, PP, c4, bb, hml, hms⟩
  have hall : ∀ x ∈ nl ++ ms, x.all okSign = true := fun x hx => (List.mem_append.mp hx).elim (fun z => (hnl x z).2) (hms x)
  generalize nl ++ ms = qs at c4 hall ⊢
  array_mem_dec
  refine ⟨.ref p4, .lst (txts qs), _, rfl, .lst c4, ?_⟩
  dsimp only [List.set]
  have PD : delC C' p4 P = some (.tbl qMl) := by unfold delC; rw [if_neg Pp4]; exact PP
  generalize delC C' p4 = C8 at PD ⊢
  array_mem_dec
  refine v_forX (txts qs) (fun R h => ?_) (fun i ρ C' => ∃ s5, ρ = [some (.ref b), some (.lst (txts ls)), some (.ref p), some (machD f tb acc), some (.lst (txts qs)), s5, none, none] ∧ C' = C8) ⟨_, rfl, rfl⟩ ?_ ?_
  · array_mem_dec
    exact h
  · rintro i d ρ C' hd ⟨s5, rfl, rfl⟩
    obtain ⟨x, rfl, hx⟩ := get_txts hd
    have hxo := hall x (List.mem_of_getElem? hx)
    array_mem_dec
    refine ⟨_, rfl, rfl, machD f tb acc, f, tb, acc, .str x, rfl, rfl, M, .inl ⟨x, rfl, ?_⟩⟩
    refine ⟨_, rfl, ?_⟩
    rw [Bool.false_xor, lang x, ok_sgW hxo, Bool.true_and]
    array_mem_dec
    refine .inr (.inr ⟨txts ls, rfl, rfl, txts_flat, ?_⟩)
    rw [txts_any]
    array_mem_dec
    exact ⟨_, rfl, rfl⟩
  · rintro ρ C' ⟨s5, rfl, rfl⟩
    array_mem_dec
    refine v_lcmap (xs := [.non, .int 0, .int 7, .bl true, .lst [.str [97]], .tup [.str []], .lst (txts ls)]) (fun _ => .bl false) (fun R h => ?_) (szl (Nat.le_of_ble_eq_true rfl)) (fun i x C9 N hx s9 hN => ?_) ?_
    · array_mem_dec
      exact h
    · have hty : ∃ n, tyNm x C9 = some n ∧ isSub n "str" = false := by
        have hm := List.mem_of_getElem? hx
        simp only [List.mem_cons, List.not_mem_nil, or_false] at hm
        rcases hm with rfl | rfl | rfl | rfl | rfl | rfl | rfl <;> exact ⟨_, rfl, by decide⟩
      obtain ⟨n, h1, h2⟩ := hty
      array_mem_dec
      refine ⟨_, rfl, rfl, machD f tb acc, f, tb, acc, x, rfl, rfl, M, .inr ⟨n, h1, h2, ?_⟩⟩
      exact ⟨_, rfl, hN⟩
    · array_mem_dec
      exact hq _ ⟨P, PD⟩

def td_law : DS :=
  (dSeq (dFor (diRng1 (dCons (dCB rMax2 (dCons (dC (.int 1)) (dCons (dCB rMin2 (dCons (dC (.int 8)) (dCons (dCB rLen (dCons (dVar 0) dNil)) dNil))) dNil))) dNil)) (dName 1)
    (dIfS (dNot (dTest (dCall sp_l_right [] (dCons (dCall sp_l_bag [] (dCons (dVar 0) (dCons (dVar 1) dNil))) dNil)))) (dRet (dC (.bl false))) dNext))
    (dRet (dC (.bl true))))
theorem pure_law (ds : List D) (C : Cl) (Q : DQ) (E : DX) (h : sp_lawT [qMl] ds C Q E) : td_law (endsD Q) (startD ["_law_script", "_law_at"] ds) C := by
  obtain ⟨ns, rfl, hl, htb, hq⟩ := h
  have tb : ∃ P, C P = some (.tbl qMl) := htb qMl (.head _)
  dsimp only [td_law, dSeq, dFor]
  refine law_rng (ns := ns) (m := 8) (ρ := [some (.rol (ns.map D.int)), none]) rfl hl fun n hn => ?_
  refine ⟨fun i ρ C' => (∃ P, C' P = some (.tbl qMl)) ∧ ∃ x, ρ = [some (.rol (ns.map D.int)), x], ⟨tb, _, rfl⟩, ?_, ?_⟩
  · rintro i d ρ C' hx ⟨⟨P, tb⟩, x, rfl⟩
    obtain ⟨hi, rfl⟩ := ranged_get hx
    rw [show (0 : Int) + (i : Int) = (i : Int) by omega]
    refine ⟨_, rfl, _, rfl, ns, i, rfl, by omega, fun b C1 hb B1 => ?_⟩
    refine ⟨b, rfl, B1.at, ?_, fun C3 t3 => ⟨_, rfl, iteF ⟨t3, _, rfl⟩⟩⟩
    obtain ⟨u, v, w, rfl, _⟩ := B1
    exact ⟨P, by rw [updC_ne (ne_of hb tb)]; exact tb⟩
  · rintro ρ C' ⟨tb, x, rfl⟩
    exact ⟨_, _, .same, hq _⟩
end G
set_option maxHeartbeats 2000000
namespace G
open PySem PySem.Spec PyProof.Rows L2
/-! ### the end: the law is called where nothing is being shown; ts: tables that stand empty -/
/-- what is tracked at the start: the empty tables, the script if the module does not own it -/
def H00 (ts : List Addr) (b : Bool) (a : Addr) (o : Obj) (xs : List V) : Hp := fun x => if x ∈ ts then some (.tbl #[]) else if x = a ∧ b = true then some (.frz o (.lst xs)) else none
theorem call_law {P : Program} {w : World} {K : PySem.W.Frag} {mg mb : Str → Option Value} {CX : CXT} {k : Nat} {fa a : Addr} {cs : List (Addr × Addr)} {fd : FuncData} {x : Str} {sp : Sp} {t : Shared} {vs : List Value} {ns : List Int}
    (KX : K.In t.heap) (hns : t.heap.Ns mainGlobals mg) (hbn : t.heap.Ns builtinsNs mb) (hbb : ∀ x : Str, x ≠ "__name__" → mb x = bootBuiltins x) (hlim : t.heap.NoLimit) (hg : t.gens = #[])
    (hT : ∀ p ∈ cs, t.heap.get? p.2 = some { cls := .none, data := .fields #[] }) (nT : ∀ p ∈ cs, K.lookup p.2 = none) (cd : ∀ p ∈ cs, PySem.W.codeHdIn K p.1 p.2 = true)
    (hbm : ∃ (bm : Addr) (ob : Obj), mg "__builtins__" = some (.ref bm) ∧ bm ≠ builtinsNs ∧ t.heap.get? bm = some ob ∧ ob.cls = .type "module" ∧ ob.dict = some builtinsNs ∧ ob.data = .plain)
    (ha : t.heap.get? a = some { cls := .type "list", data := .seq vs.toArray }) (hi : IntsAre vs ns) (hl : ns.length ≤ sizeLine) (hr : Room k callerA)
    (F : ∀ base : Heap, K.In base → base.Ns mainGlobals mg → (∀ p ∈ cs, LamX.TabB base mg p.1 p.2) → FnOk P w K mg base CX k fa fd [x] sp) (hbind : ∀ (s : Shared) (u : Value), BindsTo s fd ⟨[u], []⟩ [(x, u)])
    (hsp : ∀ H : Hp, (∀ p ∈ cs, H p.2 = some (.tbl #[])) → SqL K H a (ns.map V.int) → sp [.ref a] H (fun v _ => v = .bl true) fun _ _ _ => False)
    (hCX : ∀ H e s', CX [] H t (fun _ _ _ => False) e s' → False) :
    codeAny (model P w) callerA (.call (.ref fa) ⟨[.ref a], []⟩) (fun r s' => r = .ok (.ret (.bool true)) ∧ OldK t.heap s'.heap ∧ s'.os = t.os ∧ AllBare s'.gens) t := by
  have rv := vals_ints hi
  generalize hts : cs.map (·.2) = ts
  have inT : ∀ {p}, p ∈ cs → p.2 ∈ ts := fun {p} hp => by rw [← hts]; exact List.mem_map.mpr ⟨p, hp, rfl⟩
  have ofT : ∀ {b}, b ∈ ts → ∃ p ∈ cs, p.2 = b := fun {b} hb => by
    rw [← hts] at hb
    obtain ⟨p, hp, e⟩ := List.mem_map.mp hb
    exact ⟨p, hp, e⟩
  have getT : ∀ {b}, b ∈ ts → t.heap.get? b = some { cls := .none, data := .fields #[] } := fun hb => by
    obtain ⟨p, hp, rfl⟩ := ofT hb
    exact hT p hp
  have na : a ∉ ts := fun z => by
    have e := getT z
    rw [ha] at e
    have e2 : Data.seq vs.toArray = Data.fields #[] := congrArg Obj.data (Option.some.inj e)
    cases e2
  generalize hob : ({ cls := .type "list", data := .seq vs.toArray } : Obj) = oa at ha
  generalize hz : (K.lookup a).isNone = z
  generalize hH : H00 ts z a oa (ns.map V.int) = H
  have H1 : ∀ {b}, b ∈ ts → H b = some (.tbl #[]) := fun hb => by rw [← hH]; exact if_pos hb
  have H2 : ∀ b u, H b = some u → (b ∈ ts ∧ u = .tbl #[]) ∨ (b = a ∧ z = true ∧ u = .frz oa (.lst (ns.map V.int))) := fun b u e => by
    rw [← hH] at e
    unfold H00 at e
    split at e
    · cases e; exact .inl ⟨‹_›, rfl⟩
    · split at e
      · cases e; rename_i q; exact .inr ⟨q.1, q.2, rfl⟩
      · cases e
  have free : ∀ {b : Addr} {o : Obj}, t.heap.get? b = some o → (∀ us n, o.data ≠ .seq us n) → o.data ≠ .fields #[] → H b = none := fun {b o} e h1 h2 => by
    cases q : H b with
    | none => rfl
    | some u =>
      rcases H2 b u q with ⟨m, _⟩ | ⟨rfl, _⟩
      · rw [getT m] at e
        cases e
        exact absurd rfl h2
      · rw [ha] at e
        cases e
        rw [← hob] at h1
        exact absurd rfl (h1 _ _)
  have kept : ∀ {b : Addr} {o : Obj}, t.heap.get? b = some o → H b = none → (hidT t.heap H).get? b = some o := fun e n => hidT_get e n
  have nsOk : ∀ {b : Addr} {m : Str → Option Value}, t.heap.Ns b m → (hidT t.heap H).Ns b m := fun {b m} ⟨o, es, ep, e, d, r⟩ =>
    ⟨o, es, ep, kept e (free e (fun us n y => by rw [d] at y; cases y) fun y => by rw [d] at y; cases y), d, r⟩
  have KB : K.In (hidT t.heap H) := fun b o e => by
    refine kept (KX b o e) ?_
    cases q : H b with
    | none => rfl
    | some u =>
      rcases H2 b u q with ⟨m, _⟩ | ⟨rfl, h1, _⟩
      · obtain ⟨p, hp, rfl⟩ := ofT m
        rw [nT p hp] at e; cases e
      · rw [← hz, e] at h1; cases h1
  have hM : L2.Mod K mg (hidT t.heap H) := ⟨KB, nsOk hns, ⟨mb, nsOk hbn, hbb⟩, let ⟨mc, h1, h2⟩ := hlim; ⟨mc, nsOk h1, h2⟩⟩
  have TB : ∀ p ∈ cs, LamX.TabB (hidT t.heap H) mg p.1 p.2 := fun p hp => by
    refine ⟨PySem.W.codeHd_of_K KB (cd p hp), ?_, fun y => ?_⟩
    · obtain ⟨bm, ob, b1, b2, b3, b4, b5, b6⟩ := hbm
      refine ⟨bm, ob, b1, b2, fun y => ?_, fun y => ?_, kept b3 (free b3 (fun us n y => by rw [b6] at y; cases y) fun y => by rw [b6] at y; cases y), b4, b5, b6⟩
      · obtain ⟨o, es, ep, e, d, _⟩ := hns
        rw [y, e] at b3
        cases b3
        rw [d] at b6; cases b6
      · rw [y, hT p hp] at b3
        cases b3; cases b6
    · obtain ⟨o, es, ep, e, d, _⟩ := hns
      rw [y, hT p hp] at e
      cases e; cases d
  have hok : HOk P w H t.heap := fun b u e => by
    rcases H2 b u e with ⟨m, rfl⟩ | ⟨rfl, _, rfl⟩
    · exact getT m
    · exact ⟨ha, by rw [List.length_map]; exact hl, vs, _, rv, by rw [hob]; exact ha⟩
  have sq : SqL K H a (ns.map V.int) := by
    cases q : K.lookup a with
    | some o =>
      have e := KX a o q
      rw [ha] at e
      cases e
      exact .inr ⟨_, vs.toArray, _, q, by rw [← hob], by rw [← hob], by rw [← hob], by rw [List.size_toArray, hi.length]; exact hl, by simpa using rv⟩
    | none =>
      refine .inl (.inr ⟨oa, ?_⟩)
      rw [← hH]
      unfold H00
      rw [if_neg na, if_pos ⟨rfl, by rw [← hz, q]; rfl⟩]
  have e0 : Env0 P w K mg (hidT t.heap H) callerA [] t H := ⟨rfl, hM, fun b o e => of_hidT e, Nat.le_of_eq (hidT_size _ _), trivial, fun b hb => absurd (show b ∈ ([] : List Addr) from hb) (by simp), hok, .of_eq hg⟩
  refine codeAny_mono ((F _ KB (nsOk hns) TB).run callerA [] t H ⟨[.ref a], []⟩ [.ref a] [.ref a] _ _ hr e0 (hbind t (.ref a)) (.cons rfl .nil) (hsp H (fun p hp => H1 (inT hp)) sq)) fun res s' h => ?_
  cases res with
  | error e => exact (hCX H e s' h).elim
  | ok fl =>
    cases fl with
    | next => exact False.elim h
    | brk => exact False.elim h
    | cont => exact False.elim h
    | ret u =>
      obtain ⟨v, H', os, bare, un, hok', r', q⟩ := h
      obtain rfl : v = .bl true := q
      obtain rfl : u = Value.bool true := r'
      have old : ∀ b o, b ∉ ts → t.heap.get? b = some o → s'.heap.get? b = some o := fun b o nb e => by
        cases q : H b with
        | none => exact un.keep b o e q (by intro y; exact absurd (show b ∈ ([] : List Addr) from y) (by simp)) (by simp)
        | some u =>
          rcases H2 b u q with ⟨m, _⟩ | ⟨rfl, _, rfl⟩
          · exact absurd m nb
          · have q2 := un.frzs _ oa _ q
            obtain ⟨y1, _⟩ := hok' _ _ q2
            rw [ha] at e; cases e
            exact y1
      have grown : ∀ b, b ∈ ts → ∃ more : Array Value, s'.heap.get? b = some { cls := .none, data := .fields more } := fun b hb => by
        obtain ⟨more, y⟩ := un.tbls b #[] (H1 hb)
        exact ⟨_, hok' b _ y⟩
      refine ⟨rfl, ⟨fun b o e => ?_, fun b o e => ?_⟩, os, bare⟩
      · by_cases hb : b ∈ ts
        · obtain ⟨more, hm⟩ := grown b hb
          obtain ⟨p, hp, rfl⟩ := ofT hb
          rw [hT p hp] at e
          cases e
          have c := PySem.W.codeHd_of_K KX (cd p hp)
          exact .inr (.inl ⟨(c.tab (hT p hp)).isCodeTable, rfl, #[], more, rfl, by rw [Array.empty_append]; exact hm⟩)
        · exact .inl (old b o hb e)
      · by_cases hb : b ∈ ts
        · obtain ⟨more, hm⟩ := grown b hb
          exact ⟨_, hm⟩
        · exact ⟨o, old b o hb e⟩
theorem roomG {k : Nat} (h : L2.Room k callerA) : Room k callerA := ⟨h, rfl⟩
/-- the end of a law -/
theorem walk_G {l : PySem.W.OpenLaw} {n k : Nat} {q : Program} {loose : List Str} {XP : (Str → Option Value) → Heap → Prop} {YP : World → Heap → Prop} {d : DefRec} {CX : CXT} {x : Str} (hn : l.most = some n) (hn2 : n ≤ sizeLine) (hdf : d.params.defaults = []) (hr : L2.Room k callerA)
    (F : ∀ (w : World) (mg : Str → Option Value) (fa : Addr) (h : Heap), YP w h → h.Ns mainGlobals mg → mg d.name = some (.ref fa) →
      ∃ (K : PySem.W.Frag) (fd : FuncData) (cs : List (Addr × Addr)) (sp : Sp), K.In h ∧ (∀ p ∈ cs, h.get? p.2 = some { cls := .none, data := .fields #[] }) ∧ (∀ p ∈ cs, K.lookup p.2 = none) ∧ (∀ p ∈ cs, PySem.W.codeHdIn K p.1 p.2 = true) ∧ (∀ (s : Shared) (u : Value), BindsTo s fd ⟨[u], []⟩ [(x, u)]) ∧
        (∀ (H : Hp) (a : Addr) (ns : List Int), ns.length ≤ n → (∀ p ∈ cs, H p.2 = some (.tbl #[])) → SqL K H a (ns.map V.int) → sp [.ref a] H (fun v _ => v = .bl true) fun _ _ _ => False) ∧
        ∀ base : Heap, K.In base → base.Ns mainGlobals mg → (∀ p ∈ cs, LamX.TabB base mg p.1 p.2) → FnOk l.prog w K mg base CX k fa fd [x] sp)
    (hCX : ∀ (H : Hp) (s : Shared) (e : Value) (s' : Shared), CX [] H s (fun _ _ _ => False) e s' → False) : PySem.W.WalkO q loose XP YP l.row.toRowW d [] fun f vs => PySem.call f vs := by
  refine Att.attach_callB hn hdf fun w s₀ t mg mb fa o pm cd doc a vs ns G Y ho hd hcd hmg hobj hints hlen hbits hg => ?_
  obtain ⟨K, fd, cs, sp, KX, hT, nT, hc, hb, hsp, hF⟩ := F w mg fa _ Y G.T.g hmg
  exact call_law KX G.T.g G.T.b G.T.builtins G.T.nolimit hg hT nT hc G.T.bmain hobj hints (Nat.le_trans hlen hn2) (roomG hr) hF hb (fun H hH hS => hsp H a ns hlen hH hS) fun H e s' => hCX H t e s'
end G
namespace Lw
open PySem PySem.Spec PyProof.Rows L2 G
theorem sc_Machine_next_state : FnScope ["self", "state", "sign", "target"] ["self", "state", "sign"] (defScope s_Machine_next_state) := ⟨rfl, rfl, rfl, by decide +kernel, rfl, by decide +kernel, by decide +kernel⟩
theorem sc_Machine_state_after : FnScope ["self", "text", "state", "sign"] ["self", "text"] (defScope s_Machine_state_after) := ⟨rfl, rfl, rfl, by decide +kernel, rfl, by decide +kernel, by decide +kernel⟩
theorem sc_Machine_contains : FnScope ["self", "thing"] ["self", "thing"] (defScope s_Machine_contains) := ⟨rfl, rfl, rfl, by decide +kernel, rfl, by decide +kernel, by decide +kernel⟩
theorem sc_l_take : FnScope ["_law_bag_here", "_law_many", "_law_digit", "_law_mixed"] ["_law_bag_here", "_law_many"] (defScope s_l_take) := ⟨rfl, rfl, rfl, by decide +kernel, rfl, by decide +kernel, by decide +kernel⟩
theorem sc_l_of : FnScope ["_law_bag_here", "_law_some"] ["_law_bag_here", "_law_some"] (defScope s_l_of) := ⟨rfl, rfl, rfl, by decide +kernel, rfl, by decide +kernel, by decide +kernel⟩
theorem sc_l_signs : FnScope ["_law_some"] [] (defScope s_l_signs) := ⟨rfl, rfl, rfl, by decide +kernel, rfl, by decide +kernel, by decide +kernel⟩
theorem sc_l_near : FnScope ["_law_bag_here", "_law_text_here", "_law_road", "_law_sign", "_law_at"] ["_law_bag_here", "_law_text_here"] (defScope s_l_near) := ⟨rfl, rfl, rfl, by decide +kernel, rfl, by decide +kernel, by decide +kernel⟩
theorem sc_l_digits : FnScope ["_law_bag_here", "_law_least", "_law_most", "_law_found", "_law_turn"] ["_law_bag_here", "_law_least", "_law_most"] (defScope s_l_digits) := ⟨rfl, rfl, rfl, by decide +kernel, rfl, by decide +kernel, by decide +kernel⟩
theorem sc_l_number : FnScope ["_law_bag_here", "_law_most", "_law_sign", "_law_before"] ["_law_bag_here", "_law_most"] (defScope s_l_number) := ⟨rfl, rfl, rfl, by decide +kernel, rfl, by decide +kernel, by decide +kernel⟩
theorem sc_l_text : FnScope ["_law_bag_here", "_law_road", "_law_turn"] ["_law_bag_here"] (defScope s_l_text) := ⟨rfl, rfl, rfl, by decide +kernel, rfl, by decide +kernel, by decide +kernel⟩
theorem sc_Machine_bool : FnScope ["self"] ["self"] (defScope s_Machine_bool) := ⟨rfl, rfl, rfl, by decide +kernel, rfl, by decide +kernel, by decide +kernel⟩
theorem sc_Machine_init : FnScope ["self", "signs", "table", "accepting"] ["self", "signs", "table", "accepting"] (defScope s_Machine_init) := ⟨rfl, rfl, rfl, by decide +kernel, rfl, by decide +kernel, by decide +kernel⟩
theorem sc_sign_classes : FnScope ["marks", "signs", "known", "sign"] ["marks"] (defScope s_sign_classes) := ⟨rfl, rfl, rfl, by decide +kernel, rfl, by decide +kernel, by decide +kernel⟩
theorem sc_merged : FnScope ["signs", "rows", "marks", "sign", "classes", "columns", "row", "state", "column"] ["signs", "rows"] (defScope s_merged) := ⟨rfl, rfl, rfl, by decide +kernel, rfl, by decide +kernel, by decide +kernel⟩
theorem sc_numbered : FnScope ["table", "groups", "order", "places", "rows", "row", "target", "group"] ["table", "groups"] (defScope s_numbered) := ⟨rfl, rfl, rfl, by decide +kernel, rfl, by decide +kernel, by decide +kernel⟩
theorem sc_refined : FnScope ["table", "accepts", "useful", "groups", "many", "known", "later", "row", "key", "state", "told", "target"] ["table", "accepts", "useful"] (defScope s_refined) := ⟨rfl, rfl, rfl, by decide +kernel, rfl, by decide +kernel, by decide +kernel⟩
theorem sc_useful_states : FnScope ["table", "accepts", "sources", "target", "useful", "ends", "later", "end", "state", "row", "told"] ["table", "accepts"] (defScope s_useful_states) := ⟨rfl, rfl, rfl, by decide +kernel, rfl, by decide +kernel, by decide +kernel⟩
theorem sc_finished : FnScope ["signs", "table", "accepts", "useful", "groups", "order", "rows", "classes", "sign", "place", "state"] ["signs", "table", "accepts"] (defScope s_finished) := ⟨rfl, rfl, rfl, by decide +kernel, rfl, by decide +kernel, by decide +kernel⟩
theorem sc_explored : FnScope ["marks", "start", "step", "accepts", "signs", "known", "heads", "sign", "places", "order", "table", "row", "head", "target", "state"] ["marks", "start", "step", "accepts"] (defScope s_explored) := ⟨rfl, rfl, rfl, by decide +kernel, rfl, by decide +kernel, by decide +kernel⟩
theorem sc_grown : FnScope ["texts", "start", "text"] ["texts", "start"] (defScope s_grown) := ⟨rfl, rfl, rfl, by decide +kernel, rfl, by decide +kernel, by decide +kernel⟩
theorem sc_Machine_listing : FnScope ["texts", "kept", "marks", "sign", "text"] ["texts"] (defScope s_Machine_listing) := ⟨rfl, rfl, rfl, by decide +kernel, rfl, by decide +kernel, by decide +kernel⟩
theorem sc_l_right : FnScope ["_law_bag_here", "_law_texts", "_law_handed", "_law_told", "_law_asked", "_law_text_here", "_law_turn", "_law_thing"] ["_law_bag_here"] (defScope s_l_right) := ⟨rfl, rfl, rfl, by decide +kernel, rfl, by decide +kernel, by decide +kernel⟩
theorem sc_l_bag : FnScope ["_law_script", "_law_at", "_law_cell", "_law_row"] ["_law_script", "_law_at"] (defScope s_l_bag) := ⟨rfl, rfl, rfl, by decide +kernel, rfl, by decide +kernel, by decide +kernel⟩
theorem sc_law : FnScope ["_law_script", "_law_at"] ["_law_script"] (defScope s_law) := ⟨rfl, rfl, rfl, by decide +kernel, rfl, by decide +kernel, by decide +kernel⟩
structure Ad where
  cl : Nm
  a_Machine_next_state : Addr
  d_Machine_next_state : FuncData
  a_Machine_state_after : Addr
  d_Machine_state_after : FuncData
  a_Machine_contains : Addr
  d_Machine_contains : FuncData
  a_l_take : Addr
  d_l_take : FuncData
  a_l_of : Addr
  d_l_of : FuncData
  a_l_signs : Addr
  d_l_signs : FuncData
  a_l_near : Addr
  d_l_near : FuncData
  a_l_digits : Addr
  d_l_digits : FuncData
  a_l_number : Addr
  d_l_number : FuncData
  a_l_text : Addr
  d_l_text : FuncData
  a_Machine_bool : Addr
  d_Machine_bool : FuncData
  a_Machine_init : Addr
  d_Machine_init : FuncData
  a_sign_classes : Addr
  d_sign_classes : FuncData
  a_merged : Addr
  d_merged : FuncData
  a_numbered : Addr
  d_numbered : FuncData
  a_refined : Addr
  d_refined : FuncData
  a_useful_states : Addr
  d_useful_states : FuncData
  a_finished : Addr
  d_finished : FuncData
  a_explored : Addr
  d_explored : FuncData
  a_grown : Addr
  d_grown : FuncData
  a_Machine_listing : Addr
  d_Machine_listing : FuncData
  p_Machine_listing : Addr
  c_Machine_listing : Addr
  P_Machine_listing : Addr
  a_l_right : Addr
  d_l_right : FuncData
  a_l_bag : Addr
  d_l_bag : FuncData
  a_law : Addr
  d_law : FuncData
structure Txt (K : PySem.W.Frag) (mg : Str → Option Value) (base : Heap) (A : Ad) : Prop where
  f_Machine_next_state : Fun K "next_state" "Machine.next_state" s_Machine_next_state A.a_Machine_next_state A.d_Machine_next_state
  b_Machine_next_state : Binds K A.d_Machine_next_state ["self", "state", "sign"] []
  h_Machine_next_state : Meth K (A.cl "Machine") "next_state" A.a_Machine_next_state
  f_Machine_state_after : Fun K "state_after" "Machine.state_after" s_Machine_state_after A.a_Machine_state_after A.d_Machine_state_after
  b_Machine_state_after : Binds K A.d_Machine_state_after ["self", "text"] []
  h_Machine_state_after : Meth K (A.cl "Machine") "state_after" A.a_Machine_state_after
  f_Machine_contains : Fun K "__contains__" "Machine.__contains__" s_Machine_contains A.a_Machine_contains A.d_Machine_contains
  b_Machine_contains : Binds K A.d_Machine_contains ["self", "thing"] []
  h_Machine_contains : Spc K A.cl "Machine" "__contains__" A.a_Machine_contains
  f_l_take : Fun K "_law_take" "_law_take" s_l_take A.a_l_take A.d_l_take
  b_l_take : Binds K A.d_l_take ["_law_bag_here", "_law_many"] []
  m_l_take : mg "_law_take" = some (.ref A.a_l_take)
  kp_l_take : PySem.W.keepIn K (.ref A.a_l_take) = true
  f_l_of : Fun K "_law_of" "_law_of" s_l_of A.a_l_of A.d_l_of
  b_l_of : Binds K A.d_l_of ["_law_bag_here", "_law_some"] []
  m_l_of : mg "_law_of" = some (.ref A.a_l_of)
  kp_l_of : PySem.W.keepIn K (.ref A.a_l_of) = true
  f_l_signs : Fun K "_law_signs" "_law_signs" s_l_signs A.a_l_signs A.d_l_signs
  b_l_signs : Binds K A.d_l_signs [] []
  m_l_signs : mg "_law_signs" = some (.ref A.a_l_signs)
  kp_l_signs : PySem.W.keepIn K (.ref A.a_l_signs) = true
  f_l_near : Fun K "_law_near" "_law_near" s_l_near A.a_l_near A.d_l_near
  b_l_near : Binds K A.d_l_near ["_law_bag_here", "_law_text_here"] []
  m_l_near : mg "_law_near" = some (.ref A.a_l_near)
  kp_l_near : PySem.W.keepIn K (.ref A.a_l_near) = true
  f_l_digits : Fun K "_law_digits" "_law_digits" s_l_digits A.a_l_digits A.d_l_digits
  b_l_digits : Binds K A.d_l_digits ["_law_bag_here", "_law_least", "_law_most"] []
  m_l_digits : mg "_law_digits" = some (.ref A.a_l_digits)
  kp_l_digits : PySem.W.keepIn K (.ref A.a_l_digits) = true
  f_l_number : Fun K "_law_number" "_law_number" s_l_number A.a_l_number A.d_l_number
  b_l_number : Binds K A.d_l_number ["_law_bag_here", "_law_most"] []
  m_l_number : mg "_law_number" = some (.ref A.a_l_number)
  kp_l_number : PySem.W.keepIn K (.ref A.a_l_number) = true
  f_l_text : Fun K "_law_text" "_law_text" s_l_text A.a_l_text A.d_l_text
  b_l_text : Binds K A.d_l_text ["_law_bag_here"] []
  m_l_text : mg "_law_text" = some (.ref A.a_l_text)
  kp_l_text : PySem.W.keepIn K (.ref A.a_l_text) = true
  f_Machine_bool : Fun K "__bool__" "Machine.__bool__" s_Machine_bool A.a_Machine_bool A.d_Machine_bool
  b_Machine_bool : Binds K A.d_Machine_bool ["self"] []
  h_Machine_bool : Spc K A.cl "Machine" "__bool__" A.a_Machine_bool
  f_Machine_init : Fun K "__init__" "Machine.__init__" s_Machine_init A.a_Machine_init A.d_Machine_init
  b_Machine_init : Binds K A.d_Machine_init ["self", "signs", "table", "accepting"] []
  h_Machine_init : Mk K (A.cl "Machine") A.a_Machine_init
  f_sign_classes : Fun K "sign_classes" "sign_classes" s_sign_classes A.a_sign_classes A.d_sign_classes
  b_sign_classes : Binds K A.d_sign_classes ["marks"] []
  m_sign_classes : mg "sign_classes" = some (.ref A.a_sign_classes)
  kp_sign_classes : PySem.W.keepIn K (.ref A.a_sign_classes) = true
  f_merged : Fun K "merged" "merged" s_merged A.a_merged A.d_merged
  b_merged : Binds K A.d_merged ["signs", "rows"] []
  m_merged : mg "merged" = some (.ref A.a_merged)
  kp_merged : PySem.W.keepIn K (.ref A.a_merged) = true
  f_numbered : Fun K "numbered" "numbered" s_numbered A.a_numbered A.d_numbered
  b_numbered : Binds K A.d_numbered ["table", "groups"] []
  m_numbered : mg "numbered" = some (.ref A.a_numbered)
  kp_numbered : PySem.W.keepIn K (.ref A.a_numbered) = true
  f_refined : Fun K "refined" "refined" s_refined A.a_refined A.d_refined
  b_refined : Binds K A.d_refined ["table", "accepts", "useful"] []
  m_refined : mg "refined" = some (.ref A.a_refined)
  kp_refined : PySem.W.keepIn K (.ref A.a_refined) = true
  f_useful_states : Fun K "useful_states" "useful_states" s_useful_states A.a_useful_states A.d_useful_states
  b_useful_states : Binds K A.d_useful_states ["table", "accepts"] []
  m_useful_states : mg "useful_states" = some (.ref A.a_useful_states)
  kp_useful_states : PySem.W.keepIn K (.ref A.a_useful_states) = true
  f_finished : Fun K "finished" "finished" s_finished A.a_finished A.d_finished
  b_finished : Binds K A.d_finished ["signs", "table", "accepts"] []
  m_finished : mg "finished" = some (.ref A.a_finished)
  kp_finished : PySem.W.keepIn K (.ref A.a_finished) = true
  f_explored : Fun K "explored" "explored" s_explored A.a_explored A.d_explored
  b_explored : Binds K A.d_explored ["marks", "start", "step", "accepts"] []
  m_explored : mg "explored" = some (.ref A.a_explored)
  kp_explored : PySem.W.keepIn K (.ref A.a_explored) = true
  f_grown : Fun K "grown" "grown" s_grown A.a_grown A.d_grown
  b_grown : Binds K A.d_grown ["texts", "start"] []
  m_grown : mg "grown" = some (.ref A.a_grown)
  kp_grown : PySem.W.keepIn K (.ref A.a_grown) = true
  f_Machine_listing : Fun K "listing" "Machine.listing" s_Machine_listing A.a_Machine_listing A.d_Machine_listing
  b_Machine_listing : Binds K A.d_Machine_listing ["texts"] []
  h_Machine_listing : SMet K (A.cl "Machine") (.type "type") "listing" A.p_Machine_listing A.a_Machine_listing
  lc_Machine_listing : A.d_Machine_listing.code = .ref A.c_Machine_listing
  tb_Machine_listing : LamX.TabB base mg A.c_Machine_listing A.P_Machine_listing
  lp_Machine_listing : A.cl "Machine.listing.<locals>.<lambda>" = A.P_Machine_listing
  f_l_right : Fun K "_law_right" "_law_right" s_l_right A.a_l_right A.d_l_right
  b_l_right : Binds K A.d_l_right ["_law_bag_here"] []
  m_l_right : mg "_law_right" = some (.ref A.a_l_right)
  kp_l_right : PySem.W.keepIn K (.ref A.a_l_right) = true
  f_l_bag : Fun K "_law_bag" "_law_bag" s_l_bag A.a_l_bag A.d_l_bag
  b_l_bag : Binds K A.d_l_bag ["_law_script", "_law_at"] []
  m_l_bag : mg "_law_bag" = some (.ref A.a_l_bag)
  kp_l_bag : PySem.W.keepIn K (.ref A.a_l_bag) = true
  f_law : Fun K "law" "law" s_law A.a_law A.d_law
  b_law : Binds K A.d_law ["_law_script"] []
  m_law : mg "law" = some (.ref A.a_law)
  kp_law : PySem.W.keepIn K (.ref A.a_law) = true
  c_Machine : Cls K (A.cl "Machine")
  m_Machine : mg "Machine" = some (.ref (A.cl "Machine"))
  r_Machine : ClX.CRead K (A.cl "Machine") (.type "type")
  n_Machine_accepting : NoAttr K (A.cl "Machine") "accepting"
  n_Machine_signs : NoAttr K (A.cl "Machine") "signs"
  n_Machine_table : NoAttr K (A.cl "Machine") "table"
  z_abs : mg "abs" = none
  z_any : mg "any" = none
  z_bool : mg "bool" = none
  z_enumerate : mg "enumerate" = none
  z_int : mg "int" = none
  z_isinstance : mg "isinstance" = none
  z_len : mg "len" = none
  z_list : mg "list" = none
  z_max : mg "max" = none
  z_min : mg "min" = none
  z_range : mg "range" = none
  z_reversed : mg "reversed" = none
  z_str : mg "str" = none
  z_tuple : mg "tuple" = none
  g_ALL_SIGNS : ∃ t, mg "ALL_SIGNS" = some (.str ⟨[32, 33, 34, 35, 36, 38, 39, 40, 41, 42, 43, 44, 45, 46, 47, 48, 49, 50, 51, 52, 53, 54, 55, 56, 57, 58, 59, 60, 61, 62, 63, 64, 65, 66, 67, 68, 69, 70, 71, 72, 73, 74, 75, 76, 77, 78, 79, 80, 81, 82, 83, 84, 85, 86, 87, 88, 89, 90, 91, 92, 93, 94, 95, 96, 97, 98, 99, 100, 101, 102, 103, 104, 105, 106, 107, 108, 109, 110, 111, 112, 113, 114, 115, 116, 117, 118, 119, 120, 121, 122, 123, 124, 125, 126].toArray⟩ t)
section
variable {P : Program} {w : World} {K : PySem.W.Frag} {mg : Str → Option Value} {base : Heap} {A : Ad}
theorem Txt.fl_accepting_Machine (T : Txt K mg base A) : FldOk K A.cl "accepting" ["Machine"] := (fld_cons T.c_Machine T.n_Machine_accepting fld_nil)
theorem Txt.fl_signs_Machine (T : Txt K mg base A) : FldOk K A.cl "signs" ["Machine"] := (fld_cons T.c_Machine T.n_Machine_signs fld_nil)
theorem Txt.fl_table_Machine (T : Txt K mg base A) : FldOk K A.cl "table" ["Machine"] := (fld_cons T.c_Machine T.n_Machine_table fld_nil)
theorem ok_Machine_next_state (T : Txt K mg base A) : FnD P w K A.cl mg base 1 A.a_Machine_next_state A.d_Machine_next_state ["self", "state", "sign"] sp_Machine_next_state := by
  have nd := sc_Machine_next_state.nd
  refine fn_d (k := 0) (td := td_Machine_next_state) T.f_Machine_next_state sc_Machine_next_state len_Machine_next_state pure_Machine_next_state fun cdv A' outer s H E hr => ?_
  exact (dss_cons (ds_if (PW.pt (dw_or (dt_not (dt_val (de_callB (cd_isi isi_str) T.z_isinstance boot_isinstance_ (da_cons (dv 2) (da_cons (de_bltn T.z_str boot_str_ (v := .ty "str") rfl (fun _ => .ty "str")) da_nil))))) (dw_or1 (dt_notinK hr (dv 2) (de_fld (dv 0) T.fl_signs_Machine) rfl)))) (dss_one (ds_ret de_non)) dss_nil)
      (dss_cons (ds_set 3 nd (de_ix (de_ix (de_fld (dv 0) T.fl_table_Machine) (dv 1)) (de_getK hr (de_fld (dv 0) T.fl_signs_Machine) (dv 2))))
      (dss_one (ds_ret (de_ifExp (dt_cmp od_ge (dv 3) de_int (nomark _)) (dv 3) de_non)))))
theorem ce_Machine_next_state_3 (T : Txt K mg base A) : Cee P w K A.cl mg base CX0 1 A.a_Machine_next_state [] (pos2 sp_Machine_next_state []) := Cee.posD (ok_Machine_next_state T) T.b_Machine_next_state .nil fun _ => .nil
theorem ok_Machine_state_after (T : Txt K mg base A) : FnD P w K A.cl mg base 2 A.a_Machine_state_after A.d_Machine_state_after ["self", "text"] sp_Machine_state_after := by
  have nd := sc_Machine_state_after.nd
  refine fn_d (k := 1) (td := td_Machine_state_after) T.f_Machine_state_after sc_Machine_state_after len_Machine_state_after pure_Machine_state_after fun cdv A' outer s H E hr => ?_
  exact (dss_cons (ds_set 2 nd de_int)
      (dss_cons (ds_for PassesOwn.never (di_str (dv 1)) (dg_name 3 nd) (dss_one (ds_if (dt_cmp od_notN (dv 2) de_non (nomark _)) (dss_one (ds_set 2 nd (de_meth (ce_Machine_next_state_3 T) (hr.mono (by decide)) pass0 T.c_Machine T.h_Machine_next_state (dv 0) (da_cons (dv 2) (da_cons (dv 3) da_nil)) dk_nil))) dss_nil)))
      (dss_one (ds_ret (dv 2)))))
theorem ce_Machine_state_after_2 (T : Txt K mg base A) : Cee P w K A.cl mg base CX0 2 A.a_Machine_state_after [] (pos2 sp_Machine_state_after []) := Cee.posD (ok_Machine_state_after T) T.b_Machine_state_after .nil fun _ => .nil
theorem ok_Machine_contains (T : Txt K mg base A) : FnD P w K A.cl mg base 3 A.a_Machine_contains A.d_Machine_contains ["self", "thing"] sp_Machine_contains := by
  have nd := sc_Machine_contains.nd
  refine fn_d (k := 2) (td := td_Machine_contains) T.f_Machine_contains sc_Machine_contains len_Machine_contains pure_Machine_contains fun cdv A' outer s H E hr => ?_
  exact (dss_one (ds_ret (de_and (de_callB (cd_isi isi_str) T.z_isinstance boot_isinstance_ (da_cons (dv 1) (da_cons (de_bltn T.z_str boot_str_ (v := .ty "str") rfl (fun _ => .ty "str")) da_nil))) (de_one (de_cmp od_in (de_meth (ce_Machine_state_after_2 T) (hr.mono (by decide)) pass0 T.c_Machine T.h_Machine_state_after (dv 0) (da_cons (dv 1) da_nil) dk_nil) (de_fld (dv 0) T.fl_accepting_Machine) rfl)))))
theorem ce_Machine_contains_2 (T : Txt K mg base A) : Cee P w K A.cl mg base CX0 3 A.a_Machine_contains [] (pos2 sp_Machine_contains []) := Cee.posD (ok_Machine_contains T) T.b_Machine_contains .nil fun _ => .nil
theorem ok_l_take (T : Txt K mg base A) : FnD P w K A.cl mg base 1 A.a_l_take A.d_l_take ["_law_bag_here", "_law_many"] sp_l_take := by
  have nd := sc_l_take.nd
  refine fn_d (k := 0) (td := td_l_take) T.f_l_take sc_l_take len_l_take pure_l_take fun cdv A' outer s H E hr => ?_
  exact (dss_cons (ds_if (dt_cmp od_gt (de_ix (dv 0) de_int) de_int (nomark _)) (dss_cons (ds_set 2 nd (de_op od_mod (de_callTy cd_int T.z_int boot_int_ (da_cons (de_ix (dv 0) de_int) da_nil)) (dv 1)))
      (dss_cons (ds_asg (de_op od_fdiv (de_ix (dv 0) de_int) (dv 1)) (dg_sub (dv 0) de_int st_list))
      (dss_one (ds_ret (dv 2))))) dss_nil)
      (dss_cons (ds_asg (de_op od_add (de_ix (dv 0) de_int) de_int) (dg_sub (dv 0) de_int st_list))
      (dss_cons (ds_set 3 nd (de_op od_mod (de_callTy cd_int T.z_int boot_int_ (da_cons (de_op od_pow (de_op od_add (de_ix (dv 0) de_int) (de_op od_mul de_int (de_ix (dv 0) de_int))) de_int) da_nil)) de_int))
      (dss_cons (ds_set 3 nd (de_op od_mod (de_callTy cd_int T.z_int boot_int_ (da_cons (de_op od_pow (de_op od_add (dv 3) (de_op od_mul de_int (de_ix (dv 0) de_int))) de_int) da_nil)) de_int))
      (dss_one (ds_ret (de_op od_mod (de_callTy cd_int T.z_int boot_int_ (da_cons (de_op od_fdiv (dv 3) de_int) da_nil)) (dv 1))))))))
theorem ok_l_of (T : Txt K mg base A) : FnD P w K A.cl mg base 2 A.a_l_of A.d_l_of ["_law_bag_here", "_law_some"] sp_l_of := by
  have nd := sc_l_of.nd
  refine fn_d (k := 1) (td := td_l_of) T.f_l_of sc_l_of len_l_of pure_l_of fun cdv A' outer s H E hr => ?_
  exact (dss_one (ds_ret (de_ix (dv 1) (de_call (ok_l_take T) (hr.mono (by decide)) T.m_l_take T.f_l_take.kp T.b_l_take .nil (fun _ => .nil) (da_cons (dv 0) (da_cons (de_callB cd_len T.z_len boot_len_ (da_cons (dv 1) da_nil)) da_nil))))))
theorem ok_l_signs (T : Txt K mg base A) : FnD P w K A.cl mg base 1 A.a_l_signs A.d_l_signs [] sp_l_signs := by
  have nd := sc_l_signs.nd
  refine fn_d (k := 0) (td := td_l_signs) T.f_l_signs sc_l_signs len_l_signs pure_l_signs fun cdv A' outer s H E hr => ?_
  exact (dss_cons (ds_set 0 nd (de_str (l := [32, 33, 34, 35, 36, 38, 39, 40, 41, 42, 43, 44, 45, 46, 47, 48, 49, 50, 51, 52, 53, 54, 55, 56, 57, 58, 59, 60, 61, 62, 63, 64, 65, 66, 67, 68, 69, 70, 71, 72, 73, 74, 75, 76, 77, 78, 79, 80, 81, 82, 83, 84, 85, 86, 87, 88, 89, 90, 91, 92, 93, 94, 95])))
      (dss_one (ds_ret (de_op od_add (dv 0) (de_str (l := [96, 97, 98, 99, 100, 101, 102, 103, 104, 105, 106, 107, 108, 109, 110, 111, 112, 113, 114, 115, 116, 117, 118, 119, 120, 121, 122, 123, 124, 125, 126]))))))
theorem ok_l_near (T : Txt K mg base A) : FnD P w K A.cl mg base 3 A.a_l_near A.d_l_near ["_law_bag_here", "_law_text_here"] sp_l_near := by
  have nd := sc_l_near.nd
  refine fn_d (k := 2) (td := td_l_near) T.f_l_near sc_l_near len_l_near pure_l_near fun cdv A' outer s H E hr => ?_
  exact (dss_cons (ds_par 2 3 nd (da_cons (de_call (ok_l_take T) (hr.mono (by decide)) T.m_l_take T.f_l_take.kp T.b_l_take .nil (fun _ => .nil) (da_cons (dv 0) (da_cons de_int da_nil))) (da_cons (de_call (ok_l_of T) (hr.mono (by decide)) T.m_l_of T.f_l_of.kp T.b_l_of .nil (fun _ => .nil) (da_cons (dv 0) (da_cons (de_call0 (ok_l_signs T) (hr.mono (by decide)) T.m_l_signs T.f_l_signs.kp T.b_l_signs .nil (fun _ => .nil)) da_nil))) da_nil)))
      (dss_cons (ds_set 4 nd (de_call (ok_l_take T) (hr.mono (by decide)) T.m_l_take T.f_l_take.kp T.b_l_take .nil (fun _ => .nil) (da_cons (dv 0) (da_cons (de_op od_add (de_callB cd_len T.z_len boot_len_ (da_cons (dv 1) da_nil)) de_int) da_nil))))
      (dss_cons (ds_if (dt_cmp (od_eq hr) (dv 2) de_int (nomark _)) (dss_one (ds_ret (dv 1))) dss_nil)
      (dss_cons (ds_if (dt_cmp (od_eq hr) (dv 2) de_int (nomark _)) (dss_one (ds_ret (de_slice (dv 1) dp_none (dp_some (de_un ud_neg de_int))))) dss_nil)
      (dss_cons (ds_if (dt_cmp (od_eq hr) (dv 2) de_int (nomark _)) (dss_one (ds_ret (de_slice (dv 1) (dp_some de_int) dp_none))) dss_nil)
      (dss_cons (ds_if (dt_cmp (od_eq hr) (dv 2) de_int (nomark _)) (dss_one (ds_ret (de_op od_add (de_op od_add (de_slice (dv 1) dp_none (dp_some (dv 4))) (dv 3)) (de_slice (dv 1) (dp_some (dv 4)) dp_none)))) dss_nil)
      (dss_cons (ds_if (dt_cmp (od_eq hr) (dv 2) de_int (nomark _)) (dss_one (ds_ret (de_op od_add (de_op od_add (de_slice (dv 1) dp_none (dp_some (dv 4))) (dv 3)) (de_slice (dv 1) (dp_some (de_op od_add (dv 4) de_int)) dp_none)))) dss_nil)
      (dss_one (ds_ret (de_op od_add (dv 1) (dv 1)))))))))))
theorem ok_l_digits (T : Txt K mg base A) : FnD P w K A.cl mg base 3 A.a_l_digits A.d_l_digits ["_law_bag_here", "_law_least", "_law_most"] sp_l_digits := by
  have nd := sc_l_digits.nd
  refine fn_d (k := 2) (td := td_l_digits) T.f_l_digits sc_l_digits len_l_digits pure_l_digits fun cdv A' outer s H E hr => ?_
  exact (dss_cons (ds_set 3 nd (de_str (l := [])))
      (dss_cons (ds_for PassesOwn.never (di_rng1 T.z_range (da_cons (de_op od_add (dv 1) (de_call (ok_l_take T) (hr.mono (by decide)) T.m_l_take T.f_l_take.kp T.b_l_take .nil (fun _ => .nil) (da_cons (dv 0) (da_cons (de_op od_add (de_op od_sub (dv 2) (dv 1)) de_int) da_nil)))) da_nil)) (dg_name 4 nd) (dss_one (ds_set 3 nd (de_op od_add (dv 3) (de_call (ok_l_of T) (hr.mono (by decide)) T.m_l_of T.f_l_of.kp T.b_l_of .nil (fun _ => .nil) (da_cons (dv 0) (da_cons (de_str (l := [48, 48, 48, 49, 50, 51, 52, 53, 54, 55, 56, 57])) da_nil)))))))
      (dss_one (ds_ret (dv 3)))))
theorem ok_l_number (T : Txt K mg base A) : FnD P w K A.cl mg base 4 A.a_l_number A.d_l_number ["_law_bag_here", "_law_most"] sp_l_number := by
  have nd := sc_l_number.nd
  refine fn_d (k := 3) (td := td_l_number) T.f_l_number sc_l_number len_l_number pure_l_number fun cdv A' outer s H E hr => ?_
  exact (dss_cons (ds_set 2 nd (de_call (ok_l_of T) (hr.mono (by decide)) T.m_l_of T.f_l_of.kp T.b_l_of .nil (fun _ => .nil) (da_cons (dv 0) (da_cons (de_lst (da_cons (de_str (l := [])) (da_cons (de_str (l := [])) (da_cons (de_str (l := [])) (da_cons (de_str (l := [45])) (da_cons (de_str (l := [43])) da_nil)))))) da_nil))))
      (dss_cons (ds_set 3 nd (de_call (ok_l_digits T) (hr.mono (by decide)) T.m_l_digits T.f_l_digits.kp T.b_l_digits .nil (fun _ => .nil) (da_cons (dv 0) (da_cons de_int (da_cons (dv 1) da_nil)))))
      (dss_cons (ds_if (dt_cmp (od_eq hr) (de_call (ok_l_take T) (hr.mono (by decide)) T.m_l_take T.f_l_take.kp T.b_l_take .nil (fun _ => .nil) (da_cons (dv 0) (da_cons de_int da_nil))) de_int (nomark _)) (dss_one (ds_ret (de_op od_add (dv 2) (dv 3)))) dss_nil)
      (dss_one (ds_ret (de_op od_add (de_op od_add (de_op od_add (dv 2) (dv 3)) (de_str (l := [46]))) (de_call (ok_l_digits T) (hr.mono (by decide)) T.m_l_digits T.f_l_digits.kp T.b_l_digits .nil (fun _ => .nil) (da_cons (dv 0) (da_cons de_int (da_cons (dv 1) da_nil))))))))))
theorem ok_l_text (T : Txt K mg base A) : FnD P w K A.cl mg base 5 A.a_l_text A.d_l_text ["_law_bag_here"] sp_l_text := by
  have nd := sc_l_text.nd
  refine fn_d (k := 4) (td := td_l_text) T.f_l_text sc_l_text len_l_text pure_l_text fun cdv A' outer s H E hr => ?_
  exact (dss_cons (ds_set 1 nd (de_call (ok_l_take T) (hr.mono (by decide)) T.m_l_take T.f_l_take.kp T.b_l_take .nil (fun _ => .nil) (da_cons (dv 0) (da_cons de_int da_nil))))
      (dss_cons (ds_if (dt_cmp (od_eq hr) (dv 1) de_int (nomark _)) (dss_one (ds_ret (de_bm PySem.F.plainAttrs_str PySem.F.slot_str_join PySem.F.type_str_join md_join (de_str (l := [])) (da_cons (de_fz (de_lc nd (di_rng1 T.z_range (da_cons (de_call (ok_l_take T) (hr.mono (by decide)) T.m_l_take T.f_l_take.kp T.b_l_take .nil (fun _ => .nil) (da_cons (dv 0) (da_cons de_int da_nil))) da_nil)) (blkOk_by (own := [("_law_turn", 2)]) (N := ["_law_bag_here", "_law_road", "_law_turn"]) (sc := defScope s_l_text) (by decide +kernel)) (fun _ _ _ _ _ => (do_name 2 nd)) (fun _ _ _ _ _ => dts_nil) (fun _ _ _ _ _ => (de_call (ok_l_of T) (hr.mono (by decide)) T.m_l_of T.f_l_of.kp T.b_l_of .nil (fun _ => .nil) (da_cons (dv 0) (da_cons (de_call0 (ok_l_signs T) (hr.mono (by decide)) T.m_l_signs T.f_l_signs.kp T.b_l_signs .nil (fun _ => .nil)) da_nil)))))) da_nil)))) dss_nil)
      (dss_cons (ds_if (dt_cmp (od_eq hr) (dv 1) de_int (nomark _)) (dss_one (ds_ret (de_bm PySem.F.plainAttrs_str PySem.F.slot_str_join PySem.F.type_str_join md_join (de_str (l := [])) (da_cons (de_fz (de_lc nd (di_rng1 T.z_range (da_cons (de_call (ok_l_take T) (hr.mono (by decide)) T.m_l_take T.f_l_take.kp T.b_l_take .nil (fun _ => .nil) (da_cons (dv 0) (da_cons de_int da_nil))) da_nil)) (blkOk_by (own := [("_law_turn", 2)]) (N := ["_law_bag_here", "_law_road", "_law_turn"]) (sc := defScope s_l_text) (by decide +kernel)) (fun _ _ _ _ _ => (do_name 2 nd)) (fun _ _ _ _ _ => dts_nil) (fun _ _ _ _ _ => (de_call (ok_l_of T) (hr.mono (by decide)) T.m_l_of T.f_l_of.kp T.b_l_of .nil (fun _ => .nil) (da_cons (dv 0) (da_cons (de_str (l := [48, 48, 49, 57, 43, 45, 46, 32])) da_nil)))))) da_nil)))) dss_nil)
      (dss_cons (ds_if (dt_cmp (od_eq hr) (dv 1) de_int (nomark _)) (dss_one (ds_ret (de_call (ok_l_of T) (hr.mono (by decide)) T.m_l_of T.f_l_of.kp T.b_l_of .nil (fun _ => .nil) (da_cons (dv 0) (da_cons (de_lst (da_cons (de_str (l := [])) (da_cons (de_str (l := [78, 65])) (da_cons (de_str (l := [121, 101, 115])) (da_cons (de_str (l := [110, 111])) (da_cons (de_str (l := [120])) (da_cons (de_str (l := [116, 114, 117, 101])) (da_cons (de_str (l := [45])) (da_cons (de_str (l := [49])) (da_cons (de_str (l := [48])) (da_cons (de_str (l := [48, 48])) (da_cons (de_str (l := [48, 49])) (da_cons (de_str (l := [49, 46, 48])) (da_cons (de_str (l := [45, 48])) (da_cons (de_str (l := [43, 49])) da_nil))))))))))))))) da_nil))))) dss_nil)
      (dss_one (ds_ret (de_call (ok_l_number T) (hr.mono (by decide)) T.m_l_number T.f_l_number.kp T.b_l_number .nil (fun _ => .nil) (da_cons (dv 0) (da_cons de_int da_nil)))))))))
theorem ok_Machine_bool (T : Txt K mg base A) : FnD P w K A.cl mg base 1 A.a_Machine_bool A.d_Machine_bool ["self"] sp_Machine_bool := by
  have nd := sc_Machine_bool.nd
  refine fn_d (k := 0) (td := td_Machine_bool) T.f_Machine_bool sc_Machine_bool len_Machine_bool pure_Machine_bool fun cdv A' outer s H E hr => ?_
  exact (dss_one (ds_ret (de_callTy cd_boolB T.z_bool boot_bool_ (da_cons (de_cmp od_gt (de_callB cd_len T.z_len boot_len_ (da_cons (de_fld (dv 0) T.fl_accepting_Machine) da_nil)) de_int (nomark _)) da_nil))))
theorem ce_Machine_bool_1 (T : Txt K mg base A) : Cee P w K A.cl mg base CX0 1 A.a_Machine_bool [] (pos2 sp_Machine_bool []) := Cee.posD (ok_Machine_bool T) T.b_Machine_bool .nil fun _ => .nil
theorem ok_Machine_init (T : Txt K mg base A) : FnD P w K A.cl mg base 1 A.a_Machine_init A.d_Machine_init ["self", "signs", "table", "accepting"] sp_Machine_init := by
  have nd := sc_Machine_init.nd
  refine fn_d (k := 0) (td := td_Machine_init) T.f_Machine_init sc_Machine_init len_Machine_init pure_Machine_init fun cdv A' outer s H E hr => ?_
  exact (dss_cons (ds_fld (dv 0) (dv 1) T.fl_signs_Machine)
      (dss_cons (ds_fld (dv 0) (dv 2) T.fl_table_Machine)
      (dss_one (ds_fld (dv 0) (dv 3) T.fl_accepting_Machine))))
theorem ce_Machine_init_4 (T : Txt K mg base A) : Cee P w K A.cl mg base CX0 1 A.a_Machine_init [] (pos2 sp_Machine_init []) := Cee.posD (ok_Machine_init T) T.b_Machine_init .nil fun _ => .nil
theorem ok_sign_classes (T : Txt K mg base A) : FnD P w K A.cl mg base 1 A.a_sign_classes A.d_sign_classes ["marks"] sp_sign_classes := by
  have nd := sc_sign_classes.nd
  refine fn_d (k := 0) (td := td_sign_classes) T.f_sign_classes sc_sign_classes len_sign_classes pure_sign_classes fun cdv A' outer s H E hr => ?_
  exact (dss_cons (ds_set 1 nd de_newK)
      (dss_cons (ds_set 2 nd (de_orE de_newK de_newN))
      (dss_cons (ds_for PassesOwn.never (di_str (de_gstr T.g_ALL_SIGNS)) (dg_name 3 nd) (dss_one (ds_putK hr (dv 1) (dv 3) (de_orE (de_setdK (dv 2) (de_getK hr (dv 0) (dv 3)) (de_orE (de_callB cd_lenK T.z_len boot_len_ (da_cons (dv 2) da_nil)) (de_callB cd_lenN T.z_len boot_len_ (da_cons (dv 2) da_nil)))) (de_setdN hr (dv 2) (de_getK hr (dv 0) (dv 3)) (de_orE (de_callB cd_lenK T.z_len boot_len_ (da_cons (dv 2) da_nil)) (de_callB cd_lenN T.z_len boot_len_ (da_cons (dv 2) da_nil))))))))
      (dss_lock 1 (dss_one (ds_ret (de_tup (da_cons (dv 1) (da_cons (de_orE (de_callTy cd_listK T.z_list boot_list_ (da_cons (dv 2) da_nil)) (de_callTy cd_listN T.z_list boot_list_ (da_cons (dv 2) da_nil))) da_nil)))))))))
theorem ok_merged (T : Txt K mg base A) : FnD P w K A.cl mg base 2 A.a_merged A.d_merged ["signs", "rows"] sp_merged := by
  have nd := sc_merged.nd
  refine fn_d (k := 1) (td := td_merged) T.f_merged sc_merged len_merged pure_merged fun cdv A' outer s H E hr => ?_
  exact (dss_cons (ds_set 2 nd de_newK)
      (dss_cons (ds_for PassesOwn.never (di_str (de_gstr T.g_ALL_SIGNS)) (dg_name 3 nd) (dss_one (ds_putK hr (dv 2) (dv 3) (de_callTy cd_tuple T.z_tuple boot_tuple_ (da_cons (de_fz (de_lc nd (di_list (dv 1)) (blkOk_by (own := [("row", 6)]) (N := ["signs", "rows", "marks", "sign", "classes", "columns", "row", "state", "column"]) (sc := defScope s_merged) (by decide +kernel)) (fun _ _ _ _ _ => (do_name 6 nd)) (fun _ _ _ _ _ => dts_nil) (fun _ _ _ _ _ => (de_ix (dv 6) (de_getK hr (dv 0) (dv 3)))))) da_nil)))))
      (dss_cons (ds_asg (de_call (ok_sign_classes T) (hr.mono (by decide)) T.m_sign_classes T.f_sign_classes.kp T.b_sign_classes .nil (fun _ => .nil) (da_cons (dv 2) da_nil)) (dg_tup (dgs_cons (dg_name 4 nd) (dgs_cons (dg_name 5 nd) dgs_nil))))
      (dss_one (ds_ret (de_tup (da_cons (dv 4) (da_cons (de_fz (de_lc nd (di_rng1 T.z_range (da_cons (de_callB cd_len T.z_len boot_len_ (da_cons (dv 1) da_nil)) da_nil)) (blkOk_by (own := [("state", 7)]) (N := ["signs", "rows", "marks", "sign", "classes", "columns", "row", "state", "column"]) (sc := defScope s_merged) (by decide +kernel)) (fun _ _ _ _ _ => (do_name 7 nd)) (fun _ _ _ _ _ => dts_nil) (fun _ _ _ _ _ => (de_fz (de_lc nd (di_list (dv 5)) (blk_in (blkOk_by (own := [("column", 8)]) (N := ["signs", "rows", "marks", "sign", "classes", "columns", "row", "state", "column"]) (sc := ({ kind := PySem.ScopeKind.function, names := [ (PySem.Str.ofString ".0", PySem.NameKind.local), (PySem.Str.ofString "state", PySem.NameKind.cell), (PySem.Str.ofString "columns", PySem.NameKind.free)], isGenerator := false, isCoroutine := false, more := [] : PySem.Scope })) (by decide +kernel))) (fun _ _ _ _ _ => (do_name 8 nd)) (fun _ _ _ _ _ => dts_nil) (fun _ _ _ _ _ => (de_ix (dv 8) (dv 7)))))))) da_nil))))))))
theorem ok_numbered (T : Txt K mg base A) : FnD P w K A.cl mg base 1 A.a_numbered A.d_numbered ["table", "groups"] sp_numbered := by
  have nd := sc_numbered.nd
  refine fn_d (k := 0) (td := td_numbered) T.f_numbered sc_numbered len_numbered pure_numbered fun cdv A' outer s H E hr => ?_
  exact (dss_cons (ds_set 2 nd (de_lstC (da_cons de_int da_nil)))
      (dss_cons (ds_set 3 nd (de_d1K (de_ix (dv 1) de_int) de_int))
      (dss_cons (ds_set 4 nd (de_lstC da_nil))
      (dss_cons (ds_while PassesOwn.never (dt_cmp od_lt (de_callB cd_len T.z_len boot_len_ (da_cons (dv 4) da_nil)) (de_callB cd_len T.z_len boot_len_ (da_cons (dv 2) da_nil)) (nomark _)) (dss_cons (ds_set 5 nd (de_lstC da_nil))
      (dss_cons (ds_for PassesOwn.never (di_list (de_ix (dv 0) (de_ix (dv 2) (de_callB cd_len T.z_len boot_len_ (da_cons (dv 4) da_nil))))) (dg_name 6 nd) (dss_cons (ds_set 7 nd (de_ifExp (dt_cmp od_ge (dv 6) de_int (nomark _)) (de_ix (dv 1) (dv 6)) (de_un ud_neg de_int)))
      (dss_cons (ds_if (PW.pt (dw_and (dt_cmp od_ge (dv 7) de_int (nomark _)) (dw_and1 (dt_notinK hr (dv 7) (dv 3) rfl)))) (dss_cons (ds_putK hr (dv 3) (dv 7) (de_callB cd_len T.z_len boot_len_ (da_cons (dv 2) da_nil)))
      (dss_one (ds_expr (de_bm PySem.F.plainAttrs_list PySem.F.slot_list_append PySem.F.type_list_append md_append (dv 2) (da_cons (dv 6) da_nil))))) dss_nil)
      (dss_one (ds_expr (de_bm PySem.F.plainAttrs_list PySem.F.slot_list_append PySem.F.type_list_append md_append (dv 5) (da_cons (de_ifExp (dt_cmp od_ge (dv 7) de_int (nomark _)) (de_getK hr (dv 3) (dv 7)) (de_un ud_neg de_int)) da_nil)))))))
      (dss_view 5 (dss_one (ds_expr (de_bm PySem.F.plainAttrs_list PySem.F.slot_list_append PySem.F.type_list_append md_append (dv 4) (da_cons (dv 5) da_nil))))))))
      (dss_view 4 (dss_view 2 (dss_one (ds_ret (de_tup (da_cons (dv 2) (da_cons (dv 4) da_nil)))))))))))
theorem ok_refined (T : Txt K mg base A) : FnD P w K A.cl mg base 1 A.a_refined A.d_refined ["table", "accepts", "useful"] sp_refined := by
  have nd := sc_refined.nd
  refine fn_d (k := 0) (td := td_refined) T.f_refined sc_refined len_refined pure_refined fun cdv A' outer s H E hr => ?_
  exact (dss_cons (ds_set 3 nd (de_fz (de_lc nd (di_enumS T.z_enumerate (da_cons (dv 1) da_nil)) (blkOk_by (own := [("state", 9), ("told", 10)]) (N := ["table", "accepts", "useful", "groups", "many", "known", "later", "row", "key", "state", "told", "target"]) (sc := defScope s_refined) (by decide +kernel)) (fun _ _ _ _ _ => (do_tup (dos_cons (do_name 9 nd) (dos_cons (do_name 10 nd) dos_nil)))) (fun _ _ _ _ _ => dts_nil) (fun _ _ _ _ _ => (de_ifExp (dt_val (de_ix (dv 2) (dv 9))) (de_callTy cd_int T.z_int boot_int_ (da_cons (dv 10) da_nil)) (de_un ud_neg de_int))))))
      (dss_cons (ds_set 4 nd de_int)
      (dss_one (ds_while PassesOwn.never (dt_val de_bl) (dss_cons (ds_set 5 nd de_newN)
      (dss_cons (ds_set 6 nd (de_lstC da_nil))
      (dss_cons (ds_for PassesOwn.never (di_enumS T.z_enumerate (da_cons (dv 0) da_nil)) (dg_tup (dgs_cons (dg_name 9 nd) (dgs_cons (dg_name 7 nd) dgs_nil))) (dss_one (ds_if (dt_val (de_ix (dv 2) (dv 9))) (dss_cons (ds_set 8 nd (de_tup (da_cons (de_ix (dv 3) (dv 9)) (da_cons (de_callTy cd_tuple T.z_tuple boot_tuple_ (da_cons (de_fz (de_lc nd (di_list (dv 7)) (blkOk_by (own := [("target", 11)]) (N := ["table", "accepts", "useful", "groups", "many", "known", "later", "row", "key", "state", "told", "target"]) (sc := defScope s_refined) (by decide +kernel)) (fun _ _ _ _ _ => (do_name 11 nd)) (fun _ _ _ _ _ => dts_nil) (fun _ _ _ _ _ => (de_ifExp (dt_cmp od_ge (dv 11) de_int (nomark _)) (de_ix (dv 3) (dv 11)) (de_un ud_neg de_int))))) da_nil)) da_nil))))
      (dss_one (ds_expr (de_bm PySem.F.plainAttrs_list PySem.F.slot_list_append PySem.F.type_list_append md_append (dv 6) (da_cons (de_setdN hr (dv 5) (dv 8) (de_callB cd_lenN T.z_len boot_len_ (da_cons (dv 5) da_nil))) da_nil))))) (dss_one (ds_expr (de_bm PySem.F.plainAttrs_list PySem.F.slot_list_append PySem.F.type_list_append md_append (dv 6) (da_cons (de_un ud_neg de_int) da_nil)))))))
      (dss_cons (ds_set 3 nd (dv 6))
      (dss_cons (ds_if (dt_cmp (od_eq hr) (de_callB cd_lenN T.z_len boot_len_ (da_cons (dv 5) da_nil)) (dv 4) (nomark _)) (dss_one (ds_ret (dv 3))) dss_nil)
      (dss_one (ds_set 4 nd (de_callB cd_lenN T.z_len boot_len_ (da_cons (dv 5) da_nil)))))))))))))
theorem ok_useful_states (T : Txt K mg base A) : FnD P w K A.cl mg base 1 A.a_useful_states A.d_useful_states ["table", "accepts"] sp_useful_states := by
  have nd := sc_useful_states.nd
  refine fn_d (k := 0) (td := td_useful_states) T.f_useful_states sc_useful_states len_useful_states pure_useful_states fun cdv A' outer s H E hr => ?_
  exact (dss_cons (ds_setLc 2 nd (di_list (dv 0)) (blkOk_by (own := [("row", 9)]) (N := ["table", "accepts", "sources", "target", "useful", "ends", "later", "end", "state", "row", "told"]) (sc := defScope s_useful_states) (by decide +kernel)) (fun _ _ _ _ _ => (do_name 9 nd)) (fun _ _ _ _ _ => dts_nil) (fun _ _ _ _ _ => (de_lst da_nil)) (sw_true rfl rfl rfl (by decide +kernel)))
      (dss_cons (ds_for PassesOwn.never (di_enumS T.z_enumerate (da_cons (dv 0) da_nil)) (dg_tup (dgs_cons (dg_name 8 nd) (dgs_cons (dg_name 9 nd) dgs_nil))) (dss_one (ds_for PassesOwn.never (di_list (dv 9)) (dg_name 3 nd) (dss_one (ds_if (dt_cmp od_ge (dv 3) de_int (nomark _)) (dss_one (ds_asg (de_op od_add (de_ix (dv 2) (dv 3)) (de_lst (da_cons (dv 8) da_nil))) (dg_sub (dv 2) (dv 3) st_list))) dss_nil)))))
      (dss_cons (ds_set 4 nd (de_callTy cd_listC T.z_list boot_list_ (da_cons (dv 1) da_nil)))
      (dss_cons (ds_setLcF 5 nd (di_enumS T.z_enumerate (da_cons (dv 1) da_nil)) (blkOk_by (own := [("state", 8), ("told", 10)]) (N := ["table", "accepts", "sources", "target", "useful", "ends", "later", "end", "state", "row", "told"]) (sc := defScope s_useful_states) (by decide +kernel)) (fun _ _ _ _ _ => (do_tup (dos_cons (do_name 8 nd) (dos_cons (do_name 10 nd) dos_nil)))) (fun _ _ _ _ _ => (dts_one (dt_val (dv 10)))) (fun _ _ _ _ _ => (dv 8)) (sw_true rfl rfl rfl (by decide +kernel)))
      (dss_cons (ds_while PassesOwn.never (dt_cmp od_gt (de_callB cd_len T.z_len boot_len_ (da_cons (dv 5) da_nil)) de_int (nomark _)) (dss_cons (ds_set 6 nd (de_lstC da_nil))
      (dss_cons (ds_for PassesOwn.never (di_list (dv 5)) (dg_name 7 nd) (dss_one (ds_for PassesOwn.never (di_list (de_ix (dv 2) (dv 7))) (dg_name 8 nd) (dss_one (ds_if (dt_not (dt_val (de_ix (dv 4) (dv 8)))) (dss_cons (ds_asg de_bl (dg_sub (dv 4) (dv 8) st_list))
      (dss_one (ds_expr (de_bm PySem.F.plainAttrs_list PySem.F.slot_list_append PySem.F.type_list_append md_append (dv 6) (da_cons (dv 8) da_nil))))) dss_nil)))))
      (dss_one (ds_set 5 nd (de_callTy cd_list T.z_list boot_list_ (da_cons (dv 6) da_nil)))))))
      (dss_one (ds_ret (dv 4))))))))
theorem ok_finished (T : Txt K mg base A) : FnD P w K A.cl mg base 3 A.a_finished A.d_finished ["signs", "table", "accepts"] sp_finished := by
  have nd := sc_finished.nd
  refine fn_d (k := 2) (td := td_finished) T.f_finished sc_finished len_finished pure_finished fun cdv A' outer s H E hr => ?_
  exact (dss_cons (ds_set 3 nd (de_call (ok_useful_states T) (hr.mono (by decide)) T.m_useful_states T.f_useful_states.kp T.b_useful_states .nil (fun _ => .nil) (da_cons (dv 1) (da_cons (dv 2) da_nil))))
      (dss_cons (ds_if (dt_not (dt_val (de_ix (dv 3) de_int))) (dss_one (ds_ret (de_make (ce_Machine_init_4 T) T.h_Machine_init (hr.mono (by decide)) pass0 T.m_Machine (da_cons (de_frz (de_dc nd (di_str (de_gstr T.g_ALL_SIGNS)) (blkOk_by (own := [("sign", 8)]) (N := ["signs", "table", "accepts", "useful", "groups", "order", "rows", "classes", "sign", "place", "state"]) (sc := defScope s_finished) (by decide +kernel)) (fun _ _ _ _ _ => (do_name 8 nd)) (fun _ _ _ _ _ => dts_nil) (fun _ _ _ _ _ => (dv 8)) (fun _ _ _ _ _ => de_int))) (da_cons (de_lst (da_cons (de_lst (da_cons (de_un ud_neg de_int) da_nil)) da_nil)) (da_cons (de_tup da_nil) da_nil))) dk_nil))) dss_nil)
      (dss_cons (ds_set 4 nd (de_call (ok_refined T) (hr.mono (by decide)) T.m_refined T.f_refined.kp T.b_refined .nil (fun _ => .nil) (da_cons (dv 1) (da_cons (dv 2) (da_cons (dv 3) da_nil)))))
      (dss_cons (ds_asg (de_call (ok_numbered T) (hr.mono (by decide)) T.m_numbered T.f_numbered.kp T.b_numbered .nil (fun _ => .nil) (da_cons (dv 1) (da_cons (dv 4) da_nil))) (dg_tup (dgs_cons (dg_name 5 nd) (dgs_cons (dg_name 6 nd) dgs_nil))))
      (dss_cons (ds_asg (de_call (ok_merged T) (hr.mono (by decide)) T.m_merged T.f_merged.kp T.b_merged .nil (fun _ => .nil) (da_cons (dv 0) (da_cons (dv 6) da_nil))) (dg_tup (dgs_cons (dg_name 7 nd) (dgs_cons (dg_name 6 nd) dgs_nil))))
      (dss_one (ds_ret (de_make (ce_Machine_init_4 T) T.h_Machine_init (hr.mono (by decide)) pass0 T.m_Machine (da_cons (dv 7) (da_cons (dv 6) (da_cons (de_callTy cd_tuple T.z_tuple boot_tuple_ (da_cons (de_fz (de_lc nd (di_enumS T.z_enumerate (da_cons (dv 5) da_nil)) (blkOk_by (own := [("place", 9), ("state", 10)]) (N := ["signs", "table", "accepts", "useful", "groups", "order", "rows", "classes", "sign", "place", "state"]) (sc := defScope s_finished) (by decide +kernel)) (fun _ _ _ _ _ => (do_tup (dos_cons (do_name 9 nd) (dos_cons (do_name 10 nd) dos_nil)))) (fun _ _ _ _ _ => (dts_one (dt_val (de_ix (dv 2) (dv 10))))) (fun _ _ _ _ _ => (dv 9)))) da_nil)) da_nil))) dk_nil))))))))
theorem lm_explored {X : Cx} {A : Ad} (T : Txt X.K X.mg X.base A) {cdg : Value} {s : Shared} {H F0 : Hp} {f1 f2 : Addr} {tl1 tl2 : List D → Cl → DQ → Prop} (hr : G.Room 3 (X.A.deeper (envOfC "explored" (defScope s_explored) s.heap.objs.size A.a_explored cdg))) (act_step : ActP (gCx X ["marks", "start", "step", "accepts", "signs", "known", "heads", "sign", "places", "order", "table", "row", "head", "target", "state"] "explored" (defScope s_explored) A.a_explored cdg s H).nox ⟨A.cl, F0⟩ "step" 2 f1 tl1 2) (act_accepts : ActP (gCx X ["marks", "start", "step", "accepts", "signs", "known", "heads", "sign", "places", "order", "table", "row", "head", "target", "state"] "explored" (defScope s_explored) A.a_explored cdg s H).nox ⟨A.cl, F0⟩ "accepts" 3 f2 tl2 1) (B : Heap) (hB : ∀ (pins : List (Addr × Obj)) (σ : List (Option V)) (H' : Hp) (s' : Shared), Inv (gCx X ["marks", "start", "step", "accepts", "signs", "known", "heads", "sign", "places", "order", "table", "row", "head", "target", "state"] "explored" (defScope s_explored) A.a_explored cdg s H).nox pins σ H' s' → Inv { (gCx X ["marks", "start", "step", "accepts", "signs", "known", "heads", "sign", "places", "order", "table", "row", "head", "target", "state"] "explored" (defScope s_explored) A.a_explored cdg s H).nox with base := B } pins σ H' s') (actc_step : ∀ (s3 : Shared) (H3 : Hp) (sc3 : Scope) (ce : Env) (fp : List Addr), Vis ce.scope "step" → ActP (Cx.blk { (gCx X ["marks", "start", "step", "accepts", "signs", "known", "heads", "sign", "places", "order", "table", "row", "head", "target", "state"] "explored" (defScope s_explored) A.a_explored cdg s H).nox with base := B } s3 H3 sc3 ce fp) ⟨A.cl, F0⟩ "step" 2 f1 tl1 2) (actc_accepts : ∀ (s3 : Shared) (H3 : Hp) (sc3 : Scope) (ce : Env) (fp : List Addr), Vis ce.scope "accepts" → ActP (Cx.blk { (gCx X ["marks", "start", "step", "accepts", "signs", "known", "heads", "sign", "places", "order", "table", "row", "head", "target", "state"] "explored" (defScope s_explored) A.a_explored cdg s H).nox with base := B } s3 H3 sc3 ce fp) ⟨A.cl, F0⟩ "accepts" 3 f2 tl2 1) :
    PSsd (gCx X ["marks", "start", "step", "accepts", "signs", "known", "heads", "sign", "places", "order", "table", "row", "head", "target", "state"] "explored" (defScope s_explored) A.a_explored cdg s H).nox ⟨A.cl, F0⟩ (defBody s_explored) (td_explored (dActP 2 f1 tl1) (dActP 3 f2 tl2)) := by
  have nd := sc_explored.nd
  exact (dss_cons (ds_asg (de_call (ok_sign_classes T) (hr.mono (by decide)) T.m_sign_classes T.f_sign_classes.kp T.b_sign_classes .nil (fun _ => .nil) (da_cons (dv 0) da_nil)) (dg_tup (dgs_cons (dg_name 4 nd) (dgs_cons (dg_name 5 nd) dgs_nil))))
      (dss_cons (ds_set 6 nd (de_op od_repLC (de_lst (da_cons (de_str (l := [])) da_nil)) (de_callB cd_len T.z_len boot_len_ (da_cons (dv 5) da_nil))))
      (dss_cons (ds_for PassesOwn.never (di_rev T.z_reversed (da_cons (de_callTy cd_listS T.z_list boot_list_ (da_cons (de_gstr T.g_ALL_SIGNS) da_nil)) da_nil)) (dg_name 7 nd) (dss_one (ds_asg (dv 7) (dg_sub (dv 6) (de_getK hr (dv 4) (dv 7)) st_list))))
      (dss_cons (ds_par3 8 9 10 nd (da_cons (de_orE (de_d1K (dv 1) de_int) (de_d1N hr (dv 1) de_int)) (da_cons (de_lstC (da_cons (dv 1) da_nil)) (da_cons (de_lstC da_nil) da_nil))))
      (dss_view 6 (dss_cons (ds_while PassesOwn.never (dt_cmp od_lt (de_callB cd_len T.z_len boot_len_ (da_cons (dv 10) da_nil)) (de_callB cd_len T.z_len boot_len_ (da_cons (dv 9) da_nil)) (nomark _)) (dss_cons (ds_par 14 11 nd (da_cons (de_ix (dv 9) (de_callB cd_len T.z_len boot_len_ (da_cons (dv 10) da_nil))) (da_cons (de_lstC da_nil) da_nil)))
      (dss_view 6 (dss_cons (ds_for PassesOwn.never (di_list (dv 6)) (dg_name 12 nd) (dss_cons (ds_set 13 nd (act_step _ _ _ _ _ (da_cons (dv 14) (da_cons (dv 12) da_nil)) rfl rfl rfl))
      (dss_cons (ds_if (PW.pt (dw_and (dt_cmp od_notN (dv 13) de_non (nomark _)) (dw_and1 (dt_orE (dt_notinK hr (dv 13) (dv 8) rfl) (dt_notinN hr (dv 13) (dv 8) rfl))))) (dss_cons (ds_orS (ds_putK hr (dv 8) (dv 13) (de_callB cd_len T.z_len boot_len_ (da_cons (dv 9) da_nil))) (ds_putN hr (dv 8) (dv 13) (de_callB cd_len T.z_len boot_len_ (da_cons (dv 9) da_nil))))
      (dss_one (ds_expr (de_bm PySem.F.plainAttrs_list PySem.F.slot_list_append PySem.F.type_list_append md_append (dv 9) (da_cons (dv 13) da_nil))))) dss_nil)
      (dss_one (ds_expr (de_bm PySem.F.plainAttrs_list PySem.F.slot_list_append PySem.F.type_list_append md_append (dv 11) (da_cons (de_ifExp (dt_cmp od_isN (dv 13) de_non (nomark _)) (de_un ud_neg de_int) (de_orE (de_getK hr (dv 8) (dv 13)) (de_getN hr (dv 8) (dv 13)))) da_nil)))))))
      (dss_view 11 (dss_one (ds_expr (de_bm PySem.F.plainAttrs_list PySem.F.slot_list_append PySem.F.type_list_append md_append (dv 10) (da_cons (dv 11) da_nil)))))))))
      (dss_view 10 (dss_view 9 (dss_one (ds_ret (de_call (ok_finished T) (hr.mono (by decide)) T.m_finished T.f_finished.kp T.b_finished .nil (fun _ => .nil) (da_cons (dv 4) (da_cons (dv 10) (da_cons (de_base hB (de_fz (de_lc nd (di_list (dv 9)) (blkOk_by (own := [("state", 14)]) (N := ["marks", "start", "step", "accepts", "signs", "known", "heads", "sign", "places", "order", "table", "row", "head", "target", "state"]) (sc := defScope s_explored) (by decide +kernel)) (fun _ _ _ _ _ => (do_name 14 nd)) (fun _ _ _ _ _ => dts_nil) (fun _ _ _ _ _ => (actc_accepts _ _ _ _ _ (by first | exact .inl rfl | exact .inr (.inl rfl) | exact .inr (.inr rfl)) _ _ _ _ _ (da_cons (dv 14) da_nil) rfl rfl rfl))))) da_nil))))))))))))))
theorem ok_grown (T : Txt K mg base A) : FnD P w K A.cl mg base 1 A.a_grown A.d_grown ["texts", "start"] sp_grown := by
  have nd := sc_grown.nd
  refine fn_d (k := 0) (td := td_grown) T.f_grown sc_grown len_grown pure_grown fun cdv A' outer s H E hr => ?_
  exact (dss_one (ds_ret (de_ifExp (dt_val (de_callB cd_any T.z_any boot_any_ (da_cons (de_fz (de_lc nd (di_list (dv 0)) (blkOk_by (own := [("text", 2)]) (N := ["texts", "start", "text"]) (sc := defScope s_grown) (by decide +kernel)) (fun _ _ _ _ _ => (do_name 2 nd)) (fun _ _ _ _ _ => dts_nil) (fun _ _ _ _ _ => (de_bm PySem.F.plainAttrs_str PySem.F.slot_str_startswith PySem.F.type_str_startswith md_starts (dv 2) (da_cons (dv 1) da_nil))))) da_nil))) (dv 1) de_non)))
theorem ok_Machine_listing (T : Txt K mg base A) : FnD P w K A.cl mg base 5 A.a_Machine_listing A.d_Machine_listing ["texts"] sp_Machine_listing := by
  have nd := sc_Machine_listing.nd
  refine fn_dL (k := 4) (td := td_Machine_listing) T.f_Machine_listing T.lc_Machine_listing sc_Machine_listing len_Machine_listing pure_Machine_listing fun cdv A' outer s H E hcv hr => ?_
  exact (dss_cons (ds_set 1 nd (de_callTy cd_list T.z_list boot_list_ (da_cons (dv 0) da_nil)))
      (dss_cons (ds_set 2 nd de_newK)
      (dss_cons (ds_for PassesOwn.never (di_str (de_gstr T.g_ALL_SIGNS)) (dg_name 3 nd) (dss_one (ds_putK hr (dv 2) (dv 3) (de_ifExp (dt_val (de_callB cd_any T.z_any boot_any_ (da_cons (de_fz (de_lc nd (di_list (dv 1)) (blkOk_by (own := [("text", 4)]) (N := ["texts", "kept", "marks", "sign", "text"]) (sc := defScope s_Machine_listing) (by decide +kernel)) (fun _ _ _ _ _ => (do_name 4 nd)) (fun _ _ _ _ _ => dts_nil) (fun _ _ _ _ _ => (de_cmp od_in (dv 3) (dv 4) rfl)))) da_nil))) (dv 3) (de_str (l := []))))))
      (dss_one (ds_ret (de_lam2C (k := 2) T.f_explored sc_explored rfl rfl (by first | exact .inl rfl | exact .inr (.inl rfl)) (by first | exact .inl rfl | exact .inr (.inl rfl)) rfl T.m_explored T.kp_explored T.b_explored T.tb_Machine_listing hcv T.lp_Machine_listing rfl (hr.mono (by decide)) (show LamP ["texts", "kept", "marks", "sign", "text"] (defScope s_Machine_listing) ["state", "sign"] [] [("kept", 1)] _ from lamP_by (by decide +kernel)) (show LamP ["texts", "kept", "marks", "sign", "text"] (defScope s_Machine_listing) ["state"] [] [("kept", 1)] _ from lamP_by (by decide +kernel)) rfl rfl (fun _ _ _ _ _ us hus => match us, hus with | [_, _], _ => rfl) (fun _ _ _ _ _ us hus => match us, hus with | [_], _ => rfl) (dv 2) (de_str (l := [])) (fun cdg s H F0 f1 f2 tl1 tl2 hr a1 a2 B hB b1 b2 => lm_explored T (hr.mono (by decide)) a1 a2 B hB b1 b2) (fun A outer s H f c' F1 hr => by have nd : (["state", "sign", "kept"] : List Str).Nodup := (by decide); exact (de_call (ok_grown T) (hr.mono (by decide)) T.m_grown T.f_grown.kp T.b_grown .nil (fun _ => .nil) (da_cons (dv 2) (da_cons (de_op od_add (dv 0) (dv 1)) da_nil)))) (fun A outer s H f c' F1 hr => by have nd : (["state", "kept"] : List Str).Nodup := (by decide); exact (de_cmp od_in (dv 0) (dv 1) rfl))))))))
theorem ce_Machine_listing_1 (T : Txt K mg base A) : Cee P w K A.cl mg base CX0 5 A.a_Machine_listing [] (pos2 sp_Machine_listing []) := Cee.posD (ok_Machine_listing T) T.b_Machine_listing .nil fun _ => .nil
theorem ok_l_right (T : Txt K mg base A) : FnD P w K A.cl mg base 6 A.a_l_right A.d_l_right ["_law_bag_here"] sp_l_right := by
  have nd := sc_l_right.nd
  refine fn_d (k := 5) (td := td_l_right) T.f_l_right sc_l_right len_l_right pure_l_right fun cdv A' outer s H E hr => ?_
  exact (dss_cons (ds_setLcF 1 nd (di_rng1 T.z_range (da_cons (de_call (ok_l_take T) (hr.mono (by decide)) T.m_l_take T.f_l_take.kp T.b_l_take .nil (fun _ => .nil) (da_cons (dv 0) (da_cons de_int da_nil))) da_nil)) (blkOk_by (own := [("_law_turn", 6)]) (N := ["_law_bag_here", "_law_texts", "_law_handed", "_law_told", "_law_asked", "_law_text_here", "_law_turn", "_law_thing"]) (sc := defScope s_l_right) (by decide +kernel)) (fun _ _ _ _ _ => (do_name 6 nd)) (fun _ _ _ _ _ => dts_nil) (fun _ _ _ _ _ => (de_call (ok_l_text T) (hr.mono (by decide)) T.m_l_text T.f_l_text.kp T.b_l_text .nil (fun _ => .nil) (da_cons (dv 0) da_nil))) (sw_true rfl rfl rfl (by decide +kernel)))
      (dss_cons (ds_set 1 nd (de_op od_add (dv 1) (de_slice (dv 1) dp_none (dp_some (de_call (ok_l_take T) (hr.mono (by decide)) T.m_l_take T.f_l_take.kp T.b_l_take .nil (fun _ => .nil) (da_cons (dv 0) (da_cons de_int da_nil)))))))
      (dss_cons (ds_set 2 nd (de_callTy cd_listC T.z_list boot_list_ (da_cons (dv 1) da_nil)))
      (dss_cons (ds_set 3 nd (de_smeth (ce_Machine_listing_1 T) (hr.mono (by decide)) pass0 T.m_Machine T.r_Machine T.h_Machine_listing (da_cons (dv 2) da_nil) dk_nil))
      (dss_cons (ds_if (PW.pt (dw_or (dt_cmp (od_neC hr) (dv 2) (dv 1) (nomark _)) (dw_or1 (dt_cmp (od_ne hr) (de_callTy (cd_boolO (ce_Machine_bool_1 T) (hr.mono (by decide)) pass0 T.h_Machine_bool) T.z_bool boot_bool_ (da_cons (dv 3) da_nil)) (de_cmp od_gt (de_callB cd_len T.z_len boot_len_ (da_cons (dv 1) da_nil)) de_int (nomark _)) (nomark _))))) (dss_one (ds_ret de_bl)) dss_nil)
      (dss_cons (ds_expr (de_bm PySem.F.plainAttrs_list PySem.F.slot_list_append PySem.F.type_list_append md_append (dv 2) (da_cons (de_op od_add (de_str (l := [99, 104, 97, 110, 103, 101, 100])) (de_bm PySem.F.plainAttrs_str PySem.F.slot_str_join PySem.F.type_str_join md_join (de_str (l := [])) (da_cons (dv 1) da_nil))) da_nil)))
      (dss_cons (ds_set 4 nd (de_op od_addC (de_callTy cd_list T.z_list boot_list_ (da_cons (dv 1) da_nil)) (de_lst (da_cons (de_call (ok_l_text T) (hr.mono (by decide)) T.m_l_text T.f_l_text.kp T.b_l_text .nil (fun _ => .nil) (da_cons (dv 0) da_nil)) (da_cons (de_str (l := [])) (da_cons (de_ix (dv 2) (de_un ud_neg de_int)) da_nil))))))
      (dss_cons (ds_for PassesOwn.never (di_list (de_callTy cd_list T.z_list boot_list_ (da_cons (dv 4) da_nil))) (dg_name 5 nd) (dss_one (ds_expr (de_bm PySem.F.plainAttrs_list PySem.F.slot_list_append PySem.F.type_list_append md_append (dv 4) (da_cons (de_call (ok_l_near T) (hr.mono (by decide)) T.m_l_near T.f_l_near.kp T.b_l_near .nil (fun _ => .nil) (da_cons (dv 0) (da_cons (dv 5) da_nil))) da_nil)))))
      (dss_view 4 (dss_cons (ds_for PassesOwn.never (di_list (dv 4)) (dg_name 5 nd) (dss_one (ds_if (dt_cmp (od_ne hr) (de_cmp (od_inO (ce_Machine_contains_2 T) (hr.mono (by decide)) pass0 T.h_Machine_contains) (dv 5) (dv 3) rfl) (de_cmp od_in (dv 5) (dv 1) rfl) (nomark _)) (dss_one (ds_ret de_bl)) dss_nil)))
      (dss_one (ds_ret (de_not (de_callB cd_any T.z_any boot_any_ (da_cons (de_fz (de_lc nd (di_tup (de_tup (da_cons de_non (da_cons de_int (da_cons de_int (da_cons de_bl (da_cons (de_lst (da_cons (de_str (l := [97])) da_nil)) (da_cons (de_tup (da_cons (de_str (l := [])) da_nil)) (da_cons (de_callTy cd_list T.z_list boot_list_ (da_cons (dv 1) da_nil)) da_nil))))))))) (blkOk_by (own := [("_law_thing", 7)]) (N := ["_law_bag_here", "_law_texts", "_law_handed", "_law_told", "_law_asked", "_law_text_here", "_law_turn", "_law_thing"]) (sc := defScope s_l_right) (by decide +kernel)) (fun _ _ _ _ _ => (do_name 7 nd)) (fun _ _ _ _ _ => dts_nil) (fun _ _ _ _ _ => (de_cmp (od_inO (ce_Machine_contains_2 T) (hr.mono (by decide)) pass0 T.h_Machine_contains) (dv 7) (dv 3) rfl)))) da_nil)))))))))))))))
theorem ok_l_bag (T : Txt K mg base A) : FnD P w K A.cl mg base 1 A.a_l_bag A.d_l_bag ["_law_script", "_law_at"] sp_l_bag := by
  have nd := sc_l_bag.nd
  refine fn_d (k := 0) (td := td_l_bag) T.f_l_bag sc_l_bag len_l_bag pure_l_bag fun cdv A' outer s H E hr => ?_
  exact (dss_cons (ds_set 2 nd (de_ifExp (dt_cmp od_lt (dv 1) (de_callB cd_len T.z_len boot_len_ (da_cons (dv 0) da_nil)) (nomark _)) (de_ix (dv 0) (dv 1)) de_int))
      (dss_cons (ds_set 3 nd (de_ifExp (dt_cmp od_ge (de_callB cd_abs T.z_abs boot_abs_ (da_cons (dv 2) da_nil)) (de_op od_pow de_int de_int) (nomark _)) (de_callB cd_abs T.z_abs boot_abs_ (da_cons (dv 2) da_nil)) de_int))
      (dss_one (ds_ret (de_lstC (da_cons (dv 3) (da_cons (de_op od_add (de_op od_add (de_op od_mul (de_op od_mod (de_callTy cd_int T.z_int boot_int_ (da_cons (dv 2) da_nil)) de_int) de_int) (de_op od_mul de_int (dv 1))) de_int) (da_cons de_int da_nil))))))))
theorem ok_law (T : Txt K mg base A) : FnD P w K A.cl mg base 7 A.a_law A.d_law ["_law_script"] (sp_lawT ["Machine.listing.<locals>.<lambda>"]) := by
  have nd := sc_law.nd
  refine fn_d (k := 6) (td := td_law) T.f_law sc_law len_lawT pure_law fun cdv A' outer s H E hr => ?_
  exact (dss_cons (ds_for PassesOwn.never (di_rng1 T.z_range (da_cons (de_callB cd_max T.z_max boot_max_ (da_cons de_int (da_cons (de_callB cd_min T.z_min boot_min_ (da_cons de_int (da_cons (de_callB cd_len T.z_len boot_len_ (da_cons (dv 0) da_nil)) da_nil))) da_nil))) da_nil)) (dg_name 1 nd) (dss_one (ds_if (dt_not (dt_val (de_call (ok_l_right T) (hr.mono (by decide)) T.m_l_right T.f_l_right.kp T.b_l_right .nil (fun _ => .nil) (da_cons (de_call (ok_l_bag T) (hr.mono (by decide)) T.m_l_bag T.f_l_bag.kp T.b_l_bag .nil (fun _ => .nil) (da_cons (dv 0) (da_cons (dv 1) da_nil))) da_nil)))) (dss_one (ds_ret de_bl)) dss_nil)))
      (dss_one (ds_ret de_bl)))
end
theorem all_mk {l : PySem.W.OpenLaw} {w : World} {K : PySem.W.Frag} {h : Heap} {mg : Str → Option Value} {fa : Addr} (X : K.In h) (G : h.Ns mainGlobals mg) (hfa : mg "law" = some (.ref fa))
    {C_Machine : Addr}
    {f_Machine_next_state : Addr} {d_Machine_next_state : FuncData}
    {f_Machine_state_after : Addr} {d_Machine_state_after : FuncData}
    {f_Machine_contains : Addr} {d_Machine_contains : FuncData}
    {f_l_take : Addr} {d_l_take : FuncData}
    {f_l_of : Addr} {d_l_of : FuncData}
    {f_l_signs : Addr} {d_l_signs : FuncData}
    {f_l_near : Addr} {d_l_near : FuncData}
    {f_l_digits : Addr} {d_l_digits : FuncData}
    {f_l_number : Addr} {d_l_number : FuncData}
    {f_l_text : Addr} {d_l_text : FuncData}
    {f_Machine_bool : Addr} {d_Machine_bool : FuncData}
    {f_Machine_init : Addr} {d_Machine_init : FuncData}
    {f_sign_classes : Addr} {d_sign_classes : FuncData}
    {f_merged : Addr} {d_merged : FuncData}
    {f_numbered : Addr} {d_numbered : FuncData}
    {f_refined : Addr} {d_refined : FuncData}
    {f_useful_states : Addr} {d_useful_states : FuncData}
    {f_finished : Addr} {d_finished : FuncData}
    {f_explored : Addr} {d_explored : FuncData}
    {f_grown : Addr} {d_grown : FuncData}
    {p_Machine_listing : Addr}
    {C_code_Machine_listing : Addr} {C_tab_Machine_listing : Addr}
    {f_Machine_listing : Addr} {d_Machine_listing : FuncData}
    {f_l_right : Addr} {d_l_right : FuncData}
    {f_l_bag : Addr} {d_l_bag : FuncData}
    {f_law : Addr} {d_law : FuncData}
    (a_Machine : PySem.W.nsIn K mainGlobals "Machine" = some (some (.ref C_Machine)))
    (pg_Machine : PySem.W.plainGet K C_Machine Str.empty = true)
    (hd_Machine : PySem.W.hasDictIn K C_Machine = true)
    (po_Machine : PySem.W.plainOver K C_Machine = true)
    (sa_Machine : PySem.W.findIn K (.ref C_Machine) "__setattr__" = some (some (.builtin "object.__setattr__")))
    (rd_Machine : PySem.W.readsIn K C_Machine (.type "type") = true)
    (ga_Machine : PySem.W.specialIn K (.ref C_Machine) "__getattribute__" = some (some (.builtin "type.__getattribute__")))
    (n_Machine_accepting : PySem.W.findIn K (.ref C_Machine) "accepting" = some none)
    (n_Machine_signs : PySem.W.findIn K (.ref C_Machine) "signs" = some none)
    (n_Machine_table : PySem.W.findIn K (.ref C_Machine) "table" = some none)
    (a_Machine_next_state : PySem.W.findIn K (.ref C_Machine) "next_state" = some (some (.ref f_Machine_next_state)))
    (fn_Machine_next_state : PySem.W.isFn K (.ref f_Machine_next_state) = true)
    (F_Machine_next_state : FunD K "next_state" "Machine.next_state" (defArgs s_Machine_next_state) (defBody s_Machine_next_state) (defScope s_Machine_next_state) [] [] f_Machine_next_state d_Machine_next_state)
    (a_Machine_state_after : PySem.W.findIn K (.ref C_Machine) "state_after" = some (some (.ref f_Machine_state_after)))
    (fn_Machine_state_after : PySem.W.isFn K (.ref f_Machine_state_after) = true)
    (F_Machine_state_after : FunD K "state_after" "Machine.state_after" (defArgs s_Machine_state_after) (defBody s_Machine_state_after) (defScope s_Machine_state_after) [] [] f_Machine_state_after d_Machine_state_after)
    (a_Machine_contains : PySem.W.findIn K (.ref C_Machine) "__contains__" = some (some (.ref f_Machine_contains)))
    (fn_Machine_contains : PySem.W.isFn K (.ref f_Machine_contains) = true)
    (F_Machine_contains : FunD K "__contains__" "Machine.__contains__" (defArgs s_Machine_contains) (defBody s_Machine_contains) (defScope s_Machine_contains) [] [] f_Machine_contains d_Machine_contains)
    (a_l_take : PySem.W.nsIn K mainGlobals "_law_take" = some (some (.ref f_l_take)))
    (F_l_take : FunD K "_law_take" "_law_take" (defArgs s_l_take) (defBody s_l_take) (defScope s_l_take) [] [] f_l_take d_l_take)
    (a_l_of : PySem.W.nsIn K mainGlobals "_law_of" = some (some (.ref f_l_of)))
    (F_l_of : FunD K "_law_of" "_law_of" (defArgs s_l_of) (defBody s_l_of) (defScope s_l_of) [] [] f_l_of d_l_of)
    (a_l_signs : PySem.W.nsIn K mainGlobals "_law_signs" = some (some (.ref f_l_signs)))
    (F_l_signs : FunD K "_law_signs" "_law_signs" (defArgs s_l_signs) (defBody s_l_signs) (defScope s_l_signs) [] [] f_l_signs d_l_signs)
    (a_l_near : PySem.W.nsIn K mainGlobals "_law_near" = some (some (.ref f_l_near)))
    (F_l_near : FunD K "_law_near" "_law_near" (defArgs s_l_near) (defBody s_l_near) (defScope s_l_near) [] [] f_l_near d_l_near)
    (a_l_digits : PySem.W.nsIn K mainGlobals "_law_digits" = some (some (.ref f_l_digits)))
    (F_l_digits : FunD K "_law_digits" "_law_digits" (defArgs s_l_digits) (defBody s_l_digits) (defScope s_l_digits) [] [] f_l_digits d_l_digits)
    (a_l_number : PySem.W.nsIn K mainGlobals "_law_number" = some (some (.ref f_l_number)))
    (F_l_number : FunD K "_law_number" "_law_number" (defArgs s_l_number) (defBody s_l_number) (defScope s_l_number) [] [] f_l_number d_l_number)
    (a_l_text : PySem.W.nsIn K mainGlobals "_law_text" = some (some (.ref f_l_text)))
    (F_l_text : FunD K "_law_text" "_law_text" (defArgs s_l_text) (defBody s_l_text) (defScope s_l_text) [] [] f_l_text d_l_text)
    (a_Machine_bool : PySem.W.findIn K (.ref C_Machine) "__bool__" = some (some (.ref f_Machine_bool)))
    (fn_Machine_bool : PySem.W.isFn K (.ref f_Machine_bool) = true)
    (F_Machine_bool : FunD K "__bool__" "Machine.__bool__" (defArgs s_Machine_bool) (defBody s_Machine_bool) (defScope s_Machine_bool) [] [] f_Machine_bool d_Machine_bool)
    (a_Machine_init : PySem.W.findIn K (.ref C_Machine) "__init__" = some (some (.ref f_Machine_init)))
    (fn_Machine_init : PySem.W.isFn K (.ref f_Machine_init) = true)
    (mk_Machine_init : PySem.W.makesIn K C_Machine = true)
    (kc_Machine_init : PySem.W.keepIn K (.ref C_Machine) = true)
    (F_Machine_init : FunD K "__init__" "Machine.__init__" (defArgs s_Machine_init) (defBody s_Machine_init) (defScope s_Machine_init) [] [] f_Machine_init d_Machine_init)
    (a_sign_classes : PySem.W.nsIn K mainGlobals "sign_classes" = some (some (.ref f_sign_classes)))
    (F_sign_classes : FunD K "sign_classes" "sign_classes" (defArgs s_sign_classes) (defBody s_sign_classes) (defScope s_sign_classes) [] [] f_sign_classes d_sign_classes)
    (a_merged : PySem.W.nsIn K mainGlobals "merged" = some (some (.ref f_merged)))
    (F_merged : FunD K "merged" "merged" (defArgs s_merged) (defBody s_merged) (defScope s_merged) [] [] f_merged d_merged)
    (a_numbered : PySem.W.nsIn K mainGlobals "numbered" = some (some (.ref f_numbered)))
    (F_numbered : FunD K "numbered" "numbered" (defArgs s_numbered) (defBody s_numbered) (defScope s_numbered) [] [] f_numbered d_numbered)
    (a_refined : PySem.W.nsIn K mainGlobals "refined" = some (some (.ref f_refined)))
    (F_refined : FunD K "refined" "refined" (defArgs s_refined) (defBody s_refined) (defScope s_refined) [] [] f_refined d_refined)
    (a_useful_states : PySem.W.nsIn K mainGlobals "useful_states" = some (some (.ref f_useful_states)))
    (F_useful_states : FunD K "useful_states" "useful_states" (defArgs s_useful_states) (defBody s_useful_states) (defScope s_useful_states) [] [] f_useful_states d_useful_states)
    (a_finished : PySem.W.nsIn K mainGlobals "finished" = some (some (.ref f_finished)))
    (F_finished : FunD K "finished" "finished" (defArgs s_finished) (defBody s_finished) (defScope s_finished) [] [] f_finished d_finished)
    (a_explored : PySem.W.nsIn K mainGlobals "explored" = some (some (.ref f_explored)))
    (F_explored : FunD K "explored" "explored" (defArgs s_explored) (defBody s_explored) (defScope s_explored) [] [] f_explored d_explored)
    (a_grown : PySem.W.nsIn K mainGlobals "grown" = some (some (.ref f_grown)))
    (F_grown : FunD K "grown" "grown" (defArgs s_grown) (defBody s_grown) (defScope s_grown) [] [] f_grown d_grown)
    (a_Machine_listing : PySem.W.findCls K (.ref C_Machine) (.type "type") "listing" = some (.get (.builtin "staticmethod.__get__") (.ref p_Machine_listing) .none (.ref C_Machine)))
    (rc_Machine_listing : ∃ rest, PySem.W.recIn K p_Machine_listing "staticmethod" = some (.ref f_Machine_listing :: rest))
    (lc_Machine_listing : codeX K f_Machine_listing C_code_Machine_listing = true)
    (lh_Machine_listing : PySem.W.codeHdIn K C_code_Machine_listing C_tab_Machine_listing = true)
    (F_Machine_listing : FunD K "listing" "Machine.listing" (defArgs s_Machine_listing) (defBody s_Machine_listing) (defScope s_Machine_listing) [] [] f_Machine_listing d_Machine_listing)
    (a_l_right : PySem.W.nsIn K mainGlobals "_law_right" = some (some (.ref f_l_right)))
    (F_l_right : FunD K "_law_right" "_law_right" (defArgs s_l_right) (defBody s_l_right) (defScope s_l_right) [] [] f_l_right d_l_right)
    (a_l_bag : PySem.W.nsIn K mainGlobals "_law_bag" = some (some (.ref f_l_bag)))
    (F_l_bag : FunD K "_law_bag" "_law_bag" (defArgs s_l_bag) (defBody s_l_bag) (defScope s_l_bag) [] [] f_l_bag d_l_bag)
    (a_law : PySem.W.nsIn K mainGlobals "law" = some (some (.ref f_law)))
    (F_law : FunD K "law" "law" (defArgs s_law) (defBody s_law) (defScope s_law) [] [] f_law d_law)
    (z_abs : PySem.W.nsIn K mainGlobals "abs" = some none)
    (z_any : PySem.W.nsIn K mainGlobals "any" = some none)
    (z_bool : PySem.W.nsIn K mainGlobals "bool" = some none)
    (z_enumerate : PySem.W.nsIn K mainGlobals "enumerate" = some none)
    (z_int : PySem.W.nsIn K mainGlobals "int" = some none)
    (z_isinstance : PySem.W.nsIn K mainGlobals "isinstance" = some none)
    (z_len : PySem.W.nsIn K mainGlobals "len" = some none)
    (z_list : PySem.W.nsIn K mainGlobals "list" = some none)
    (z_max : PySem.W.nsIn K mainGlobals "max" = some none)
    (z_min : PySem.W.nsIn K mainGlobals "min" = some none)
    (z_range : PySem.W.nsIn K mainGlobals "range" = some none)
    (z_reversed : PySem.W.nsIn K mainGlobals "reversed" = some none)
    (z_str : PySem.W.nsIn K mainGlobals "str" = some none)
    (z_tuple : PySem.W.nsIn K mainGlobals "tuple" = some none)
    (g_ALL_SIGNS : ∃ t, PySem.W.nsIn K mainGlobals "ALL_SIGNS" = some (some (.str ⟨[32, 33, 34, 35, 36, 38, 39, 40, 41, 42, 43, 44, 45, 46, 47, 48, 49, 50, 51, 52, 53, 54, 55, 56, 57, 58, 59, 60, 61, 62, 63, 64, 65, 66, 67, 68, 69, 70, 71, 72, 73, 74, 75, 76, 77, 78, 79, 80, 81, 82, 83, 84, 85, 86, 87, 88, 89, 90, 91, 92, 93, 94, 95, 96, 97, 98, 99, 100, 101, 102, 103, 104, 105, 106, 107, 108, 109, 110, 111, 112, 113, 114, 115, 116, 117, 118, 119, 120, 121, 122, 123, 124, 125, 126].toArray⟩ t))) :
    ∃ (cl : Nm) (fd : FuncData), (cl "Machine.listing.<locals>.<lambda>" = C_tab_Machine_listing) ∧ (∀ (s : Shared) (v : Value), BindsTo s fd ⟨[v], []⟩ [("_law_script", v)]) ∧ ∀ base : Heap, K.In base → base.Ns mainGlobals mg → (∀ p ∈ [(C_code_Machine_listing, C_tab_Machine_listing)], LamX.TabB base mg p.1 p.2) → _root_.G.FnOk l.prog w K mg base CX0 7 fa fd ["_law_script"] (lowSp K cl (sp_lawT ["Machine.listing.<locals>.<lambda>"])) := by
  have e := hfa.symm.trans (PySem.W.mg_of X G a_law)
  cases e
  obtain ⟨cl, e_Machine, e_tab_Machine_listing⟩ : ∃ cl : Nm, cl "Machine" = C_Machine ∧ cl "Machine.listing.<locals>.<lambda>" = C_tab_Machine_listing := ⟨nm1 "Machine" C_Machine (nm1 "Machine.listing.<locals>.<lambda>" C_tab_Machine_listing (fun _ => 0)), by simp [nm1], by simp [nm1]⟩
  subst e_Machine
  subst e_tab_Machine_listing
  have B_law := FunD.bindsA (ps := ["_law_script"]) F_law fun _ _ _ _ _ _ us hl => match us, hl with | [_], _ => rfl
  have k_Machine_next_state := F_Machine_next_state.kp
  have F_Machine_next_state := fun_ofD F_Machine_next_state
  have b_Machine_next_state := F_Machine_next_state.binds (ps := ["self", "state", "sign"]) fun _ _ _ _ _ _ us hl => match us, hl with | [_, _, _], _ => rfl
  have k_Machine_state_after := F_Machine_state_after.kp
  have F_Machine_state_after := fun_ofD F_Machine_state_after
  have b_Machine_state_after := F_Machine_state_after.binds (ps := ["self", "text"]) fun _ _ _ _ _ _ us hl => match us, hl with | [_, _], _ => rfl
  have k_Machine_contains := F_Machine_contains.kp
  have F_Machine_contains := fun_ofD F_Machine_contains
  have b_Machine_contains := F_Machine_contains.binds (ps := ["self", "thing"]) fun _ _ _ _ _ _ us hl => match us, hl with | [_, _], _ => rfl
  have k_l_take := F_l_take.kp
  have F_l_take := fun_ofD F_l_take
  have b_l_take := F_l_take.binds (ps := ["_law_bag_here", "_law_many"]) fun _ _ _ _ _ _ us hl => match us, hl with | [_, _], _ => rfl
  have k_l_of := F_l_of.kp
  have F_l_of := fun_ofD F_l_of
  have b_l_of := F_l_of.binds (ps := ["_law_bag_here", "_law_some"]) fun _ _ _ _ _ _ us hl => match us, hl with | [_, _], _ => rfl
  have k_l_signs := F_l_signs.kp
  have F_l_signs := fun_ofD F_l_signs
  have b_l_signs := F_l_signs.binds (ps := []) fun _ _ _ _ _ _ us hl => match us, hl with | [], _ => rfl
  have k_l_near := F_l_near.kp
  have F_l_near := fun_ofD F_l_near
  have b_l_near := F_l_near.binds (ps := ["_law_bag_here", "_law_text_here"]) fun _ _ _ _ _ _ us hl => match us, hl with | [_, _], _ => rfl
  have k_l_digits := F_l_digits.kp
  have F_l_digits := fun_ofD F_l_digits
  have b_l_digits := F_l_digits.binds (ps := ["_law_bag_here", "_law_least", "_law_most"]) fun _ _ _ _ _ _ us hl => match us, hl with | [_, _, _], _ => rfl
  have k_l_number := F_l_number.kp
  have F_l_number := fun_ofD F_l_number
  have b_l_number := F_l_number.binds (ps := ["_law_bag_here", "_law_most"]) fun _ _ _ _ _ _ us hl => match us, hl with | [_, _], _ => rfl
  have k_l_text := F_l_text.kp
  have F_l_text := fun_ofD F_l_text
  have b_l_text := F_l_text.binds (ps := ["_law_bag_here"]) fun _ _ _ _ _ _ us hl => match us, hl with | [_], _ => rfl
  have k_Machine_bool := F_Machine_bool.kp
  have F_Machine_bool := fun_ofD F_Machine_bool
  have b_Machine_bool := F_Machine_bool.binds (ps := ["self"]) fun _ _ _ _ _ _ us hl => match us, hl with | [_], _ => rfl
  have k_Machine_init := F_Machine_init.kp
  have F_Machine_init := fun_ofD F_Machine_init
  have b_Machine_init := F_Machine_init.binds (ps := ["self", "signs", "table", "accepting"]) fun _ _ _ _ _ _ us hl => match us, hl with | [_, _, _, _], _ => rfl
  have k_sign_classes := F_sign_classes.kp
  have F_sign_classes := fun_ofD F_sign_classes
  have b_sign_classes := F_sign_classes.binds (ps := ["marks"]) fun _ _ _ _ _ _ us hl => match us, hl with | [_], _ => rfl
  have k_merged := F_merged.kp
  have F_merged := fun_ofD F_merged
  have b_merged := F_merged.binds (ps := ["signs", "rows"]) fun _ _ _ _ _ _ us hl => match us, hl with | [_, _], _ => rfl
  have k_numbered := F_numbered.kp
  have F_numbered := fun_ofD F_numbered
  have b_numbered := F_numbered.binds (ps := ["table", "groups"]) fun _ _ _ _ _ _ us hl => match us, hl with | [_, _], _ => rfl
  have k_refined := F_refined.kp
  have F_refined := fun_ofD F_refined
  have b_refined := F_refined.binds (ps := ["table", "accepts", "useful"]) fun _ _ _ _ _ _ us hl => match us, hl with | [_, _, _], _ => rfl
  have k_useful_states := F_useful_states.kp
  have F_useful_states := fun_ofD F_useful_states
  have b_useful_states := F_useful_states.binds (ps := ["table", "accepts"]) fun _ _ _ _ _ _ us hl => match us, hl with | [_, _], _ => rfl
  have k_finished := F_finished.kp
  have F_finished := fun_ofD F_finished
  have b_finished := F_finished.binds (ps := ["signs", "table", "accepts"]) fun _ _ _ _ _ _ us hl => match us, hl with | [_, _, _], _ => rfl
  have k_explored := F_explored.kp
  have F_explored := fun_ofD F_explored
  have b_explored := F_explored.binds (ps := ["marks", "start", "step", "accepts"]) fun _ _ _ _ _ _ us hl => match us, hl with | [_, _, _, _], _ => rfl
  have k_grown := F_grown.kp
  have F_grown := fun_ofD F_grown
  have b_grown := F_grown.binds (ps := ["texts", "start"]) fun _ _ _ _ _ _ us hl => match us, hl with | [_, _], _ => rfl
  have k_Machine_listing := F_Machine_listing.kp
  have F_Machine_listing := fun_ofD F_Machine_listing
  have b_Machine_listing := F_Machine_listing.binds (ps := ["texts"]) fun _ _ _ _ _ _ us hl => match us, hl with | [_], _ => rfl
  have k_l_right := F_l_right.kp
  have F_l_right := fun_ofD F_l_right
  have b_l_right := F_l_right.binds (ps := ["_law_bag_here"]) fun _ _ _ _ _ _ us hl => match us, hl with | [_], _ => rfl
  have k_l_bag := F_l_bag.kp
  have F_l_bag := fun_ofD F_l_bag
  have b_l_bag := F_l_bag.binds (ps := ["_law_script", "_law_at"]) fun _ _ _ _ _ _ us hl => match us, hl with | [_, _], _ => rfl
  have k_law := F_law.kp
  have F_law := fun_ofD F_law
  have b_law := F_law.binds (ps := ["_law_script"]) fun _ _ _ _ _ _ us hl => match us, hl with | [_], _ => rfl
  refine ⟨cl, d_law, rfl, fun s v => B_law s [v] rfl, fun base _ _ hTB => ?_⟩
  have T : Txt K mg base ⟨cl, f_Machine_next_state, d_Machine_next_state, f_Machine_state_after, d_Machine_state_after, f_Machine_contains, d_Machine_contains, f_l_take, d_l_take, f_l_of, d_l_of, f_l_signs, d_l_signs, f_l_near, d_l_near, f_l_digits, d_l_digits, f_l_number, d_l_number, f_l_text, d_l_text, f_Machine_bool, d_Machine_bool, f_Machine_init, d_Machine_init, f_sign_classes, d_sign_classes, f_merged, d_merged, f_numbered, d_numbered, f_refined, d_refined, f_useful_states, d_useful_states, f_finished, d_finished, f_explored, d_explored, f_grown, d_grown, f_Machine_listing, d_Machine_listing, p_Machine_listing, C_code_Machine_listing, (cl "Machine.listing.<locals>.<lambda>"), f_l_right, d_l_right, f_l_bag, d_l_bag, fa, d_law⟩ := {
    f_Machine_next_state := F_Machine_next_state
    b_Machine_next_state := b_Machine_next_state
    h_Machine_next_state := ⟨a_Machine_next_state, fn_Machine_next_state, k_Machine_next_state⟩
    f_Machine_state_after := F_Machine_state_after
    b_Machine_state_after := b_Machine_state_after
    h_Machine_state_after := ⟨a_Machine_state_after, fn_Machine_state_after, k_Machine_state_after⟩
    f_Machine_contains := F_Machine_contains
    b_Machine_contains := b_Machine_contains
    h_Machine_contains := ⟨a_Machine_contains, fn_Machine_contains⟩
    f_l_take := F_l_take
    b_l_take := b_l_take
    m_l_take := PySem.W.mg_of X G a_l_take
    kp_l_take := k_l_take
    f_l_of := F_l_of
    b_l_of := b_l_of
    m_l_of := PySem.W.mg_of X G a_l_of
    kp_l_of := k_l_of
    f_l_signs := F_l_signs
    b_l_signs := b_l_signs
    m_l_signs := PySem.W.mg_of X G a_l_signs
    kp_l_signs := k_l_signs
    f_l_near := F_l_near
    b_l_near := b_l_near
    m_l_near := PySem.W.mg_of X G a_l_near
    kp_l_near := k_l_near
    f_l_digits := F_l_digits
    b_l_digits := b_l_digits
    m_l_digits := PySem.W.mg_of X G a_l_digits
    kp_l_digits := k_l_digits
    f_l_number := F_l_number
    b_l_number := b_l_number
    m_l_number := PySem.W.mg_of X G a_l_number
    kp_l_number := k_l_number
    f_l_text := F_l_text
    b_l_text := b_l_text
    m_l_text := PySem.W.mg_of X G a_l_text
    kp_l_text := k_l_text
    f_Machine_bool := F_Machine_bool
    b_Machine_bool := b_Machine_bool
    h_Machine_bool := ⟨a_Machine_bool, fn_Machine_bool⟩
    f_Machine_init := F_Machine_init
    b_Machine_init := b_Machine_init
    h_Machine_init := ⟨mk_Machine_init, a_Machine_init, fn_Machine_init, kc_Machine_init⟩
    f_sign_classes := F_sign_classes
    b_sign_classes := b_sign_classes
    m_sign_classes := PySem.W.mg_of X G a_sign_classes
    kp_sign_classes := k_sign_classes
    f_merged := F_merged
    b_merged := b_merged
    m_merged := PySem.W.mg_of X G a_merged
    kp_merged := k_merged
    f_numbered := F_numbered
    b_numbered := b_numbered
    m_numbered := PySem.W.mg_of X G a_numbered
    kp_numbered := k_numbered
    f_refined := F_refined
    b_refined := b_refined
    m_refined := PySem.W.mg_of X G a_refined
    kp_refined := k_refined
    f_useful_states := F_useful_states
    b_useful_states := b_useful_states
    m_useful_states := PySem.W.mg_of X G a_useful_states
    kp_useful_states := k_useful_states
    f_finished := F_finished
    b_finished := b_finished
    m_finished := PySem.W.mg_of X G a_finished
    kp_finished := k_finished
    f_explored := F_explored
    b_explored := b_explored
    m_explored := PySem.W.mg_of X G a_explored
    kp_explored := k_explored
    f_grown := F_grown
    b_grown := b_grown
    m_grown := PySem.W.mg_of X G a_grown
    kp_grown := k_grown
    f_Machine_listing := F_Machine_listing
    b_Machine_listing := b_Machine_listing
    h_Machine_listing := ⟨a_Machine_listing, rc_Machine_listing, k_Machine_listing⟩
    lc_Machine_listing := codeX_ok F_Machine_listing lc_Machine_listing
    tb_Machine_listing := hTB (C_code_Machine_listing, cl "Machine.listing.<locals>.<lambda>") (by simp)
    lp_Machine_listing := rfl
    f_l_right := F_l_right
    b_l_right := b_l_right
    m_l_right := PySem.W.mg_of X G a_l_right
    kp_l_right := k_l_right
    f_l_bag := F_l_bag
    b_l_bag := b_l_bag
    m_l_bag := PySem.W.mg_of X G a_l_bag
    kp_l_bag := k_l_bag
    f_law := F_law
    b_law := b_law
    m_law := PySem.W.mg_of X G a_law
    kp_law := k_law
    c_Machine := ⟨pg_Machine, hd_Machine, po_Machine, sa_Machine⟩
    m_Machine := PySem.W.mg_of X G a_Machine
    r_Machine := ⟨rd_Machine, ga_Machine⟩
    n_Machine_accepting := n_Machine_accepting
    n_Machine_signs := n_Machine_signs
    n_Machine_table := n_Machine_table
    z_abs := PySem.W.mg_none_of X G z_abs
    z_any := PySem.W.mg_none_of X G z_any
    z_bool := PySem.W.mg_none_of X G z_bool
    z_enumerate := PySem.W.mg_none_of X G z_enumerate
    z_int := PySem.W.mg_none_of X G z_int
    z_isinstance := PySem.W.mg_none_of X G z_isinstance
    z_len := PySem.W.mg_none_of X G z_len
    z_list := PySem.W.mg_none_of X G z_list
    z_max := PySem.W.mg_none_of X G z_max
    z_min := PySem.W.mg_none_of X G z_min
    z_range := PySem.W.mg_none_of X G z_range
    z_reversed := PySem.W.mg_none_of X G z_reversed
    z_str := PySem.W.mg_none_of X G z_str
    z_tuple := PySem.W.mg_none_of X G z_tuple
    g_ALL_SIGNS := ⟨g_ALL_SIGNS.choose, PySem.W.mg_of X G g_ALL_SIGNS.choose_spec⟩
  }
  exact ok_law T
theorem facts {l : PySem.W.OpenLaw} {w : World} {K : PySem.W.Frag} {h : Heap} {mg : Str → Option Value} {f : Addr} (X : K.In h) (G : h.Ns mainGlobals mg) (hfa : mg ("law" : Str) = some (.ref f)) (c : SaysX fa fn K) :
    ∃ (cl : Nm) (fd : FuncData), (cl "Machine.listing.<locals>.<lambda>" = 105) ∧ (∀ (s : Shared) (v : Value), BindsTo s fd ⟨[v], []⟩ [("_law_script", v)]) ∧ ∀ base : Heap, K.In base → base.Ns mainGlobals mg → (∀ p ∈ ([(107, 105)] : List (Addr × Addr)), LamX.TabB base mg p.1 p.2) → _root_.G.FnOk l.prog w K mg base CX0 7 f fd ["_law_script"] (lowSp K cl (sp_lawT ["Machine.listing.<locals>.<lambda>"])) := by
  have a_Machine : PySem.W.nsIn K mainGlobals "Machine" = some (some (.ref 238)) := of_decide_eq_true (c.fact 0 0 (l := fa0) rfl rfl)
  have pg_Machine : PySem.W.plainGet K 238 Str.empty = true := of_decide_eq_true (c.fact 0 1 (l := fa0) rfl rfl)
  have hd_Machine : PySem.W.hasDictIn K 238 = true := of_decide_eq_true (c.fact 0 2 (l := fa0) rfl rfl)
  have po_Machine : PySem.W.plainOver K 238 = true := of_decide_eq_true (c.fact 0 3 (l := fa0) rfl rfl)
  have sa_Machine : PySem.W.findIn K (.ref 238) "__setattr__" = some (some (.builtin "object.__setattr__")) := of_decide_eq_true (c.fact 0 4 (l := fa0) rfl rfl)
  have rd_Machine : PySem.W.readsIn K 238 (.type "type") = true := of_decide_eq_true (c.fact 0 5 (l := fa0) rfl rfl)
  have ga_Machine : PySem.W.specialIn K (.ref 238) "__getattribute__" = some (some (.builtin "type.__getattribute__")) := of_decide_eq_true (c.fact 0 6 (l := fa0) rfl rfl)
  have n_Machine_accepting : PySem.W.findIn K (.ref 238) "accepting" = some none := of_decide_eq_true (c.fact 0 7 (l := fa0) rfl rfl)
  have n_Machine_signs : PySem.W.findIn K (.ref 238) "signs" = some none := of_decide_eq_true (c.fact 0 8 (l := fa0) rfl rfl)
  have n_Machine_table : PySem.W.findIn K (.ref 238) "table" = some none := of_decide_eq_true (c.fact 0 9 (l := fa0) rfl rfl)
  have a_Machine_next_state : PySem.W.findIn K (.ref 238) "next_state" = some (some (.ref 136)) := of_decide_eq_true (c.fact 0 10 (l := fa0) rfl rfl)
  have fn_Machine_next_state : PySem.W.isFn K (.ref 136) = true := of_decide_eq_true (c.fact 0 11 (l := fa0) rfl rfl)
  obtain ⟨d_Machine_next_state, F_Machine_next_state⟩ := c.fun_ 0 (d := ⟨136, "next_state", "Machine.next_state", s_Machine_next_state, [], []⟩) rfl
  have a_Machine_state_after : PySem.W.findIn K (.ref 238) "state_after" = some (some (.ref 143)) := of_decide_eq_true (c.fact 0 12 (l := fa0) rfl rfl)
  have fn_Machine_state_after : PySem.W.isFn K (.ref 143) = true := of_decide_eq_true (c.fact 0 13 (l := fa0) rfl rfl)
  obtain ⟨d_Machine_state_after, F_Machine_state_after⟩ := c.fun_ 1 (d := ⟨143, "state_after", "Machine.state_after", s_Machine_state_after, [], []⟩) rfl
  have a_Machine_contains : PySem.W.findIn K (.ref 238) "__contains__" = some (some (.ref 172)) := of_decide_eq_true (c.fact 0 14 (l := fa0) rfl rfl)
  have fn_Machine_contains : PySem.W.isFn K (.ref 172) = true := of_decide_eq_true (c.fact 0 15 (l := fa0) rfl rfl)
  obtain ⟨d_Machine_contains, F_Machine_contains⟩ := c.fun_ 2 (d := ⟨172, "__contains__", "Machine.__contains__", s_Machine_contains, [], []⟩) rfl
  have a_l_take : PySem.W.nsIn K mainGlobals "_law_take" = some (some (.ref 261)) := of_decide_eq_true (c.fact 0 16 (l := fa0) rfl rfl)
  obtain ⟨d_l_take, F_l_take⟩ := c.fun_ 3 (d := ⟨261, "_law_take", "_law_take", s_l_take, [], []⟩) rfl
  have a_l_of : PySem.W.nsIn K mainGlobals "_law_of" = some (some (.ref 268)) := of_decide_eq_true (c.fact 0 17 (l := fa0) rfl rfl)
  obtain ⟨d_l_of, F_l_of⟩ := c.fun_ 4 (d := ⟨268, "_law_of", "_law_of", s_l_of, [], []⟩) rfl
  have a_l_signs : PySem.W.nsIn K mainGlobals "_law_signs" = some (some (.ref 275)) := of_decide_eq_true (c.fact 0 18 (l := fa0) rfl rfl)
  obtain ⟨d_l_signs, F_l_signs⟩ := c.fun_ 5 (d := ⟨275, "_law_signs", "_law_signs", s_l_signs, [], []⟩) rfl
  have a_l_near : PySem.W.nsIn K mainGlobals "_law_near" = some (some (.ref 301)) := of_decide_eq_true (c.fact 0 19 (l := fa0) rfl rfl)
  obtain ⟨d_l_near, F_l_near⟩ := c.fun_ 6 (d := ⟨301, "_law_near", "_law_near", s_l_near, [], []⟩) rfl
  have a_l_digits : PySem.W.nsIn K mainGlobals "_law_digits" = some (some (.ref 282)) := of_decide_eq_true (c.fact 0 20 (l := fa0) rfl rfl)
  obtain ⟨d_l_digits, F_l_digits⟩ := c.fun_ 7 (d := ⟨282, "_law_digits", "_law_digits", s_l_digits, [], []⟩) rfl
  have a_l_number : PySem.W.nsIn K mainGlobals "_law_number" = some (some (.ref 289)) := of_decide_eq_true (c.fact 0 21 (l := fa0) rfl rfl)
  obtain ⟨d_l_number, F_l_number⟩ := c.fun_ 8 (d := ⟨289, "_law_number", "_law_number", s_l_number, [], []⟩) rfl
  have a_l_text : PySem.W.nsIn K mainGlobals "_law_text" = some (some (.ref 294)) := of_decide_eq_true (c.fact 0 22 (l := fa0) rfl rfl)
  obtain ⟨d_l_text, F_l_text⟩ := c.fun_ 9 (d := ⟨294, "_law_text", "_law_text", s_l_text, [], []⟩) rfl
  have a_Machine_bool : PySem.W.findIn K (.ref 238) "__bool__" = some (some (.ref 186)) := of_decide_eq_true (c.fact 0 23 (l := fa0) rfl rfl)
  have fn_Machine_bool : PySem.W.isFn K (.ref 186) = true := of_decide_eq_true (c.fact 0 24 (l := fa0) rfl rfl)
  obtain ⟨d_Machine_bool, F_Machine_bool⟩ := c.fun_ 10 (d := ⟨186, "__bool__", "Machine.__bool__", s_Machine_bool, [], []⟩) rfl
  have a_Machine_init : PySem.W.findIn K (.ref 238) "__init__" = some (some (.ref 93)) := of_decide_eq_true (c.fact 0 25 (l := fa0) rfl rfl)
  have fn_Machine_init : PySem.W.isFn K (.ref 93) = true := of_decide_eq_true (c.fact 0 26 (l := fa0) rfl rfl)
  have mk_Machine_init : PySem.W.makesIn K 238 = true := of_decide_eq_true (c.fact 0 27 (l := fa0) rfl rfl)
  have kc_Machine_init : PySem.W.keepIn K (.ref 238) = true := of_decide_eq_true (c.fact 0 28 (l := fa0) rfl rfl)
  obtain ⟨d_Machine_init, F_Machine_init⟩ := c.fun_ 11 (d := ⟨93, "__init__", "Machine.__init__", s_Machine_init, [], []⟩) rfl
  have a_sign_classes : PySem.W.nsIn K mainGlobals "sign_classes" = some (some (.ref 28)) := of_decide_eq_true (c.fact 0 29 (l := fa0) rfl rfl)
  obtain ⟨d_sign_classes, F_sign_classes⟩ := c.fun_ 12 (d := ⟨28, "sign_classes", "sign_classes", s_sign_classes, [], []⟩) rfl
  have a_merged : PySem.W.nsIn K mainGlobals "merged" = some (some (.ref 50)) := of_decide_eq_true (c.fact 0 30 (l := fa0) rfl rfl)
  obtain ⟨d_merged, F_merged⟩ := c.fun_ 13 (d := ⟨50, "merged", "merged", s_merged, [], []⟩) rfl
  have a_numbered : PySem.W.nsIn K mainGlobals "numbered" = some (some (.ref 45)) := of_decide_eq_true (c.fact 0 31 (l := fa0) rfl rfl)
  obtain ⟨d_numbered, F_numbered⟩ := c.fun_ 14 (d := ⟨45, "numbered", "numbered", s_numbered, [], []⟩) rfl
  have a_refined : PySem.W.nsIn K mainGlobals "refined" = some (some (.ref 38)) := of_decide_eq_true (c.fact 0 32 (l := fa0) rfl rfl)
  obtain ⟨d_refined, F_refined⟩ := c.fun_ 15 (d := ⟨38, "refined", "refined", s_refined, [], []⟩) rfl
  have a_useful_states : PySem.W.nsIn K mainGlobals "useful_states" = some (some (.ref 33)) := of_decide_eq_true (c.fact 0 33 (l := fa0) rfl rfl)
  obtain ⟨d_useful_states, F_useful_states⟩ := c.fun_ 16 (d := ⟨33, "useful_states", "useful_states", s_useful_states, [], []⟩) rfl
  have a_finished : PySem.W.nsIn K mainGlobals "finished" = some (some (.ref 55)) := of_decide_eq_true (c.fact 0 34 (l := fa0) rfl rfl)
  obtain ⟨d_finished, F_finished⟩ := c.fun_ 17 (d := ⟨55, "finished", "finished", s_finished, [], []⟩) rfl
  have a_explored : PySem.W.nsIn K mainGlobals "explored" = some (some (.ref 79)) := of_decide_eq_true (c.fact 0 35 (l := fa0) rfl rfl)
  obtain ⟨d_explored, F_explored⟩ := c.fun_ 18 (d := ⟨79, "explored", "explored", s_explored, [], []⟩) rfl
  have a_grown : PySem.W.nsIn K mainGlobals "grown" = some (some (.ref 247)) := of_decide_eq_true (c.fact 0 36 (l := fa0) rfl rfl)
  obtain ⟨d_grown, F_grown⟩ := c.fun_ 19 (d := ⟨247, "grown", "grown", s_grown, [], []⟩) rfl
  have a_Machine_listing : PySem.W.findCls K (.ref 238) (.type "type") "listing" = some (.get (.builtin "staticmethod.__get__") (.ref 110) .none (.ref 238)) := getX_ok (c.fact 0 37 (l := fa0) rfl rfl)
  have rc_Machine_listing : ∃ rest, PySem.W.recIn K 110 "staticmethod" = some (.ref 108 :: rest) := recX_ok (c.fact 0 38 (l := fa0) rfl rfl)
  have lc_Machine_listing : codeX K 108 107 = true := of_decide_eq_true (c.fact 0 39 (l := fa0) rfl rfl)
  have lh_Machine_listing : PySem.W.codeHdIn K 107 105 = true := of_decide_eq_true (c.fact 1 0 (l := fa1) rfl rfl)
  obtain ⟨d_Machine_listing, F_Machine_listing⟩ := c.fun_ 20 (d := ⟨108, "listing", "Machine.listing", s_Machine_listing, [], []⟩) rfl
  have a_l_right : PySem.W.nsIn K mainGlobals "_law_right" = some (some (.ref 306)) := of_decide_eq_true (c.fact 1 1 (l := fa1) rfl rfl)
  obtain ⟨d_l_right, F_l_right⟩ := c.fun_ 21 (d := ⟨306, "_law_right", "_law_right", s_l_right, [], []⟩) rfl
  have a_l_bag : PySem.W.nsIn K mainGlobals "_law_bag" = some (some (.ref 254)) := of_decide_eq_true (c.fact 1 2 (l := fa1) rfl rfl)
  obtain ⟨d_l_bag, F_l_bag⟩ := c.fun_ 22 (d := ⟨254, "_law_bag", "_law_bag", s_l_bag, [], []⟩) rfl
  have a_law : PySem.W.nsIn K mainGlobals "law" = some (some (.ref 313)) := of_decide_eq_true (c.fact 1 3 (l := fa1) rfl rfl)
  obtain ⟨d_law, F_law⟩ := c.fun_ 23 (d := ⟨313, "law", "law", s_law, [], []⟩) rfl
  have z_abs : PySem.W.nsIn K mainGlobals "abs" = some none := of_decide_eq_true (c.fact 1 4 (l := fa1) rfl rfl)
  have z_any : PySem.W.nsIn K mainGlobals "any" = some none := of_decide_eq_true (c.fact 1 5 (l := fa1) rfl rfl)
  have z_bool : PySem.W.nsIn K mainGlobals "bool" = some none := of_decide_eq_true (c.fact 1 6 (l := fa1) rfl rfl)
  have z_enumerate : PySem.W.nsIn K mainGlobals "enumerate" = some none := of_decide_eq_true (c.fact 1 7 (l := fa1) rfl rfl)
  have z_int : PySem.W.nsIn K mainGlobals "int" = some none := of_decide_eq_true (c.fact 1 8 (l := fa1) rfl rfl)
  have z_isinstance : PySem.W.nsIn K mainGlobals "isinstance" = some none := of_decide_eq_true (c.fact 1 9 (l := fa1) rfl rfl)
  have z_len : PySem.W.nsIn K mainGlobals "len" = some none := of_decide_eq_true (c.fact 1 10 (l := fa1) rfl rfl)
  have z_list : PySem.W.nsIn K mainGlobals "list" = some none := of_decide_eq_true (c.fact 1 11 (l := fa1) rfl rfl)
  have z_max : PySem.W.nsIn K mainGlobals "max" = some none := of_decide_eq_true (c.fact 1 12 (l := fa1) rfl rfl)
  have z_min : PySem.W.nsIn K mainGlobals "min" = some none := of_decide_eq_true (c.fact 1 13 (l := fa1) rfl rfl)
  have z_range : PySem.W.nsIn K mainGlobals "range" = some none := of_decide_eq_true (c.fact 1 14 (l := fa1) rfl rfl)
  have z_reversed : PySem.W.nsIn K mainGlobals "reversed" = some none := of_decide_eq_true (c.fact 1 15 (l := fa1) rfl rfl)
  have z_str : PySem.W.nsIn K mainGlobals "str" = some none := of_decide_eq_true (c.fact 1 16 (l := fa1) rfl rfl)
  have z_tuple : PySem.W.nsIn K mainGlobals "tuple" = some none := of_decide_eq_true (c.fact 1 17 (l := fa1) rfl rfl)
  have g_ALL_SIGNS : ∃ t, PySem.W.nsIn K mainGlobals "ALL_SIGNS" = some (some (.str ⟨[32, 33, 34, 35, 36, 38, 39, 40, 41, 42, 43, 44, 45, 46, 47, 48, 49, 50, 51, 52, 53, 54, 55, 56, 57, 58, 59, 60, 61, 62, 63, 64, 65, 66, 67, 68, 69, 70, 71, 72, 73, 74, 75, 76, 77, 78, 79, 80, 81, 82, 83, 84, 85, 86, 87, 88, 89, 90, 91, 92, 93, 94, 95, 96, 97, 98, 99, 100, 101, 102, 103, 104, 105, 106, 107, 108, 109, 110, 111, 112, 113, 114, 115, 116, 117, 118, 119, 120, 121, 122, 123, 124, 125, 126].toArray⟩ t)) := strX_ok (c.fact 1 18 (l := fa1) rfl rfl)
  exact all_mk X G hfa a_Machine pg_Machine hd_Machine po_Machine sa_Machine rd_Machine ga_Machine n_Machine_accepting n_Machine_signs n_Machine_table a_Machine_next_state fn_Machine_next_state F_Machine_next_state a_Machine_state_after fn_Machine_state_after F_Machine_state_after a_Machine_contains fn_Machine_contains F_Machine_contains a_l_take F_l_take a_l_of F_l_of a_l_signs F_l_signs a_l_near F_l_near a_l_digits F_l_digits a_l_number F_l_number a_l_text F_l_text a_Machine_bool fn_Machine_bool F_Machine_bool a_Machine_init fn_Machine_init mk_Machine_init kc_Machine_init F_Machine_init a_sign_classes F_sign_classes a_merged F_merged a_numbered F_numbered a_refined F_refined a_useful_states F_useful_states a_finished F_finished a_explored F_explored a_grown F_grown a_Machine_listing rc_Machine_listing lc_Machine_listing lh_Machine_listing F_Machine_listing a_l_right F_l_right a_l_bag F_l_bag a_law F_law z_abs z_any z_bool z_enumerate z_int z_isinstance z_len z_list z_max z_min z_range z_reversed z_str z_tuple g_ALL_SIGNS
end Lw
open PySem PySem.W PySem.Calls PyProof.Rows
set_option maxRecDepth 100000 in
set_option maxHeartbeats 0 in
theorem PySem.Challenge.cw_guessedkinds_k01_texts_of_a_list_holds : PySem.Challenge.rw_guessedkinds_k01_texts_of_a_list.Holds := by
  refine Lw.pre ?_
  · refine G.walk_G (l := PySem.Challenge.rw_guessedkinds_k01_texts_of_a_list) (n := 63) (k := 7) (x := "_law_script") (CX := L2.CX0) rfl (by decide) (by kernel_rfl) ⟨rfl, by decide, by decide⟩ ?F (fun _ _ _ _ z => z)
    intro w mg fa h Y Gn hmg0
    obtain ⟨K, KX, c, ct⟩ := Y
    have hmg : mg ("law" : PySem.Str) = some (.ref fa) := by
      have e : (HandSHeadRun.topDef (OpenLaw.row PySem.Challenge.rw_guessedkinds_k01_texts_of_a_list).prog 25).name = ("law" : PySem.Str) := by kernel_rfl
      rw [← e]
      exact hmg0
    obtain ⟨cl, fd, q0, hb, hF⟩ := Lw.facts (l := PySem.Challenge.rw_guessedkinds_k01_texts_of_a_list) (w := w) KX Gn hmg c
    refine ⟨K, fd, [(107, 105)], G.lowSp K cl (G.sp_lawT ["Machine.listing.<locals>.<lambda>"]), KX, ?_, ?_, ?_, hb, fun H a ns hl hH hS => G.law_inT ["Machine.listing.<locals>.<lambda>"] ns hl (fun x hx => ?_) (fun x hx y hy e => ?_) hS, fun base h1 h2 h3 => hF base h1 h2 h3⟩
    · intro p hp
      simp only [List.mem_cons, List.not_mem_nil, or_false] at hp
      rcases hp with rfl <;> exact (ct _ (by simp)).2
    · intro p hp
      simp only [List.mem_cons, List.not_mem_nil, or_false] at hp
      rcases hp with rfl <;> exact (ct _ (by simp)).1
    · intro p hp
      simp only [List.mem_cons, List.not_mem_nil, or_false] at hp
      rcases hp with rfl
      · exact of_decide_eq_true (c.fact 1 0 (l := Lw.fa1) rfl rfl)
    · simp only [List.mem_cons, List.not_mem_nil, or_false] at hx
      rcases hx with rfl
      · rw [q0]; exact hH (107, 105) (by simp)
    · simp only [List.mem_cons, List.not_mem_nil, or_false] at hx hy
      rcases hx with rfl <;> rcases hy with rfl <;> first | rfl | (exfalso; simp only [q0] at e; revert e; decide)
