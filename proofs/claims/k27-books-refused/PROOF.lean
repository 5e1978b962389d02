import PyProof.Rows.All
import Wide.All
import OpenK.AllK
import Wide.FinOn
import HandS.ForMost
import HandS.Rev
import HandS.Wide
import HandS.StrMore
import HandS.TupAny
import HandS.IsInst
import HandS.MakeKwOnly
import HandS.ClsMeth
import HandS.Star
import KE.KOpsOwn
import HandS.FStr
import HandS.Style
import PyProof.P3Eq
import KE.KFmtOwn
import HandS.OwnEq
import HandS.DictComp
import HandS.Property
import KE.GoesEnum
import KE.GoesZip
import KE.KRevSl
import HandS.Strs
import HandS.SetKeys
import HandS.WordsExc
import HandS.ExcInit
import HandS.ExcField
import KE.KExcIs
import HandS.ExcIs
import KE.KExcInit
import KE.KExcLine
import HandS.Deep
import HandS.Ends
import HandS.Words
import HandS.Head0
import HandS.Head1
import HandS.Head2
import HandS.HeadEnd
import HandS.HeadHook1
import HandS.HeadHook2
import KE.RegKIsAll
import PySem.Challenge.RW_guessedkinds_k27_books_refused
set_option Elab.async false
set_option linter.all false
set_option maxRecDepth 100000
set_option maxHeartbeats 4000000
namespace G
open PySem PySem.Spec PyProof.Rows L2
/-! ### the head by one run in the kernel: facts of the module's things at told places -/
abbrev FaX := PySem.W.Frag → Bool
/-- a def: its place, its statement, its defaults -/
structure DefG where
  ad : Addr
  nm : Str
  ql : Str
  st : Stmt
  dfl : List V := []
  kwd : List (Str × V) := []
def seenF (K : PySem.W.Frag) (a : Addr) : He.FnW := (K.lookup a).bind fun o => match o with
  | ⟨_, _, .func z, _⟩ => some (z.name, z.qualname, z.params, z.body, z.scope, z.globals, z.closure, z.builtins)
  | _ => none
def DefG.tells (d : DefG) : He.FnW := some (d.nm, d.ql, defArgs d.st, .stmts (defBody d.st), defScope d.st, mainGlobals, [], builtinsNs)
def DefG.good (K : PySem.W.Frag) (d : DefG) : Bool := PySem.W.keepIn K (.ref d.ad) && ((K.lookup d.ad).any fun o => match o with
  | ⟨_, _, .func z, _⟩ => PySem.W.codeIn K z.code d.ql && (He.dflB K z.defaults d.dfl && He.kwdB K z.kwdefaults d.kwd)
  | _ => false)
theorem DefG.funD {K : PySem.W.Frag} {d : DefG} (e : seenF K d.ad = d.tells) (c : d.good K = true) : ∃ z, FunD K d.nm d.ql (defArgs d.st) (defBody d.st) (defScope d.st) d.dfl d.kwd d.ad z := by
  unfold DefG.good at c
  rw [Bool.and_eq_true] at c
  obtain ⟨kp, c⟩ := c
  unfold seenF at e
  cases hl : K.lookup d.ad with
  | none => rw [hl] at c; cases c
  | some o =>
    rw [hl] at c e
    obtain ⟨oc, od, dt, sl⟩ := o
    cases dt with
    | func z =>
      obtain ⟨z1, z2, z3, z4, z5, z6, z7, z8, z9, z10, z11, z12, z13, z14, z15⟩ := z
      have e' : (some (z1, z2, z3, z4, z5, z6, z7, z15) : He.FnW) = some (d.nm, d.ql, defArgs d.st, .stmts (defBody d.st), defScope d.st, mainGlobals, [], builtinsNs) := e
      injection e' with e'
      simp only [Prod.mk.injEq] at e'
      obtain ⟨rfl, rfl, rfl, rfl, rfl, rfl, rfl, rfl⟩ := e'
      have c' : (PySem.W.codeIn K z13 d.ql && (He.dflB K z8 d.dfl && He.kwdB K z9 d.kwd)) = true := c
      simp only [Bool.and_eq_true] at c'
      exact ⟨_, ⟨oc, od, z8, z9, z10, z11, z12, z13, z14, sl, rfl, hl, c'.1, He.dflB_ok c'.2.1, He.kwdB_ok c'.2.2⟩, kp⟩
    | _ => cases c
theorem fun_ofD {K : PySem.W.Frag} {x q : Str} {st : Stmt} {f : Addr} {z : FuncData} (F : FunD K x q (defArgs st) (defBody st) (defScope st) [] [] f z) : Fun K x q st f z := by
  obtain ⟨oc, od, dV, kV, doc, pm, an, cdv, ct, sl, e, lk, hc, hd, _⟩ := F.ex
  rcases hd with ⟨_, rfl⟩ | ⟨h, _⟩
  · exact ⟨⟨oc, od, kV, doc, pm, an, cdv, ct, sl, e, lk, hc⟩, F.kp⟩
  · exact absurd rfl h
def obsX (as : List Addr) (fa : List (List FaX)) (fn : List DefG) (g : Addr → Option Obj) : Bool × List He.FnW :=
  ((fa.all fun l => l.all fun f => f (He.frG g as)) && (fn.all fun d => d.good (He.frG g as)), fn.map fun d => seenF (He.frG g as) d.ad)
def SaysX (fa : List (List FaX)) (fn : List DefG) (K : PySem.W.Frag) : Prop := ((fa.all fun l => l.all fun f => f K) && (fn.all fun d => d.good K), fn.map fun d => seenF K d.ad) = (true, fn.map DefG.tells)
def hookX (as : List Addr) (fa : List (List FaX)) (fn : List DefG) : PySem.W.Hook where
  α := Bool × List He.FnW
  obs := fun s => obsX as fa fn s.heap.get?
  val := fun _ => (true, fn.map DefG.tells)
  says := fun _ h => ∃ K : PySem.W.Frag, K.In h ∧ SaysX fa fn K
  of := fun _ _ e => ⟨_, He.frG_in, e⟩
  keeps := fun _ _ _ ⟨K, hK, c⟩ k => ⟨K, PySem.W.Frag.In.keeps hK k, c⟩
theorem obsX_eq {as : List Addr} {fa : List (List FaX)} {fn : List DefG} {g : Addr → Option Obj} {s : Shared} (h : ∀ a, g a = s.heap.get? a) : obsX as fa fn g = (hookX as fa fn).obs s := by
  have e : g = s.heap.get? := funext h
  rw [e]
  rfl
section
variable {fa : List (List FaX)} {fn : List DefG} {K : PySem.W.Frag}
theorem SaysX.fact (c : SaysX fa fn K) (i j : Nat) {l : List FaX} {f : FaX} (h : fa[i]? = some l := by rfl) (h2 : l[j]? = some f := by rfl) : f K = true := by
  have c1 : ((fa.all fun l => l.all fun f => f K) && (fn.all fun d => d.good K)) = true := congrArg Prod.fst c
  rw [Bool.and_eq_true] at c1
  exact List.all_eq_true.mp (List.all_eq_true.mp c1.1 l (List.mem_of_getElem? h)) f (List.mem_of_getElem? h2)
theorem SaysX.fun_ (c : SaysX fa fn K) (i : Nat) {d : DefG} (h : fn[i]? = some d := by rfl) : ∃ z, FunD K d.nm d.ql (defArgs d.st) (defBody d.st) (defScope d.st) d.dfl d.kwd d.ad z := by
  have c1 : ((fa.all fun l => l.all fun f => f K) && (fn.all fun d => d.good K)) = true := congrArg Prod.fst c
  rw [Bool.and_eq_true] at c1
  have c2 : fn.map (fun d => seenF K d.ad) = fn.map DefG.tells := congrArg Prod.snd c
  have c3 := congrArg (fun l => l[i]?) c2
  simp only [List.getElem?_map, h, Option.map_some, Option.some.injEq] at c3
  exact DefG.funD c3 (List.all_eq_true.mp c1.2 d (List.mem_of_getElem? h))
end
/-! facts that are no equations one can decide -/
def getX (K : PySem.W.Frag) (C : Addr) (x : Str) (g : String) (p : Addr) : Bool := match PySem.W.findCls K (.ref C) (.type "type") x with
  | some (.get a b c d) => decide (a = .builtin g ∧ b = .ref p ∧ c = .none ∧ d = .ref C)
  | _ => false
theorem getX_ok {K : PySem.W.Frag} {C p : Addr} {x : Str} {g : String} (h : getX K C x g p = true) : PySem.W.findCls K (.ref C) (.type "type") x = some (.get (.builtin g) (.ref p) .none (.ref C)) := by
  unfold getX at h
  split at h
  · rename_i a b c d e
    obtain ⟨rfl, rfl, rfl, rfl⟩ := of_decide_eq_true h
    exact e
  · cases h
def valX (K : PySem.W.Frag) (c : Value) (x : Str) (v : Value) : Bool := match PySem.W.findCls K c (.type "type") x with
  | some (.val a) => decide (a = v)
  | _ => false
theorem valX_ok {K : PySem.W.Frag} {c v : Value} {x : Str} (h : valX K c x v = true) : PySem.W.findCls K c (.type "type") x = some (.val v) := by
  unfold valX at h
  split at h
  · rename_i a e
    have := of_decide_eq_true h
    subst this
    exact e
  · cases h
def recX (K : PySem.W.Frag) (p : Addr) (T : String) (f : Addr) : Bool := match PySem.W.recIn K p T with
  | some (a :: _) => decide (a = .ref f)
  | _ => false
theorem recX_ok {K : PySem.W.Frag} {p f : Addr} {T : String} (h : recX K p T f = true) : ∃ rest, PySem.W.recIn K p T = some (.ref f :: rest) := by
  unfold recX at h
  split at h
  · rename_i a r e
    have := of_decide_eq_true h
    subst this
    exact ⟨r, e⟩
  · cases h
def intX (K : PySem.W.Frag) (x : Str) (i : Int) : Bool := match PySem.W.nsIn K mainGlobals x with
  | some (some (.int j _)) => decide (j = i)
  | _ => false
theorem intX_ok {K : PySem.W.Frag} {x : Str} {i : Int} (h : intX K x i = true) : ∃ t, PySem.W.nsIn K mainGlobals x = some (some (.int i t)) := by
  unfold intX at h
  split at h
  · rename_i j t e
    have := of_decide_eq_true h
    subst this
    exact ⟨t, e⟩
  · cases h
def strX (K : PySem.W.Frag) (x z : Str) : Bool := match PySem.W.nsIn K mainGlobals x with
  | some (some (.str y _)) => decide (y = z)
  | _ => false
theorem strX_ok {K : PySem.W.Frag} {x z : Str} (h : strX K x z = true) : ∃ t, PySem.W.nsIn K mainGlobals x = some (some (.str z t)) := by
  unfold strX at h
  split at h
  · rename_i j t e
    have := of_decide_eq_true h
    subst this
    exact ⟨t, e⟩
  · cases h
def tupX (K : PySem.W.Frag) (a : Addr) (vs : List V) : Bool := (K.lookup a).any fun o => match o with
  | ⟨.type c, _, .seq its _, _⟩ => decide (c = "tuple") && (Nat.ble its.size 1000 && He.relAll vs its.toList)
  | _ => false
theorem tupX_ok {K : PySem.W.Frag} {a : Addr} {vs : List V} (h : tupX K a vs = true) : ∃ (o : Obj) (its : Array Value) (n : Nat), K.lookup a = some o ∧ o.cls = .type "tuple" ∧ o.data = .seq its n ∧ its.size ≤ sizeLine ∧ Vals vs its.toList := by
  unfold tupX at h
  cases hl : K.lookup a with
  | none => rw [hl] at h; cases h
  | some o =>
    rw [hl] at h
    obtain ⟨oc, od, dt, sl⟩ := o
    cases oc with
    | type c =>
      cases dt with
      | seq its n =>
        have h' : (decide (c = "tuple") && (Nat.ble its.size 1000 && He.relAll vs its.toList)) = true := h
        simp only [Bool.and_eq_true] at h'
        have e := of_decide_eq_true h'.1
        subst e
        exact ⟨_, its, n, rfl, rfl, rfl, Nat.le_trans (Nat.le_of_ble_eq_true h'.2.1) (by decide), He.relAll_ok h'.2.2⟩
      | _ => cases h
    | _ => cases dt <;> cases h
end G
namespace Lw
open PySem PySem.Spec PyProof.Rows L2 G
def top (i : Nat) : Stmt := PySem.Challenge.pw_guessedkinds_k27_books_refused.main.body.getD i (.Pass ⟨0, 0, 0, 0⟩)
abbrev s_Book_names : Stmt := (inClass (top 29) 5)
abbrev s_Book_all_joins : Stmt := (inClass (top 29) 3)
abbrev s_holds_kind : Stmt := (top 27)
abbrev s_Book_kind_named : Stmt := (inClass (top 29) 6)
abbrev s_Book_holds : Stmt := (inClass (top 29) 13)
abbrev s_Book_contains : Stmt := (inClass (top 29) 9)
abbrev s_Book_is_triple : Stmt := (inClass (top 29) 2)
abbrev s_Book_given_joinsX : Stmt := (inClass (top 29) 1)
abbrev s_Book_initX : Stmt := (inClass (top 29) 0)
abbrev s_l_part : Stmt := (top 49)
abbrev s_l_take : Stmt := (top 32)
abbrev s_Kind_init : Stmt := (inClass (top 24) 1)
abbrev s_is_word : Stmt := (top 15)
abbrev s_Kind_of_texts : Stmt := (inClass (top 24) 5)
abbrev s_l_of : Stmt := (top 33)
abbrev s_l_spare : Stmt := (top 46)
abbrev s_l_holds : Stmt := (top 45)
abbrev s_l_wrong : Stmt := (top 50)
abbrev s_l_triples : Stmt := (top 48)
abbrev s_is_between : Stmt := (top 18)
abbrev s_Kind_of_numbers : Stmt := (inClass (top 24) 4)
abbrev s_is_text : Stmt := (top 16)
abbrev s_are_texts : Stmt := (top 17)
abbrev s_Kind_of_words : Stmt := (inClass (top 24) 3)
abbrev s_Kind_of_marks : Stmt := (inClass (top 24) 2)
abbrev s_l_marked : Stmt := (top 43)
abbrev s_l_made : Stmt := (top 44)
abbrev s_l_options : Stmt := (top 41)
abbrev s_l_digits : Stmt := (top 35)
abbrev s_l_number : Stmt := (top 36)
abbrev s_l_signs : Stmt := (top 34)
abbrev s_l_text : Stmt := (top 37)
abbrev s_l_other_texts : Stmt := (top 38)
abbrev s_l_spec : Stmt := (top 42)
abbrev s_l_word : Stmt := (top 39)
abbrev s_l_words : Stmt := (top 40)
abbrev s_l_specs : Stmt := (top 47)
abbrev s_l_right : Stmt := (top 51)
abbrev s_l_bag : Stmt := (top 31)
abbrev s_law : Stmt := (top 52)
abbrev s_BadBook_init : Stmt := (inClass (top 4) 0)
def fa0 : List FaX := [
  fun K => decide (PySem.W.nsIn K mainGlobals "Kind" = some (some (.ref 296))),
  fun K => decide (PySem.W.plainGet K 296 Str.empty = true),
  fun K => decide (PySem.W.hasDictIn K 296 = true),
  fun K => decide (PySem.W.plainOver K 296 = true),
  fun K => decide (PySem.W.findIn K (.ref 296) "__setattr__" = some (some (.builtin "object.__setattr__"))),
  fun K => decide (PySem.W.readsIn K 296 (.type "type") = true),
  fun K => decide (PySem.W.specialIn K (.ref 296) "__getattribute__" = some (some (.builtin "type.__getattribute__"))),
  fun K => decide (PySem.W.nsIn K mainGlobals "Book" = some (some (.ref 566))),
  fun K => decide (PySem.W.plainGet K 566 Str.empty = true),
  fun K => decide (PySem.W.hasDictIn K 566 = true),
  fun K => decide (PySem.W.plainOver K 566 = true),
  fun K => decide (PySem.W.findIn K (.ref 566) "__setattr__" = some (some (.builtin "object.__setattr__"))),
  fun K => decide (PySem.W.readsIn K 566 (.type "type") = true),
  fun K => decide (PySem.W.specialIn K (.ref 566) "__getattribute__" = some (some (.builtin "type.__getattribute__"))),
  fun K => decide (PySem.W.findIn K (.ref 566) "joined" = some none),
  fun K => decide (PySem.W.findIn K (.ref 566) "kinds" = some none),
  fun K => decide (PySem.W.findIn K (.ref 566) "mark" = some none),
  fun K => decide (PySem.W.findIn K (.ref 566) "spare" = some none),
  fun K => decide (PySem.W.findIn K (.ref 296) "digits" = some none),
  fun K => decide (PySem.W.findIn K (.ref 296) "family" = some none),
  fun K => decide (PySem.W.findIn K (.ref 296) "keep" = some none),
  fun K => decide (PySem.W.findIn K (.ref 296) "marks" = some none),
  fun K => decide (PySem.W.findIn K (.ref 296) "name" = some none),
  fun K => decide (PySem.W.findIn K (.ref 296) "no" = some none),
  fun K => decide (PySem.W.findIn K (.ref 296) "point" = some none),
  fun K => decide (PySem.W.findIn K (.ref 296) "shown" = some none),
  fun K => decide (PySem.W.findIn K (.ref 296) "signs" = some none),
  fun K => decide (PySem.W.findIn K (.ref 296) "yes" = some none),
  fun K => decide (PySem.W.findIn K (.ref 296) "zeros" = some none),
  fun K => decide (PySem.W.findIn K (.ref 566) "names" = some (some (.ref 430))),
  fun K => decide (PySem.W.isFn K (.ref 430) = true),
  fun K => decide (PySem.W.findIn K (.ref 566) "all_joins" = some (some (.ref 417))),
  fun K => decide (PySem.W.isFn K (.ref 417) = true),
  fun K => decide (PySem.W.nsIn K mainGlobals "holds_kind" = some (some (.ref 307))),
  fun K => decide (PySem.W.findIn K (.ref 566) "kind_named" = some (some (.ref 437))),
  fun K => decide (PySem.W.isFn K (.ref 437) = true),
  fun K => decide (PySem.W.findIn K (.ref 566) "holds" = some (some (.ref 486))),
  fun K => decide (PySem.W.isFn K (.ref 486) = true),
  fun K => decide (PySem.W.findIn K (.ref 566) "__contains__" = some (some (.ref 458))),
  fun K => decide (PySem.W.isFn K (.ref 458) = true)]
def fa1 : List FaX := [
  fun K => decide (PySem.W.findIn K (.ref 566) "is_triple" = some (some (.ref 410))),
  fun K => decide (PySem.W.isFn K (.ref 410) = true),
  fun K => decide (PySem.W.findIn K (.ref 566) "given_joins" = some (some (.ref 405))),
  fun K => decide (PySem.W.isFn K (.ref 405) = true),
  fun K => decide (PySem.W.findIn K (.ref 566) "__init__" = some (some (.ref 398))),
  fun K => decide (PySem.W.isFn K (.ref 398) = true),
  fun K => decide (PySem.W.makesIn K 566 = true),
  fun K => decide (PySem.W.keepIn K (.ref 566) = true),
  fun K => tupX K 392 [],
  fun K => decide (PySem.W.nsIn K mainGlobals "_law_part" = some (some (.ref 691))),
  fun K => decide (PySem.W.nsIn K mainGlobals "_law_take" = some (some (.ref 584))),
  fun K => decide (PySem.W.findIn K (.ref 296) "__init__" = some (some (.ref 204))),
  fun K => decide (PySem.W.isFn K (.ref 204) = true),
  fun K => decide (PySem.W.makesIn K 296 = true),
  fun K => decide (PySem.W.keepIn K (.ref 296) = true),
  fun K => tupX K 194 [],
  fun K => tupX K 195 [],
  fun K => tupX K 196 [],
  fun K => decide (PySem.W.nsIn K mainGlobals "is_word" = some (some (.ref 135))),
  fun K => getX K 296 "of_texts" "staticmethod.__get__" 242,
  fun K => recX K 242 "staticmethod" 240,
  fun K => decide (PySem.W.nsIn K mainGlobals "_law_of" = some (some (.ref 591))),
  fun K => decide (PySem.W.nsIn K mainGlobals "_law_spare" = some (some (.ref 674))),
  fun K => decide (PySem.W.nsIn K mainGlobals "_law_holds" = some (some (.ref 669))),
  fun K => decide (PySem.W.nsIn K mainGlobals "_law_wrong" = some (some (.ref 698))),
  fun K => decide (PySem.W.nsIn K mainGlobals "_law_triples" = some (some (.ref 684))),
  fun K => decide (PySem.W.nsIn K mainGlobals "is_between" = some (some (.ref 152))),
  fun K => getX K 296 "of_numbers" "staticmethod.__get__" 232,
  fun K => recX K 232 "staticmethod" 230,
  fun K => decide (PySem.W.nsIn K mainGlobals "is_text" = some (some (.ref 140))),
  fun K => decide (PySem.W.nsIn K mainGlobals "are_texts" = some (some (.ref 145))),
  fun K => getX K 296 "of_words" "staticmethod.__get__" 221,
  fun K => recX K 221 "staticmethod" 219,
  fun K => getX K 296 "of_marks" "staticmethod.__get__" 213,
  fun K => recX K 213 "staticmethod" 211,
  fun K => decide (PySem.W.nsIn K mainGlobals "_law_marked" = some (some (.ref 655))),
  fun K => decide (PySem.W.nsIn K mainGlobals "_law_made" = some (some (.ref 662))),
  fun K => decide (PySem.W.nsIn K mainGlobals "_law_options" = some (some (.ref 641))),
  fun K => decide (PySem.W.nsIn K mainGlobals "_law_digits" = some (some (.ref 605))),
  fun K => decide (PySem.W.nsIn K mainGlobals "_law_number" = some (some (.ref 612)))]
def fa2 : List FaX := [
  fun K => decide (PySem.W.nsIn K mainGlobals "_law_signs" = some (some (.ref 598))),
  fun K => decide (PySem.W.nsIn K mainGlobals "_law_text" = some (some (.ref 617))),
  fun K => decide (PySem.W.nsIn K mainGlobals "_law_other_texts" = some (some (.ref 624))),
  fun K => decide (PySem.W.nsIn K mainGlobals "_law_spec" = some (some (.ref 648))),
  fun K => decide (PySem.W.nsIn K mainGlobals "_law_word" = some (some (.ref 629))),
  fun K => decide (PySem.W.nsIn K mainGlobals "_law_words" = some (some (.ref 634))),
  fun K => decide (PySem.W.nsIn K mainGlobals "_law_specs" = some (some (.ref 679))),
  fun K => decide (PySem.W.nsIn K mainGlobals "_law_right" = some (some (.ref 703))),
  fun K => decide (PySem.W.nsIn K mainGlobals "_law_bag" = some (some (.ref 577))),
  fun K => decide (PySem.W.nsIn K mainGlobals "law" = some (some (.ref 710))),
  fun K => decide (PySem.W.nsIn K mainGlobals "GuessError" = some (some (.ref 31))),
  fun K => decide (PySem.W.nsIn K mainGlobals "BadKind" = some (some (.ref 51))),
  fun K => decide (PySem.W.nsIn K mainGlobals "BadBook" = some (some (.ref 70))),
  fun K => decide (PySem.W.findIn K (.ref 70) "__init__" = some (some (.ref 67))),
  fun K => decide (PySem.W.typeIn K (.ref 67) = some (.type "function")),
  fun K => decide (PySem.W.excInitIn K 70 [.type "ValueError", .type "Exception", .type "BaseException", .type "object"] "ValueError.__new__" = true),
  fun K => decide (PySem.W.hasDictIn K 70 = true),
  fun K => decide (PySem.W.findIn K (.ref 70) "__setattr__" = some (some (.builtin "object.__setattr__"))),
  fun K => decide (PySem.W.subIn K (.ref 70) (.type "BaseException") = some true),
  fun K => decide (PySem.W.typeIn K (.ref 70) = some (.type "type")),
  fun K => decide (PySem.W.keepIn K (.ref 70) = true),
  fun K => decide (PySem.W.findIn K (.ref 70) "part" = some none),
  fun K => decide (PySem.W.readsIn K 31 (.type "type") = true),
  fun K => decide (PySem.W.specialIn K (.ref 31) "__getattribute__" = some (some (.builtin "type.__getattribute__"))),
  fun K => valX K (.ref 31) "__init__" (.builtin "ValueError.__init__"),
  fun K => decide (PySem.W.findIn K (.ref 70) "__getattribute__" = some (some (.builtin "BaseException.__getattribute__"))),
  fun K => decide (PySem.W.findIn K (.ref 70) "__getattr__" = some none),
  fun K => decide (PySem.W.subIn K (.ref 70) (.type "BaseException") = some true),
  fun K => decide (PySem.W.hasDictIn K 70 = true),
  fun K => decide (PySem.W.findIn K (.ref 70) "__class__" = some (some (.builtin "object.__class__"))),
  fun K => decide (PySem.W.specialIn K (.builtin "object.__class__") "__get__" = some (some (.builtin "getset_descriptor.__get__"))),
  fun K => decide (PySem.W.takesIn K (.builtin "object.__class__") = some true),
  fun K => decide (PySem.W.mroIn K 70 (.type "object") = some true),
  fun K => decide (PySem.W.subIn K (.ref 31) (.type "BaseException") = some true),
  fun K => decide (PySem.W.hasDictIn K 31 = true),
  fun K => decide (PySem.W.typeIn K (.ref 31) = some (.type "type")),
  fun K => decide (PySem.W.subIn K (.ref 70) (.ref 31) = some true),
  fun K => decide (PySem.W.kitOne K (.ref 70) (.ref 70) = some true),
  fun K => decide (PySem.W.kitOne K (.ref 70) (.ref 51) = some false),
  fun K => decide (PySem.W.kitOne K (.ref 70) (.type "ValueError") = some true)]
def fa3 : List FaX := [
  fun K => decide (PySem.W.nsIn K mainGlobals "ValueError" = some none),
  fun K => decide (PySem.W.nsIn K mainGlobals "abs" = some none),
  fun K => decide (PySem.W.nsIn K mainGlobals "all" = some none),
  fun K => decide (PySem.W.nsIn K mainGlobals "any" = some none),
  fun K => decide (PySem.W.nsIn K mainGlobals "bool" = some none),
  fun K => decide (PySem.W.nsIn K mainGlobals "enumerate" = some none),
  fun K => decide (PySem.W.nsIn K mainGlobals "int" = some none),
  fun K => decide (PySem.W.nsIn K mainGlobals "isinstance" = some none),
  fun K => decide (PySem.W.nsIn K mainGlobals "len" = some none),
  fun K => decide (PySem.W.nsIn K mainGlobals "list" = some none),
  fun K => decide (PySem.W.nsIn K mainGlobals "max" = some none),
  fun K => decide (PySem.W.nsIn K mainGlobals "min" = some none),
  fun K => decide (PySem.W.nsIn K mainGlobals "ord" = some none),
  fun K => decide (PySem.W.nsIn K mainGlobals "range" = some none),
  fun K => decide (PySem.W.nsIn K mainGlobals "set" = some none),
  fun K => decide (PySem.W.nsIn K mainGlobals "str" = some none),
  fun K => decide (PySem.W.nsIn K mainGlobals "tuple" = some none),
  fun K => strX K "LETTERS" ⟨[97, 98, 99, 100, 101, 102, 103, 104, 105, 106, 107, 108, 109, 110, 111, 112, 113, 114, 115, 116, 117, 118, 119, 120, 121, 122].toArray⟩,
  fun K => intX K "MOST_DIGITS" 20,
  fun K => intX K "MOST_KINDS" 7,
  fun K => intX K "MOST_MARKS" 6,
  fun K => intX K "MOST_SHOWN" 3,
  fun K => intX K "MOST_WORDS" 4]
def fa : List (List FaX) := [fa0, fa1, fa2, fa3]
def fn0 : List DefG := [
  ⟨430, "names", "Book.names", s_Book_names, [], []⟩,
  ⟨417, "all_joins", "Book.all_joins", s_Book_all_joins, [], []⟩,
  ⟨307, "holds_kind", "holds_kind", s_holds_kind, [], []⟩,
  ⟨437, "kind_named", "Book.kind_named", s_Book_kind_named, [], []⟩,
  ⟨486, "holds", "Book.holds", s_Book_holds, [], []⟩,
  ⟨458, "__contains__", "Book.__contains__", s_Book_contains, [], []⟩,
  ⟨410, "is_triple", "Book.is_triple", s_Book_is_triple, [], []⟩,
  ⟨405, "given_joins", "Book.given_joins", s_Book_given_joinsX, [], []⟩,
  ⟨398, "__init__", "Book.__init__", s_Book_initX, [(.ref 392)], []⟩,
  ⟨691, "_law_part", "_law_part", s_l_part, [], []⟩,
  ⟨584, "_law_take", "_law_take", s_l_take, [], []⟩,
  ⟨204, "__init__", "Kind.__init__", s_Kind_init, [], [("marks", (.ref 194)), ("yes", (.ref 195)), ("no", (.ref 196)), ("digits", .non), ("point", (.bl false)), ("signs", (.str ⟨[45].toArray⟩)), ("zeros", (.bl true)), ("keep", .non), ("shown", (.int 0))]⟩,
  ⟨135, "is_word", "is_word", s_is_word, [], []⟩,
  ⟨240, "of_texts", "Kind.of_texts", s_Kind_of_texts, [], []⟩,
  ⟨591, "_law_of", "_law_of", s_l_of, [], []⟩,
  ⟨674, "_law_spare", "_law_spare", s_l_spare, [], []⟩,
  ⟨669, "_law_holds", "_law_holds", s_l_holds, [], []⟩,
  ⟨698, "_law_wrong", "_law_wrong", s_l_wrong, [], []⟩,
  ⟨684, "_law_triples", "_law_triples", s_l_triples, [], []⟩,
  ⟨152, "is_between", "is_between", s_is_between, [], []⟩,
  ⟨230, "of_numbers", "Kind.of_numbers", s_Kind_of_numbers, [], [("digits", .non), ("point", (.bl false)), ("signs", (.str ⟨[45].toArray⟩)), ("zeros", (.bl true)), ("keep", .non), ("shown", (.int 0))]⟩,
  ⟨140, "is_text", "is_text", s_is_text, [], []⟩,
  ⟨145, "are_texts", "are_texts", s_are_texts, [], []⟩,
  ⟨219, "of_words", "Kind.of_words", s_Kind_of_words, [], []⟩,
  ⟨211, "of_marks", "Kind.of_marks", s_Kind_of_marks, [], []⟩,
  ⟨655, "_law_marked", "_law_marked", s_l_marked, [], []⟩,
  ⟨662, "_law_made", "_law_made", s_l_made, [], []⟩,
  ⟨641, "_law_options", "_law_options", s_l_options, [], []⟩,
  ⟨605, "_law_digits", "_law_digits", s_l_digits, [], []⟩,
  ⟨612, "_law_number", "_law_number", s_l_number, [], []⟩]
def fn1 : List DefG := [
  ⟨598, "_law_signs", "_law_signs", s_l_signs, [], []⟩,
  ⟨617, "_law_text", "_law_text", s_l_text, [], []⟩,
  ⟨624, "_law_other_texts", "_law_other_texts", s_l_other_texts, [], []⟩,
  ⟨648, "_law_spec", "_law_spec", s_l_spec, [], []⟩,
  ⟨629, "_law_word", "_law_word", s_l_word, [], []⟩,
  ⟨634, "_law_words", "_law_words", s_l_words, [], []⟩,
  ⟨679, "_law_specs", "_law_specs", s_l_specs, [], []⟩,
  ⟨703, "_law_right", "_law_right", s_l_right, [], []⟩,
  ⟨577, "_law_bag", "_law_bag", s_l_bag, [], []⟩,
  ⟨710, "law", "law", s_law, [], []⟩,
  ⟨67, "__init__", "BadBook.__init__", s_BadBook_init, [], []⟩]
def fn : List DefG := fn0 ++ fn1
def as0 : List Addr := [3, 2, 296, 566, 31, 51, 70, 430, 417, 307, 437, 486, 458, 410, 405, 398, 392, 691, 584, 204, 194, 195, 196, 135, 242, 240, 591, 674, 669, 698, 684, 152, 232, 230, 140, 145, 221, 219, 213, 211]
def as1 : List Addr := [655, 662, 641, 605, 612, 598, 617, 624, 648, 629, 634, 679, 703, 577, 710, 67, 6, 4, 21, 89, 108, 127, 157, 164, 171, 178, 185, 380, 295, 565, 30, 50, 69, 429, 416, 306, 436, 485, 457, 409]
def as2 : List Addr := [404, 397, 393, 690, 583, 203, 197, 134, 241, 239, 590, 673, 668, 697, 683, 151, 231, 229, 223, 139, 144, 220, 218, 212, 210, 654, 661, 640, 604, 611, 597, 616, 623, 647, 628, 633, 678, 702, 576, 709]
def as3 : List Addr := [66, 15, 16, 17, 18, 19, 20, 22, 29, 32, 35, 42, 43, 44, 45, 46, 47, 48, 49, 54, 61, 62, 63, 64, 65, 68, 73, 80, 81, 82, 83, 84, 85, 86, 87, 88, 92, 99, 100, 101]
def as4 : List Addr := [102, 103, 104, 105, 106, 107, 111, 118, 119, 120, 121, 122, 123, 124, 125, 126, 128, 131, 132, 133, 136, 137, 138, 141, 142, 143, 146, 147, 148, 149, 150, 153, 154, 155, 156, 158, 159, 160, 161, 162]
def as5 : List Addr := [163, 165, 166, 167, 168, 169, 170, 172, 173, 174, 175, 176, 177, 179, 180, 181, 182, 183, 184, 193, 198, 199, 200, 201, 202, 205, 206, 207, 208, 209, 214, 215, 216, 217, 222, 224, 225, 226, 227, 228]
def as6 : List Addr := [233, 234, 235, 236, 237, 238, 243, 244, 245, 246, 247, 248, 249, 250, 251, 252, 253, 254, 255, 256, 257, 258, 259, 260, 261, 262, 263, 264, 265, 266, 267, 268, 269, 270, 271, 272, 273, 274, 275, 276]
def as7 : List Addr := [277, 278, 279, 280, 281, 282, 283, 284, 285, 286, 287, 288, 289, 290, 291, 292, 293, 294, 297, 298, 301, 302, 303, 304, 305, 315, 316, 317, 318, 319, 320, 321, 322, 323, 324, 325, 326, 327, 328, 329]
def as8 : List Addr := [330, 331, 332, 333, 334, 335, 336, 337, 338, 339, 340, 341, 342, 343, 344, 345, 346, 347, 348, 349, 350, 351, 352, 353, 354, 355, 356, 357, 358, 359, 360, 361, 362, 363, 364, 365, 366, 367, 368, 369]
def as9 : List Addr := [370, 371, 372, 373, 374, 375, 376, 377, 378, 379, 381, 382, 394, 395, 396, 399, 400, 401, 402, 403, 406, 407, 408, 411, 412, 413, 414, 415, 418, 419, 420, 421, 422, 423, 424, 425, 426, 427, 428, 431]
def as10 : List Addr := [432, 433, 434, 435, 438, 439, 440, 441, 442, 443, 444, 445, 446, 447, 448, 449, 450, 451, 452, 453, 454, 455, 456, 459, 460, 461, 462, 463, 464, 465, 466, 467, 468, 469, 470, 471, 472, 473, 474, 475]
def as11 : List Addr := [476, 477, 478, 479, 480, 481, 482, 483, 484, 487, 488, 489, 490, 491, 492, 493, 494, 495, 496, 497, 498, 499, 500, 501, 502, 503, 504, 505, 506, 507, 508, 509, 510, 511, 512, 513, 514, 515, 516, 517]
def as12 : List Addr := [518, 519, 520, 521, 522, 523, 524, 525, 526, 527, 528, 529, 530, 531, 532, 533, 534, 535, 536, 537, 538, 539, 540, 541, 542, 543, 544, 545, 546, 547, 548, 549, 550, 551, 552, 553, 554, 555, 556, 557]
def as13 : List Addr := [558, 559, 560, 561, 562, 563, 564, 567, 568, 571, 572, 573, 574, 575, 578, 579, 580, 581, 582, 585, 586, 587, 588, 589, 592, 593, 594, 595, 596, 599, 600, 601, 602, 603, 606, 607, 608, 609, 610, 613]
def as14 : List Addr := [614, 615, 618, 619, 620, 621, 622, 625, 626, 627, 630, 631, 632, 635, 636, 637, 638, 639, 642, 643, 644, 645, 646, 649, 650, 651, 652, 653, 656, 657, 658, 659, 660, 663, 664, 665, 666, 667, 670, 671]
def as15 : List Addr := [672, 675, 676, 677, 680, 681, 682, 685, 686, 687, 688, 689, 692, 693, 694, 695, 696, 699, 700, 701, 704, 705, 706, 707, 708]
def as : List Addr := as0 ++ as1 ++ as2 ++ as3 ++ as4 ++ as5 ++ as6 ++ as7 ++ as8 ++ as9 ++ as10 ++ as11 ++ as12 ++ as13 ++ as14 ++ as15
def hxN0 : List PySem.Str := ["_wall", "__name__", "GuessError", "BadKind", "BadBook", "OtherBook", "Unfit", "NoKind", "DIGITS", "LETTERS", "MOST_MARKS", "MOST_WORDS", "MOST_DIGITS", "MOST_SHOWN", "is_word", "is_text", "are_texts", "is_between", "all_digits", "split_number", "shortest", "plain_form", "cut_number", "Kind", "MOST_KINDS", "holds_kind", "Level", "Book", "_law_bag", "_law_take"]
def hxN1 : List PySem.Str := ["_law_of", "_law_signs", "_law_digits", "_law_number", "_law_text", "_law_other_texts", "_law_word", "_law_words", "_law_options", "_law_spec", "_law_marked", "_law_made", "_law_holds", "_law_spare", "_law_specs", "_law_triples", "_law_part", "_law_wrong", "_law_right"]
def names : List PySem.Str := hxN0 ++ hxN1
abbrev R : PySem.W.OpenRow := PySem.W.OpenLaw.row PySem.Challenge.rw_guessedkinds_k27_books_refused
abbrev qv : Program := PySem.W.view R.prog [52]
abbrev hk : PySem.W.Hook := hookX as fa fn
def ob (s : PySem.W.SharedT) : Bool × List He.FnW := obsX as fa fn (HandSHeadRun.getT s)
theorem ob_eq (s : PySem.W.SharedT) : ob s = hk.obs s.abs := obsX_eq (HandSHeadRun.getT_eq s)
theorem run (w : World) : HandSHeadRun.RunEq R qv hk ob 60000 names w := by
  intro os
  kernel_rfl
end Lw
/-! data trees over the abstract heap: what never changes again is a tree, what changes is a cell -/
namespace G
open PySem PySem.Spec PyProof.Rows L2

inductive D where
  | non
  | bl (b : Bool)
  | int (i : Int)
  | str (l : List Nat)
  | ref (a : Addr)
  | ty (n : String)
  | cls (c : String)
  | tup (ds : List D)
  | lst (ds : List D)
  | rol (ds : List D)
  | dic (kvs : List (Key × D))
  | dct (kvs : List (List Key × D))
  | ins (c : String) (fs : List (Str × D))

/-- the classes' addresses, by name -/
abbrev Nm := String → Addr

section
variable (K : PySem.W.Frag) (cl : Nm) (F : Hp)
mutual
inductive Rep : V → D → Prop
  | non : Rep .non .non
  | bl (b : Bool) : Rep (.bl b) (.bl b)
  | int (i : Int) : Rep (.int i) (.int i)
  | str (l : List Nat) : Rep (.str ⟨l.toArray⟩) (.str l)
  | ref (a : Addr) : Rep (.ref a) (.ref a)
  | ty (n : String) : Rep (.ty n) (.ty n)
  | cls (c : String) : Rep (.ref (cl c)) (.cls c)
  | tup {a : Addr} {xs : List V} {ds : List D} : SqT K F a xs → RepL xs ds → Rep (.ref a) (.tup ds)
  | lst {a : Addr} {xs : List V} {ds : List D} : F a = some (.lst xs) → RepL xs ds → Rep (.ref a) (.lst ds)
  | rol {a : Addr} {xs : List V} {ds : List D} : SqL K F a xs → RepL xs ds → Rep (.ref a) (.rol ds)
  | dic {a : Addr} {kvs : List (Key × V)} {ds : List (Key × D)} : Rd F a (.dK kvs) → RepK kvs ds → Rep (.ref a) (.dic ds)
  | dct {a : Addr} {kvs : List (List Key × V)} {ds : List (List Key × D)} : F a = some (.dT kvs) → RepT kvs ds → Rep (.ref a) (.dct ds)
  | ins {a dx : Addr} {c : String} {fs : List (Str × V)} {ds : List (Str × D)} : F a = some (.ins (cl c) dx fs) → RepF fs ds → Rep (.ref a) (.ins c ds)
inductive RepL : List V → List D → Prop
  | nil : RepL [] []
  | cons {v : V} {d : D} {vs : List V} {ds : List D} : Rep v d → RepL vs ds → RepL (v :: vs) (d :: ds)
inductive RepK : List (Key × V) → List (Key × D) → Prop
  | nil : RepK [] []
  | cons {k : Key} {v : V} {d : D} {vs : List (Key × V)} {ds : List (Key × D)} : Rep v d → RepK vs ds → RepK ((k, v) :: vs) ((k, d) :: ds)
inductive RepT : List (List Key × V) → List (List Key × D) → Prop
  | nil : RepT [] []
  | cons {k : List Key} {v : V} {d : D} {vs : List (List Key × V)} {ds : List (List Key × D)} : Rep v d → RepT vs ds → RepT ((k, v) :: vs) ((k, d) :: ds)
inductive RepF : List (Str × V) → List (Str × D) → Prop
  | nil : RepF [] []
  | cons {k : Str} {v : V} {d : D} {vs : List (Str × V)} {ds : List (Str × D)} : Rep v d → RepF vs ds → RepF ((k, v) :: vs) ((k, d) :: ds)
end
end

theorem rd_mono {F F' : Hp} {a : Addr} {u : HO} (s : Same F F') (h : Rd F a u) : Rd F' a u := h.elim (fun h => .inl (s _ _ h)) fun ⟨o, h⟩ => .inr ⟨o, s _ _ h⟩
theorem sqT_mono {K : PySem.W.Frag} {F F' : Hp} {a : Addr} {xs : List V} (e : Same F F') (h : SqT K F a xs) : SqT K F' a xs := by
  rcases h with (h | ⟨o, h⟩) | h
  · exact .inl (.inl (e _ _ h))
  · exact .inl (.inr ⟨o, e _ _ h⟩)
  · exact .inr h

section
variable {K : PySem.W.Frag} {cl : Nm} {F F' : Hp}
mutual
theorem Rep.mono (s : Same F F') : ∀ {v : V} {d : D}, Rep K cl F v d → Rep K cl F' v d
  | _, _, .non => .non
  | _, _, .bl b => .bl b
  | _, _, .int i => .int i
  | _, _, .str x => .str x
  | _, _, .ref a => .ref a
  | _, _, .ty n => .ty n
  | _, _, .cls c => .cls c
  | _, _, .tup h r => .tup (sqT_mono s h) (RepL.mono s r)
  | _, _, .lst h r => .lst (s _ _ h) (RepL.mono s r)
  | _, _, .rol h r => .rol (s.seq h) (RepL.mono s r)
  | _, _, .dic h r => .dic (rd_mono s h) (RepK.mono s r)
  | _, _, .dct h r => .dct (s _ _ h) (RepT.mono s r)
  | _, _, .ins h r => .ins (s _ _ h) (RepF.mono s r)
theorem RepL.mono (s : Same F F') : ∀ {vs : List V} {ds : List D}, RepL K cl F vs ds → RepL K cl F' vs ds
  | _, _, .nil => .nil
  | _, _, .cons h r => .cons (Rep.mono s h) (RepL.mono s r)
theorem RepK.mono (s : Same F F') : ∀ {vs : List (Key × V)} {ds : List (Key × D)}, RepK K cl F vs ds → RepK K cl F' vs ds
  | _, _, .nil => .nil
  | _, _, .cons h r => .cons (Rep.mono s h) (RepK.mono s r)
theorem RepT.mono (s : Same F F') : ∀ {vs : List (List Key × V)} {ds : List (List Key × D)}, RepT K cl F vs ds → RepT K cl F' vs ds
  | _, _, .nil => .nil
  | _, _, .cons h r => .cons (Rep.mono s h) (RepT.mono s r)
theorem RepF.mono (s : Same F F') : ∀ {vs : List (Str × V)} {ds : List (Str × D)}, RepF K cl F vs ds → RepF K cl F' vs ds
  | _, _, .nil => .nil
  | _, _, .cons h r => .cons (Rep.mono s h) (RepF.mono s r)
end
theorem RepL.length : ∀ {vs : List V} {ds : List D}, RepL K cl F vs ds → vs.length = ds.length
  | _, _, .nil => rfl
  | _, _, .cons _ r => congrArg (· + 1) (RepL.length r)
theorem RepL.get : ∀ {vs : List V} {ds : List D} {i : Nat} {d : D}, RepL K cl F vs ds → ds[i]? = some d → ∃ v, vs[i]? = some v ∧ Rep K cl F v d
  | _, _, _, _, .nil, e => by simp at e
  | _, _, 0, _, .cons h _, e => by simp at e; subst e; exact ⟨_, rfl, h⟩
  | _, _, i + 1, d, .cons _ r, e => by
    obtain ⟨v, h1, h2⟩ := RepL.get (i := i) (d := d) r (by simpa using e)
    exact ⟨v, by simpa using h1, h2⟩
theorem RepL.append : ∀ {vs ws : List V} {ds es : List D}, RepL K cl F vs ds → RepL K cl F ws es → RepL K cl F (vs ++ ws) (ds ++ es)
  | _, _, _, _, .nil, s => s
  | _, _, _, _, .cons r t, s => .cons r (RepL.append t s)
theorem RepL.take : ∀ {vs : List V} {ds : List D} (n : Nat), RepL K cl F vs ds → RepL K cl F (vs.take n) (ds.take n)
  | _, _, 0, _ => .nil
  | _, _, _ + 1, .nil => .nil
  | _, _, n + 1, .cons r t => .cons r (RepL.take n t)
theorem RepL.drop : ∀ {vs : List V} {ds : List D} (n : Nat), RepL K cl F vs ds → RepL K cl F (vs.drop n) (ds.drop n)
  | _, _, 0, r => r
  | _, _, _ + 1, .nil => .nil
  | _, _, n + 1, .cons _ t => RepL.drop n t
theorem RepL.set {v : V} {d : D} (h : Rep K cl F v d) : ∀ {vs : List V} {ds : List D} (i : Nat), RepL K cl F vs ds → RepL K cl F (vs.set i v) (ds.set i d)
  | _, _, _, .nil => .nil
  | _, _, 0, .cons _ t => .cons h t
  | _, _, i + 1, .cons q t => .cons q (RepL.set h i t)
theorem RepL.reverse : ∀ {vs : List V} {ds : List D}, RepL K cl F vs ds → RepL K cl F vs.reverse ds.reverse
  | _, _, .nil => .nil
  | _, _, .cons r t => by
    rw [List.reverse_cons, List.reverse_cons]
    exact (RepL.reverse t).append (.cons r .nil)
theorem RepF.get : ∀ {vs : List (Str × V)} {ds : List (Str × D)} {f : Str} {d : D}, RepF K cl F vs ds → ds.lookup f = some d → ∃ v, vs.lookup f = some v ∧ Rep K cl F v d
  | _, _, _, _, .nil, e => by simp at e
  | _, _, f, d, .cons (k := k) h r, e => by
    by_cases c : f = k
    · subst c
      rw [List.lookup_cons_self] at e
      cases e
      exact ⟨_, List.lookup_cons_self, h⟩
    · have c' : (f == k) = false := by simpa using c
      rw [List.lookup_cons, c'] at e
      obtain ⟨v, h1, h2⟩ := RepF.get r e
      exact ⟨v, by rw [List.lookup_cons, c']; exact h1, h2⟩
theorem RepF.none_of : ∀ {vs : List (Str × V)} {ds : List (Str × D)} {f : Str}, RepF K cl F vs ds → ds.lookup f = none → vs.lookup f = none
  | _, _, _, .nil, _ => rfl
  | _, _, f, .cons (k := k) h r, e => by
    by_cases c : f = k
    · subst c
      rw [List.lookup_cons_self] at e
      cases e
    · have c' : (f == k) = false := by simpa using c
      rw [List.lookup_cons, c'] at e
      rw [List.lookup_cons, c']
      exact RepF.none_of r e
end

/-! ### cells -/
inductive Cell where
  | lst (ds : List D)
  | dic (kvs : List (Key × D))
  | dct (kvs : List (List Key × D))
  | ins (c : String) (fs : List (Str × D))
abbrev Cl := Addr → Option Cell
def updC (C : Cl) (a : Addr) (c : Cell) : Cl := fun b => if b = a then some c else C b
theorem updC_same {C : Cl} {a : Addr} {c : Cell} : updC C a c a = some c := by unfold updC; rw [if_pos rfl]
theorem updC_ne {C : Cl} {a b : Addr} {c : Cell} (h : b ≠ a) : updC C a c b = C b := by unfold updC; rw [if_neg h]
theorem updC_updC {C : Cl} {a : Addr} {c c' : Cell} : updC (updC C a c) a c' = updC C a c' := by
  funext b; unfold updC; split <;> rfl
def delC (C : Cl) (a : Addr) : Cl := fun b => if b = a then none else C b
def SubC (C C' : Cl) : Prop := ∀ a c, C a = some c → C' a = some c
theorem SubC.refl (C : Cl) : SubC C C := fun _ _ h => h
theorem SubC.trans {A B C : Cl} (h : SubC A B) (k : SubC B C) : SubC A C := fun a c e => k a c (h a c e)
theorem SubC.new {C C' : Cl} {p : Addr} {c : Cell} (h : SubC C C') (e : C p = none) : SubC C (updC C' p c) := fun a x q => by
  by_cases z : a = p
  · subst z; rw [e] at q; cases q
  · rw [updC_ne z]; exact h a x q

inductive CRep (K : PySem.W.Frag) (cl : Nm) (F : Hp) : HO → Cell → Prop
  | lst {xs : List V} {ds : List D} : RepL K cl F xs ds → CRep K cl F (.lst xs) (.lst ds)
  | dic {kvs : List (Key × V)} {ds : List (Key × D)} : RepK K cl F kvs ds → CRep K cl F (.dK kvs) (.dic ds)
  | dct {kvs : List (List Key × V)} {ds : List (List Key × D)} : RepT K cl F kvs ds → CRep K cl F (.dT kvs) (.dct ds)
  | ins {c : String} {dx : Addr} {fs : List (Str × V)} {ds : List (Str × D)} : RepF K cl F fs ds → CRep K cl F (.ins (cl c) dx fs) (.ins c ds)
theorem CRep.mono {K : PySem.W.Frag} {cl : Nm} {F F' : Hp} {o : HO} {c : Cell} (s : Same F F') : CRep K cl F o c → CRep K cl F' o c
  | .lst r => .lst (r.mono s)
  | .dic r => .dic (r.mono s)
  | .dct r => .dct (r.mono s)
  | .ins r => .ins (r.mono s)

structure RC (K : PySem.W.Frag) (cl : Nm) (C : Cl) (F H : Hp) : Prop where
  sub : Same F H
  cel : ∀ a c, C a = some c → F a = none ∧ ∃ o, H a = some o ∧ CRep K cl F o c
section
variable {K : PySem.W.Frag} {cl : Nm} {C C' : Cl} {F F' H H' : Hp}
theorem same_upd {H : Hp} {p : Addr} {o : HO} (h : H p = none) : Same H (upd H p o) := fun b x e => by
  rw [upd_ne (ne_of_none e h)]
  exact e
theorem RC.freeF (R : RC K cl C F H) {p : Addr} (h : H p = none) : F p = none := R.sub.free h
theorem RC.freeC (R : RC K cl C F H) {p : Addr} (h : H p = none) : C p = none := by
  cases e : C p with
  | none => rfl
  | some c =>
    obtain ⟨_, o, q, _⟩ := R.cel p c e
    rw [h] at q; cases q
/-- a new tree -/
theorem RC.new (R : RC K cl C F H) {p : Addr} {o : HO} (h : H p = none) : RC K cl C (upd F p o) (upd H p o) where
  sub := fun b x e => by
    by_cases z : b = p
    · subst z; rw [upd_same] at e ⊢; exact e
    · rw [upd_ne z] at e ⊢; exact R.sub b x e
  cel := fun a c e => by
    obtain ⟨f, x, hx, r⟩ := R.cel a c e
    have z : a ≠ p := ne_of_none hx h
    exact ⟨by rw [upd_ne z]; exact f, x, by rw [upd_ne z]; exact hx, r.mono (same_upd (R.freeF h))⟩
/-- a new thing that is not looked at again -/
theorem RC.over (R : RC K cl C F H) (s : Same H H') : RC K cl C F H' where
  sub := R.sub.trans s
  cel := fun a c e => by
    obtain ⟨f, x, hx, r⟩ := R.cel a c e
    exact ⟨f, x, s _ _ hx, r⟩
/-- a new cell -/
theorem RC.cell (R : RC K cl C F H) {p : Addr} {o : HO} {c : Cell} (h : H p = none) (r : CRep K cl F o c) : RC K cl (updC C p c) F (upd H p o) where
  sub := R.sub.trans (same_upd h)
  cel := fun a x e => by
    by_cases z : a = p
    · subst z
      rw [updC_same] at e; cases e
      exact ⟨R.freeF h, o, upd_same, r⟩
    · rw [updC_ne z] at e
      obtain ⟨f, x', hx, r'⟩ := R.cel a x e
      exact ⟨f, x', by rw [upd_ne z]; exact hx, r'⟩
/-- a cell is written -/
theorem RC.put (R : RC K cl C F H) {p : Addr} {o : HO} {c c0 : Cell} (h : C p = some c0) (r : CRep K cl F o c) : RC K cl (updC C p c) F (upd H p o) where
  sub := fun b x e => by
    have z : b ≠ p := ne_of_none e (R.cel p c0 h).1
    rw [upd_ne z]; exact R.sub b x e
  cel := fun a x e => by
    by_cases z : a = p
    · subst z
      rw [updC_same] at e; cases e
      exact ⟨(R.cel a c0 h).1, o, upd_same, r⟩
    · rw [updC_ne z] at e
      obtain ⟨f, x', hx, r'⟩ := R.cel a x e
      exact ⟨f, x', by rw [upd_ne z]; exact hx, r'⟩
/-- cells are forgotten -/
theorem RC.drop (R : RC K cl C F H) (s : SubC C' C) : RC K cl C' F H := ⟨R.sub, fun a c e => R.cel a c (s a c e)⟩
/-- a cell becomes a tree -/
theorem RC.freeze (R : RC K cl C F H) {p : Addr} {o : HO} {c : Cell} (h : C p = some c) (ho : H p = some o) : RC K cl (delC C p) (upd F p o) H ∧ Same F (upd F p o) := by
  have f := (R.cel p c h).1
  refine ⟨⟨fun b x e => ?_, fun a x e => ?_⟩, same_upd f⟩
  · by_cases z : b = p
    · subst z; rw [upd_same] at e; rw [← e]; exact ho
    · rw [upd_ne z] at e; exact R.sub b x e
  · unfold delC at e
    by_cases z : a = p
    · rw [if_pos z] at e; cases e
    · rw [if_neg z] at e
      obtain ⟨f', x', hx, r'⟩ := R.cel a x e
      exact ⟨by rw [upd_ne z]; exact f', x', hx, r'.mono (same_upd f)⟩
end

/-- the classes' addresses, and the trees that stood at the start -/
structure NmB where
  f : Nm
  bs : Hp
instance : Coe NmB Nm := ⟨NmB.f⟩
instance : CoeFun NmB (fun _ => String → Addr) := ⟨NmB.f⟩
abbrev nb (cl : Nm) : NmB := ⟨cl, fun _ => none⟩
/-! ### slots -/
abbrev DEnv := List (Option D)
structure RS (K : PySem.W.Frag) (cl : NmB) (ρ : DEnv) (C : Cl) (F : Hp) (σ : L2.St) (H : Hp) : Prop where
  rc : RC K cl C F H
  len : ρ.length = σ.length
  env : ∀ (i : Nat) (d : D), ρ[i]? = some (some d) → ∃ v, σ[i]? = some (some v) ∧ Rep K cl F v d
  bs : Same cl.bs F
section
variable {K : PySem.W.Frag} {cl : NmB} {C C' : Cl} {F F' H H' : Hp} {ρ : DEnv} {σ : L2.St}
theorem RS.next (R : RS K cl ρ C F σ H) (s : Same F F') (r : RC K cl C' F' H') : RS K cl ρ C' F' σ H' :=
  ⟨r, R.len, fun i d e => let ⟨v, h1, h2⟩ := R.env i d e; ⟨v, h1, h2.mono s⟩, R.bs.trans s⟩
theorem RS.set (R : RS K cl ρ C F σ H) {v : V} {d : D} (i : Nat) (h : Rep K cl F v d) : RS K cl (ρ.set i (some d)) C F (σ.set i (some v)) H where
  rc := R.rc
  bs := R.bs
  len := by rw [List.length_set, List.length_set]; exact R.len
  env := fun j e q => by
    by_cases z : i = j
    · subst z
      have hl : i < ρ.length := by
        have := (List.getElem?_eq_some_iff.mp q).1
        simpa using this
      rw [List.getElem?_set_self hl] at q
      cases q
      exact ⟨v, List.getElem?_set_self (by rw [← R.len]; exact hl), h⟩
    · rw [List.getElem?_set_ne z] at q
      obtain ⟨u, h1, h2⟩ := R.env j e q
      exact ⟨u, by rw [List.getElem?_set_ne z]; exact h1, h2⟩
theorem RS.unset (R : RS K cl ρ C F σ H) (i : Nat) {x : Option V} : RS K cl (ρ.set i none) C F (σ.set i x) H where
  rc := R.rc
  bs := R.bs
  len := by rw [List.length_set, List.length_set]; exact R.len
  env := fun j e q => by
    by_cases z : i = j
    · subst z
      by_cases hl : i < ρ.length
      · rw [List.getElem?_set_self hl] at q
        cases q
      · rw [List.getElem?_eq_none (by simpa using hl)] at q; cases q
    · rw [List.getElem?_set_ne z] at q
      obtain ⟨u, h1, h2⟩ := R.env j e q
      exact ⟨u, by rw [List.getElem?_set_ne z]; exact h1, h2⟩
end
theorem szl {n : Nat} (h : n ≤ 16000000) : n ≤ sizeLine := Nat.le_trans h (by rw [sizeLine_eq]; decide)
end G
namespace G
open PySem PySem.Spec PyProof.Rows L2

abbrev DQ := D → Cl → Prop
abbrev DE := DEnv → Cl → DQ → Prop
abbrev DT := DEnv → Cl → (Bool → Cl → Prop) → Prop
abbrev DA := DEnv → Cl → (List D → Cl → Prop) → Prop
structure DEnds where
  nx : DEnv → Cl → Prop
  rt : DQ
  bk : DEnv → Cl → Prop := fun _ _ => False
  ct : DEnv → Cl → Prop := fun _ _ => False
abbrev DS := DEnds → DEnv → Cl → Prop
/-- an exception's class, its fields -/
abbrev DX := String → List (Str × D) → Cl → Prop
abbrev DSp := List D → Cl → DQ → DX → Prop

section
variable (K : PySem.W.Frag) (cl : Nm)
def Fin (F : Hp) (Qd : DQ) (Q : VK) : Prop := ∀ v d C H F', Same F F' → RC K cl C F' H → Rep K cl F' v d → Qd d C → Q v H
end
section
variable (K : PySem.W.Frag) (cl : NmB)
def lowE (td : DE) : TE := fun σ H Q => ∃ ρ C F Qd, RS K cl ρ C F σ H ∧ td ρ C Qd ∧ Fin K cl F Qd Q
def lowT (td : DT) : TT := fun σ H Q => ∃ ρ C F Qd, RS K cl ρ C F σ H ∧ td ρ C Qd ∧ ∀ b C H F', Same F F' → RC K cl C F' H → Qd b C → Q b H
def lowA (td : DA) : TA := fun σ H Q => ∃ ρ C F Qd, RS K cl ρ C F σ H ∧ td ρ C Qd ∧ ∀ vs ds C H F', Same F F' → RC K cl C F' H → RepL K cl F' vs ds → Qd ds C → Q vs H
structure FinS (F : Hp) (Dd : DEnds) (De : Ends) : Prop where
  nx : ∀ ρ C F' σ H, Same F F' → RS K cl ρ C F' σ H → Dd.nx ρ C → De.nx σ H
  bk : ∀ ρ C F' σ H, Same F F' → RS K cl ρ C F' σ H → Dd.bk ρ C → De.bk σ H
  ct : ∀ ρ C F' σ H, Same F F' → RS K cl ρ C F' σ H → Dd.ct ρ C → De.ct σ H
  rt : ∀ v d C F' H, Same F F' → RC K cl C F' H → Rep K cl F' v d → Dd.rt d C → De.rt v H
def lowS (td : DS) : TS := fun De σ H => ∃ ρ C F Dd, RS K cl ρ C F σ H ∧ td Dd ρ C ∧ FinS K cl F Dd De
end
section
variable (K : PySem.W.Frag) (cl : Nm)
/-- an exception of a class of one's own, as it lies -/
def ExcRep (F : Hp) (c : String) (ds : List (Str × D)) (cv : Value) (d : Option Addr) (H : Hp) : Prop := cv = .ref (cl c) ∧ ∃ dd fs, d = some dd ∧ H dd = some (.xd fs) ∧ RepF K cl F fs ds
def FinX (F : Hp) (Ed : DX) (E : XK) : Prop := ∀ c ds cv d C H F', Same F F' → RC K cl C F' H → ExcRep K cl F' c ds cv d H → Ed c ds C → E cv d H
def lowSp (sp : DSp) : Sp := fun vs H Q E => ∃ ds C F Qd Ed, RC K cl C F H ∧ RepL K cl F vs ds ∧ sp ds C Qd Ed ∧ Fin K cl F Qd Q ∧ FinX K cl F Ed E
end

section
variable {K : PySem.W.Frag} {cl : Nm} {F F' : Hp}
theorem Fin.at {Qd : DQ} {Q : VK} (k : Fin K cl F Qd Q) (s : Same F F') : Fin K cl F' Qd Q := fun v d C H F2 s2 => k v d C H F2 (s.trans s2)
theorem FinX.at {Ed : DX} {E : XK} (k : FinX K cl F Ed E) (s : Same F F') : FinX K cl F' Ed E := fun c ds cv d C H F2 s2 => k c ds cv d C H F2 (s.trans s2)
theorem FinS.at {cl : NmB} {Dd : DEnds} {De : Ends} (k : FinS K cl F Dd De) (s : Same F F') : FinS K cl F' Dd De :=
  ⟨fun ρ C F2 σ H s2 => k.nx ρ C F2 σ H (s.trans s2), fun ρ C F2 σ H s2 => k.bk ρ C F2 σ H (s.trans s2), fun ρ C F2 σ H s2 => k.ct ρ C F2 σ H (s.trans s2), fun v d C F2 H s2 => k.rt v d C F2 H (s.trans s2)⟩
end

/-! ### the judgements -/
abbrev PEd (X : Cx) (cl : NmB) (e : Expr) (t : DE) : Prop := PE X e (lowE X.K cl t)
abbrev PTd (X : Cx) (cl : NmB) (e : Expr) (t : DT) : Prop := PT X e (lowT X.K cl t)
abbrev PAd (X : Cx) (cl : NmB) (es : List Expr) (t : DA) : Prop := PA X es (lowA X.K cl t)
abbrev PSd (X : Cx) (cl : NmB) (st : Stmt) (t : DS) : Prop := PS X st (lowS X.K cl t)
abbrev PSsd (X : Cx) (cl : NmB) (st : List Stmt) (t : DS) : Prop := PSs X st (lowS X.K cl t)

section
variable {X : Cx}
theorem weakE {e : Expr} {t t' : TE} (h : PE X e t) (w : ∀ σ H Q, t' σ H Q → t σ H Q) : PE X e t' := ⟨fun pins s σ H Q I q => h.run pins s σ H Q I (w σ H Q q)⟩
theorem weakT {e : Expr} {t t' : TT} (h : PT X e t) (w : ∀ σ H Q, t' σ H Q → t σ H Q) : PT X e t' := ⟨fun pins s σ H Q I q => h.run pins s σ H Q I (w σ H Q q)⟩
theorem weakW {e : Expr} {t t' : TT} (h : PW X e t) (w : ∀ σ H Q, t' σ H Q → t σ H Q) : PW X e t' := ⟨fun wh pins s σ H Q I q => h.run wh pins s σ H Q I (w σ H Q q)⟩
theorem weakA {e : List Expr} {t t' : TA} (h : PA X e t) (w : ∀ σ H Q, t' σ H Q → t σ H Q) : PA X e t' := ⟨fun p pins s σ H Q I q => h.run p pins s σ H Q I (w σ H Q q)⟩
theorem weakS {e : Stmt} {t t' : TS} (h : PS X e t) (w : ∀ D σ H, t' D σ H → t D σ H) : PS X e t' := ⟨fun pins s σ H D I q => h.run pins s σ H D I (w D σ H q)⟩
theorem weakSs {e : List Stmt} {t t' : TS} (h : PSs X e t) (w : ∀ D σ H, t' D σ H → t D σ H) : PSs X e t' := ⟨fun pins s σ H D I q => h.run pins s σ H D I (w D σ H q)⟩
end

/-! ### names, constants -/
def dVar (i : Nat) : DE := fun ρ C Q => ∃ d, ρ[i]? = some (some d) ∧ Q d C
def dC (d : D) : DE := fun _ C Q => Q d C
section
variable {X : Cx} {cl : NmB} {pos : Pos}
theorem dv (i : Nat) {x : Str} (hN : X.N[i]? = some x := by rfl) (hv : Vis X.env.scope x := by first | exact Or.inl rfl | exact Or.inr (Or.inl rfl) | exact Or.inr (Or.inr rfl)) (hd : (x == ("__debug__" : Str)) = false := by decide)
    (hcd : (x == ("__classdict__" : Str)) = false := by decide) : PEd X cl (.Name x pos) (dVar i) := by
  refine weakE (pv i hN hv hd hcd) fun σ H Q ⟨ρ, C, F, Qd, R, ⟨d, e, q⟩, k⟩ => ?_
  obtain ⟨v, ev, rv⟩ := R.env i d e
  exact ⟨v, ev, k v d C H F (Same.refl F) R.rc rv q⟩
theorem de_const {e : Expr} {v : V} {d : D} (h : PE X e (tC v)) (r : ∀ F, Rep X.K cl F v d) : PEd X cl e (dC d) :=
  weakE h fun σ H Q ⟨ρ, C, F, Qd, R, q, k⟩ => k v d C H F (Same.refl F) R.rc (r F) q
theorem de_int {i j} : PEd X cl (.Constant (.int i) j pos) (dC (.int i)) := de_const pe_int fun _ => .int i
theorem de_bl {b j} : PEd X cl (.Constant (.bool b) j pos) (dC (.bl b)) := de_const pe_bl fun _ => .bl b
theorem de_non {j} : PEd X cl (.Constant .none j pos) (dC .non) := de_const pe_non fun _ => .non
theorem de_str {x : Str} {l : List Nat} {j} (h : x = ⟨l.toArray⟩ := by decide +kernel) : PEd X cl (.Constant (.str x) j pos) (dC (.str l)) := by
  subst h
  exact de_const pe_str fun _ => .str l
theorem de_glob {x : Str} {v : V} {u : Value} {d : D} (hm : X.mg x = some u) (r : RelV v u) (h : ∀ F, Rep X.K cl F v d) (hg : Gl X x := by rfl) (hd : (x == ("__debug__" : Str)) = false := by decide) : PEd X cl (.Name x pos) (dC d) :=
  de_const (pe_glob hg hm r hd) h
theorem de_bltn {x : Str} {v : V} {u : Value} {d : D} (hm : X.mg x = none) (hv : bootBuiltins x = some u) (r : RelV v u) (h : ∀ F, Rep X.K cl F v d) (hg : Gl X x := by rfl) (hn : x ≠ "__name__" := by decide) (hd : (x == ("__debug__" : Str)) = false := by decide) : PEd X cl (.Name x pos) (dC d) :=
  de_const (pe_bltn hg hm hv r hn hd) h
end

/-! ### operators -/
abbrev RD2 := D → D → Cl → DQ → Prop
section
variable (K : PySem.W.Frag) (cl : Nm)
def lowR (rd : RD2) : R2 := fun x y H Q => ∃ dx dy C F Qd, RC K cl C F H ∧ Rep K cl F x dx ∧ Rep K cl F y dy ∧ rd dx dy C Qd ∧ Fin K cl F Qd Q
end
abbrev OpD (X : Cx) (cl : Nm) (f : Value → Value → Sem Value) (rd : RD2) : Prop := OpR X f (lowR X.K cl rd)
def dOp (rd : RD2) (ta tb : DE) : DE := fun ρ C Q => ta ρ C fun x C1 => tb ρ C1 fun y C2 => rd x y C2 Q
section
variable {X : Cx} {cl : NmB} {a b : Expr} {ta tb : DE} {pos : Pos} {K : PySem.W.Frag}
theorem low_op {rd : RD2} {σ : L2.St} {H : Hp} {Q : VK} (h : lowE K cl (dOp rd ta tb) σ H Q) : tOp (lowR K cl rd) (lowE K cl ta) (lowE K cl tb) σ H Q := by
  obtain ⟨ρ, C, F, Qd, R, h, k⟩ := h
  refine ⟨ρ, C, F, _, R, h, fun v d C1 H1 F1 s1 R1 r1 q1 => ?_⟩
  refine ⟨ρ, C1, F1, _, R.next s1 R1, q1, fun w e C2 H2 F2 s2 R2 r2 q2 => ?_⟩
  exact ⟨d, e, C2, F2, Qd, R2, r1.mono s2, r2, q2, k.at (s1.trans s2)⟩
theorem de_op {op : Operator} {rd : RD2} (ho : OpD X cl (binaryOp op) rd) (ha : PEd X cl a ta) (hb : PEd X cl b tb) : PEd X cl (.BinOp a op b pos) (dOp rd ta tb) :=
  weakE (pe_op ho ha hb) fun _ _ _ h => low_op h
theorem de_cmp {op : CmpOp} {rd : RD2} (ho : OpD X cl (compareOp op) rd) (ha : PEd X cl a ta) (hb : PEd X cl b tb) (hm : behindInMarks op b = false) : PEd X cl (.Compare a [op] [b] pos) (dOp rd ta tb) :=
  weakE (pe_cmpR ho ha hb hm) fun _ _ _ h => low_op h
/-- a value that is a truth value, as a test -/
def dTest (t : DE) : DT := fun ρ C Q => t ρ C fun x C1 => ∃ k, x = .bl k ∧ Q k C1
theorem low_test {t : DE} {σ : L2.St} {H : Hp} {Q : Bool → Hp → Prop} (h : lowT K cl (dTest t) σ H Q) : lowE K cl t σ H fun x H1 => ∃ k, x = .bl k ∧ Q k H1 := by
  obtain ⟨ρ, C, F, Qd, R, h, k⟩ := h
  refine ⟨ρ, C, F, _, R, h, fun v d C1 H1 F1 s1 R1 r1 q1 => ?_⟩
  obtain ⟨b, rfl, q⟩ := q1
  cases r1
  exact ⟨b, rfl, k b C1 H1 F1 s1 R1 q⟩
theorem low_test_op {rd : RD2} {σ : L2.St} {H : Hp} {Q : Bool → Hp → Prop} (h : lowT K cl (dTest (dOp rd ta tb)) σ H Q) : tTest (tOp (lowR K cl rd) (lowE K cl ta) (lowE K cl tb)) σ H Q := low_op (low_test h)
theorem dt_cmp {op : CmpOp} {rd : RD2} (ho : OpD X cl (compareOp op) rd) (ha : PEd X cl a ta) (hb : PEd X cl b tb) (hm : behindInMarks op b = false) : PTd X cl (.Compare a [op] [b] pos) (dTest (dOp rd ta tb)) :=
  weakT (pt_cmpR ho ha hb hm) fun _ _ _ h => low_test_op h
theorem dt_val {e : Expr} {t : DE} (h : PEd X cl e t) (he : ∀ whole, isTrue e X.env whole = (do let v ← whole; standAt e.pos; holding [v] (truthy v)) := by intro _; rfl) : PTd X cl e (dTest t) :=
  weakT (pt_val h he) fun _ _ _ h => low_test h
/-- a op b op c -/
def dChain (r r' : RD2) (ta tb tc : DE) : DE := fun ρ C Q => ta ρ C fun x C1 => tb ρ C1 fun y C2 => r x y C2 fun z C3 => ∃ k, z = .bl k ∧ if k = true then tc ρ C3 fun w C4 => r' y w C4 Q else Q (.bl false) C3
variable {c : Expr} {tc : DE}
theorem low_chain {r r' : RD2} {σ : L2.St} {H : Hp} {Q : VK} (h : lowE K cl (dChain r r' ta tb tc) σ H Q) : tChain (lowR K cl r) (lowR K cl r') (lowE K cl ta) (lowE K cl tb) (lowE K cl tc) σ H Q := by
  obtain ⟨ρ, C, F, Qd, R, h, k⟩ := h
  refine ⟨ρ, C, F, _, R, h, fun v d C1 H1 F1 s1 R1 r1 q1 => ?_⟩
  refine ⟨ρ, C1, F1, _, R.next s1 R1, q1, fun w e C2 H2 F2 s2 R2 r2 q2 => ?_⟩
  refine ⟨d, e, C2, F2, _, R2, r1.mono s2, r2, q2, fun z dz C3 H3 F3 s3 R3 r3 q3 => ?_⟩
  obtain ⟨kk, rfl, q3⟩ := q3
  cases r3
  refine ⟨kk, rfl, ?_⟩
  cases kk with
  | true =>
    rw [if_pos rfl] at q3 ⊢
    refine ⟨ρ, C3, F3, _, R.next (s1.trans (s2.trans s3)) R3, q3, fun u du C4 H4 F4 s4 R4 r4 q4 => ?_⟩
    exact ⟨e, du, C4, F4, Qd, R4, r2.mono (s3.trans s4), r4, q4, k.at (s1.trans (s2.trans (s3.trans s4)))⟩
  | false =>
    rw [if_neg Bool.false_ne_true] at q3 ⊢
    exact k (.bl false) (.bl false) C3 H3 F3 (s1.trans (s2.trans s3)) R3 (.bl false) q3
theorem de_chain {op op' : CmpOp} {r r' : RD2} (ho : OpD X cl (compareOp op) r) (ho' : OpD X cl (compareOp op') r') (ha : PEd X cl a ta) (hb : PEd X cl b tb) (hc : PEd X cl c tc) (hm : lastMarks [op, op'] [b, c] = false := by with_unfolding_all rfl) : PEd X cl (.Compare a [op, op'] [b, c] pos) (dChain r r' ta tb tc) :=
  weakE (pe_chain ho ho' ha hb hc hm) fun _ _ _ h => low_chain h
theorem dt_chain {op op' : CmpOp} {r r' : RD2} (ho : OpD X cl (compareOp op) r) (ho' : OpD X cl (compareOp op') r') (ha : PEd X cl a ta) (hb : PEd X cl b tb) (hc : PEd X cl c tc) (hm : lastMarks [op, op'] [b, c] = false := by with_unfolding_all rfl) : PTd X cl (.Compare a [op, op'] [b, c] pos) (dTest (dChain r r' ta tb tc)) :=
  weakT (pt_chain ho ho' ha hb hc hm) fun _ _ _ h => low_chain (low_test h)
/-- one-place operators -/
abbrev RD1 := D → Cl → DQ → Prop
def lowR1 (K : PySem.W.Frag) (cl : Nm) (rd : RD1) : V → Hp → VK → Prop := fun x H Q => ∃ dx C F Qd, RC K cl C F H ∧ Rep K cl F x dx ∧ rd dx C Qd ∧ Fin K cl F Qd Q
def dUn (rd : RD1) (ta : DE) : DE := fun ρ C Q => ta ρ C fun x C1 => rd x C1 Q
theorem low_un {rd : RD1} {σ : L2.St} {H : Hp} {Q : VK} (h : lowE K cl (dUn rd ta) σ H Q) : tUn (lowR1 K cl rd) (lowE K cl ta) σ H Q := by
  obtain ⟨ρ, C, F, Qd, R, h, k⟩ := h
  exact ⟨ρ, C, F, _, R, h, fun v d C1 H1 F1 s1 R1 r1 q1 => ⟨d, C1, F1, Qd, R1, r1, q1, k.at s1⟩⟩
theorem de_un {op : UnaryOp} {rd : RD1} (ho : UnR X (unaryOp op) (lowR1 X.K cl rd)) (ha : PEd X cl a ta) : PEd X cl (.UnaryOp op a pos) (dUn rd ta) :=
  weakE (pe_un ho ha) fun _ _ _ h => low_un h
end

/-! ### and, or, not, if -/
section
variable {X : Cx} {cl : NmB} {a b : Expr} {rest : List Expr} {ta tb : DE} {tA tB : DT} {pos : Pos} {K : PySem.W.Frag}
def dAnd (t u : DT) : DT := fun ρ C Q => t ρ C fun c C1 => if c = true then u ρ C1 Q else Q false C1
def dOr (t u : DT) : DT := fun ρ C Q => t ρ C fun c C1 => if c = true then Q true C1 else u ρ C1 Q
def dNot (t : DT) : DT := fun ρ C Q => t ρ C fun c C1 => Q (!c) C1
abbrev PWd (X : Cx) (cl : NmB) (e : Expr) (t : DT) : Prop := PW X e (lowT X.K cl t)
theorem dw_and1 (h : PTd X cl a tA) : PWd X cl (.BoolOp .And [a] pos) tA := pw_and1 h
theorem dw_or1 (h : PTd X cl a tA) : PWd X cl (.BoolOp .Or [a] pos) tA := pw_or1 h
theorem dw_and (ha : PTd X cl a tA) (hb : PWd X cl (.BoolOp .And (b :: rest) pos) tB) : PWd X cl (.BoolOp .And (a :: b :: rest) pos) (dAnd tA tB) := by
  refine weakW (pw_and ha hb) fun σ H Q ⟨ρ, C, F, Qd, R, h, k⟩ => ?_
  refine ⟨ρ, C, F, _, R, h, fun c C1 H1 F1 s1 R1 q1 => ?_⟩
  cases c with
  | true =>
    rw [if_pos rfl] at q1 ⊢
    exact ⟨ρ, C1, F1, Qd, R.next s1 R1, q1, fun b C2 H2 F2 s2 => k b C2 H2 F2 (s1.trans s2)⟩
  | false =>
    rw [if_neg Bool.false_ne_true] at q1 ⊢
    exact k false C1 H1 F1 s1 R1 q1
theorem dw_or (ha : PTd X cl a tA) (hb : PWd X cl (.BoolOp .Or (b :: rest) pos) tB) : PWd X cl (.BoolOp .Or (a :: b :: rest) pos) (dOr tA tB) := by
  refine weakW (pw_or ha hb) fun σ H Q ⟨ρ, C, F, Qd, R, h, k⟩ => ?_
  refine ⟨ρ, C, F, _, R, h, fun c C1 H1 F1 s1 R1 q1 => ?_⟩
  cases c with
  | true =>
    rw [if_pos rfl] at q1 ⊢
    exact k true C1 H1 F1 s1 R1 q1
  | false =>
    rw [if_neg Bool.false_ne_true] at q1 ⊢
    exact ⟨ρ, C1, F1, Qd, R.next s1 R1, q1, fun b C2 H2 F2 s2 => k b C2 H2 F2 (s1.trans s2)⟩
theorem dt_not (h : PTd X cl a tA) : PTd X cl (.UnaryOp .Not a pos) (dNot tA) := by
  refine weakT (pt_not h) fun σ H Q ⟨ρ, C, F, Qd, R, h, k⟩ => ?_
  exact ⟨ρ, C, F, _, R, h, fun c C1 H1 F1 s1 R1 q1 => k _ C1 H1 F1 s1 R1 q1⟩
/-- as values, all but the last a truth value -/
def dAndV (ta tb : DE) : DE := fun ρ C Q => ta ρ C fun x C1 => ∃ c, x = .bl c ∧ if c = true then tb ρ C1 Q else Q (.bl false) C1
def dOrV (ta tb : DE) : DE := fun ρ C Q => ta ρ C fun x C1 => ∃ c, x = .bl c ∧ if c = true then Q (.bl true) C1 else tb ρ C1 Q
def dNotV (ta : DE) : DE := fun ρ C Q => ta ρ C fun x C1 => ∃ c, x = .bl c ∧ Q (.bl (!c)) C1
theorem de_one {op : BoolOp} (h : PEd X cl a ta) : PEd X cl (.BoolOp op [a] pos) ta := pe_one h
theorem de_and (ha : PEd X cl a ta) (hb : PEd X cl (.BoolOp .And (b :: rest) pos) tb) : PEd X cl (.BoolOp .And (a :: b :: rest) pos) (dAndV ta tb) := by
  refine weakE (pe_and ha hb) fun σ H Q ⟨ρ, C, F, Qd, R, h, k⟩ => ?_
  refine ⟨ρ, C, F, _, R, h, fun v d C1 H1 F1 s1 R1 r1 q1 => ?_⟩
  obtain ⟨c, rfl, q1⟩ := q1
  cases r1
  refine ⟨c, rfl, ?_⟩
  cases c with
  | true =>
    rw [if_pos rfl] at q1 ⊢
    exact ⟨ρ, C1, F1, Qd, R.next s1 R1, q1, k.at s1⟩
  | false =>
    rw [if_neg Bool.false_ne_true] at q1 ⊢
    exact k _ _ C1 H1 F1 s1 R1 (.bl false) q1
theorem de_or (ha : PEd X cl a ta) (hb : PEd X cl (.BoolOp .Or (b :: rest) pos) tb) : PEd X cl (.BoolOp .Or (a :: b :: rest) pos) (dOrV ta tb) := by
  refine weakE (pe_or ha hb) fun σ H Q ⟨ρ, C, F, Qd, R, h, k⟩ => ?_
  refine ⟨ρ, C, F, _, R, h, fun v d C1 H1 F1 s1 R1 r1 q1 => ?_⟩
  obtain ⟨c, rfl, q1⟩ := q1
  cases r1
  refine ⟨c, rfl, ?_⟩
  cases c with
  | true =>
    rw [if_pos rfl] at q1 ⊢
    exact k _ _ C1 H1 F1 s1 R1 (.bl true) q1
  | false =>
    rw [if_neg Bool.false_ne_true] at q1 ⊢
    exact ⟨ρ, C1, F1, Qd, R.next s1 R1, q1, k.at s1⟩
theorem de_not (h : PEd X cl a ta) : PEd X cl (.UnaryOp .Not a pos) (dNotV ta) := by
  refine weakE (pe_not h) fun σ H Q ⟨ρ, C, F, Qd, R, h, k⟩ => ?_
  refine ⟨ρ, C, F, _, R, h, fun v d C1 H1 F1 s1 R1 r1 q1 => ?_⟩
  obtain ⟨c, rfl, q1⟩ := q1
  cases r1
  exact ⟨c, rfl, k _ _ C1 H1 F1 s1 R1 (.bl _) q1⟩
def dIf (t : DT) (ta tb : DE) : DE := fun ρ C Q => t ρ C fun c C1 => if c = true then ta ρ C1 Q else tb ρ C1 Q
theorem de_ifExp {c : Expr} (hc : PTd X cl c tA) (ha : PEd X cl a ta) (hb : PEd X cl b tb) : PEd X cl (.IfExp c a b pos) (dIf tA ta tb) := by
  refine weakE (pe_ifExp hc ha hb) fun σ H Q ⟨ρ, C, F, Qd, R, h, k⟩ => ?_
  refine ⟨ρ, C, F, _, R, h, fun c C1 H1 F1 s1 R1 q1 => ?_⟩
  cases c with
  | true =>
    rw [if_pos rfl] at q1 ⊢
    exact ⟨ρ, C1, F1, Qd, R.next s1 R1, q1, k.at s1⟩
  | false =>
    rw [if_neg Bool.false_ne_true] at q1 ⊢
    exact ⟨ρ, C1, F1, Qd, R.next s1 R1, q1, k.at s1⟩
end

/-! ### arguments, displays -/
def dNil : DA := fun _ C Q => Q [] C
def dCons (ta : DE) (tr : DA) : DA := fun ρ C Q => ta ρ C fun x C1 => tr ρ C1 fun xs C2 => Q (x :: xs) C2
def dTup (t : DA) : DE := fun ρ C Q => t ρ C fun xs C1 => xs.length ≤ sizeLine ∧ Q (.tup xs) C1
def dLst (t : DA) : DE := fun ρ C Q => t ρ C fun xs C1 => xs.length ≤ sizeLine ∧ Q (.lst xs) C1
/-- a list that is to be changed -/
def dLstC (t : DA) : DE := fun ρ C Q => t ρ C fun xs C1 => xs.length ≤ sizeLine ∧ ∀ p, C1 p = none → Q (.ref p) (updC C1 p (.lst xs))
section
variable {X : Cx} {cl : NmB} {e : Expr} {es : List Expr} {te : DE} {t : DA} {pos : Pos} {K : PySem.W.Frag}
theorem da_nil : PAd X cl [] dNil := weakA pa_nil fun σ H Q ⟨ρ, C, F, Qd, R, h, k⟩ => k [] [] C H F (Same.refl F) R.rc .nil h
theorem low_cons {σ : L2.St} {H : Hp} {Q : List V → Hp → Prop} (h : lowA K cl (dCons te t) σ H Q) : tCons (lowE K cl te) (lowA K cl t) σ H Q := by
  obtain ⟨ρ, C, F, Qd, R, h, k⟩ := h
  refine ⟨ρ, C, F, _, R, h, fun v d C1 H1 F1 s1 R1 r1 q1 => ?_⟩
  refine ⟨ρ, C1, F1, _, R.next s1 R1, q1, fun vs ds C2 H2 F2 s2 R2 r2 q2 => ?_⟩
  exact k _ _ C2 H2 F2 (s1.trans s2) R2 (.cons (r1.mono s2) r2) q2
theorem da_cons (ha : PEd X cl e te) (hr : PAd X cl es t) (hs : starEach (e :: es) X.env = (false, eval e X.env) :: starEach es X.env := by rfl) : PAd X cl (e :: es) (dCons te t) :=
  weakA (pa_cons ha hr hs) fun _ _ _ h => low_cons h
theorem de_tup {x1} (h : PAd X cl es t) : PEd X cl (.Tuple es x1 pos) (dTup t) := by
  refine weakE (pe_tup h) fun σ H Q ⟨ρ, C, F, Qd, R, h, k⟩ => ?_
  refine ⟨ρ, C, F, _, R, h, fun vs ds C1 H1 F1 s1 R1 r1 ⟨z, q1⟩ => ⟨by rw [r1.length]; exact z, fun p np => ?_⟩⟩
  have s2 := same_upd (o := .tup vs) (R1.freeF np)
  exact k _ _ C1 _ _ (s1.trans s2) (R1.new np) (.tup (.of upd_same) (r1.mono s2)) q1
theorem de_lst (h : PAd X cl es t) : PEd X cl (.List es pos) (dLst t) := by
  refine weakE (pe_lst h) fun σ H Q ⟨ρ, C, F, Qd, R, h, k⟩ => ?_
  refine ⟨ρ, C, F, _, R, h, fun vs ds C1 H1 F1 s1 R1 r1 ⟨z, q1⟩ => ⟨by rw [r1.length]; exact z, fun p np => ?_⟩⟩
  have s2 := same_upd (o := .lst vs) (R1.freeF np)
  exact k _ _ C1 _ _ (s1.trans s2) (R1.new np) (.lst upd_same (r1.mono s2)) q1
theorem de_lstC (h : PAd X cl es t) : PEd X cl (.List es pos) (dLstC t) := by
  refine weakE (pe_lst h) fun σ H Q ⟨ρ, C, F, Qd, R, h, k⟩ => ?_
  refine ⟨ρ, C, F, _, R, h, fun vs ds C1 H1 F1 s1 R1 r1 ⟨z, q1⟩ => ⟨by rw [r1.length]; exact z, fun p np => ?_⟩⟩
  exact k _ _ _ _ _ s1 (R1.cell np (.lst r1)) (.ref p) (q1 p (R1.freeC np))
end

/-! ### ghosts: a cell becomes a tree, cells are forgotten -/
inductive Gh : D → Cl → D → Cl → Prop
  | same {d : D} {C : Cl} : Gh d C d C
  | drop {d : D} {C C' : Cl} : SubC C' C → Gh d C d C'
  | lst {a : Addr} {C : Cl} {ds : List D} : C a = some (.lst ds) → Gh (.ref a) C (.lst ds) (delC C a)
  | dic {a : Addr} {C : Cl} {ds : List (Key × D)} : C a = some (.dic ds) → Gh (.ref a) C (.dic ds) (delC C a)
  | dct {a : Addr} {C : Cl} {ds : List (List Key × D)} : C a = some (.dct ds) → Gh (.ref a) C (.dct ds) (delC C a)
  | ins {a : Addr} {C : Cl} {c : String} {ds : List (Str × D)} : C a = some (.ins c ds) → Gh (.ref a) C (.ins c ds) (delC C a)
  | trans {d d1 d2 : D} {C C1 C2 : Cl} : Gh d C d1 C1 → Gh d1 C1 d2 C2 → Gh d C d2 C2
theorem Gh.ok {K : PySem.W.Frag} {cl : Nm} {F H : Hp} {d d' : D} {C C' : Cl} {v : V} (g : Gh d C d' C') : RC K cl C F H → Rep K cl F v d → ∃ F', Same F F' ∧ RC K cl C' F' H ∧ Rep K cl F' v d' := by
  induction g generalizing F with
  | same => exact fun R r => ⟨F, Same.refl F, R, r⟩
  | drop s => exact fun R r => ⟨F, Same.refl F, R.drop s, r⟩
  | lst h =>
    intro R r
    cases r
    obtain ⟨_, o, ho, c⟩ := R.cel _ _ h
    cases c with
    | lst rl =>
      obtain ⟨R', s⟩ := R.freeze h ho
      exact ⟨_, s, R', .lst upd_same (rl.mono s)⟩
  | dic h =>
    intro R r
    cases r
    obtain ⟨_, o, ho, c⟩ := R.cel _ _ h
    cases c with
    | dic rl =>
      obtain ⟨R', s⟩ := R.freeze h ho
      exact ⟨_, s, R', .dic (.inl upd_same) (rl.mono s)⟩
  | dct h =>
    intro R r
    cases r
    obtain ⟨_, o, ho, c⟩ := R.cel _ _ h
    cases c with
    | dct rl =>
      obtain ⟨R', s⟩ := R.freeze h ho
      exact ⟨_, s, R', .dct upd_same (rl.mono s)⟩
  | ins h =>
    intro R r
    cases r
    obtain ⟨_, o, ho, c⟩ := R.cel _ _ h
    cases c with
    | ins rl =>
      obtain ⟨R', s⟩ := R.freeze h ho
      exact ⟨_, s, R', .ins upd_same (rl.mono s)⟩
  | trans _ _ i1 i2 =>
    intro R r
    obtain ⟨F1, s1, R1, r1⟩ := i1 R r
    obtain ⟨F2, s2, R2, r2⟩ := i2 R1 r1
    exact ⟨F2, s1.trans s2, R2, r2⟩
end G
namespace G
open PySem PySem.Spec PyProof.Rows L2

/-! ### blocks and small statements -/
def dNext : DS := fun D ρ C => D.nx ρ C
def dSeq (t u : DS) : DS := fun D ρ C => t { D with nx := u D } ρ C
def dDrop (te : DE) : DS := fun D ρ C => te ρ C fun _ C1 => D.nx ρ C1
def dRet (te : DE) : DS := fun D ρ C => te ρ C D.rt
def dIfS (c : DT) (t u : DS) : DS := fun D ρ C => c ρ C fun b C1 => if b = true then t D ρ C1 else u D ρ C1
def dNever : DS := fun _ _ _ => False
section
variable {X : Cx} {cl : NmB} {st : Stmt} {rest : List Stmt} {t u : DS} {e : Expr} {te : DE} {pos : Pos}
theorem dss_nil : PSsd X cl [] dNext := weakSs pss_nil fun De σ H ⟨ρ, C, F, Dd, R, h, k⟩ => k.nx ρ C F σ H (Same.refl F) R h
theorem dss_cons (h1 : PSd X cl st t) (h2 : PSsd X cl rest u) : PSsd X cl (st :: rest) (dSeq t u) := by
  refine weakSs (pss_cons h1 h2) fun De σ H ⟨ρ, C, F, Dd, R, h, k⟩ => ?_
  exact ⟨ρ, C, F, { Dd with nx := u Dd }, R, h, ⟨fun ρ' C' F' σ' H' s R' q => ⟨ρ', C', F', Dd, R', q, k.at s⟩, k.bk, k.ct, k.rt⟩⟩
theorem dss_one (h1 : PSd X cl st t) : PSsd X cl [st] t := pss_one h1
theorem ds_never : PSd X cl st dNever := weakS (t := tNever) ps_never fun De σ H ⟨ρ, C, F, Dd, R, h, k⟩ => h.elim
theorem ds_expr (he : PEd X cl e te) (hs : swapsWith e none pos.line X.env = pure false := by rfl) : PSd X cl (.Expr e pos) (dDrop te) := by
  refine weakS (ps_expr he hs) fun De σ H ⟨ρ, C, F, Dd, R, h, k⟩ => ?_
  exact ⟨ρ, C, F, _, R, h, fun v d C1 H1 F1 s1 R1 r1 q1 => k.nx ρ C1 F1 σ H1 s1 (R.next s1 R1) q1⟩
theorem ds_ret (he : PEd X cl e te) : PSd X cl (.Return (some e) pos) (dRet te) := by
  refine weakS (ps_ret he) fun De σ H ⟨ρ, C, F, Dd, R, h, k⟩ => ?_
  exact ⟨ρ, C, F, _, R, h, fun v d C1 H1 F1 s1 R1 r1 q1 => k.rt v d C1 F1 H1 s1 R1 r1 q1⟩
theorem ds_if {c : Expr} {a b : List Stmt} {tc : DT} (hc : PTd X cl c tc) (ha : PSsd X cl a t) (hb : PSsd X cl b u) : PSd X cl (.If c a b pos) (dIfS tc t u) := by
  refine weakS (ps_if hc ha hb) fun De σ H ⟨ρ, C, F, Dd, R, h, k⟩ => ?_
  refine ⟨ρ, C, F, _, R, h, fun d C1 H1 F1 s1 R1 q1 => ?_⟩
  cases d with
  | true =>
    rw [if_pos rfl] at q1 ⊢
    exact ⟨ρ, C1, F1, Dd, R.next s1 R1, q1, k.at s1⟩
  | false =>
    rw [if_neg Bool.false_ne_true] at q1 ⊢
    exact ⟨ρ, C1, F1, Dd, R.next s1 R1, q1, k.at s1⟩
end

/-! ### a name, seen otherwise -/
def dView (i : Nat) (t : DS) : DS := fun D ρ C => ∃ d d' C', ρ[i]? = some (some d) ∧ Gh d C d' C' ∧ t D (ρ.set i (some d')) C'
theorem set_own {α : Type} : ∀ {l : List α} {i : Nat} {x : α}, l[i]? = some x → l.set i x = l
  | [], _, _, h => by simp at h
  | a :: l, 0, x, h => by
    have e : a = x := Option.some.inj h
    rw [e]; rfl
  | a :: l, i + 1, x, h => by
    have e := set_own (l := l) (i := i) (x := x) (by simpa using h)
    show a :: l.set i x = a :: l
    rw [e]
theorem dss_view {X : Cx} {cl : NmB} {sts : List Stmt} {t : DS} (i : Nat) (h : PSsd X cl sts t) : PSsd X cl sts (dView i t) := by
  refine weakSs h fun De σ H ⟨ρ, C, F, Dd, R, ⟨d, d', C', e, g, q⟩, k⟩ => ?_
  obtain ⟨v, ev, rv⟩ := R.env i d e
  obtain ⟨F', s, R', r'⟩ := g.ok R.rc rv
  refine ⟨_, C', F', Dd, ?_, q, k.at s⟩
  have := (R.next s R').set i r'
  rw [set_own ev] at this
  exact this

/-! ### targets -/
abbrev DG := D → DEnv → Cl → (DEnv → Cl → Prop) → Prop
abbrev DGs := List D → DEnv → Cl → (DEnv → Cl → Prop) → Prop
def lowG (K : PySem.W.Frag) (cl : NmB) (g : DG) : TG := fun v σ H Q => ∃ d ρ C F Qd, RS K cl ρ C F σ H ∧ Rep K cl F v d ∧ g d ρ C Qd ∧ ∀ ρ' C' F' σ' H', Same F F' → RS K cl ρ' C' F' σ' H' → Qd ρ' C' → Q σ' H'
def lowGs (K : PySem.W.Frag) (cl : NmB) (g : DGs) : TGs := fun v σ H Q => ∃ d ρ C F Qd, RS K cl ρ C F σ H ∧ RepL K cl F v d ∧ g d ρ C Qd ∧ ∀ ρ' C' F' σ' H', Same F F' → RS K cl ρ' C' F' σ' H' → Qd ρ' C' → Q σ' H'
abbrev PGd (X : Cx) (cl : NmB) (tg : Expr) (g : DG) : Prop := PG X tg (lowG X.K cl g)
abbrev PGsd (X : Cx) (cl : NmB) (tg : List Expr) (g : DGs) : Prop := PGs X tg (lowGs X.K cl g)
theorem weakG {X : Cx} {e : Expr} {t t' : TG} (h : PG X e t) (w : ∀ v σ H Q, t' v σ H Q → t v σ H Q) : PG X e t' := ⟨fun pins s σ H v u Q I r q => h.run pins s σ H v u Q I r (w v σ H Q q)⟩
theorem weakGs {X : Cx} {e : List Expr} {t t' : TGs} (h : PGs X e t) (w : ∀ v σ H Q, t' v σ H Q → t v σ H Q) : PGs X e t' := ⟨fun pins s σ H v u Q I r q => h.run pins s σ H v u Q I r (w v σ H Q q)⟩
def dName (i : Nat) : DG := fun d ρ C Q => Q (ρ.set i (some d)) C
def dgNil : DGs := fun ds ρ C Q => ds = [] ∧ Q ρ C
def dgCons (t : DG) (u : DGs) : DGs := fun ds ρ C Q => ∃ d r, ds = d :: r ∧ t d ρ C fun ρ' C' => u r ρ' C' Q
def dgTup (n : Nat) (t : DGs) : DG := fun d ρ C Q => ∃ ds, d = .tup ds ∧ ds.length = n ∧ t ds ρ C Q
section
variable {X : Cx} {cl : NmB} {pos : Pos}
theorem dg_name (i : Nat) {x : Str} (hN : X.N.Nodup) (hi : X.N[i]? = some x := by rfl) (hx : Loc X.env.scope x := by first | exact Or.inl rfl | exact Or.inr rfl) (hf : X.fn x = true ∨ X.env.scope.names.lookup x = some .local := by first | exact .inl rfl | exact .inr rfl | assumption) : PGd X cl (.Name x pos) (dName i) := by
  refine weakG (pg_name hN hi hx hf) fun v σ H Q ⟨d, ρ, C, F, Qd, R, r, q, k⟩ => ?_
  exact k _ C F _ H (Same.refl F) (R.set i r) q
theorem dgs_nil : PGsd X cl [] dgNil := by
  refine weakGs pgs_nil fun v σ H Q ⟨d, ρ, C, F, Qd, R, r, ⟨e, q⟩, k⟩ => ?_
  subst e
  cases r
  exact ⟨rfl, k ρ C F σ H (Same.refl F) R q⟩
theorem dgs_cons {e : Expr} {es : List Expr} {t : DG} {u : DGs} (h1 : PGd X cl e t) (h2 : PGsd X cl es u)
    (hs : (assignEach (e :: es) X.env).map (·.2) = assign e X.env :: (assignEach es X.env).map (·.2) := by rfl) : PGsd X cl (e :: es) (dgCons t u) := by
  refine weakGs (pgs_cons h1 h2 hs) fun v σ H Q ⟨ds, ρ, C, F, Qd, R, r, ⟨d, r', e, q⟩, k⟩ => ?_
  subst e
  cases r with
  | cons rd rr =>
    refine ⟨_, _, rfl, d, ρ, C, F, _, R, rd, q, fun ρ1 C1 F1 σ1 H1 s1 R1 q1 => ?_⟩
    exact ⟨r', ρ1, C1, F1, Qd, R1, rr.mono s1, q1, fun ρ2 C2 F2 σ2 H2 s2 => k ρ2 C2 F2 σ2 H2 (s1.trans s2)⟩
theorem dg_tup {es : List Expr} {j : Nat} {t : DGs} {n : Nat} (h : PGsd X cl es t) (hc : X.calm = true := by rfl)
    (hn : (assignEach es X.env).length = n := by rfl) (hst : (assignEach es X.env).findIdx? (·.1) = none := by rfl) : PGd X cl (.Tuple es j pos) (dgTup n t) := by
  refine weakG (pg_tup hc h hn hst) fun v σ H Q ⟨d, ρ, C, F, Qd, R, r, ⟨ds, e, hl, q⟩, k⟩ => ?_
  subst e
  cases r with
  | tup hq rl => exact ⟨_, _, rfl, sqT_mono R.rc.sub hq, rl.length.trans hl, ds, ρ, C, F, Qd, R, rl, q, k⟩
/-- o[i] = v -/
abbrev RSet := D → D → D → Cl → (Cl → Prop) → Prop
def lowSet (K : PySem.W.Frag) (cl : Nm) (rd : RSet) : TSet := fun o i v H Q => ∃ dO dI dV C F Qd, RC K cl C F H ∧ Rep K cl F o dO ∧ Rep K cl F i dI ∧ Rep K cl F v dV ∧ rd dO dI dV C Qd ∧ ∀ C' F' H', Same F F' → RC K cl C' F' H' → Qd C' → Q H'
abbrev SetD (X : Cx) (cl : Nm) (rd : RSet) : Prop := PSet X (lowSet X.K cl rd)
def dgSub (to ti : DE) (rd : RSet) : DG := fun d ρ C Q => to ρ C fun o C1 => ti ρ C1 fun i C2 => rd o i d C2 fun C3 => Q ρ C3
theorem dg_sub {o i : Expr} {to ti : DE} {rd : RSet} (ho : PEd X cl o to) (hi : PEd X cl i ti) (hs : SetD X cl rd)
    (ha : ∀ v, assign (.Subscript o i pos) X.env v = (do
      let ov ← holding [v] (eval o X.env)
      let iv ← holding [v, ov] (eval i X.env)
      standAt pos
      holding [v, ov, iv] (setItem ov iv v)
      release [v, ov, iv] []) := by intro _; rfl) : PGd X cl (.Subscript o i pos) (dgSub to ti rd) := by
  refine weakG (pg_sub ho hi hs ha) fun v σ H Q ⟨d, ρ, C, F, Qd, R, r, q, k⟩ => ?_
  refine ⟨ρ, C, F, _, R, q, fun vo dO C1 H1 F1 s1 R1 r1 q1 => ?_⟩
  refine ⟨ρ, C1, F1, _, R.next s1 R1, q1, fun vi dI C2 H2 F2 s2 R2 r2 q2 => ?_⟩
  refine ⟨dO, dI, d, C2, F2, _, R2, r1.mono s2, r2, r.mono (s1.trans s2), q2, fun C3 F3 H3 s3 R3 q3 => ?_⟩
  exact k ρ C3 F3 σ H3 (s1.trans (s2.trans s3)) (R.next (s1.trans (s2.trans s3)) R3) q3
/-- target = value -/
def dAsg (te : DE) (g : DG) : DS := fun D ρ C => te ρ C fun x C1 => g x ρ C1 D.nx
theorem ds_asg {tg e : Expr} {te : DE} {g : DG} (he : PEd X cl e te) (hg : PGd X cl tg g) (hs : swapsWithSole [tg] e pos.line X.env = pure false := by rfl) (hw : swappedStores [tg] e X.env = pure none := by rfl)
    (h1 : (assignEach [tg] X.env).map (·.2) = [assign tg X.env] := by rfl) : PSd X cl (.Assign [tg] e pos) (dAsg te g) := by
  refine weakS (ps_asg he hg hs hw h1) fun De σ H ⟨ρ, C, F, Dd, R, h, k⟩ => ?_
  refine ⟨ρ, C, F, _, R, h, fun v d C1 H1 F1 s1 R1 r1 q1 => ?_⟩
  exact ⟨d, ρ, C1, F1, _, R.next s1 R1, r1, q1, fun ρ2 C2 F2 σ2 H2 s2 R2 q2 => k.nx ρ2 C2 F2 σ2 H2 (s1.trans s2) R2 q2⟩
theorem ds_set (i : Nat) {x : Str} {e : Expr} {te : DE} {pos' : Pos} (hN : X.N.Nodup) (he : PEd X cl e te) (hi : X.N[i]? = some x := by rfl) (hx : Loc X.env.scope x := by first | exact Or.inl rfl | exact Or.inr rfl) (hs : swapsWith e (some (.Name x pos')) pos.line X.env = pure false := by rfl) (hf : X.fn x = true ∨ X.env.scope.names.lookup x = some .local := by first | exact .inl rfl | exact .inr rfl | assumption) :
    PSd X cl (.Assign [.Name x pos'] e pos) (dAsg te (dName i)) := by
  refine weakS (ps_set hN hi hx he hs hf) fun De σ H ⟨ρ, C, F, Dd, R, h, k⟩ => ?_
  refine ⟨ρ, C, F, _, R, h, fun v d C1 H1 F1 s1 R1 r1 q1 => ?_⟩
  exact k.nx _ C1 F1 _ H1 s1 ((R.next s1 R1).set i r1) q1
/-- a, b = x, y with plain names: stored from the right; no tuple is made -/
def dPar (i j : Nat) (t : DA) : DS := fun D ρ C => t ρ C fun ds C2 => ∃ v w, ds = [v, w] ∧ D.nx ((ρ.set i (some v)).set j (some w)) C2
theorem ds_par (i j : Nat) {x y : Str} {a b : Expr} {t : DA} {px py pt : Pos} {kt k2 pt2} (hN : X.N.Nodup) (ha : PAd X cl [a, b] t) (hij : i ≠ j := by decide) (hc : X.calm = true := by rfl) (hi : X.N[i]? = some x := by rfl) (hj : X.N[j]? = some y := by rfl)
    (hx : X.env.scope.names.lookup x = some .local := by rfl) (hy : X.env.scope.names.lookup y = some .local := by rfl)
    (hw : swappedStores [.Tuple [.Name x px, .Name y py] kt pt] (.Tuple [a, b] k2 pt2) X.env = pure (some [x, y]) := by rfl)
    (hs : swapsWithSole [.Tuple [.Name x px, .Name y py] kt pt] (.Tuple [a, b] k2 pt2) pos.line X.env = pure false := by rfl) :
    PSd X cl (.Assign [.Tuple [.Name x px, .Name y py] kt pt] (.Tuple [a, b] k2 pt2) pos) (dPar i j t) := by
  refine weakS (ps_par hc hN hi hj hij hx hy ha hw hs) fun De σ H ⟨ρ, C, F, Dd, R, h, k⟩ => ?_
  refine ⟨ρ, C, F, _, R, h, fun vs ds C1 H1 F1 s1 R1 r1 ⟨v, w, e, q1⟩ => ?_⟩
  subst e
  cases r1 with
  | cons ra rr =>
    cases rr with
    | cons rb rn =>
      cases rn
      exact ⟨_, _, rfl, k.nx _ C1 F1 _ H1 s1 (((R.next s1 R1).set i ra).set j rb) q1⟩
/-! ### loops -/
def dWhile (c : DT) (tb : DS) : DS := fun D ρ C => ∃ W : Nat → DEnv → Cl → Prop, (∃ m, W m ρ C) ∧ ∀ m ρ C, W m ρ C →
  c ρ C fun b C1 => if b = true then tb { D with nx := fun ρ' C' => ∃ m', m' < m ∧ W m' ρ' C', ct := fun ρ' C' => ∃ m', m' < m ∧ W m' ρ' C', bk := D.nx } ρ C1 else D.nx ρ C1
theorem ds_while {c : Expr} {body : List Stmt} {tc : DT} {tb : DS} (hp : PassesOwn (model X.prog X.w) X.A X.env X.xe) (hc : PTd X cl c tc) (hb : PSsd X cl body tb) : PSd X cl (.While c body [] pos) (dWhile tc tb) := by
  refine weakS (ps_while hp hc hb) fun De σ H ⟨ρ, C, F, Dd, R, ⟨W, ⟨m0, w0⟩, turn⟩, k⟩ => ?_
  refine ⟨fun m σ H => ∃ ρ C F', Same F F' ∧ RS X.K cl ρ C F' σ H ∧ W m ρ C, ⟨m0, ρ, C, F, Same.refl F, R, w0⟩, ?_⟩
  rintro m σ1 H1 ⟨ρ1, C1, F1, s1, R1, w1⟩
  refine ⟨ρ1, C1, F1, _, R1, turn m ρ1 C1 w1, fun b C2 H2 F2 s2 R2 q2 => ?_⟩
  cases b with
  | true =>
    rw [if_pos rfl] at q2 ⊢
    have again : ∀ ρ' C' F' σ' H', Same F2 F' → RS X.K cl ρ' C' F' σ' H' → (∃ m', m' < m ∧ W m' ρ' C') → ∃ m', m' < m ∧ ∃ ρ C F', Same F F' ∧ RS X.K cl ρ C F' σ' H' ∧ W m' ρ C := fun ρ' C' F' σ' H' s' R' ⟨m', lt, w'⟩ => ⟨m', lt, ρ', C', F', s1.trans (s2.trans s'), R', w'⟩
    refine ⟨fun σ' H' => ∃ m', m' < m ∧ ∃ ρ C F', Same F F' ∧ RS X.K cl ρ C F' σ' H' ∧ W m' ρ C, fun σ' H' z => z, ρ1, C2, F2, _, R1.next s2 R2, q2, ?_⟩
    exact ⟨again, fun ρ' C' F' σ' H' s' => k.nx ρ' C' F' σ' H' (s1.trans (s2.trans s')), again, (k.at (s1.trans s2)).rt⟩
  | false =>
    rw [if_neg Bool.false_ne_true] at q2 ⊢
    exact k.nx ρ1 C2 F2 σ1 H2 (s1.trans s2) (R1.next s2 R2) q2
/-- J yields the items xs, one a turn -/
def Walk (K : PySem.W.Frag) (cl : Nm) (J : It) (xs : List D) (F : Hp) : Prop := ∀ i C F1 H, Same F F1 → RC K cl C F1 H →
  (∀ x, xs[i]? = some x → J.go i H ∧ ∀ v H', J.yld i H v H' → ∃ F2, Same F1 F2 ∧ RC K cl C F2 H' ∧ Rep K cl F2 v x) ∧ (xs.length = i → J.stop i H)
theorem Walk.at {K : PySem.W.Frag} {J : It} {xs : List D} {F F' : Hp} (w : Walk K cl J xs F) (s : Same F F') : Walk K cl J xs F' := fun i C F1 H s1 => w i C F1 H (s.trans s1)
abbrev DI := DEnv → Cl → (List D → Cl → Prop) → Prop
def lowI (K : PySem.W.Frag) (cl : NmB) (wi : DI) : TI := fun σ H R => ∃ ρ C F Qd, RS K cl ρ C F σ H ∧ wi ρ C Qd ∧ ∀ J xs C' H' F', Same F F' → RC K cl C' F' H' → Walk K cl J xs F' → Qd xs C' → R J H'
abbrev PId (X : Cx) (cl : NmB) (tg iter : Expr) (wi : DI) : Prop := PI X tg iter (lowI X.K cl wi)
theorem weakI {tg iter : Expr} {t t' : TI} (h : PI X tg iter t) (w : ∀ σ H Q, t' σ H Q → t σ H Q) : PI X tg iter t' := ⟨fun pins s σ H Q I q => h.run pins s σ H Q I (w σ H Q q)⟩
def dFor (wi : DI) (g : DG) (tb : DS) : DS := fun D ρ C => wi ρ C fun xs C1 => ∃ Pv : Nat → DEnv → Cl → Prop, Pv 0 ρ C1 ∧
  (∀ i x ρ C, xs[i]? = some x → Pv i ρ C → g x ρ C fun ρ2 C2 => tb { D with nx := Pv (i + 1), ct := Pv (i + 1), bk := D.nx } ρ2 C2) ∧ ∀ ρ C, Pv xs.length ρ C → D.nx ρ C
theorem ds_for {tg iter : Expr} {body : List Stmt} {wi : DI} {g : DG} {tb : DS} (hp : PassesOwn (model X.prog X.w) X.A X.env X.xe) (hi : PId X cl tg iter wi) (hg : PGd X cl tg g) (hb : PSsd X cl body tb) (hc : X.calm = true := by rfl)
    (hs : ∀ x, foldedSetIterable iter X.env x = pure x := by intro _; rfl) : PSd X cl (.For tg iter body [] pos) (dFor wi g tb) := by
  refine weakS (ps_for hp hc hi hg hb hs) fun De σ H ⟨ρ, C, F, Dd, R, h, k⟩ => ?_
  refine ⟨ρ, C, F, _, R, h, fun J xs C1 H1 F1 s1 R1 wk ⟨Pv, p0, ps, pd⟩ => ?_⟩
  refine ⟨fun i m σ H => m = xs.length - i ∧ i ≤ xs.length ∧ ∃ ρ C F', Same F1 F' ∧ RS X.K cl ρ C F' σ H ∧ Pv i ρ C, ⟨xs.length, by simp, Nat.zero_le _, ρ, C1, F1, Same.refl F1, R.next s1 R1, p0⟩, ?_⟩
  rintro i m σ2 H2 ⟨rfl, hi, ρ2, C2, F2, s2, R2, p2⟩
  obtain ⟨wy, we⟩ := wk i C2 F2 H2 s2 R2.rc
  by_cases hlt : i < xs.length
  · obtain ⟨go, yl⟩ := wy _ (List.getElem?_eq_getElem hlt)
    have again : ∀ ρ' C' F' σ' H', Same F1 F' → RS X.K cl ρ' C' F' σ' H' → Pv (i + 1) ρ' C' → ∃ ρ C F', Same F1 F' ∧ RS X.K cl ρ C F' σ' H' ∧ Pv (i + 1) ρ C := fun ρ' C' F' σ' H' s' R' p' => ⟨ρ', C', F', s', R', p'⟩
    refine .inr ⟨go, fun σ' H' => ∃ ρ C F', Same F1 F' ∧ RS X.K cl ρ C F' σ' H' ∧ Pv (i + 1) ρ C, fun σ' H' z => ⟨xs.length - (i + 1), by omega, rfl, hlt, z⟩, fun v H3 y => ?_⟩
    obtain ⟨F3, s3, R3, r3⟩ := yl v H3 y
    refine ⟨_, ρ2, C2, F3, _, R2.next s3 R3, r3, ps i _ ρ2 C2 (List.getElem?_eq_getElem hlt) p2, fun ρ4 C4 F4 σ4 H4 s4 R4 q4 => ?_⟩
    have sb : Same F1 F4 := s2.trans (s3.trans s4)
    exact ⟨ρ4, C4, F4, _, R4, q4, ⟨fun ρ' C' F' σ' H' s' => again ρ' C' F' σ' H' (sb.trans s'), fun ρ' C' F' σ' H' s' => k.nx ρ' C' F' σ' H' (s1.trans (sb.trans s')), fun ρ' C' F' σ' H' s' => again ρ' C' F' σ' H' (sb.trans s'), (k.at (s1.trans sb)).rt⟩⟩
  · have e : i = xs.length := by omega
    subst e
    exact .inl ⟨we rfl, k.nx ρ2 C2 F2 σ2 H2 (s1.trans s2) R2 (pd ρ2 C2 p2)⟩
end
end G
namespace G
open PySem PySem.Spec PyProof.Rows L2

/-! ### what is walked -/
section
variable {X : Cx} {cl : NmB} {tg e : Expr} {te : DE} {K : PySem.W.Frag}
/-- the items of a list that stands -/
def lstOf : D → Option (List D)
  | .lst ds => some ds
  | .rol ds => some ds
  | _ => none
theorem Rep.asL {F : Hp} {v : V} {d : D} {ds : List D} (r : Rep K cl F v d) (h : lstOf d = some ds) : ∃ a xs, v = .ref a ∧ SqL K F a xs ∧ RepL K cl F xs ds := by
  cases r with
  | lst h1 h2 => cases h; exact ⟨_, _, rfl, .of h1, h2⟩
  | rol h1 h2 => cases h; exact ⟨_, _, rfl, h1, h2⟩
  | _ => cases h
theorem walk_list {F : Hp} {a : Addr} {xs : List V} {ds : List D} (h : SqL K F a xs) (r : RepL K cl F xs ds) : Walk K cl (Itl K a) ds F := by
  intro i C F1 H s R
  have h1 : SqL K H a xs := R.sub.seq (s.seq h)
  refine ⟨fun x hx => ?_, fun hi => ⟨xs, h1, by rw [r.length]; exact Nat.le_of_eq hi⟩⟩
  obtain ⟨v, hv, rv⟩ := r.get hx
  refine ⟨⟨xs, v, h1, hv⟩, fun v' H' ⟨e, y⟩ => ?_⟩
  subst e
  have e2 := y xs h1
  rw [hv] at e2
  cases e2
  exact ⟨F1, Same.refl F1, R, rv.mono s⟩
theorem walk_tup {F : Hp} {a : Addr} {xs : List V} {ds : List D} (h : SqT K F a xs) (r : RepL K cl F xs ds) : Walk K cl (Itt K a) ds F := by
  intro i C F1 H s R
  have h1 : SqT K H a xs := sqT_mono R.sub (sqT_mono s h)
  refine ⟨fun x hx => ?_, fun hi => ⟨xs, h1, by rw [r.length]; exact Nat.le_of_eq hi⟩⟩
  obtain ⟨v, hv, rv⟩ := r.get hx
  refine ⟨⟨xs, v, h1, hv⟩, fun v' H' ⟨e, y⟩ => ?_⟩
  subst e
  have e2 := y xs h1
  rw [hv] at e2
  cases e2
  exact ⟨F1, Same.refl F1, R, rv.mono s⟩
def diList (te : DE) : DI := fun ρ C R => te ρ C fun x C1 => ∃ xs, lstOf x = some xs ∧ R xs C1
theorem di_list (he : PEd X cl e te) : PId X cl tg e (diList te) := by
  refine weakI (pi_list he) fun σ H R ⟨ρ, C, F, Rd, RR, h, k⟩ => ?_
  refine ⟨ρ, C, F, _, RR, h, fun v d C1 H1 F1 s1 R1 r1 ⟨xs, e, q1⟩ => ?_⟩
  obtain ⟨a, vs, rfl, hs, rl⟩ := r1.asL e
  exact ⟨a, rfl, ⟨vs, R1.sub.seq hs⟩, k _ xs C1 H1 F1 s1 R1 (walk_list hs rl) q1⟩
def diTup (te : DE) : DI := fun ρ C R => te ρ C fun x C1 => ∃ xs, x = .tup xs ∧ R xs C1
theorem di_tup (he : PEd X cl e te) : PId X cl tg e (diTup te) := by
  refine weakI (pi_tup he) fun σ H R ⟨ρ, C, F, Rd, RR, h, k⟩ => ?_
  refine ⟨ρ, C, F, _, RR, h, fun v d C1 H1 F1 s1 R1 r1 ⟨xs, e, q1⟩ => ?_⟩
  subst e
  cases r1 with
  | tup hs rl => exact ⟨_, rfl, ⟨_, sqT_mono R1.sub hs⟩, k _ xs C1 H1 F1 s1 R1 (walk_tup hs rl) q1⟩
/-- the signs of a text -/
def signs (x : List Nat) : List D := x.map fun c => .str [c]
theorem walk_str {F : Hp} (x : List Nat) : Walk K cl (Its ⟨x.toArray⟩) (signs x) F := by
  intro i C F1 H s R
  refine ⟨fun d hd => ?_, fun hi => show x.toArray.size ≤ i from Nat.le_of_eq (by simpa [signs] using hi)⟩
  unfold signs at hd
  rw [List.getElem?_map] at hd
  cases hc : x[i]? with
  | none => rw [hc] at hd; cases hd
  | some c =>
    rw [hc] at hd
    have e : D.str [c] = d := Option.some.inj hd
    subst e
    have hc' : x.toArray[i]? = some c := by rw [List.getElem?_toArray]; exact hc
    refine ⟨(Array.getElem?_eq_some_iff.mp hc').1, fun v H' ⟨e, c', hx, ev⟩ => ?_⟩
    subst e
    rw [hc'] at hx; cases hx
    subst ev
    exact ⟨F1, Same.refl F1, R, .str [c]⟩
def diStr (te : DE) : DI := fun ρ C R => te ρ C fun x C1 => ∃ z, x = .str z ∧ R (signs z) C1
theorem di_str (he : PEd X cl e te) : PId X cl tg e (diStr te) := by
  refine weakI (pi_str he) fun σ H R ⟨ρ, C, F, Rd, RR, h, k⟩ => ?_
  refine ⟨ρ, C, F, _, RR, h, fun v d C1 H1 F1 s1 R1 r1 ⟨z, e, q1⟩ => ?_⟩
  subst e
  cases r1
  exact ⟨_, rfl, k _ _ C1 H1 F1 s1 R1 (walk_str z) q1⟩
/-- lo, lo + 1, .. -/
def ranged (lo : Int) (n : Nat) : List D := (List.range n).map fun (i : Nat) => .int (lo + (i : Int))
theorem ranged_get {lo : Int} {n i : Nat} {d : D} (h : (ranged lo n)[i]? = some d) : i < n ∧ d = .int (lo + (i : Int)) := by
  unfold ranged at h
  rw [List.getElem?_map] at h
  by_cases hi : i < n
  · rw [List.getElem?_range hi] at h
    exact ⟨hi, (Option.some.inj h).symm⟩
  · rw [List.getElem?_eq_none (by simpa using hi)] at h; cases h
theorem ranged_length (lo : Int) (n : Nat) : (ranged lo n).length = n := by unfold ranged; simp
theorem walk_range {F : Hp} (lo : Int) (n : Nat) : Walk K cl (Itr lo n) (ranged lo n) F := by
  intro i C F1 H s R
  refine ⟨fun d hd => ?_, fun hi => by rw [ranged_length] at hi; exact Nat.le_of_eq hi⟩
  obtain ⟨hi, rfl⟩ := ranged_get hd
  refine ⟨hi, fun v H' ⟨e, ev⟩ => ?_⟩
  subst e
  subst ev
  exact ⟨F1, Same.refl F1, R, .int _⟩
def diRng1 (t : DA) : DI := fun ρ C R => t ρ C fun ds C1 => ∃ j : Int, ds = [.int j] ∧ (-(2 ^ 62) ≤ j ∧ j < 2 ^ 62) ∧ R (ranged 0 j.toNat) C1
theorem di_rng1 {a : Expr} {t : DA} {p pos : Pos} (hm : X.mg "range" = none) (ha : PAd X cl [a] t) (hg : Gl X "range" := by rfl) (hs : starEach [a] X.env = [(false, eval a X.env)] := by rfl) : PId X cl tg (.Call (.Name "range" p) [a] [] pos) (diRng1 t) := by
  refine weakI (pi_range1 hg hm ha hs) fun σ H R ⟨ρ, C, F, Rd, RR, h, k⟩ => ?_
  refine ⟨ρ, C, F, _, RR, h, fun vs ds C1 H1 F1 s1 R1 r1 ⟨j, e, b, q1⟩ => ?_⟩
  subst e
  cases r1 with
  | cons r rr =>
    cases rr
    cases r
    exact ⟨j, rfl, b.1, b.2, k _ _ C1 H1 F1 s1 R1 (walk_range 0 _) q1⟩
/-- pairs of a place and an item -/
def numbered (k : Nat) : List D → List D
  | [] => []
  | d :: ds => .tup [.int (k : Int), d] :: numbered (k + 1) ds
theorem numbered_length : ∀ (k : Nat) (ds : List D), (numbered k ds).length = ds.length
  | _, [] => rfl
  | k, _ :: ds => congrArg (· + 1) (numbered_length (k + 1) ds)
theorem numbered_get : ∀ {k i : Nat} {ds : List D} {x : D}, (numbered k ds)[i]? = some x → ∃ d, ds[i]? = some d ∧ x = .tup [.int ((k + i : Nat) : Int), d]
  | _, _, [], _, h => by simp [numbered] at h
  | k, 0, d :: ds, x, h => by
    have e : D.tup [.int (k : Int), d] = x := Option.some.inj h
    exact ⟨d, rfl, e.symm⟩
  | k, i + 1, d :: ds, x, h => by
    obtain ⟨d', h1, h2⟩ := numbered_get (k := k + 1) (i := i) (ds := ds) (x := x) (by simpa [numbered] using h)
    refine ⟨d', by simpa using h1, ?_⟩
    rw [h2, show k + 1 + i = k + (i + 1) by omega]
end
end G
namespace G
open PySem PySem.Spec PyProof.Rows L2

/-! ### a comprehension's own targets -/
def wipeD (ρ : DEnv) : List Nat → DEnv
  | [] => ρ
  | v :: vs => (wipeD ρ vs).set v none
section
variable {K : PySem.W.Frag} {cl : NmB} {C : Cl} {F H : Hp} {ρ : DEnv} {σ : L2.St}
theorem RS.wipe (R : RS K cl ρ C F σ H) : ∀ vs : List Nat, RS K cl (wipeD ρ vs) C F (wipe σ vs) H
  | [] => R
  | v :: vs => (R.wipe vs).unset v
theorem wipe_set {x : Option V} {i : Nat} : ∀ {vs : List Nat}, i ∈ vs → wipe (σ.set i x) vs = wipe σ vs
  | [], h => by simp at h
  | v :: vs, h => by
    unfold L2.wipe
    by_cases e : i = v
    · subst e
      by_cases hi : i ∈ vs
      · rw [wipe_set hi]
      · rw [wipe_comm hi, List.set_set]
    · have hi : i ∈ vs := by
        rcases List.mem_cons.mp h with z | z
        · exact absurd z e
        · exact z
      rw [wipe_set hi]
where
  wipe_comm {x : Option V} {i : Nat} {σ : L2.St} : ∀ {vs : List Nat}, i ∉ vs → wipe (σ.set i x) vs = (wipe σ vs).set i x
    | [], _ => rfl
    | v :: vs, h => by
      unfold L2.wipe
      have h1 : i ≠ v := fun z => h (by simp [z])
      have h2 : i ∉ vs := fun z => h (List.mem_cons_of_mem _ z)
      rw [wipe_comm h2, List.set_comm _ _ h1]
end
def lowO (K : PySem.W.Frag) (cl : NmB) (vs : List Nat) (g : DG) : TG := fun v σ H Q => ∃ d ρ C F Qd, RS K cl ρ C F σ H ∧ Rep K cl F v d ∧ g d ρ C Qd ∧ ∀ ρ' C' F' σ' H', Same F F' → RS K cl ρ' C' F' σ' H' → wipe σ' vs = wipe σ vs → Qd ρ' C' → Q σ' H'
abbrev POd (X : Cx) (cl : NmB) (vs : List Nat) (tg : Expr) (g : DG) : Prop := PG X tg (lowO X.K cl vs g)
section
variable {X : Cx} {cl : NmB} {pos : Pos} {vs : List Nat}
theorem do_name (i : Nat) {x : Str} (hN : X.N.Nodup) (hi : X.N[i]? = some x := by rfl) (hx : Loc X.env.scope x := by first | exact Or.inl rfl | exact Or.inr rfl) (hv : i ∈ vs := by decide) (hf : X.fn x = true ∨ X.env.scope.names.lookup x = some .local := by first | exact .inl rfl | exact .inr rfl | assumption) : POd X cl vs (.Name x pos) (dName i) := by
  refine weakG (pg_name hN hi hx hf) fun v σ H Q ⟨d, ρ, C, F, Qd, R, r, q, k⟩ => ?_
  exact k _ C F _ H (Same.refl F) (R.set i r) (wipe_set hv) q
/-! ### list comprehensions -/
abbrev PTsd (X : Cx) (cl : NmB) (ifs : List Expr) (t : DT) : Prop := PTs X ifs (lowT X.K cl t)
def dYes : DT := fun _ C Q => Q true C
theorem dts_nil : PTsd X cl [] dYes := ⟨fun pins s σ H Q I ⟨ρ, C, F, Qd, R, q, k⟩ => pts_nil.run pins s σ H Q I (k true C H F (Same.refl F) R.rc q)⟩
theorem dts_one {c : Expr} {t : DT} (h : PTd X cl c t) : PTsd X cl [c] t := pts_one h
/-- the list is a cell while it grows -/
def dLc (wi : DI) (g : DG) (tt : DT) (te : DE) (vs : List Nat) : DE := fun ρ C Q => wi ρ C fun xs C1 => ∀ p, C1 p = none → ∃ Pv : Nat → Cl → Prop, Pv 0 (updC C1 p (.lst [])) ∧
  (∀ i x C, xs[i]? = some x → Pv i C → g x (wipeD ρ vs) C fun ρ2 C2 => tt ρ2 C2 fun b C3 =>
    if b = true then te ρ2 C3 fun y C4 => ∃ acc, C4 p = some (.lst acc) ∧ acc.length < sizeLine ∧ Pv (i + 1) (updC C4 p (.lst (acc ++ [y]))) else Pv (i + 1) C3) ∧
  ∀ C, Pv xs.length C → Q (.ref p) C
theorem low_lc {K : PySem.W.Frag} {wi : DI} {g : DG} {tt : DT} {te : DE} {σ : L2.St} {H : Hp} {Q : VK} (h : lowE K cl (dLc wi g tt te vs) σ H Q) :
    tLc (lowI K cl wi) (lowO K cl vs g) (lowT K cl tt) (lowE K cl te) vs σ H Q := by
  obtain ⟨ρ, C, F, Qd, R, h, k⟩ := h
  refine ⟨ρ, C, F, _, R, h, fun J xs C1 H1 F1 s1 R1 wk q1 p np => ?_⟩
  obtain ⟨Pv, p0, ps, pd⟩ := q1 p (R1.freeC np)
  refine ⟨fun i m H => m = xs.length - i ∧ i ≤ xs.length ∧ ∃ C F', Same F1 F' ∧ RC K cl C F' H ∧ Pv i C, ⟨xs.length, by simp, Nat.zero_le _, _, F1, Same.refl F1, R1.cell np (.lst .nil), p0⟩, ?_⟩
  rintro i m H2 ⟨rfl, hi, C2, F2, s2, R2, p2⟩
  obtain ⟨wy, we⟩ := wk i C2 F2 H2 s2 R2
  by_cases hlt : i < xs.length
  · obtain ⟨go, yl⟩ := wy _ (List.getElem?_eq_getElem hlt)
    refine .inr ⟨go, fun H' => ∃ C F', Same F1 F' ∧ RC K cl C F' H' ∧ Pv (i + 1) C, fun H' z => ⟨xs.length - (i + 1), by omega, rfl, hlt, z⟩, fun v H3 y => ?_⟩
    obtain ⟨F3, s3, R3, r3⟩ := yl v H3 y
    have Rw : RS K cl (wipeD ρ vs) C2 F3 (wipe σ vs) H3 := (R.wipe vs).next (s1.trans (s2.trans s3)) R3
    refine ⟨_, _, C2, F3, _, Rw, r3, ps i _ C2 (List.getElem?_eq_getElem hlt) p2, fun ρ4 C4 F4 σ4 H4 s4 R4 w4 q4 => ⟨?_, ?_⟩⟩
    · rw [w4, wipe_wipe]
    refine ⟨ρ4, C4, F4, _, R4, q4, fun b C5 H5 F5 s5 R5 q5 => ?_⟩
    have sb : Same F1 F5 := s2.trans (s3.trans (s4.trans s5))
    cases b with
    | false =>
      rw [if_neg Bool.false_ne_true] at q5
      exact iteF ⟨C5, F5, sb, R5, q5⟩
    | true =>
      rw [if_pos rfl] at q5
      refine iteT ⟨ρ4, C5, F5, _, R4.next s5 R5, q5, fun u d C6 H6 F6 s6 R6 r6 ⟨acc, ha, hl, q6⟩ => ?_⟩
      obtain ⟨_, o, ho, cr⟩ := R6.cel p _ ha
      cases cr with
      | lst rl =>
        exact ⟨_, ho, by rw [rl.length]; exact hl, _, F6, sb.trans s6, R6.put ha (.lst (rl.append (.cons r6 .nil))), q6⟩
  · have e : i = xs.length := by omega
    subst e
    exact .inl ⟨we rfl, k (.ref p) (.ref p) C2 H2 F2 (s1.trans s2) R2 (.ref p) (pd C2 p2)⟩
where
  wipe_wipe {σ : L2.St} : ∀ {vs : List Nat}, wipe (wipe σ vs) vs = wipe σ vs
    | [] => rfl
    | v :: vs => by
      have e : wipe (wipe σ (v :: vs)) (v :: vs) = wipe (wipe σ (v :: vs)) (v :: vs) := rfl
      show (wipe ((wipe σ vs).set v none) vs).set v none = (wipe σ vs).set v none
      by_cases hv : v ∈ vs
      · rw [wipe_set hv, wipe_wipe]
      · rw [wipe_set.wipe_comm hv, wipe_wipe, List.set_set]
theorem de_lc {elt tg iter : Expr} {ifs : List Expr} {scope : Scope} {own : List (Str × Nat)} {wi : DI} {g : DG} {tt : DT} {te : DE} (hN : X.N.Nodup) (hi : PId X cl tg iter wi) (ok : BlkOk X.N X.env.scope scope own)
    (hg : ∀ (s : Shared) (H : Hp) (C : Addr) (l : List (Str × Addr)) (fp : List Addr), POd (X.blk s H scope (compEnvC scope l C X.env) fp) cl vs tg g) (ht : ∀ (s : Shared) (H : Hp) (C : Addr) (l : List (Str × Addr)) (fp : List Addr), PTsd (X.blk s H scope (compEnvC scope l C X.env) fp) cl ifs tt)
    (he : ∀ (s : Shared) (H : Hp) (C : Addr) (l : List (Str × Addr)) (fp : List Addr), PEd (X.blk s H scope (compEnvC scope l C X.env) fp) cl elt te) (hv : own.map (·.2) = vs := by rfl) (hc : X.calm = true := by rfl) (hs : ∀ x, foldedSetIterable iter X.env x = pure x := by intro _; rfl) :
    PEd X cl (.ListComp elt [⟨tg, iter, ifs, 0⟩] scope pos) (dLc wi g tt te vs) := by
  subst hv
  exact weakE (pe_lc hc hN hi ok hg ht he hs) fun _ _ _ h => low_lc h
end

/-- a list that has just been made, seen as a tree -/
def dFz (t : DE) : DE := fun ρ C Q => t ρ C fun d C1 => ∃ a ds, d = .ref a ∧ C1 a = some (.lst ds) ∧ Q (.lst ds) (delC C1 a)
theorem delC_new {C : Cl} {p : Addr} {c : Cell} (h : C p = none) : delC (updC C p c) p = C := by
  funext b
  unfold delC
  by_cases e : b = p
  · rw [if_pos e, e, h]
  · rw [if_neg e, updC_ne e]
section
variable {X : Cx} {cl : NmB} {pos : Pos} {K : PySem.W.Frag}
theorem low_fz {t : DE} {σ : L2.St} {H : Hp} {Q : VK} (h : lowE K cl (dFz t) σ H Q) : lowE K cl t σ H Q := by
  obtain ⟨ρ, C, F, Qd, R, h, k⟩ := h
  refine ⟨ρ, C, F, _, R, h, fun v d C1 H1 F1 s1 R1 r1 ⟨a, ds, e, hc, q⟩ => ?_⟩
  subst e
  obtain ⟨F2, s2, R2, r2⟩ := (Gh.lst hc).ok R1 r1
  exact k v _ _ H1 F2 (s1.trans s2) R2 r2 q
theorem de_fz {e : Expr} {t : DE} (h : PEd X cl e t) : PEd X cl e (dFz t) := weakE h fun _ _ _ h => low_fz h
end
theorem ds_setLcF {X : Cx} {cl : NmB} {pos : Pos} (i : Nat) {y : Str} {py : Pos} {elt tg iter : Expr} {ifs : List Expr} {scope : Scope} {own : List (Str × Nat)} {spos : Pos} {vs : List Nat} {wi : DI} {g : DG} {tt : DT} {te : DE} (hN : X.N.Nodup) (hi : PId X cl tg iter wi) (ok : BlkOk X.N X.env.scope scope own)
    (hg : ∀ (s : Shared) (H : Hp) (C : Addr) (l : List (Str × Addr)) (fp : List Addr), POd (X.blk s H scope (compEnvC scope l C X.env) fp) cl vs tg g) (ht : ∀ (s : Shared) (H : Hp) (C : Addr) (l : List (Str × Addr)) (fp : List Addr), PTsd (X.blk s H scope (compEnvC scope l C X.env) fp) cl ifs tt)
    (he : ∀ (s : Shared) (H : Hp) (C : Addr) (l : List (Str × Addr)) (fp : List Addr), PEd (X.blk s H scope (compEnvC scope l C X.env) fp) cl elt te) (hsw : swapsWith (.ListComp elt [⟨tg, iter, ifs, 0⟩] scope pos) (some (.Name y py)) spos.line X.env = pure true) (hv : own.map (·.2) = vs := by rfl) (hc : X.calm = true := by rfl) (hy : X.N[i]? = some y := by rfl) (hyl : X.env.scope.names.lookup y = some .local := by rfl) (hs : ∀ x, foldedSetIterable iter X.env x = pure x := by intro _; rfl) :
    PSd X cl (.Assign [.Name y py] (.ListComp elt [⟨tg, iter, ifs, 0⟩] scope pos) spos) (dAsg (dFz (dLc wi g tt te vs)) (dName i)) := by
  subst hv
  refine weakS (ps_setLc (g := lowO X.K cl (own.map (·.2)) g) (tt := lowT X.K cl tt) (te := lowE X.K cl te) hc hN hy hyl hsw hi ok hg ht he hs) fun De σ H ⟨ρ, C, F, Dd, R, h, k⟩ => ?_
  exact low_lc (low_fz ⟨ρ, C, F, _, R, h, fun v d C1 H1 F1 s1 R1 r1 q1 => k.nx _ C1 F1 _ H1 s1 ((R.next s1 R1).set i r1) q1⟩)
/-- a comprehension whose elements are told one by one, each leaving the cells as they are -/
theorem lc_map {xs : List D} {C1 : Cl} {ρ : DEnv} {g : DG} {te : DE} {vs : List Nat} {Q : DQ} (f : D → D) (hl : xs.length ≤ sizeLine)
    (h : ∀ (i : Nat) (x : D) (C : Cl) (N : DQ), xs[i]? = some x → SubC C1 C → N (f x) C → g x (wipeD ρ vs) C fun ρ2 C2 => te ρ2 C2 N) (hq : Q (.lst (xs.map f)) C1) :
    ∀ p, C1 p = none → ∃ Pv : Nat → Cl → Prop, Pv 0 (updC C1 p (.lst [])) ∧
      (∀ i x C, xs[i]? = some x → Pv i C → g x (wipeD ρ vs) C fun ρ2 C2 => dYes ρ2 C2 fun b C3 =>
        if b = true then te ρ2 C3 fun y C4 => ∃ acc, C4 p = some (.lst acc) ∧ acc.length < sizeLine ∧ Pv (i + 1) (updC C4 p (.lst (acc ++ [y]))) else Pv (i + 1) C3) ∧
      ∀ C, Pv xs.length C → ∃ a ds, D.ref p = .ref a ∧ C a = some (.lst ds) ∧ Q (.lst ds) (delC C a) := by
  intro p np
  refine ⟨fun i C => C = updC C1 p (.lst ((xs.take i).map f)), by simp, fun i x C hx e => ?_, fun C e => ?_⟩
  · subst e
    refine h i x _ _ hx ((SubC.refl C1).new np) ⟨_, updC_same, ?_, ?_⟩
    · have := (List.getElem?_eq_some_iff.mp hx).1
      rw [List.length_map, List.length_take]
      omega
    · show updC (updC C1 p _) p _ = updC C1 p (.lst ((xs.take (i + 1)).map f))
      rw [updC_updC, List.take_add_one, hx, List.map_append]
      rfl
  · subst e
    refine ⟨p, _, rfl, updC_same, ?_⟩
    rw [delC_new np, List.take_length]
    exact hq
/-! ### calls -/
abbrev RDC := List D → Cl → DQ → Prop
def lowC (K : PySem.W.Frag) (cl : Nm) (rd : RDC) : List V → Hp → VK → Prop := fun xs H Q => ∃ ds C F Qd, RC K cl C F H ∧ RepL K cl F xs ds ∧ rd ds C Qd ∧ Fin K cl F Qd Q
abbrev CallD (X : Cx) (cl : Nm) (f : Value) (rd : RDC) : Prop := CallR X f (lowC X.K cl rd)
def dCB (rd : RDC) (t : DA) : DE := fun ρ C Q => t ρ C fun ds C1 => rd ds C1 Q
abbrev RDM := D → List D → Cl → DQ → Prop
def lowM (K : PySem.W.Frag) (cl : Nm) (rd : RDM) : V → List V → Hp → VK → Prop := fun x xs H Q => ∃ dx ds C F Qd, RC K cl C F H ∧ Rep K cl F x dx ∧ RepL K cl F xs ds ∧ rd dx ds C Qd ∧ Fin K cl F Qd Q
abbrev MtD (X : Cx) (cl : Nm) (id : String) (rd : RDM) : Prop := MtR X id (lowM X.K cl rd)
/-- the value is of that built-in type -/
def tyD (T : String) (d : D) (C : Cl) : Prop := match d with
  | .str _ => T = "str"
  | .int _ => T = "int"
  | .lst _ => T = "list"
  | .rol _ => T = "list"
  | .dct _ => T = "dict"
  | .ref a => (T = "list" ∧ ∃ ds, C a = some (.lst ds)) ∨ (T = "dict" ∧ ((∃ ds, C a = some (.dic ds)) ∨ ∃ ds, C a = some (.dct ds)))
  | _ => False
theorem tyD_ok {K : PySem.W.Frag} {cl : Nm} {T : String} {d : D} {v : V} {C : Cl} {F H : Hp} (R : RC K cl C F H) (r : Rep K cl F v d) (h : tyD T d C) : tyV K T v H := by
  cases r with
  | str x => exact h
  | int x => exact h
  | lst h1 _ => exact .inl ⟨h, _, .of (R.sub _ _ h1)⟩
  | rol h1 _ => exact .inl ⟨h, _, R.sub.seq h1⟩
  | dic h1 _ => exact h.elim
  | dct h1 _ => exact .inr (.inr (.inl ⟨h, .inr ⟨_, R.sub _ _ h1⟩⟩))
  | ref a =>
    rcases h with ⟨e, ds, hc⟩ | ⟨e, ⟨ds, hc⟩ | ⟨ds, hc⟩⟩
    · obtain ⟨_, o, ho, c⟩ := R.cel _ _ hc
      cases c
      exact .inl ⟨e, _, .of ho⟩
    · obtain ⟨_, o, ho, c⟩ := R.cel _ _ hc
      cases c
      exact .inr (.inr (.inl ⟨e, .inl ⟨_, ho⟩⟩))
    · obtain ⟨_, o, ho, c⟩ := R.cel _ _ hc
      cases c
      exact .inr (.inr (.inl ⟨e, .inr ⟨_, ho⟩⟩))
  | _ => exact h.elim
def dBM (T : String) (rd : RDM) (to : DE) (t : DA) : DE := fun ρ C Q => to ρ C fun x C1 => tyD T x C1 ∧ t ρ C1 fun ds C2 => rd x ds C2 Q
def dBM0 (T : String) (rd : RDM) (to : DE) : DE := fun ρ C Q => to ρ C fun x C1 => tyD T x C1 ∧ rd x [] C1 Q
def dCall (sp : DSp) (ds : List D) (t : DA) : DE := fun ρ C Q => t ρ C fun xs C1 => sp (xs ++ ds) C1 Q fun _ _ _ => False
section
variable {X : Cx} {cl : NmB} {e o : Expr} {es : List Expr} {t : DA} {to : DE} {pos cpos apos p : Pos} {K : PySem.W.Frag} {x name : Str}
theorem low_cb {rd : RDC} {σ : L2.St} {H : Hp} {Q : VK} (h : lowE K cl (dCB rd t) σ H Q) : tCB (lowC K cl rd) (lowA K cl t) σ H Q := by
  obtain ⟨ρ, C, F, Qd, R, h, k⟩ := h
  exact ⟨ρ, C, F, _, R, h, fun vs ds C1 H1 F1 s1 R1 r1 q1 => ⟨ds, C1, F1, Qd, R1, r1, q1, k.at s1⟩⟩
theorem de_callB {rd : RDC} {id : String} (hc : CallD X cl (.builtin id) rd) (hm : X.mg x = none) (hv : bootBuiltins x = some (.builtin id)) (ha : PAd X cl (e :: es) t) (hg : Gl X x := by rfl) (hn : x ≠ "__name__" := by decide) (hdb : (x == ("__debug__" : Str)) = false := by decide)
    (he : starEach (e :: es) X.env = (false, eval e X.env) :: starEach es X.env := by rfl) (hpl : (backTo pos (starEach es X.env)).any (·.1) = false := by rfl) : PEd X cl (.Call (.Name x p) (e :: es) [] pos) (dCB rd t) :=
  weakE (pe_callB hc hg hm hv ha hn hdb he hpl) fun _ _ _ h => low_cb h
theorem de_callTy {rd : RDC} {T : String} (hc : CallD X cl (.type T) rd) (hm : X.mg x = none) (hv : bootBuiltins x = some (.type T)) (ha : PAd X cl (e :: es) t) (hg : Gl X x := by rfl) (hn : x ≠ "__name__" := by decide) (hdb : (x == ("__debug__" : Str)) = false := by decide)
    (he : starEach (e :: es) X.env = (false, eval e X.env) :: starEach es X.env := by rfl) (hpl : (backTo pos (starEach es X.env)).any (·.1) = false := by rfl) : PEd X cl (.Call (.Name x p) (e :: es) [] pos) (dCB rd t) :=
  weakE (pe_callTy hc hg hm hv ha hn hdb he hpl) fun _ _ _ h => low_cb h
theorem de_bm {rd : RDM} {T id : String} (pa : PlainAttrs T) (slot : Slot T name id) (hty : typeOf (.builtin id) = pure (.type "method_descriptor")) (hm : MtD X cl id rd) (ho : PEd X cl o to) (ha : PAd X cl (e :: es) t)
    (hbase : attributeBase o name X.env (eval o X.env) = eval o X.env := by rfl)
    (hfew : ((backTo cpos (starEach (e :: es) X.env)).all (fun x => !x.1) && (backToKw cpos (keywordEach [] X.env)).all (fun x => x.1.isSome)
      && decide ((e :: es).length + ([] : List Keyword).length + (if ([] : List Keyword).isEmpty then 0 else 1) < 30)) = true := by rfl)
    (hline : (apos.endLine == cpos.line) = true := by rfl) (hs : starEach (e :: es) X.env = (false, eval e X.env) :: starEach es X.env := by rfl) (hplain : (backTo cpos (starEach es X.env)).any (·.1) = false := by rfl) : PEd X cl (.Call (.Attribute o name apos) (e :: es) [] cpos) (dBM T rd to t) := by
  refine weakE (pe_bm pa slot hty hm ho ha hbase hfew hline hs hplain) fun σ H Q ⟨ρ, C, F, Qd, R, h, k⟩ => ?_
  refine ⟨ρ, C, F, _, R, h, fun v d C1 H1 F1 s1 R1 r1 ⟨ty, q1⟩ => ⟨tyD_ok R1 r1 ty, ?_⟩⟩
  exact ⟨ρ, C1, F1, _, R.next s1 R1, q1, fun vs ds C2 H2 F2 s2 R2 r2 q2 => ⟨d, ds, C2, F2, Qd, R2, r1.mono s2, r2, q2, k.at (s1.trans s2)⟩⟩
variable {f : Addr} {fd : FuncData} {ps : List Str} {sp : DSp} {n : Nat}
/-- a def that lets nothing out -/
abbrev FnD (P : Program) (w : World) (K : PySem.W.Frag) (cl : Nm) (mg : Str → Option Value) (base : Heap) (n : Nat) (f : Addr) (fd : FuncData) (ps : List Str) (sp : DSp) : Prop := FnOk P w K mg base CX0 n f fd ps (lowSp K cl sp)
theorem de_call {dv : List Value} {vs : List V} {ds : List D} (FG : FnD X.prog X.w X.K cl X.mg X.base n f fd ps sp) (hr : Room n X.A) (hm : X.mg x = some (.ref f)) (hk : PySem.W.keepIn X.K (.ref f) = true) (hb : Binds X.K fd ps dv) (hd : Vals vs dv) (hv : ∀ F, RepL X.K cl F vs ds)
    (ha : PAd X cl (e :: es) t) (hg : Gl X x := by rfl) (hdb : (x == ("__debug__" : Str)) = false := by decide) (he : starEach (e :: es) X.env = (false, eval e X.env) :: starEach es X.env := by rfl) (hpl : (backTo pos (starEach es X.env)).any (·.1) = false := by rfl) :
    PEd X cl (.Call (.Name x p) (e :: es) [] pos) (dCall sp ds t) := by
  refine weakE (pe_call (E := E0) FG hr hg hm hk hb hd pass0 ha hdb he hpl) fun σ H Q ⟨ρ, C, F, Qd, R, h, k⟩ => ?_
  refine ⟨ρ, C, F, _, R, h, fun us es C1 H1 F1 s1 R1 r1 q1 => ?_⟩
  exact ⟨es ++ ds, C1, F1, Qd, _, R1, r1.append (hv F1), q1, k.at s1, fun _ _ _ _ _ _ _ _ _ _ z => z.elim⟩
theorem de_call0 {dv : List Value} {vs : List V} {ds : List D} (FG : FnD X.prog X.w X.K cl X.mg X.base n f fd ps sp) (hr : Room n X.A) (hm : X.mg x = some (.ref f)) (hk : PySem.W.keepIn X.K (.ref f) = true) (hb : Binds X.K fd ps dv) (hd : Vals vs dv) (hv : ∀ F, RepL X.K cl F vs ds)
    (hg : Gl X x := by rfl) (hdb : (x == ("__debug__" : Str)) = false := by decide) :
    PEd X cl (.Call (.Name x p) [] [] pos) (dCall sp ds dNil) := by
  refine weakE (pe_call0 (E := E0) FG hr hg hm hk hb hd pass0 hdb) fun σ H Q ⟨ρ, C, F, Qd, R, h, k⟩ => ?_
  exact ⟨ds, C, F, Qd, _, R.rc, hv F, h, k, fun _ _ _ _ _ _ _ _ _ _ z => z.elim⟩
end

/-! ### a def -/
def startD (N : List Str) (ds : List D) : DEnv := ds.map some ++ List.replicate (N.length - ds.length) none
/-- what a def's body is to reach -/
def endsD (Q : DQ) : DEnds := { nx := fun _ C => ∃ C', SubC C' C ∧ Q .non C', rt := fun d C => ∃ d' C', Gh d C d' C' ∧ Q d' C' }
theorem RS.startB {K : PySem.W.Frag} {cl : NmB} {C : Cl} {F H : Hp} {vs : List V} {ds : List D} (N : List Str) (R : RC K cl C F H) (r : RepL K cl F vs ds) (hb : Same cl.bs F) : RS K cl (startD N ds) C F (start N vs) H where
  rc := R
  bs := hb
  len := by unfold startD L2.start; simp [r.length]
  env := fun i d e => by
    unfold startD at e
    unfold L2.start
    by_cases h : i < ds.length
    · rw [List.getElem?_append_left (by simpa using h), List.getElem?_map] at e
      cases q : ds[i]? with
      | none => rw [q] at e; cases e
      | some d' =>
        rw [q] at e
        have e' : d' = d := Option.some.inj (Option.some.inj e)
        subst e'
        obtain ⟨v, hv, rv⟩ := r.get q
        refine ⟨v, ?_, rv⟩
        rw [List.getElem?_append_left (by simpa [r.length] using h), List.getElem?_map, hv]
        rfl
    · rw [List.getElem?_append_right (by simpa using h), List.getElem?_replicate] at e
      split at e <;> cases e
theorem RS.start {K : PySem.W.Frag} {cl : Nm} {C : Cl} {F H : Hp} {vs : List V} {ds : List D} (N : List Str) (R : RC K cl C F H) (r : RepL K cl F vs ds) : RS K (nb cl) (startD N ds) C F (start N vs) H := RS.startB N R r fun _ _ z => nomatch z
section
variable {P : Program} {w : World} {K : PySem.W.Frag} {cl : Nm} {mg : Str → Option Value} {base : Heap}
theorem fn_d {x qual : Str} {st : Stmt} {f : Addr} {fd : FuncData} {N ps : List Str} {k : Nat} {sp : DSp} {td : DS} (Fu : Fun K x qual st f fd) (S : FnScope N ps (defScope st)) (len : ∀ ds C Q E, sp ds C Q E → ds.length = ps.length)
    (pure : ∀ ds C Q E, sp ds C Q E → td (endsD Q) (startD N ds) C)
    (body : ∀ (cdv : Value) (A : Around) (outer : List Env) (s : Shared) (H : Hp) (E : XK), Room k (A.deeper (envOfC qual (defScope st) s.heap.objs.size f cdv)) → PSsd (cxOf CX0 P w K mg base N qual (defScope st) f cdv A outer s H E).nox (nb cl) (defBody st) td) :
    FnD P w K cl mg base (k + 1) f fd ps sp := by
  refine Fu.ok S (fun vs H Q E ⟨ds, C, F, Qd, Ed, R, r, h, _, _⟩ => r.length.trans (len ds C Qd Ed h)) fun cdv A outer s H vs Q E hr ⟨ds, C, F, Qd, Ed, R, r, h, kq, kx⟩ => ?_
  refine ⟨_, body cdv A outer s H E hr, startD N ds, C, F, _, RS.start N R r, pure ds C Qd Ed h, ?_⟩
  refine ⟨fun ρ C1 F1 σ H1 s1 R1 ⟨C2, sc, q⟩ => kq .non .non C2 H1 F1 s1 (R1.rc.drop sc) .non q, fun _ _ _ _ _ _ _ z => z.elim, fun _ _ _ _ _ _ _ z => z.elim, fun v d C1 F1 H1 s1 R1 r1 ⟨d', C2, g, q⟩ => ?_⟩
  obtain ⟨F2, s2, R2, r2⟩ := g.ok R1 r1
  exact kq v d' C2 H1 F2 (s1.trans s2) R2 r2 q
end
end G
namespace G
open PySem PySem.Spec PyProof.Rows L2

def szD : D → Prop
  | .str l => l.length ≤ sizeLine
  | .tup ds => ds.length ≤ sizeLine
  | .lst ds => ds.length ≤ sizeLine
  | _ => True
def rOf (f : D → D → Option D) : RD2 := fun x y C Q => ∃ z, f x y = some z ∧ szD z ∧ Q z C
theorem str_app (a b : List Nat) : ((⟨a.toArray⟩ : Str) ++ ⟨b.toArray⟩) = ⟨(a ++ b).toArray⟩ := TL.ext_tl (by rw [TL.tl_append])
theorem len_mk (a : List Nat) : (⟨a.toArray⟩ : Str).length = a.length := by rw [TL.len_tl]
/-! ### arithmetic -/
def addF : D → D → Option D
  | .int i, .int j => some (.int (i + j))
  | .int i, .bl k => some (.int (i + b2i k))
  | .str a, .str b => some (.str (a ++ b))
  | .tup a, .tup b => some (.tup (a ++ b))
  | .lst a, .lst b => some (.lst (a ++ b))
  | _, _ => none
section
variable {X : Cx} {cl : NmB}
theorem od_add : OpD X cl (binaryOp .Add) (rOf addF) := by
  intro pins s σ H x y v u Q I rx ry ⟨dx, dy, C, F, Qd, R, r1, r2, ⟨z, e, sz, q⟩, k⟩
  have ss := Same.refl F
  unfold addF at e
  split at e
  · cases e; cases r1; cases r2
    exact op_add pins s σ H _ _ v u Q I rx ry ⟨_, _, rfl, rfl, k _ _ C H F ss R (.int _) q⟩
  · cases e; cases r1; cases r2
    exact op_add_ib pins s σ H _ _ v u Q I rx ry ⟨_, _, rfl, rfl, k _ _ C H F ss R (.int _) q⟩
  · rename_i a b
    cases e; cases r1; cases r2
    refine op_add_str pins s σ H _ _ v u Q I rx ry ⟨_, _, rfl, rfl, ?_, ?_⟩
    · rw [len_mk, len_mk, ← List.length_append]; exact sz
    · rw [str_app]; exact k _ _ C H F ss R (.str _) q
  · rename_i a b
    cases e
    cases r1 with
    | tup h1 l1 =>
      cases r2 with
      | tup h2 l2 =>
        rename_i p1 xs p2 ys
        refine op_catA pins s σ H _ _ v u Q I rx ry ⟨_, _, xs, ys, rfl, rfl, sqT_mono R.sub h1, sqT_mono R.sub h2, ?_, fun e => ?_, fun _ e => ?_, fun _ _ p np => ?_⟩
        · rw [l1.length, l2.length, ← List.length_append]; exact sz
        · subst e
          cases l1
          exact k _ _ C H F ss R (.tup h2 l2) q
        · subst e
          cases l2
          rw [List.append_nil] at q
          exact k _ _ C H F ss R (.tup h1 l1) q
        · have s2 := same_upd (o := .tup (xs ++ ys)) (R.freeF np)
          exact k _ _ C _ _ s2 (R.new np) (.tup (.of upd_same) ((l1.append l2).mono s2)) q
  · rename_i a b
    cases e
    cases r1 with
    | lst h1 l1 =>
      cases r2 with
      | lst h2 l2 =>
        rename_i p1 xs p2 ys
        refine op_cat pins s σ H _ _ v u Q I rx ry ⟨_, _, xs, ys, rfl, rfl, R.sub _ _ h1, R.sub _ _ h2, ?_, fun p np => ?_⟩
        · rw [l1.length, l2.length, ← List.length_append]; exact sz
        · have s2 := same_upd (o := .lst (xs ++ ys)) (R.freeF np)
          exact k _ _ C _ _ s2 (R.new np) (.lst upd_same ((l1.append l2).mono s2)) q
  · cases e
def ioF (g : Int → Int → Int) : D → D → Option D
  | .int i, .int j => some (.int (g i j))
  | _, _ => none
theorem ioF_inv {g : Int → Int → Int} {x y z : D} (h : ioF g x y = some z) : ∃ i j, x = .int i ∧ y = .int j ∧ z = .int (g i j) := by
  unfold ioF at h
  split at h
  · exact ⟨_, _, rfl, rfl, (Option.some.inj h).symm⟩
  · cases h
theorem od_sub : OpD X cl (binaryOp .Sub) (rOf (ioF fun i j => i - j)) := by
  intro pins s σ H x y v u Q I rx ry ⟨dx, dy, C, F, Qd, R, r1, r2, ⟨z, e, sz, q⟩, k⟩
  obtain ⟨i, j, rfl, rfl, rfl⟩ := ioF_inv e
  cases r1; cases r2
  exact op_sub pins s σ H _ _ v u Q I rx ry ⟨_, _, rfl, rfl, k _ _ C H F (Same.refl F) R (.int _) q⟩
/-- ints under a condition -/
def rIC (P : Int → Int → Prop) (g : Int → Int → Int) : RD2 := fun x y C Q => ∃ i j, x = .int i ∧ y = .int j ∧ P i j ∧ Q (.int (g i j)) C
theorem od_ic {f : Value → Value → Sem Value} {P : Int → Int → Prop} {g : Int → Int → Int} (h : OpR X f (rI P fun i j => .int (g i j))) : OpD X cl f (rIC P g) := by
  intro pins s σ H x y v u Q I rx ry ⟨dx, dy, C, F, Qd, R, r1, r2, ⟨i, j, e1, e2, p, q⟩, k⟩
  subst e1 e2
  cases r1; cases r2
  exact h pins s σ H _ _ v u Q I rx ry ⟨_, _, rfl, rfl, p, k _ _ C H F (Same.refl F) R (.int _) q⟩
theorem od_fdiv : OpD X cl (binaryOp .FloorDiv) (rIC CDivW fun i j => i / j) := od_ic op_fdivW
theorem od_mod : OpD X cl (binaryOp .Mod) (rIC (fun _ j => 0 < j) fun i j => i % j) := od_ic op_mod
theorem od_pow : OpD X cl (binaryOp .Pow) (rIC CPow fun i j => i ^ j.toNat) := od_ic op_pow
/-- a text so many times -/
def repL (l : List Nat) (n : Nat) : List Nat := (List.replicate n l).flatten
def rMul : RD2 := fun x y C Q => (∃ i j, x = .int i ∧ y = .int j ∧ CMul i j ∧ Q (.int (i * j)) C) ∨ (∃ l j, x = .str l ∧ y = .int j ∧ (j ≤ 1000000 ∧ l.length ≤ 1000000 ∧ l.length * j.toNat ≤ 1000000) ∧ -1000000 ≤ j ∧ Q (.str (repL l j.toNat)) C)
theorem rep_cps (x : Str) : ∀ (n : Nat) (acc : Array Nat), ((List.replicate n x.cps).foldl (· ++ ·) acc).toList = acc.toList ++ (List.replicate n x.cps.toList).flatten
  | 0, acc => by simp
  | n + 1, acc => by
    rw [List.replicate_succ, List.foldl_cons, rep_cps x n, List.replicate_succ, List.flatten_cons, Array.toList_append, List.append_assoc]
theorem txt_mul (l : List Nat) (j : Int) : Txt.mul ⟨l.toArray⟩ j = ⟨(repL l j.toNat).toArray⟩ := by
  apply TL.ext_tl
  unfold Txt.mul repL
  by_cases h1 : j < 1
  · rw [if_pos h1, show j.toNat = 0 by omega]
    rfl
  · rw [if_neg h1]
    by_cases h2 : (j == 1 || (⟨l.toArray⟩ : Str).length == 0) = true
    · rw [if_pos h2]
      rw [Bool.or_eq_true] at h2
      rcases h2 with h2 | h2
      · have e : j = 1 := eq_of_beq h2
        subst e
        show l = ([l] : List (List Nat)).flatten
        simp
      · have e : (⟨l.toArray⟩ : Str).length = 0 := eq_of_beq h2
        rw [len_mk] at e
        have e : l = [] := List.length_eq_zero_iff.mp e
        subst e
        show ([] : List Nat) = _
        simp
    · rw [if_neg h2]
      exact rep_cps ⟨l.toArray⟩ j.toNat #[]
theorem mul_ok {l : List Nat} {j : Int} (h : j ≤ 1000000 ∧ l.length ≤ 1000000 ∧ l.length * j.toNat ≤ 1000000) (h2 : -1000000 ≤ j) : MulOk ⟨l.toArray⟩ j := by
  obtain ⟨h0, h1, h3⟩ := h
  refine ⟨?_, fun hn _ => ?_, fun hn _ => ?_⟩
  · rw [Bool.or_eq_false_iff]
    exact ⟨decide_eq_false (by omega), decide_eq_false (by omega)⟩
  · rw [len_mk]
    have e : (2 : Int) ^ 63 - 1 = 9223372036854775807 := by decide
    rw [e]
    have hj : (0 : Int) < j := by omega
    have key : (l.length : Int) ≤ 9223372036854775807 / j := by
      rw [Int.le_ediv_iff_mul_le hj]
      have e2 : (l.length : Int) * j = ((l.length * j.toNat : Nat) : Int) := by
        rw [Int.natCast_mul]
        congr 1
        omega
      rw [e2]
      omega
    omega
  · rw [len_mk]
    unfold Builtin.Str.tooLong
    exact decide_eq_false (by
      have : ∀ n : Nat, n ≤ 1000000 → ¬ n > 16777216 := fun n hn => by omega
      first
        | exact this _ h3
        | (intro hx; have := h3; simp at hx; omega))
theorem od_mul : OpD X cl (binaryOp .Mult) rMul := by
  intro pins s σ H x y v u Q I rx ry ⟨dx, dy, C, F, Qd, R, r1, r2, h, k⟩
  rcases h with ⟨i, j, e1, e2, p, q⟩ | ⟨l, j, e1, e2, p, p2, q⟩
  · subst e1 e2
    cases r1; cases r2
    exact op_mul pins s σ H _ _ v u Q I rx ry ⟨_, _, rfl, rfl, p, k _ _ C H F (Same.refl F) R (.int _) q⟩
  · subst e1 e2
    cases r1; cases r2
    obtain ⟨t, rfl⟩ := rx
    obtain ⟨t', rfl⟩ := ry
    refine SB.mul (mul_ok p p2) fun t2 k2 => ?_
    rw [txt_mul]
    exact ⟨.str _, H, I.tok _, ⟨_, rfl⟩, k _ _ C H F (Same.refl F) R (.str _) q⟩
def rNeg : RD1 := fun x C Q => ∃ i, x = .int i ∧ Q (.int (-i)) C
theorem ud_neg : UnR X (unaryOp .USub) (lowR1 X.K cl rNeg) := by
  intro pins s σ H x v Q I rx ⟨dx, C, F, Qd, R, r1, ⟨i, e, q⟩, k⟩
  subst e
  cases r1
  exact un_neg pins s σ H _ v Q I rx ⟨_, rfl, k _ _ C H F (Same.refl F) R (.int _) q⟩

/-! ### comparisons -/
def flatEq : D → D → Option Bool
  | .non, .non => some true
  | .int a, .int b => some (decide (a = b))
  | .bl a, .bl b => some (decide (a = b))
  | .str a, .str b => some (decide (a = b))
  | .non, .int _ => some false | .int _, .non => some false | .non, .bl _ => some false | .bl _, .non => some false | .non, .str _ => some false | .str _, .non => some false
  | .int _, .str _ => some false | .str _, .int _ => some false | .bl _, .str _ => some false | .str _, .bl _ => some false
  | _, _ => none
theorem flatEq_ok {K : PySem.W.Frag} {F : Hp} {x y : V} {dx dy : D} {b : Bool} (r1 : Rep K cl F x dx) (r2 : Rep K cl F y dy) (h : flatEq dx dy = some b) : scal x y = true ∧ decide (x = y) = b := by
  unfold flatEq at h
  split at h <;> first
    | (cases h; cases r1; cases r2; exact ⟨rfl, by first | rfl | (simp)⟩)
    | cases h
/-! #### data as a whole -/
mutual
def toPy : D → PyData
  | .bl b => .bool b
  | .int i => .int i
  | .str l => .str ⟨l.toArray⟩
  | .tup ds => .tuple (toPyL ds)
  | .lst ds => .list (toPyL ds)
  | .rol ds => .list (toPyL ds)
  | _ => .none
def toPyL : List D → List PyData
  | [] => []
  | d :: ds => toPy d :: toPyL ds
end
mutual
def plain : D → Bool
  | .non => true
  | .bl _ => true
  | .int _ => true
  | .str _ => true
  | .tup ds => plainL ds
  | .lst ds => plainL ds
  | .rol ds => plainL ds
  | _ => false
def plainL : List D → Bool
  | [] => true
  | d :: ds => plain d && plainL ds
end
mutual
theorem Rep.dp {K : PySem.W.Frag} {F H : Hp} (s : Same F H) : ∀ {v : V} {d : D}, Rep K cl F v d → plain d = true → Dp K H v (toPy d)
  | _, _, .non, _ => by unfold toPy; exact .non
  | _, _, .bl b, _ => by unfold toPy; exact .bl b
  | _, _, .int i, _ => by unfold toPy; exact .int i
  | _, _, .str l, _ => by unfold toPy; exact .str _
  | _, _, .ref a, h => by unfold plain at h; cases h
  | _, _, .ty n, h => by unfold plain at h; cases h
  | _, _, .tup h1 h2, h => by unfold plain at h; unfold toPy; exact .tup (sqT_mono s h1) (RepL.dp s h2 h)
  | _, _, .lst h1 h2, h => by unfold plain at h; unfold toPy; exact .lst (.of (s _ _ h1)) (RepL.dp s h2 h)
  | _, _, .rol h1 h2, h => by unfold plain at h; unfold toPy; exact .lst (s.seq h1) (RepL.dp s h2 h)
  | _, _, .dic h1 h2, h => by unfold plain at h; cases h
  | _, _, .dct h1 h2, h => by unfold plain at h; cases h
  | _, _, .ins h1 h2, h => by unfold plain at h; cases h
theorem RepL.dp {K : PySem.W.Frag} {F H : Hp} (s : Same F H) : ∀ {vs : List V} {ds : List D}, RepL K cl F vs ds → plainL ds = true → DpAll K H vs (toPyL ds)
  | _, _, .nil, _ => by unfold toPyL; exact .nil
  | _, _, .cons h r, e => by
    unfold plainL at e
    rw [Bool.and_eq_true] at e
    unfold toPyL
    exact .cons (Rep.dp s h e.1) (RepL.dp s r e.2)
end
/-- what == of two plain things is -/
def eqT (x y : D) : Bool := PyData.eqv (toPy x) (toPy y)
def shp (x : D) : Bool := plain x && SeqAt.shaped (toPy x)
def rEqD : RD2 := fun x y C Q => (∃ b, flatEq x y = some b ∧ Q (.bl b) C) ∨ (shp x = true ∧ shp y = true ∧ Q (.bl (eqT x y)) C)
def rNeD : RD2 := fun x y C Q => (∃ b, flatEq x y = some b ∧ Q (.bl (!b)) C) ∨ (shp x = true ∧ shp y = true ∧ Q (.bl (!eqT x y)) C)
theorem od_eq {n : Nat} (hr : Room n X.A) : OpD X cl (compareOp .Eq) rEqD := by
  intro pins s σ H x y v u Q I rx ry ⟨dx, dy, C, F, Qd, R, r1, r2, h, k⟩
  rcases h with ⟨b, e, q⟩ | ⟨h1, h2, q⟩
  · obtain ⟨hs, hd⟩ := flatEq_ok r1 r2 e
    refine op_eq pins s σ H _ _ v u Q I rx ry ⟨hs, ?_⟩
    rw [hd]
    exact k _ _ C H F (Same.refl F) R (.bl _) q
  · unfold shp at h1 h2
    rw [Bool.and_eq_true] at h1 h2
    exact op_eqD hr.units pins s σ H _ _ v u Q I rx ry ⟨_, _, r1.dp R.sub h1.1, r2.dp R.sub h2.1, h1.2, h2.2, k _ _ C H F (Same.refl F) R (.bl _) q⟩
theorem od_ne {n : Nat} (hr : Room n X.A) : OpD X cl (compareOp .NotEq) rNeD := by
  intro pins s σ H x y v u Q I rx ry ⟨dx, dy, C, F, Qd, R, r1, r2, h, k⟩
  rcases h with ⟨b, e, q⟩ | ⟨h1, h2, q⟩
  · obtain ⟨hs, hd⟩ := flatEq_ok r1 r2 e
    refine op_ne pins s σ H _ _ v u Q I rx ry ⟨hs, ?_⟩
    rw [hd]
    exact k _ _ C H F (Same.refl F) R (.bl _) q
  · unfold shp at h1 h2
    rw [Bool.and_eq_true] at h1 h2
    exact op_neD hr.units pins s σ H _ _ v u Q I rx ry ⟨_, _, r1.dp R.sub h1.1, r2.dp R.sub h2.1, h1.2, h2.2, k _ _ C H F (Same.refl F) R (.bl _) q⟩
/-- order of ints, of texts -/
def ordF (p : Int → Int → Bool) (q : List Nat → List Nat → Bool) : D → D → Option D
  | .int i, .int j => some (.bl (p i j))
  | .str a, .str b => some (.bl (q a b))
  | _, _ => none
theorem od_ord {op : CmpOp} {p : Int → Int → Bool} {q : List Nat → List Nat → Bool} (h1 : OpR X (compareOp op) (rI0 fun i j => .bl (p i j)))
    (h2 : OpR X (compareOp op) (fun x y H Q => ∃ i j, x = .str i ∧ y = .str j ∧ Q (.bl (q i.cps.toList j.cps.toList)) H)) : OpD X cl (compareOp op) (rOf (ordF p q)) := by
  intro pins s σ H x y v u Q I rx ry ⟨dx, dy, C, F, Qd, R, r1, r2, ⟨z, e, sz, qq⟩, k⟩
  unfold ordF at e
  split at e
  · cases e; cases r1; cases r2
    exact h1 pins s σ H _ _ v u Q I rx ry ⟨_, _, rfl, rfl, k _ _ C H F (Same.refl F) R (.bl _) qq⟩
  · cases e; cases r1; cases r2
    exact h2 pins s σ H _ _ v u Q I rx ry ⟨_, _, rfl, rfl, k _ _ C H F (Same.refl F) R (.bl _) qq⟩
  · cases e
abbrev ltF := ordF (fun i j => decide (i < j)) (fun a b => decide (a < b))
abbrev leF := ordF (fun i j => decide (i ≤ j)) (fun a b => !decide (b < a))
abbrev gtF := ordF (fun i j => decide (j < i)) (fun a b => decide (b < a))
abbrev geF := ordF (fun i j => decide (j ≤ i)) (fun a b => !decide (a < b))
theorem od_lt : OpD X cl (compareOp .Lt) (rOf ltF) := od_ord op_lt op_lt_str
theorem od_le : OpD X cl (compareOp .LtE) (rOf leF) := od_ord op_le op_le_str
theorem od_gt : OpD X cl (compareOp .Gt) (rOf gtF) := od_ord op_gt op_gt_str
theorem od_ge : OpD X cl (compareOp .GtE) (rOf geF) := od_ord op_ge op_ge_str
/-- is None -/
def isNonD : D → Bool
  | .non => true
  | _ => false
def rIsN : RD2 := fun x y C Q => y = .non ∧ Q (.bl (isNonD x)) C
def rNotN : RD2 := fun x y C Q => y = .non ∧ Q (.bl (!isNonD x)) C
theorem isNon_ok {K : PySem.W.Frag} {F : Hp} {x : V} {d : D} (r : Rep K cl F x d) : decide (x = .non) = isNonD d := by
  cases r <;> simp [isNonD]
theorem od_isN : OpD X cl (compareOp .Is) rIsN := by
  intro pins s σ H x y v u Q I rx ry ⟨dx, dy, C, F, Qd, R, r1, r2, ⟨e, q⟩, k⟩
  subst e
  cases r2
  refine op_isN pins s σ H _ _ v u Q I rx ry ⟨rfl, ?_⟩
  rw [isNon_ok r1]
  exact k _ _ C H F (Same.refl F) R (.bl _) q
theorem od_notN : OpD X cl (compareOp .IsNot) rNotN := by
  intro pins s σ H x y v u Q I rx ry ⟨dx, dy, C, F, Qd, R, r1, r2, ⟨e, q⟩, k⟩
  subst e
  cases r2
  refine op_notN pins s σ H _ _ v u Q I rx ry ⟨rfl, ?_⟩
  rw [isNon_ok r1]
  exact k _ _ C H F (Same.refl F) R (.bl _) q
end
end G
namespace G
open PySem PySem.Spec PyProof.Rows L2

/-! ### texts as lists of signs -/
/-- a stands in z -/
def subIn (a z : List Nat) : Bool := (List.range (z.length + 1)).any fun i => (z.drop i).take a.length == a
theorem subIn_ok (a z : List Nat) : (!(Builtin.Str.occurrences (⟨z.toArray⟩ : Str) ⟨a.toArray⟩ 0 (⟨z.toArray⟩ : Str).length 1).isEmpty) = subIn a z := by
  have key := StrLaws.found_iff (⟨z.toArray⟩ : Str) ⟨a.toArray⟩
  rw [Bool.eq_iff_iff, key]
  unfold subIn
  rw [List.any_eq_true]
  constructor
  · rintro ⟨i, h1, h2⟩
    rw [StrLaws.subAt_eq, len_mk] at h2
    rw [len_mk, len_mk] at h1
    exact ⟨i, List.mem_range.mpr (by omega), h2⟩
  · rintro ⟨i, h1, h2⟩
    have h1 := List.mem_range.mp h1
    have e : (z.drop i).take a.length = a := eq_of_beq h2
    have e1 := congrArg List.length e
    rw [List.length_take, List.length_drop] at e1
    refine ⟨i, by rw [len_mk, len_mk]; omega, ?_⟩
    rw [StrLaws.subAt_eq, len_mk]
    exact h2
theorem drop_takeWhile (g : Nat → Bool) : ∀ l : List Nat, l.drop (l.takeWhile g).length = l.dropWhile g
  | [] => rfl
  | c :: l => by
    cases h : g c with
    | true =>
      rw [List.takeWhile_cons_of_pos h, List.dropWhile_cons_of_pos h]
      exact drop_takeWhile g l
    | false =>
      rw [List.takeWhile_cons_of_neg (by rw [h]; exact Bool.false_ne_true), List.dropWhile_cons_of_neg (by rw [h]; exact Bool.false_ne_true)]
      rfl
/-- without the signs of y at the end -/
def rdrop (g : Nat → Bool) (l : List Nat) : List Nat := (l.reverse.dropWhile g).reverse
/-- a ends z -/
def ends (a z : List Nat) : Bool := decide (a.length ≤ z.length) && z.drop (z.length - a.length) == a
end G
namespace G
open PySem PySem.Spec PyProof.Rows L2

/-! ### sequences -/
def cellL (C : Cl) (a : Addr) : Option (List D) :=
  match C a with
  | some (.lst ds) => some ds
  | _ => none
theorem cellL_eq {C : Cl} {a : Addr} {ds : List D} (h : cellL C a = some ds) : C a = some (.lst ds) := by
  unfold cellL at h
  split at h
  · rename_i e; cases h; exact e
  · cases h
theorem cellL_of {C : Cl} {a : Addr} {ds : List D} (h : C a = some (.lst ds)) : cellL C a = some ds := by
  unfold cellL
  rw [h]
def seqOf (C : Cl) : D → Option (List D)
  | .tup ds => some ds
  | .lst ds => some ds
  | .rol ds => some ds
  | .ref a => cellL C a
  | _ => none
section
variable {K : PySem.W.Frag} {cl : Nm} {C : Cl} {F H : Hp} {v : V} {d : D} {ds : List D}
theorem seq_ok (R : RC K cl C F H) (r : Rep K cl F v d) (h : seqOf C d = some ds) : ∃ a xs, v = .ref a ∧ (SqL K H a xs ∨ SqT K H a xs) ∧ RepL K cl F xs ds := by
  cases r with
  | tup h1 h2 => cases h; exact ⟨_, _, rfl, .inr (sqT_mono R.sub h1), h2⟩
  | lst h1 h2 => cases h; exact ⟨_, _, rfl, .inl (.of (R.sub _ _ h1)), h2⟩
  | rol h1 h2 => cases h; exact ⟨_, _, rfl, .inl (R.sub.seq h1), h2⟩
  | ref a =>
    obtain ⟨_, o, ho, c⟩ := R.cel _ _ (cellL_eq h)
    cases c with
    | lst rl => exact ⟨_, _, rfl, .inl (.of ho), rl⟩
  | _ => cases h
end
def flatD : D → Bool
  | .non => true
  | .bl _ => true
  | .int _ => true
  | .str _ => true
  | _ => false
/-- == of flat things -/
def eqFl : D → D → Bool
  | .non, .non => true
  | .bl a, .bl b => a == b
  | .bl a, .int b => (if a then 1 else 0) == b
  | .int a, .bl b => a == (if b then 1 else 0)
  | .int a, .int b => a == b
  | .str a, .str b => a == b
  | _, _ => false
section
variable {K : PySem.W.Frag} {cl : Nm} {F : Hp}
theorem flat_ok {v : V} {d : D} (r : Rep K cl F v d) (h : flatD d = true) : flatV v = true := by
  cases r <;> first | rfl | cases h
theorem beq_mk (a b : List Nat) : ((⟨a.toArray⟩ : Str) == ⟨b.toArray⟩) = (a == b) := by
  rw [Bool.eq_iff_iff, beq_iff_eq, beq_iff_eq]
  constructor
  · intro h
    have := congrArg TL.tl h
    exact this
  · intro h
    rw [h]
theorem eqFl_ok {v u : V} {d e : D} (r : Rep K cl F v d) (q : Rep K cl F u e) (h : flatD d = true) (g : flatD e = true) : eqV v u = eqFl d e := by
  cases r <;> first
    | (cases q <;> first | rfl | exact beq_mk _ _ | cases g)
    | cases h
theorem any_ok {v : V} {d : D} (r : Rep K cl F v d) (h : flatD d = true) : ∀ {xs : List V} {ds : List D}, RepL K cl F xs ds → ds.all flatD = true → xs.all flatV = true ∧ inV v xs = ds.any fun e => eqFl e d
  | _, _, .nil, _ => ⟨rfl, rfl⟩
  | _, _, .cons r1 rr, e => by
    rw [List.all_cons, Bool.and_eq_true] at e
    obtain ⟨h1, h2⟩ := any_ok r h rr e.2
    refine ⟨by rw [List.all_cons, flat_ok r1 e.1, h1]; rfl, ?_⟩
    unfold inV at h2 ⊢
    rw [List.any_cons, List.any_cons, h2, eqFl_ok r1 r e.1 h]
end
def rIn : RD2 := fun x y C Q => (∃ c z, x = .str [c] ∧ y = .str z ∧ Q (.bl (decide (c ∈ z))) C) ∨ (∃ a z, x = .str a ∧ y = .str z ∧ Q (.bl (subIn a z)) C) ∨ (∃ ys, seqOf C y = some ys ∧ flatD x = true ∧ ys.all flatD = true ∧ Q (.bl (ys.any fun e => eqFl e x)) C)
def rNotIn : RD2 := fun x y C Q => (∃ c z, x = .str [c] ∧ y = .str z ∧ Q (.bl (!decide (c ∈ z))) C) ∨ (∃ a z, x = .str a ∧ y = .str z ∧ Q (.bl (!subIn a z)) C) ∨ (∃ ys, seqOf C y = some ys ∧ flatD x = true ∧ ys.all flatD = true ∧ Q (.bl (!ys.any fun e => eqFl e x)) C)
section
variable {X : Cx} {cl : NmB}
theorem od_in : OpD X cl (compareOp .In) rIn := by
  intro pins s σ H x y v u Q I rx ry ⟨dx, dy, C, F, Qd, R, r1, r2, h, k⟩
  rcases h with ⟨c, z, e1, e2, q⟩ | ⟨a, z, e1, e2, q⟩ | ⟨ys, e, f1, f2, q⟩
  · subst e1 e2
    cases r1; cases r2
    exact op_in_sign pins s σ H _ _ v u Q I rx ry ⟨c, _, rfl, rfl, k _ _ C H F (Same.refl F) R (.bl _) q⟩
  · subst e1 e2
    cases r1; cases r2
    refine op_in_str pins s σ H _ _ v u Q I rx ry ⟨_, _, rfl, rfl, ?_⟩
    rw [subIn_ok]
    exact k _ _ C H F (Same.refl F) R (.bl _) q
  · obtain ⟨p, xs, rfl, hs, rl⟩ := seq_ok R r2 e
    obtain ⟨g1, g2⟩ := any_ok r1 f1 rl f2
    refine op_in_seq pins s σ H _ _ v u Q I rx ry ⟨p, xs, rfl, hs, flat_ok r1 f1, g1, ?_⟩
    rw [if_neg Bool.false_ne_true, g2]
    exact k _ _ C H F (Same.refl F) R (.bl _) q
theorem od_notin : OpD X cl (compareOp .NotIn) rNotIn := by
  intro pins s σ H x y v u Q I rx ry ⟨dx, dy, C, F, Qd, R, r1, r2, h, k⟩
  rcases h with ⟨c, z, e1, e2, q⟩ | ⟨a, z, e1, e2, q⟩ | ⟨ys, e, f1, f2, q⟩
  · subst e1 e2
    cases r1; cases r2
    exact op_notIn_sign pins s σ H _ _ v u Q I rx ry ⟨c, _, rfl, rfl, k _ _ C H F (Same.refl F) R (.bl _) q⟩
  · subst e1 e2
    cases r1; cases r2
    refine op_notin_str pins s σ H _ _ v u Q I rx ry ⟨_, _, rfl, rfl, ?_⟩
    rw [subIn_ok]
    exact k _ _ C H F (Same.refl F) R (.bl _) q
  · obtain ⟨p, xs, rfl, hs, rl⟩ := seq_ok R r2 e
    obtain ⟨g1, g2⟩ := any_ok r1 f1 rl f2
    refine op_notIn_seq pins s σ H _ _ v u Q I rx ry ⟨p, xs, rfl, hs, flat_ok r1 f1, g1, ?_⟩
    rw [if_pos rfl, g2]
    exact k _ _ C H F (Same.refl F) R (.bl _) q

/-! ### subscripts, slices -/
theorem atI_map {α β : Type} {R : α → β → Prop} {xs : List α} {ds : List β} (hl : xs.length = ds.length) (hg : ∀ (i : Nat) d, ds[i]? = some d → ∃ v, xs[i]? = some v ∧ R v d) {i : Int} {d : β} (h : atI ds i = some d) : ∃ v, atI xs i = some v ∧ R v d := by
  unfold atI at h ⊢
  rw [hl]
  cases e : ixN ds.length i with
  | none => rw [e] at h; cases h
  | some j =>
    rw [e] at h
    obtain ⟨v, h1, h2⟩ := hg j d h
    exact ⟨v, h1, h2⟩
def rIx : RD2 := fun x y C Q => ∃ i, y = .int i ∧ ((∃ l c, x = .str l ∧ l.length ≤ sizeLine ∧ atI l i = some c ∧ Q (.str [c]) C) ∨ (∃ ds d, seqOf C x = some ds ∧ atI ds i = some d ∧ Q d C))
theorem ix_ok : IxR X (lowR X.K cl rIx) := by
  intro value slice pins s σ H x y v u Q I rx ry ⟨dx, dy, C, F, Qd, R, r1, r2, ⟨i, e, h⟩, k⟩ hs
  subst e
  cases r2
  rcases h with ⟨l, c, e, hl, ha, q⟩ | ⟨ds, d, e, ha, q⟩
  · subst e
    cases r1
    refine ix_seq value slice pins s σ H _ _ v u Q I rx ry (.inr (.inr ⟨_, _, c, rfl, rfl, ?_, ha, k _ _ C H F (Same.refl F) R (.str [c]) q⟩)) hs
    rw [len_mk]; exact hl
  · obtain ⟨p, xs, rfl, hq, rl⟩ := seq_ok R r1 e
    obtain ⟨w, hw, rw'⟩ := atI_map (R := Rep X.K cl F) rl.length (fun j d hd => rl.get hd) ha
    have fin := k w d C H F (Same.refl F) R rw' q
    rcases hq with hq | hq
    · exact ix_seq value slice pins s σ H _ _ v u Q I rx ry (.inl ⟨p, xs, _, w, rfl, rfl, hq, hw, fin⟩) hs
    · exact ix_seq value slice pins s σ H _ _ v u Q I rx ry (.inr (.inl ⟨p, xs, _, w, rfl, rfl, hq, hw, fin⟩)) hs
theorem de_ix {a b : Expr} {ta tb : DE} {pos : Pos} (ha : PEd X cl a ta) (hb : PEd X cl b tb) (hs : PlainIx b := by intro _ _; rfl) : PEd X cl (.Subscript a b pos) (dOp rIx ta tb) :=
  weakE (pe_ix ix_ok ha hb hs) fun _ _ _ h => low_op h
/-- l[lo:hi] -/
def cutL {α : Type} (l : List α) (lo hi : Option Int) : List α := (l.drop (HT.sIx l.length 0 lo)).take (HT.sIx l.length l.length hi - HT.sIx l.length 0 lo)
abbrev DO := DEnv → Cl → (Option Int → Cl → Prop) → Prop
def lowO' (K : PySem.W.Frag) (cl : NmB) (td : DO) : TO := fun σ H Q => ∃ ρ C F Qd, RS K cl ρ C F σ H ∧ td ρ C Qd ∧ ∀ o C' F' H', Same F F' → RC K cl C' F' H' → Qd o C' → Q o H'
abbrev PPd (X : Cx) (cl : NmB) (e : Option Expr) (t : DO) : Prop := PO X e (lowO' X.K cl t)
def dNoPart : DO := fun _ C Q => Q none C
def dPart (t : DE) : DO := fun ρ C Q => t ρ C fun x C1 => ∃ i, x = .int i ∧ Q (some i) C1
theorem dp_none : PPd X cl none dNoPart := ⟨fun pins s σ H Q I ⟨ρ, C, F, Qd, R, h, k⟩ => po_none.run pins s σ H Q I (k none C F H (Same.refl F) R.rc h)⟩
theorem dp_some {e : Expr} {t : DE} (h : PEd X cl e t) : PPd X cl (some e) (dPart t) := ⟨fun pins s σ H Q I ⟨ρ, C, F, Qd, R, hh, k⟩ => (po_some h).run pins s σ H Q I
  ⟨ρ, C, F, _, R, hh, fun v d C1 H1 F1 s1 R1 r1 ⟨i, e, q⟩ => by
    subst e
    cases r1
    exact ⟨i, rfl, k _ C1 F1 H1 s1 R1 q⟩⟩⟩
/-- what is cut out of x -/
def slF (C : Cl) (x : D) (lo hi : Option Int) : Option D :=
  match x with
  | .str l => some (.str (cutL l lo hi))
  | .tup ds => some (.tup (cutL ds lo hi))
  | .lst ds => some (.lst (cutL ds lo hi))
  | .rol ds => some (.lst (cutL ds lo hi))
  | .ref a => (cellL C a).map fun ds => .lst (cutL ds lo hi)
  | _ => none
def srcOk : D → Prop
  | .str l => l.length ≤ sizeLine
  | _ => True
abbrev RSl := D → Option Int → Option Int → Cl → DQ → Prop
def rSl : RSl := fun x lo hi C Q => ∃ z, slF C x lo hi = some z ∧ srcOk x ∧ Q z C
def lowSl (K : PySem.W.Frag) (cl : Nm) (rd : RSl) : V → Option Int → Option Int → Hp → VK → Prop := fun x lo hi H Q => ∃ dx C F Qd, RC K cl C F H ∧ Rep K cl F x dx ∧ rd dx lo hi C Qd ∧ Fin K cl F Qd Q
theorem RepL.cut {K : PySem.W.Frag} {F : Hp} {xs : List V} {ds : List D} (lo hi : Option Int) (r : RepL K cl F xs ds) : RepL K cl F (cutV xs lo hi) (cutL ds lo hi) := by
  unfold cutV cutL
  rw [r.length]
  exact (r.drop _).take _
theorem sl_ok : SlR X (lowSl X.K cl rSl) := by
  intro pins s σ H x v vl vu lo hi sl Q I rx hs pl pu ⟨dx, C, F, Qd, R, r1, ⟨z, e, so, q⟩, k⟩
  have onL : ∀ (a : Addr) (xs : List V) (ds : List D), x = .ref a → SqL X.K H a xs → RepL X.K cl F xs ds → z = .lst (cutL ds lo hi) → ∃ T id, typeLookup (.type T) "__getitem__" = pure (some (.builtin id)) ∧ s.TypeIs v T ∧ wpAny (model X.prog X.w) X.A (getItem v (.ref sl)) (EP X pins σ Q) X.xe s := by
    intro a xs ds ex hq rl ez
    subst ex ez
    refine sl_list pins s σ H _ v vl vu lo hi sl Q I rx hs pl pu ⟨a, xs, rfl, hq, fun p np => ?_⟩
    have s2 := same_upd (o := .lst (cutV xs lo hi)) (R.freeF np)
    exact k _ _ C _ _ s2 (R.new np) (.lst upd_same ((rl.cut lo hi).mono s2)) q
  cases r1 with
  | str l =>
    cases e
    refine sl_str pins s σ H _ v vl vu lo hi sl Q I rx hs pl pu ⟨_, rfl, by rw [len_mk]; exact so, ?_⟩
    have e : cutS ⟨l.toArray⟩ lo hi = ⟨(cutL l lo hi).toArray⟩ := by
      unfold cutS cutL
      rw [len_mk]
    rw [e]
    exact k _ _ C H F (Same.refl F) R (.str _) q
  | tup h1 h2 =>
    rename_i a xs ds
    cases e
    refine sl_tupA pins s σ H _ v vl vu lo hi sl Q I rx hs pl pu ⟨_, _, rfl, sqT_mono R.sub h1, fun ⟨w1, w2⟩ => ?_, fun _ p np => ?_⟩
    · have e : cutL ds lo hi = ds := by
        unfold cutL
        rw [← h2.length, w1, w2, List.drop_zero, Nat.sub_zero, h2.length, List.take_length]
      rw [e] at q
      exact k _ _ C H F (Same.refl F) R (.tup h1 h2) q
    · have s2 := same_upd (o := .tup (cutV xs lo hi)) (R.freeF np)
      exact k _ _ C _ _ s2 (R.new np) (.tup (.of upd_same) ((h2.cut lo hi).mono s2)) q
  | lst h1 h2 =>
    cases e
    exact onL _ _ _ rfl (.of (R.sub _ _ h1)) h2 rfl
  | rol h1 h2 =>
    cases e
    exact onL _ _ _ rfl (R.sub.seq h1) h2 rfl
  | ref a =>
    have e' : (cellL C a).map (fun ds => D.lst (cutL ds lo hi)) = some z := e
    cases hh : cellL C a with
    | none => rw [hh] at e'; cases e'
    | some d' =>
      rw [hh] at e'
      cases e'
      obtain ⟨_, o, ho, c⟩ := R.cel _ _ (cellL_eq hh)
      cases c with
      | lst rl => exact onL _ _ _ rfl (.of ho) rl rfl
  | _ => cases e
def dSl (rd : RSl) (te : DE) (tl th : DO) : DE := fun ρ C Q => te ρ C fun x C1 => tl ρ C1 fun l C2 => th ρ C2 fun u C3 => rd x l u C3 Q
theorem de_slice {e : Expr} {lo hi : Option Expr} {te : DE} {tl th : DO} {pos p2 : Pos} (he : PEd X cl e te) (hl : PPd X cl lo tl) (hu : PPd X cl hi th) : PEd X cl (.Subscript e (.Slice lo hi none p2) pos) (dSl rSl te tl th) := by
  refine weakE (pe_slice (sl_ok (cl := cl)) he hl hu) fun σ H Q ⟨ρ, C, F, Qd, R, h, k⟩ => ?_
  refine ⟨ρ, C, F, _, R, h, fun v d C1 H1 F1 s1 R1 r1 q1 => ?_⟩
  refine ⟨ρ, C1, F1, _, R.next s1 R1, q1, fun l C2 F2 H2 s2 R2 q2 => ?_⟩
  refine ⟨ρ, C2, F2, _, R.next (s1.trans s2) R2, q2, fun u C3 F3 H3 s3 R3 q3 => ?_⟩
  exact ⟨d, C3, F3, Qd, R3, r1.mono (s2.trans s3), q3, k.at (s1.trans (s2.trans s3))⟩
/-- xs[i] = v -/
def rSetL : RSet := fun o i v C Q => ∃ a k j ds, o = .ref a ∧ i = .int k ∧ C a = some (.lst ds) ∧ ixN ds.length k = some j ∧ Q (updC C a (.lst (ds.set j v)))
theorem st_list : SetD X cl rSetL := by
  intro pins s σ H o i v ov iv u Q I r1 r2 r3 ⟨dO, dI, dV, C, F, Qd, R, p1, p2, p3, ⟨a, kk, j, ds, e1, e2, hc, hj, q⟩, k⟩
  subst e1 e2
  cases p1; cases p2
  obtain ⟨_, ob, ho, c⟩ := R.cel _ _ hc
  cases c with
  | lst rl =>
    exact set_list pins s σ H _ _ v ov iv u Q I r1 r2 r3 ⟨a, _, kk, j, rfl, rfl, ho, by rw [rl.length]; exact hj, k _ F _ (Same.refl F) (R.put hc (.lst (rl.set p3 j))) q⟩

/-! ### built-in calls -/
def lenF (C : Cl) : D → Option Nat
  | .str l => some l.length
  | .tup ds => some ds.length
  | .lst ds => some ds.length
  | .rol ds => some ds.length
  | .ref a => (cellL C a).map List.length
  | _ => none
def rLen : RDC := fun xs C Q => ∃ x n, xs = [x] ∧ lenF C x = some n ∧ srcOk x ∧ Q (.int n) C
theorem cd_len : CallD X cl (.builtin "len") rLen := by
  intro pins s σ H xs us Q I r ⟨ds, C, F, Qd, R, rl, ⟨x, n, e, hn, so, q⟩, k⟩
  subst e
  cases rl with
  | cons r1 rr =>
    cases rr
    refine call_len pins s σ H _ us Q I r ⟨_, n, rfl, ?_, k _ _ C H F (Same.refl F) R (.int _) q⟩
    cases r1 with
    | str l => cases hn; exact ⟨by rw [len_mk]; exact so, by rw [len_mk]⟩
    | tup h1 h2 => cases hn; exact .inr ⟨_, sqT_mono R.sub h1, h2.length.symm⟩
    | lst h1 h2 => cases hn; exact .inl ⟨_, .of (R.sub _ _ h1), h2.length.symm⟩
    | rol h1 h2 => cases hn; exact .inl ⟨_, R.sub.seq h1, h2.length.symm⟩
    | ref a =>
      have e' : (cellL C a).map List.length = some n := hn
      cases hh : cellL C a with
      | none => rw [hh] at e'; cases e'
      | some d' =>
        rw [hh] at e'
        cases e'
        obtain ⟨_, o, ho, c⟩ := R.cel _ _ (cellL_eq hh)
        cases c with
        | lst rl => exact .inl ⟨_, .of ho, rl.length.symm⟩
    | _ => cases hn
def rAbs : RDC := fun xs C Q => ∃ i, xs = [.int i] ∧ Q (.int (if i < 0 then -i else i)) C
theorem cd_abs : CallD X cl (.builtin "abs") rAbs := by
  intro pins s σ H xs us Q I r ⟨ds, C, F, Qd, R, rl, ⟨i, e, q⟩, k⟩
  subst e
  cases rl with
  | cons r1 rr =>
    cases rr; cases r1
    exact call_abs pins s σ H _ us Q I r ⟨i, rfl, k _ _ C H F (Same.refl F) R (.int _) q⟩
def rInt : RDC := fun xs C Q => (∃ i, xs = [.int i] ∧ Q (.int i) C) ∨ (∃ b, xs = [.bl b] ∧ Q (.int (if b then 1 else 0)) C)
theorem cd_int : CallD X cl (.type "int") rInt := by
  intro pins s σ H xs us Q I r ⟨ds, C, F, Qd, R, rl, h, k⟩
  rcases h with ⟨i, e, q⟩ | ⟨i, e, q⟩
  all_goals
    subst e
    cases rl with
    | cons r1 rr =>
      cases rr; cases r1
      first
        | exact call_int1 pins s σ H _ us Q I r (.inl ⟨i, rfl, k _ _ C H F (Same.refl F) R (.int _) q⟩)
        | exact call_int1 pins s σ H _ us Q I r (.inr ⟨i, rfl, k _ _ C H F (Same.refl F) R (.int _) q⟩)
def rMin2 : RDC := fun xs C Q => ∃ i j, xs = [.int i, .int j] ∧ Q (.int (if j < i then j else i)) C
theorem cd_min (hc : X.calm = true := by rfl) : CallD X cl (.builtin "min") rMin2 := by
  intro pins s σ H xs us Q I r ⟨ds, C, F, Qd, R, rl, ⟨i, j, e, q⟩, k⟩
  subst e
  cases rl with
  | cons r1 rr =>
    cases rr with
    | cons r2 rr =>
      cases rr; cases r1; cases r2
      exact call_min2 hc pins s σ H _ us Q I r ⟨i, j, rfl, k _ _ C H F (Same.refl F) R (.int _) q⟩
def rMax2 : RDC := fun xs C Q => ∃ i j, xs = [.int i, .int j] ∧ Q (.int (if j > i then j else i)) C
theorem cd_max (hc : X.calm = true := by rfl) : CallD X cl (.builtin "max") rMax2 := by
  intro pins s σ H xs us Q I r ⟨ds, C, F, Qd, R, rl, ⟨i, j, e, q⟩, k⟩
  subst e
  cases rl with
  | cons r1 rr =>
    cases rr with
    | cons r2 rr =>
      cases rr; cases r1; cases r2
      exact call_max2 hc pins s σ H _ us Q I r ⟨i, j, rfl, k _ _ C H F (Same.refl F) R (.int _) q⟩
/-- a list of truth values -/
def bls (bs : List Bool) : List D := bs.map D.bl
theorem rep_bls {K : PySem.W.Frag} {F : Hp} : ∀ {bs : List Bool} {xs : List V}, RepL K cl F xs (bls bs) → xs = bs.map V.bl
  | [], _, .nil => rfl
  | b :: bs, _, .cons r rr => by
    cases r
    rw [rep_bls rr]
    rfl
def rAllL : RDC := fun xs C Q => ∃ x bs, xs = [x] ∧ lstOf x = some (bls bs) ∧ Q (.bl (bs.all id)) C
def rAnyL : RDC := fun xs C Q => ∃ x bs, xs = [x] ∧ lstOf x = some (bls bs) ∧ Q (.bl (bs.any id)) C
theorem cd_all (hc : X.calm = true := by rfl) : CallD X cl (.builtin "all") rAllL := by
  intro pins s σ H xs us Q I r ⟨ds, C, F, Qd, R, rl, ⟨x, bs, e, hb, q⟩, k⟩
  subst e
  cases rl with
  | cons r1 rr =>
    cases rr
    obtain ⟨a, ys, rfl, hs, hl⟩ := r1.asL hb
    have e := rep_bls hl
    subst e
    exact cr_all hc pins s σ H _ us Q I r ⟨a, bs, rfl, R.sub.seq hs, k _ _ C H F (Same.refl F) R (.bl _) q⟩
theorem cd_any (hc : X.calm = true := by rfl) : CallD X cl (.builtin "any") rAnyL := by
  intro pins s σ H xs us Q I r ⟨ds, C, F, Qd, R, rl, ⟨x, bs, e, hb, q⟩, k⟩
  subst e
  cases rl with
  | cons r1 rr =>
    cases rr
    obtain ⟨a, ys, rfl, hs, hl⟩ := r1.asL hb
    have e := rep_bls hl
    subst e
    exact cr_any hc pins s σ H _ us Q I r ⟨a, bs, rfl, R.sub.seq hs, k _ _ C H F (Same.refl F) R (.bl _) q⟩
/-- list(x) -/
def rList : RDC := fun xs C Q => ∃ x ds, xs = [x] ∧ seqOf C x = some ds ∧ Q (.lst ds) C
theorem cd_list : CallD X cl (.type "list") rList := by
  intro pins s σ H xs us Q I r ⟨ds, C, F, Qd, R, rl, ⟨x, es, e, hb, q⟩, k⟩
  subst e
  cases rl with
  | cons r1 rr =>
    cases rr
    obtain ⟨a, ys, rfl, hs, hl⟩ := seq_ok R r1 hb
    refine call_list_of pins s σ H _ us Q I r ⟨a, ys, rfl, hs, fun p np => ?_⟩
    have s2 := same_upd (o := .lst ys) (R.freeF np)
    exact k _ _ C _ _ s2 (R.new np) (.lst upd_same (hl.mono s2)) q
/-- tuple(x) -/
def rTuple : RDC := fun xs C Q => ∃ x ds, xs = [x] ∧ seqOf C x = some ds ∧ Q (.tup ds) C
theorem cd_tuple : CallD X cl (.type "tuple") rTuple := by
  intro pins s σ H xs us Q I r ⟨ds, C, F, Qd, R, rl, ⟨x, es, e, hb, q⟩, k⟩
  subst e
  cases rl with
  | cons r1 rr =>
    cases rr
    have r1' := r1
    obtain ⟨a, ys, rfl, hs, hl⟩ := seq_ok R r1 hb
    have onT : ∀ zs, SqT X.K F a zs → RepL X.K cl F zs es → wpAny (model X.prog X.w) X.A (call (.type "tuple") us) (EP X pins σ Q) X.xe s := fun zs h1 h2 =>
      call_tuple_of pins s σ H _ us Q I r ⟨a, zs, rfl, .inr ⟨sqT_mono R.sub h1, k _ _ C H F (Same.refl F) R (.tup h1 h2) q⟩⟩
    have onL : ∀ zs, SqL X.K H a zs → RepL X.K cl F zs es → wpAny (model X.prog X.w) X.A (call (.type "tuple") us) (EP X pins σ Q) X.xe s := fun zs h1 h2 => by
      refine call_tuple_of pins s σ H _ us Q I r ⟨a, zs, rfl, .inl ⟨h1, fun p np => ?_⟩⟩
      have s2 := same_upd (o := .tup zs) (R.freeF np)
      exact k _ _ C _ _ s2 (R.new np) (.tup (.of upd_same) (h2.mono s2)) q
    cases r1' with
    | tup h1 h2 => cases hb; exact onT _ h1 h2
    | lst h1 h2 => cases hb; exact onL _ (.of (R.sub _ _ h1)) h2
    | rol h1 h2 => cases hb; exact onL _ (R.sub.seq h1) h2
    | ref a' =>
      obtain ⟨_, o, ho, c⟩ := R.cel _ _ (cellL_eq hb)
      cases c with
      | lst rl => exact onL _ (.of ho) rl
    | _ => cases hb
end
end G
namespace G
open PySem PySem.Spec PyProof.Rows L2

section
variable {X : Cx} {cl : NmB}
/-- a text's three parts at the first sep -/
def parts3 (a b : List Nat) : List Nat × List Nat × List Nat := match TL.par b [] a with
  | some (x, y) => (x, b, y)
  | none => (a, [], [])
def txts (ls : List (List Nat)) : List D := ls.map D.str
theorem of_txts {K : PySem.W.Frag} {F : Hp} : ∀ {ls : List (List Nat)} {xs : List V}, RepL K cl F xs (txts ls) → xs = (ls.map fun l => (⟨l.toArray⟩ : Str)).map V.str
  | [], _, .nil => rfl
  | l :: ls, _, .cons r rr => by
    cases r
    rw [of_txts rr]
    rfl
/-- joined texts -/
theorem join_ok (a : List Nat) (ls : List (List Nat)) : Txt.join ⟨a.toArray⟩ (ls.map fun l => (⟨l.toArray⟩ : Str)) = ⟨(TL.joinL a ls).toArray⟩ := by
  apply TL.ext_tl
  rw [TL.join_eq, TL.tl_join, List.map_map]
  show TL.joinL a (ls.map (TL.tl ∘ fun l : List Nat => (⟨l.toArray⟩ : Str))) = TL.joinL a ls
  rw [show (TL.tl ∘ fun l : List Nat => (⟨l.toArray⟩ : Str)) = id from rfl, List.map_id]
def rJoin : RDM := fun x xs C Q => ∃ a y ls, x = .str a ∧ xs = [y] ∧ seqOf C y = some (txts ls) ∧ (ls.map List.length).sum + ls.length * a.length ≤ 16777216 ∧ Q (.str (TL.joinL a ls)) C
theorem md_join : MtD X cl "str.join" rJoin := by
  intro pins s σ H x xs v us Q I rx rs ⟨dx, ds, C, F, Qd, R, r1, rl, ⟨a, y, ls, e1, e2, hy, hl, q⟩, k⟩
  subst e1 e2
  cases r1
  cases rl with
  | cons r2 rr =>
    cases rr
    obtain ⟨p, ys, rfl, hs, hr⟩ := seq_ok R r2 hy
    have e := of_txts hr
    subst e
    refine mt_join pins s σ H _ _ v us Q I rx rs ⟨_, p, _, rfl, rfl, hs, ?_, ?_⟩
    · rw [List.map_map, List.length_map, len_mk]
      rw [show ((fun x : Str => x.length) ∘ fun l : List Nat => (⟨l.toArray⟩ : Str)) = List.length from by funext l; exact len_mk l]
      exact hl
    · rw [join_ok]
      exact k _ _ C H F (Same.refl F) R (.str _) q
/-- lists that change -/
def rAppend : RDM := fun x xs C Q => ∃ a d ds, x = .ref a ∧ xs = [d] ∧ C a = some (.lst ds) ∧ ds.length < sizeLine ∧ Q .non (updC C a (.lst (ds ++ [d])))
theorem md_append : MtD X cl "list.append" rAppend := by
  intro pins s σ H x xs v us Q I rx rs ⟨dx, es, C, F, Qd, R, r1, rl, ⟨a, d, ds, e1, e2, hc, hl, q⟩, k⟩
  subst e1 e2
  cases r1
  obtain ⟨_, o, ho, c⟩ := R.cel _ _ hc
  cases c with
  | lst rr =>
    cases rl with
    | cons r2 rn =>
      cases rn
      exact mt_append pins s σ H _ _ v us Q I rx rs ⟨a, _, _, rfl, rfl, ho, by rw [rr.length]; exact hl, k _ _ _ _ F (Same.refl F) (R.put hc (.lst (rr.append (.cons r2 .nil)))) .non q⟩
/-! ### isinstance of a built-in class -/
def tyNm : D → Cl → Option String
  | .non, _ => some "NoneType"
  | .bl _, _ => some "bool"
  | .int _, _ => some "int"
  | .str _, _ => some "str"
  | .lst _, _ => some "list"
  | .rol _, _ => some "list"
  | .tup _, _ => some "tuple"
  | .dic _, _ => some "dict"
  | .dct _, _ => some "dict"
  | .ref a, C => match C a with
    | some (.lst _) => some "list"
    | some (.dic _) => some "dict"
    | some (.dct _) => some "dict"
    | _ => none
  | _, _ => none
theorem tyX_ok {K : PySem.W.Frag} {C : Cl} {F H : Hp} {v : V} {d : D} {n : String} (R : RC K cl C F H) (r : Rep K cl F v d) (h : tyNm d C = some n) : TyX K H v (.type n) := by
  have onT : ∀ a xs, SqT K H a xs → TyX K H (.ref a) (.type "tuple") := fun a xs h => by
    rcases h with (h | ⟨o, h⟩) | ⟨o, its, n, hk, hc, _⟩
    · exact .base (.tup h)
    · exact .fTuple h
    · exact .kTuple hk hc
  have onL : ∀ a xs, SqL K H a xs → TyX K H (.ref a) (.type "list") := fun a xs h => by
    rcases h with (h | ⟨o, h⟩) | ⟨o, its, n, hk, hc, _⟩
    · exact .base (.lst h)
    · exact .base (.frz h)
    · exact .kList hk hc
  cases r with
  | non => cases h; exact .base .non
  | bl b => cases h; exact .base (.bl b)
  | int i => cases h; exact .base (.int i)
  | str l => cases h; exact .base (.str _)
  | tup h1 h2 => cases h; exact onT _ _ (sqT_mono R.sub h1)
  | lst h1 h2 => cases h; exact onL _ _ (.of (R.sub _ _ h1))
  | rol h1 h2 => cases h; exact onL _ _ (R.sub.seq h1)
  | dic h1 h2 =>
    cases h
    rcases h1 with h1 | ⟨o, h1⟩
    · exact .base (.dK (R.sub _ _ h1))
    · exact .fDict (R.sub _ _ h1)
  | dct h1 h2 => cases h; exact .base (.dT (R.sub _ _ h1))
  | ref a =>
    cases hc : C a with
    | none => simp [tyNm, hc] at h
    | some c =>
      obtain ⟨_, o, ho, cr⟩ := R.cel _ _ hc
      cases cr with
      | lst rl =>
        simp only [tyNm, hc, Option.some.injEq] at h
        subst h
        exact onL _ _ (.of ho)
      | dic rl =>
        simp only [tyNm, hc, Option.some.injEq] at h
        subst h
        exact .base (.dK ho)
      | dct rl =>
        simp only [tyNm, hc, Option.some.injEq] at h
        subst h
        exact .base (.dT ho)
      | ins rl => simp [tyNm, hc] at h
  | ty n => simp [tyNm] at h
  | cls c => simp [tyNm] at h
  | ins h1 h2 => simp [tyNm] at h
/-- is a thing of the built-in class n of the class m -/
def isSub (n m : String) : Bool := n == m || (n == "bool" && m == "int")
def rIsi (m : String) : RDC := fun xs C Q => ∃ x n, xs = [x, .ty m] ∧ tyNm x C = some n ∧ Q (.bl (isSub n m)) C
/-- the library's answer for the classes that are asked -/
def IsiOk (K : PySem.W.Frag) (m : String) : Prop := ∀ n ∈ (["NoneType", "bool", "int", "str", "list", "tuple", "dict"] : List String), PySem.W.kitOne K (.type n) (.type m) = some (isSub n m)
theorem cd_isi {m : String} (hk : IsiOk X.K m) : CallD X cl (.builtin "isinstance") (rIsi m) := by
  intro pins s σ H xs us Q I r ⟨ds, C, F, Qd, R, rl, ⟨x, n, e, hn, q⟩, k⟩
  subst e
  cases rl with
  | cons r1 rr =>
    cases rr with
    | cons r2 rr =>
      cases rr; cases r2
      have hm : n ∈ (["NoneType", "bool", "int", "str", "list", "tuple", "dict"] : List String) := by
        cases x <;> first
          | (simp only [tyNm, Option.some.injEq] at hn; subst hn; decide)
          | (simp only [tyNm] at hn; split at hn <;> first | (cases hn; decide) | cases hn)
          | cases hn
      exact call_isi pins s σ H _ us Q I r ⟨_, _, _, _, _, rfl, .ty m, tyX_ok R r1 hn, hk n hm, k _ _ C H F (Same.refl F) R (.bl _) q⟩
end
end G
namespace G
open PySem PySem.Spec PyProof.Rows L2

/-! ### short words for readings -/
abbrev dAdd (a b : DE) : DE := dOp (rOf addF) a b
abbrev dSub (a b : DE) : DE := dOp (rOf (ioF fun i j => i - j)) a b
abbrev dMul (a b : DE) : DE := dOp rMul a b
abbrev dFdiv (a b : DE) : DE := dOp (rIC CDivW fun i j => i / j) a b
abbrev dMod (a b : DE) : DE := dOp (rIC (fun _ j => 0 < j) fun i j => i % j) a b
abbrev dPow (a b : DE) : DE := dOp (rIC CPow fun i j => i ^ j.toNat) a b
abbrev rLtD : RD2 := rOf ltF
abbrev rLeD : RD2 := rOf leF
abbrev rGtD : RD2 := rOf gtF
abbrev rGeD : RD2 := rOf geF
theorem boot_len_ : bootBuiltins "len" = some (.builtin "len") := by decide +kernel
theorem boot_abs_ : bootBuiltins "abs" = some (.builtin "abs") := by decide +kernel
theorem boot_min_ : bootBuiltins "min" = some (.builtin "min") := by decide +kernel
theorem boot_max_ : bootBuiltins "max" = some (.builtin "max") := by decide +kernel
theorem boot_all_ : bootBuiltins "all" = some (.builtin "all") := by decide +kernel
theorem boot_any_ : bootBuiltins "any" = some (.builtin "any") := by decide +kernel
theorem boot_isinstance_ : bootBuiltins "isinstance" = some (.builtin "isinstance") := by decide +kernel
theorem boot_int_ : bootBuiltins "int" = some (.type "int") := by decide +kernel
theorem boot_str_ : bootBuiltins "str" = some (.type "str") := by decide +kernel
theorem boot_bool_ : bootBuiltins "bool" = some (.type "bool") := by decide +kernel
theorem boot_list_ : bootBuiltins "list" = some (.type "list") := by decide +kernel
theorem boot_tuple_ : bootBuiltins "tuple" = some (.type "tuple") := by decide +kernel
theorem isi_all {K : PySem.W.Frag} {m : String} (h : PySem.W.kitOne K (.type "NoneType") (.type m) = some (isSub "NoneType" m) ∧ PySem.W.kitOne K (.type "bool") (.type m) = some (isSub "bool" m) ∧ PySem.W.kitOne K (.type "int") (.type m) = some (isSub "int" m) ∧ PySem.W.kitOne K (.type "str") (.type m) = some (isSub "str" m) ∧
    PySem.W.kitOne K (.type "list") (.type m) = some (isSub "list" m) ∧ PySem.W.kitOne K (.type "tuple") (.type m) = some (isSub "tuple" m) ∧ PySem.W.kitOne K (.type "dict") (.type m) = some (isSub "dict" m)) : IsiOk K m := by
  intro n hn
  have hn : n = "NoneType" ∨ n = "bool" ∨ n = "int" ∨ n = "str" ∨ n = "list" ∨ n = "tuple" ∨ n = "dict" := by simpa using hn
  obtain ⟨h1, h2, h3, h4, h5, h6, h7⟩ := h
  rcases hn with rfl | rfl | rfl | rfl | rfl | rfl | rfl <;> assumption
theorem isi_str {K : PySem.W.Frag} : IsiOk K "str" := isi_all ⟨rfl, rfl, rfl, rfl, rfl, rfl, rfl⟩
theorem isi_int {K : PySem.W.Frag} : IsiOk K "int" := isi_all ⟨rfl, rfl, rfl, rfl, rfl, rfl, rfl⟩
theorem isi_bool {K : PySem.W.Frag} : IsiOk K "bool" := isi_all ⟨rfl, rfl, rfl, rfl, rfl, rfl, rfl⟩
theorem isi_tuple {K : PySem.W.Frag} : IsiOk K "tuple" := isi_all ⟨rfl, rfl, rfl, rfl, rfl, rfl, rfl⟩
section
variable {X : Cx} {cl : NmB} {pos : Pos}
theorem de_gstr {x : Str} {l : List Nat} (h : ∃ t, X.mg x = some (.str ⟨l.toArray⟩ t)) (hg : Gl X x := by rfl) (hd : (x == ("__debug__" : Str)) = false := by decide) : PEd X cl (.Name x pos) (dC (.str l)) := by
  obtain ⟨t, h⟩ := h
  exact de_glob (v := .str ⟨l.toArray⟩) h ⟨t, rfl⟩ (fun _ => .str l) hg hd
theorem de_gint {x : Str} {i : Int} (h : ∃ t, X.mg x = some (.int i t)) (hg : Gl X x := by rfl) (hd : (x == ("__debug__" : Str)) = false := by decide) : PEd X cl (.Name x pos) (dC (.int i)) := by
  obtain ⟨t, h⟩ := h
  exact de_glob (v := .int i) h ⟨t, rfl⟩ (fun _ => .int i) hg hd
end
/-- tests whose answer is a proposition's -/
theorem ite_d {p : Prop} [Decidable p] {A B : Prop} (h1 : p → A) (h2 : ¬ p → B) : if decide p = true then A else B := by
  by_cases h : p
  · rw [decide_eq_true h]; exact iteT (h1 h)
  · rw [decide_eq_false h]; exact iteF (h2 h)
theorem ite_nd {p : Prop} [Decidable p] {A B : Prop} (h1 : ¬ p → A) (h2 : p → B) : if (!decide p) = true then A else B := by
  by_cases h : p
  · rw [decide_eq_true h]; exact iteF (h2 h)
  · rw [decide_eq_false h]; exact iteT (h1 h)
theorem ite_b {b : Bool} {A B : Prop} (h1 : b = true → A) (h2 : b = false → B) : if b = true then A else B := by
  cases b
  · exact iteF (h2 rfl)
  · exact iteT (h1 rfl)
theorem ite_nb {b : Bool} {A B : Prop} (h1 : b = false → A) (h2 : b = true → B) : if (!b) = true then A else B := by
  cases b
  · exact iteT (h1 rfl)
  · exact iteF (h2 rfl)
/-! ### the bag of a law: three numbers in a list that changes -/
abbrev bagC (x y z : Int) : Cell := .lst [.int x, .int y, .int z]
structure Bag (x y z : Int) (n : Nat) : Prop where
  x0 : 0 ≤ x
  y0 : 0 ≤ y
  y1 : y ≤ 12000000000000000000
  z0 : 0 ≤ z
  z1 : z ≤ n
def BagAt (C : Cl) (b : Addr) (n : Nat) : Prop := ∃ x y z, C b = some (bagC x y z) ∧ Bag x y z n
/-- C' is C but for the bag at b -/
def Bagged (C : Cl) (b : Addr) (C' : Cl) (n : Nat) : Prop := ∃ x y z, C' = updC C b (bagC x y z) ∧ Bag x y z n
theorem Bag.mono {x y z : Int} {n m : Nat} (h : Bag x y z n) (l : n ≤ m) : Bag x y z m := ⟨h.x0, h.y0, h.y1, h.z0, by have := h.z1; omega⟩
theorem Bagged.at {C C' : Cl} {b : Addr} {n : Nat} (h : Bagged C b C' n) : BagAt C' b n := by
  obtain ⟨x, y, z, rfl, g⟩ := h
  exact ⟨x, y, z, updC_same, g⟩
theorem BagAt.mono {C : Cl} {b : Addr} {n m : Nat} (h : BagAt C b n) (l : n ≤ m) : BagAt C b m := by
  obtain ⟨x, y, z, e, g⟩ := h
  exact ⟨x, y, z, e, g.mono l⟩
theorem Bagged.mono {C C' : Cl} {b : Addr} {n m : Nat} (h : Bagged C b C' n) (l : n ≤ m) : Bagged C b C' m := by
  obtain ⟨x, y, z, e, g⟩ := h
  exact ⟨x, y, z, e, g.mono l⟩
theorem Bagged.trans {C C1 C2 : Cl} {b : Addr} {n m : Nat} (h : Bagged C b C1 n) (k : Bagged C1 b C2 m) : Bagged C b C2 m := by
  obtain ⟨x, y, z, rfl, g⟩ := h
  obtain ⟨x', y', z', rfl, g'⟩ := k
  exact ⟨x', y', z', updC_updC, g'⟩
theorem Bagged.ne {C C' : Cl} {b : Addr} {n : Nat} (h : Bagged C b C' n) {a : Addr} (e : a ≠ b) : C' a = C a := by
  obtain ⟨x, y, z, rfl, g⟩ := h
  exact updC_ne e
theorem updC_self {C : Cl} {a : Addr} {c : Cell} (h : C a = some c) : updC C a c = C := by
  funext b
  unfold updC
  by_cases e : b = a
  · rw [if_pos e, e, h]
  · rw [if_neg e]
theorem BagAt.self {C : Cl} {b : Addr} {n : Nat} (h : BagAt C b n) : Bagged C b C n := by
  obtain ⟨x, y, z, e, g⟩ := h
  exact ⟨x, y, z, (updC_self e).symm, g⟩
end G
namespace G
open PySem PySem.Spec PyProof.Rows L2
/-! ### callees with keywords; instances -/
abbrev DSp2 := List D → List D → Cl → DQ → DX → Prop
abbrev noX : DX := fun _ _ _ => False
section
variable (K : PySem.W.Frag) (cl : Nm)
def lowC2 (sp : DSp2) (vs zs : List V) (H : Hp) (Q : VK) (E : XK) : Prop := ∃ ds es C F Qd Ed, RC K cl C F H ∧ RepL K cl F vs ds ∧ RepL K cl F zs es ∧ sp ds es C Qd Ed ∧ Fin K cl F Qd Q ∧ FinX K cl F Ed E
end
/-- a def that is called with the keywords ks -/
def Cee (P : Program) (w : World) (K : PySem.W.Frag) (cl : Nm) (mg : Str → Option Value) (base : Heap) (CX : CXT) (k : Nat) (f : Addr) (ks : List Str) (sp : DSp2) : Prop :=
  ∀ (A : Around) (outer : List Env) (s : Shared) (H : Hp) (us ws : List Value) (vs zs : List V) (Q : VK) (E : XK), Room k A → Env0 P w K mg base A outer s H → Vals vs us → Vals zs ws → lowC2 K cl sp vs zs H Q E →
    codeAny (model P w) A (.call (.ref f) ⟨us, ks.zip ws⟩) (CR CX outer P w H s Q E) s
section
variable {P : Program} {w : World} {K : PySem.W.Frag} {cl : Nm} {mg : Str → Option Value} {base : Heap} {CX : CXT} {k n : Nat} {f : Addr} {fd : FuncData} {ps ks : List Str} {sp : DSp}
theorem Cee.mono {sp : DSp2} {j : Nat} (c : Cee P w K cl mg base CX j f ks sp) (h : j ≤ k) : Cee P w K cl mg base CX k f ks sp := fun A outer s H us ws vs zs Q E hr => c A outer s H us ws vs zs Q E (hr.mono h)
theorem Cee.imp {sp sp' : DSp2} (c : Cee P w K cl mg base CX k f ks sp) (h : ∀ ds es C Q E, sp' ds es C Q E → sp ds es C Q E) : Cee P w K cl mg base CX k f ks sp' :=
  fun A outer s H us ws vs zs Q E hr e0 r rz ⟨ds, es, C, F, Qd, Ed, R, r1, r2, hq, k1, k2⟩ => c A outer s H us ws vs zs Q E hr e0 r rz ⟨ds, es, C, F, Qd, Ed, R, r1, r2, h _ _ _ _ _ hq, k1, k2⟩
/-- all parameters written, but for defaults dd at the end -/
theorem Cee.pos {dv : List Value} {dw : List V} {dd : List D} (FG : FnOk P w K mg base CX k f fd ps (lowSp K cl sp)) (hb : Binds K fd ps dv) (hd : Vals dw dv) (hv : ∀ F, RepL K cl F dw dd) :
    Cee P w K cl mg base CX k f [] (fun ds es C Q E => es = [] ∧ sp (ds ++ dd) C Q E) := by
  rintro A outer s H us ws vs zs Q E hr e0 r rz ⟨ds, es, C, F, Qd, Ed, R, r1, r2, ⟨rfl, hq⟩, k1, k2⟩
  have hsp : lowSp K cl sp (vs ++ dw) H Q E := ⟨ds ++ dd, C, F, Qd, Ed, R, r1.append (hv F), hq, k1, k2⟩
  have r3 : Vals (vs ++ dw) (us ++ dv) := r.append hd
  have hl : (us ++ dv).length = ps.length := by rw [← r3.length]; exact FG.len _ _ _ _ hsp
  exact FG.run A outer s H ⟨us, []⟩ (us ++ dv) (vs ++ dw) Q E hr e0 (hb s us (e0.mod.kin.keeps fun b o e => (e0.bs b o e).1) hl) r3 hsp
/-- keywords -/
theorem Cee.kw {g : List Value → List Value → List Value} {gV : List V → List V → List V} {gD : List D → List D → List D} (FG : FnOk P w K mg base CX k f fd ps (lowSp K cl sp)) (hb : KBn K fd ps n ks g gV)
    (hg : ∀ F vs zs ds es, RepL K cl F vs ds → RepL K cl F zs es → ds.length = n → es.length = ks.length → RepL K cl F (gV vs zs) (gD ds es)) :
    Cee P w K cl mg base CX k f ks (fun ds es C Q E => ds.length = n ∧ es.length = ks.length ∧ sp (gD ds es) C Q E) := by
  rintro A outer s H us ws vs zs Q E hr e0 r rz ⟨ds, es, C, F, Qd, Ed, R, r1, r2, ⟨l1, l2, hq⟩, k1, k2⟩
  have hsp : lowSp K cl sp (gV vs zs) H Q E := ⟨gD ds es, C, F, Qd, Ed, R, hg F vs zs ds es r1 r2 l1 l2, hq, k1, k2⟩
  have n1 : us.length = n := by rw [← r.length, r1.length, l1]
  have n2 : ws.length = ks.length := by rw [← rz.length, r2.length, l2]
  exact FG.run A outer s H ⟨us, ks.zip ws⟩ (g us ws) (gV vs zs) Q E hr e0 (hb.to s us ws (e0.mod.kin.keeps fun b o e => (e0.bs b o e).1) n1 n2) (hb.rel r rz) hsp
end
section
variable {X : Cx} {cl : NmB} {CX : CXT} {k n : Nat} {f : Addr} {ks : List Str} {sp : DSp2} {E : XK} {pins : List (Addr × Obj)} {σ : L2.St} {H : Hp} {s : Shared}
theorem Cee.go {A : Around} {us ws : List Value} {vs zs : List V} {Q : VK} (c : Cee X.prog X.w X.K cl X.mg X.base CX k f ks sp) (hr : Room k A) (hf : A.frames = X.A.frames) (hx : Passes CX X E) (I : Inv X pins σ H s) (r : Vals vs us) (rz : Vals zs ws)
    (h : lowC2 X.K cl sp vs zs H Q E) : wpAny (model X.prog X.w) A (call (.ref f) us (ks.zip ws)) (EP X pins σ Q) X.xe s := by
  have e0 : Env0 X.prog X.w X.K X.mg X.base A X.stack s H := by
    have e := I.env0
    exact ⟨by rw [hf]; exact e.frames, e.mod, e.bs, e.bsz, e.funs, e.frf, e.hok, e.bare⟩
  refine wpAny_call (codeAny_mono (c A X.stack s H us ws vs zs Q E hr e0 r rz h) fun r s' hq => ?_)
  cases r with
  | error e => exact hx pins σ H s e s' I hq
  | ok fl =>
    cases fl with
    | ret u => exact I.after hq
    | next => exact False.elim hq
    | brk => exact False.elim hq
    | cont => exact False.elim hq
/-- the same, wanted at the reading's level -/
theorem Cee.goD {A : Around} {us : List Value} {vs : List V} {ds : List D} {C : Cl} {F : Hp} {Qd : DQ} {Q : VK} (c : Cee X.prog X.w X.K cl X.mg X.base CX k f [] sp) (hr : Room k A) (hf : A.frames = X.A.frames) (hx : Passes CX X E0) (I : Inv X pins σ H s) (r : Vals vs us)
    (R : RC X.K cl C F H) (rl : RepL X.K cl F vs ds) (h : sp ds [] C Qd noX) (hq : Fin X.K cl F Qd Q) : wpAny (model X.prog X.w) A (call (.ref f) us) (EP X pins σ Q) X.xe s :=
  c.go (zs := []) (ws := []) hr hf hx I r .nil ⟨ds, [], C, F, Qd, noX, R, rl, .nil, h, hq, fun _ _ _ _ _ _ _ _ _ _ z => z.elim⟩
end

/-! ### instances: fields -/
def insOf (C : Cl) : D → Option (String × List (Str × D))
  | .ins c fs => some (c, fs)
  | .ref a => match C a with
    | some (.ins c fs) => some (c, fs)
    | _ => none
  | _ => none
section
variable {K : PySem.W.Frag} {cl : Nm} {C : Cl} {F H : Hp} {v : V} {d : D} {c : String} {fs : List (Str × D)}
theorem RepF.len : ∀ {vs : List (Str × V)} {ds : List (Str × D)}, RepF K cl F vs ds → vs.length = ds.length
  | _, _, .nil => rfl
  | _, _, .cons _ r => congrArg (· + 1) (RepF.len r)
theorem ins_ok (R : RC K cl C F H) (r : Rep K cl F v d) (h : insOf C d = some (c, fs)) : ∃ a dx vs, v = .ref a ∧ H a = some (.ins (cl c) dx vs) ∧ RepF K cl F vs fs := by
  cases r with
  | ins h1 h2 => cases h; exact ⟨_, _, _, rfl, R.sub _ _ h1, h2⟩
  | ref a =>
    unfold insOf at h
    dsimp only at h
    split at h
    · rename_i hc
      cases h
      obtain ⟨_, o, ho, cr⟩ := R.cel _ _ hc
      cases cr with
      | ins rf => exact ⟨_, _, _, rfl, ho, rf⟩
    · cases h
  | _ => cases h
def putD (f : Str) (v : D) : List (Str × D) → List (Str × D)
  | [] => [(f, v)]
  | (g, x) :: r => if g = f then (g, v) :: r else (g, x) :: putD f v r
theorem RepF.put {f : Str} {v : V} {d : D} (h : Rep K cl F v d) : ∀ {vs : List (Str × V)} {ds : List (Str × D)}, RepF K cl F vs ds → RepF K cl F (putF f v vs) (putD f d ds)
  | _, _, .nil => .cons h .nil
  | _, _, .cons (k := k) q r => by
    unfold putF putD
    by_cases e : k = f
    · rw [if_pos e, if_pos e]; exact .cons h r
    · rw [if_neg e, if_neg e]; exact .cons q (RepF.put h r)
end
/-- e.f of an instance of one of the classes cs -/
def dFld (cs : List String) (te : DE) (f : Str) : DE := fun ρ C Q => te ρ C fun d C1 => ∃ c fs v, c ∈ cs ∧ insOf C1 d = some (c, fs) ∧ fs.lookup f = some v ∧ Q v C1
/-- o.f = e -/
def dFldSet (cs : List String) (to te : DE) (f : Str) : DS := fun D ρ C => te ρ C fun y C1 => to ρ C1 fun x C2 => ∃ a c fs, c ∈ cs ∧ x = .ref a ∧ C2 a = some (.ins c fs) ∧ fs.length < 1000 ∧ D.nx ρ (updC C2 a (.ins c (putD f y fs)))
/-- what a class has for its field f -/
def FldOk (K : PySem.W.Frag) (cl : Nm) (f : Str) (cs : List String) : Prop := ∀ c ∈ cs, Cls K (cl c) ∧ NoAttr K (cl c) f
section
variable {K : PySem.W.Frag} {cl : Nm} {f : Str}
theorem fld_nil : FldOk K cl f [] := nofun
theorem fld_cons {c : String} {cs : List String} (h : Cls K (cl c)) (n : NoAttr K (cl c) f) (r : FldOk K cl f cs) : FldOk K cl f (c :: cs) := fun x hx => by
  rcases List.mem_cons.mp hx with e | e
  · rw [e]; exact ⟨h, n⟩
  · exact r x e
end
section
variable {X : Cx} {cl : NmB} {e o : Expr} {te to : DE} {pos pos' : Pos} {f : Str} {cs : List String}
theorem de_fld (he : PEd X cl e te) (hc : FldOk X.K cl f cs) (hb : attributeBase e f X.env (eval e X.env) = eval e X.env := by rfl) : PEd X cl (.Attribute e f pos) (dFld cs te f) := by
  refine weakE (pe_fld he hb) fun σ H Q ⟨ρ, C, F, Qd, R, h, k⟩ => ?_
  refine ⟨ρ, C, F, _, R, h, fun v d C1 H1 F1 s1 R1 r1 ⟨c, fs, x, hm, hi, hl, q1⟩ => ?_⟩
  obtain ⟨a, dx, vs, rfl, ha, rf⟩ := ins_ok R1 r1 hi
  obtain ⟨u, hu, ru⟩ := rf.get hl
  exact ⟨a, cl c, dx, vs, u, rfl, ha, (hc c hm).1, (hc c hm).2, hu, k u x C1 H1 F1 s1 R1 ru q1⟩
theorem ds_fld (ho : PEd X cl o to) (he : PEd X cl e te) (hc : FldOk X.K cl f cs) (hs : swapsWith e (some (.Attribute o f pos')) pos.line X.env = pure false := by rfl) : PSd X cl (.Assign [.Attribute o f pos'] e pos) (dFldSet cs to te f) := by
  refine weakS (ps_fld ho he hs) fun De σ H ⟨ρ, C, F, Dd, R, h, k⟩ => ?_
  refine ⟨ρ, C, F, _, R, h, fun v d C1 H1 F1 s1 R1 r1 q1 => ?_⟩
  refine ⟨ρ, C1, F1, _, R.next s1 R1, q1, fun v2 d2 C2 H2 F2 s2 R2 r2 ⟨a, c, fs, hm, e2, hc2, hl, q2⟩ => ?_⟩
  subst e2
  cases r2
  obtain ⟨_, ob, hob, cr⟩ := R2.cel _ _ hc2
  cases cr with
  | ins rf =>
    refine ⟨_, cl c, _, _, rfl, hob, (hc c hm).1, (hc c hm).2, by rw [rf.len]; exact hl, ?_⟩
    exact k.nx _ _ F2 _ _ (s1.trans s2) (R.next (s1.trans s2) (R2.put hc2 (.ins (rf.put (r1.mono s2))))) q2
end

/-! ### calls of methods, of classes, of static methods -/
abbrev PKd (X : Cx) (cl : NmB) (kws : List Keyword) (t : DA) : Prop := PK X kws (lowA X.K cl t)
def dMeth (c : String) (m : Str) (sp : DSp2) (to : DE) (t tk : DA) : DE := fun ρ C Q => to ρ C fun x C1 => ∃ fs, insOf C1 x = some (c, fs) ∧ fs.lookup m = none ∧ t ρ C1 fun xs C2 => tk ρ C2 fun zs C3 => sp (x :: xs) zs C3 Q noX
def dCal (sp : DSp2) (t tk : DA) : DE := fun ρ C Q => t ρ C fun xs C2 => tk ρ C2 fun zs C3 => sp xs zs C3 Q noX
def dMake (c : String) (sp : DSp2) (t tk : DA) : DE := fun ρ C Q => t ρ C fun xs C2 => tk ρ C2 fun zs C3 => ∀ x, C3 x = none → sp (.ref x :: xs) zs (updC C3 x (.ins c [])) (fun v C4 => v = .non ∧ Q (.ref x) C4) noX
/-- C.m is a static method: its record at p, its def at g -/
structure SMet (K : PySem.W.Frag) (C : Addr) (mc : Value) (m : Str) (p g : Addr) : Prop where
  at_ : PySem.W.findCls K (.ref C) mc m = some (.get (.builtin "staticmethod.__get__") (.ref p) .none (.ref C))
  rc : ∃ rest, PySem.W.recIn K p "staticmethod" = some (.ref g :: rest)
  kp : PySem.W.keepIn K (.ref g) = true
section
variable {X : Cx} {cl : NmB} {CX : CXT} {k : Nat} {g : Addr} {ks : List Str} {sp : DSp2} {e o : Expr} {es : List Expr} {kws : List Keyword} {to : DE} {t tk : DA} {pos apos p : Pos} {x m : Str} {c : String} {te : DE}
theorem dk_nil : PKd X cl [] dNil := ⟨fun pos pins s σ H Q I ⟨ρ, C, F, Qd, R, h, k⟩ => pk_nil.run pos pins s σ H Q I (k [] [] C H F (Same.refl F) R.rc .nil h)⟩
theorem dk_cons {nm : Option Str} {kpos : Pos} (ha : PEd X cl e te) (hr : PKd X cl kws t) : PKd X cl (⟨nm, e, kpos⟩ :: kws) (dCons te t) := by
  have z := pk_cons (nm := nm) (kpos := kpos) ha hr
  refine ⟨fun pos pins s σ H Q I ⟨ρ, C, F, Qd, R, h, k⟩ => z.run pos pins s σ H Q I ?_⟩
  refine ⟨ρ, C, F, _, R, h, fun v d C1 H1 F1 s1 R1 r1 q1 => ?_⟩
  exact ⟨ρ, C1, F1, _, R.next s1 R1, q1, fun vs ds C2 H2 F2 s2 R2 r2 q2 => k _ _ C2 H2 F2 (s1.trans s2) R2 (.cons (r1.mono s2) r2) q2⟩
/-- the arguments, the keywords, then the callee -/
theorem cal_args {fv : Value} {first : List Value} {pins : List (Addr × Obj)} {s : Shared} {σ : L2.St} {H : Hp} (hk : PySem.W.keepIn X.K fv = true) (I : Inv X pins σ H s) (ha : PAd X cl (e :: es) t) (hkw : PKd X cl kws tk)
    {ρ : DEnv} {C : Cl} {F : Hp} (RR : RS X.K cl ρ C F σ H) {Qd : List D → List D → Cl → Prop} (h : t ρ C fun xs C2 => tk ρ C2 fun zs C3 => Qd xs zs C3) {Q : Value → Shared → Prop}
    (hq : ∀ us ws vs zs s2 H2 F2 C2 ds es, Inv X pins σ H2 s2 → Same F F2 → RC X.K cl C2 F2 H2 → Vals vs us → Vals zs ws → RepL X.K cl F2 vs ds → RepL X.K cl F2 zs es → Qd ds es C2 → wpAny (model X.prog X.w) X.A (call fv (first ++ us) (ks.zip ws)) Q X.xe s2)
    (hall : (backToKw pos (keywordEach kws X.env)).all (·.1.isSome) = true) (hks : (backToKw pos (keywordEach kws X.env)).filterMap (·.1) = ks) (he : starEach (e :: es) X.env = (false, eval e X.env) :: starEach es X.env)
    (hpl : ((backTo pos (starEach (e :: es) X.env)).any (·.1) || (backToKw pos (keywordEach kws X.env)).any (·.1.isNone)) = false) :
    wpAny (model X.prog X.w) X.A (callWith pos fv first (backTo pos (starEach (e :: es) X.env)) (backToKw pos (keywordEach kws X.env))) Q X.xe s := by
  refine PySem.W.callWith_KW (h₀ := X.base) I.ok.mod.kin hk hall (thn (ha.run pos pins s σ H (fun vs H1 => ∃ ds C1 F1, Same F F1 ∧ RC X.K cl C1 F1 H1 ∧ RepL X.K cl F1 vs ds ∧ tk ρ C1 fun zs C3 => Qd ds zs C3) I ⟨ρ, C, F, _, RR, h, fun vs ds C1 H1 F1 s1 R1 r1 q1 => ⟨ds, C1, F1, s1, R1, r1, q1⟩⟩) fun us s1 ⟨vs, H1, I1, r, ds, C1, F1, s1', R1, r1, q1⟩ => ?_) hpl he
  refine thn (hkw.run pos pins s1 σ H1 (fun zs H2 => ∃ es C2 F2, Same F1 F2 ∧ RC X.K cl C2 F2 H2 ∧ RepL X.K cl F2 zs es ∧ Qd ds es C2) I1 ⟨ρ, C1, F1, _, RR.next s1' R1, q1, fun zs es C2 H2 F2 s2 R2 r2 q2 => ⟨es, C2, F2, s2, R2, r2, q2⟩⟩) fun ws s2 ⟨zs, H2, I2, rz, es, C2, F2, s2', R2, r2, q2⟩ => ⟨I2.kIn, ?_⟩
  rw [hks]
  exact hq us ws vs zs s2 H2 F2 C2 ds es I2 (s1'.trans s2') R2 r rz (r1.mono s2') r2 q2
theorem cal_args0 {fv : Value} {first : List Value} {pins : List (Addr × Obj)} {s : Shared} {σ : L2.St} {H : Hp} (hk : PySem.W.keepIn X.K fv = true) (I : Inv X pins σ H s) (hkw : PKd X cl kws tk)
    {ρ : DEnv} {C : Cl} {F : Hp} (RR : RS X.K cl ρ C F σ H) {Qd : List D → List D → Cl → Prop} (h : tk ρ C fun zs C3 => Qd [] zs C3) {Q : Value → Shared → Prop}
    (hq : ∀ us ws vs zs s2 H2 F2 C2 ds es, Inv X pins σ H2 s2 → Same F F2 → RC X.K cl C2 F2 H2 → Vals vs us → Vals zs ws → RepL X.K cl F2 vs ds → RepL X.K cl F2 zs es → Qd ds es C2 → wpAny (model X.prog X.w) X.A (call fv (first ++ us) (ks.zip ws)) Q X.xe s2)
    (hall : (backToKw pos (keywordEach kws X.env)).all (·.1.isSome) = true) (hks : (backToKw pos (keywordEach kws X.env)).filterMap (·.1) = ks)
    (hpl : ((backTo pos (starEach [] X.env)).any (·.1) || (backToKw pos (keywordEach kws X.env)).any (·.1.isNone)) = false) :
    wpAny (model X.prog X.w) X.A (callWith pos fv first (backTo pos (starEach [] X.env)) (backToKw pos (keywordEach kws X.env))) Q X.xe s := by
  refine PySem.W.callWith_KW0 (h₀ := X.base) I.ok.mod.kin hk hall ?_ hpl
  refine thn (hkw.run pos pins s σ H (fun zs H2 => ∃ es C2 F2, Same F F2 ∧ RC X.K cl C2 F2 H2 ∧ RepL X.K cl F2 zs es ∧ Qd [] es C2) I ⟨ρ, C, F, _, RR, h, fun zs es C2 H2 F2 s2 R2 r2 q2 => ⟨es, C2, F2, s2, R2, r2, q2⟩⟩) fun ws s2 ⟨zs, H2, I2, rz, es, C2, F2, s2', R2, r2, q2⟩ => ⟨I2.kIn, ?_⟩
  rw [hks]
  exact hq [] ws [] zs s2 H2 F2 C2 [] es I2 s2' R2 .nil rz .nil r2 q2
/-- f(e, .., k = v, ..) -/
theorem de_cal (fc : Cee X.prog X.w X.K cl X.mg X.base CX k g ks sp) (hr : Room k X.A) (hx : Passes CX X E0) (hm : X.mg x = some (.ref g)) (hk : PySem.W.keepIn X.K (.ref g) = true) (ha : PAd X cl (e :: es) t) (hkw : PKd X cl kws tk)
    (hg : Gl X x := by rfl) (hall : (backToKw pos (keywordEach kws X.env)).all (·.1.isSome) = true := by rfl) (hks : (backToKw pos (keywordEach kws X.env)).filterMap (·.1) = ks := by rfl) (hdb : (x == ("__debug__" : Str)) = false := by decide)
    (he : starEach (e :: es) X.env = (false, eval e X.env) :: starEach es X.env := by rfl) (hpl : ((backTo pos (starEach (e :: es) X.env)).any (·.1) || (backToKw pos (keywordEach kws X.env)).any (·.1.isNone)) = false := by rfl) :
    PEd X cl (.Call (.Name x p) (e :: es) kws pos) (dCal sp t tk) := by
  refine ⟨fun pins s σ H Q I ⟨ρ, C, F, Qd, R, h, kq⟩ => ?_⟩
  refine wpAny_Call_Name_kw (ld_glob I hg hm ?_ hdb)
  refine cal_args (first := []) hk I ha hkw R h (fun us ws vs zs s2 H2 F2 C2 ds es I2 s2' R2 r rz r1 r2 q2 => ?_) hall hks he hpl
  exact fc.go hr rfl hx I2 r rz ⟨ds, es, C2, F2, Qd, noX, R2, r1, r2, q2, kq.at s2', fun _ _ _ _ _ _ _ _ _ _ z => z.elim⟩
/-- o.m(e, .., k = v, ..) -/
theorem de_meth {pl : Sem Bool} (fc : Cee X.prog X.w X.K cl X.mg X.base CX k g ks sp) (hr : Room k X.A) (hx : Passes CX X E0) (hcl : Cls X.K (cl c)) (hm : Meth X.K (cl c) m g) (ho : PEd X cl o to) (ha : PAd X cl (e :: es) t) (hkw : PKd X cl kws tk)
    (hall : (backToKw pos (keywordEach kws X.env)).all (·.1.isSome) = true := by rfl) (hks : (backToKw pos (keywordEach kws X.env)).filterMap (·.1) = ks := by rfl)
    (he : starEach (e :: es) X.env = (false, eval e X.env) :: starEach es X.env := by rfl) (hpl : ((backTo pos (starEach (e :: es) X.env)).any (·.1) || (backToKw pos (keywordEach kws X.env)).any (·.1.isNone)) = false := by rfl)
    (ht : eval (.Call (.Attribute o m apos) (e :: es) kws pos) X.env = (do
      let ov ← eval o X.env
      standAt apos.atName
      let (f, first) ← holding [ov] (getMethod ov m pl)
      callWith pos f first (backTo pos (starEach (e :: es) X.env)) (backToKw pos (keywordEach kws X.env))) := by rfl) :
    PEd X cl (.Call (.Attribute o m apos) (e :: es) kws pos) (dMeth c m sp to t tk) := by
  refine ⟨fun pins s σ H Q I ⟨ρ, C, F, Qd, R, h, kq⟩ => ?_⟩
  refine PySem.W.methodCall_KW (pl := pl) (thn (ho.run pins s σ H (fun v H1 => ∃ d C1 F1, Same F F1 ∧ RC X.K cl C1 F1 H1 ∧ Rep X.K cl F1 v d ∧ ∃ fs, insOf C1 d = some (c, fs) ∧ fs.lookup m = none ∧ t ρ C1 fun xs C2 => tk ρ C2 fun zs C3 => sp (d :: xs) zs C3 Qd noX) I
    ⟨ρ, C, F, _, R, h, fun v d C1 H1 F1 s1 R1 r1 q1 => ⟨d, C1, F1, s1, R1, r1, q1⟩⟩) fun u s1 ⟨v, H1, I1, rv, d, C1, F1, s1', R1, r1, fs, hi, hl, q1⟩ => ?_) ht
  obtain ⟨a, dx, vs, rfl, ha1, rf⟩ := ins_ok R1 r1 hi
  obtain rfl : u = Value.ref a := rv
  refine getmeth_ok I1 ha1 hcl hm (rf.none_of hl) ?_
  refine cal_args (first := [.ref a]) hm.kp I1 ha hkw (R.next s1' R1) q1 (fun us ws vs zs s2 H2 F2 C2 ds es I2 s2' R2 r rz rl r2 q2 => ?_) hall hks he hpl
  exact fc.go (us := .ref a :: us) (vs := .ref a :: vs) hr rfl hx I2 (.cons rfl r) rz ⟨d :: ds, es, C2, F2, Qd, noX, R2, .cons (r1.mono s2') rl, r2, q2, kq.at (s1'.trans s2'), fun _ _ _ _ _ _ _ _ _ _ z => z.elim⟩
/-- o.m(k = v, ..) -/
theorem de_meth0 {pl : Sem Bool} (fc : Cee X.prog X.w X.K cl X.mg X.base CX k g ks sp) (hr : Room k X.A) (hx : Passes CX X E0) (hcl : Cls X.K (cl c)) (hm : Meth X.K (cl c) m g) (ho : PEd X cl o to) (hkw : PKd X cl kws tk)
    (hall : (backToKw pos (keywordEach kws X.env)).all (·.1.isSome) = true := by rfl) (hks : (backToKw pos (keywordEach kws X.env)).filterMap (·.1) = ks := by rfl)
    (hpl : ((backTo pos (starEach [] X.env)).any (·.1) || (backToKw pos (keywordEach kws X.env)).any (·.1.isNone)) = false := by rfl)
    (ht : eval (.Call (.Attribute o m apos) [] kws pos) X.env = (do
      let ov ← eval o X.env
      standAt apos.atName
      let (f, first) ← holding [ov] (getMethod ov m pl)
      callWith pos f first (backTo pos (starEach [] X.env)) (backToKw pos (keywordEach kws X.env))) := by rfl) :
    PEd X cl (.Call (.Attribute o m apos) [] kws pos) (dMeth c m sp to dNil tk) := by
  refine ⟨fun pins s σ H Q I ⟨ρ, C, F, Qd, R, h, kq⟩ => ?_⟩
  refine PySem.W.methodCall_KW (pl := pl) (thn (ho.run pins s σ H (fun v H1 => ∃ d C1 F1, Same F F1 ∧ RC X.K cl C1 F1 H1 ∧ Rep X.K cl F1 v d ∧ ∃ fs, insOf C1 d = some (c, fs) ∧ fs.lookup m = none ∧ tk ρ C1 fun zs C3 => sp [d] zs C3 Qd noX) I
    ⟨ρ, C, F, _, R, h, fun v d C1 H1 F1 s1 R1 r1 q1 => ⟨d, C1, F1, s1, R1, r1, q1⟩⟩) fun u s1 ⟨v, H1, I1, rv, d, C1, F1, s1', R1, r1, fs, hi, hl, q1⟩ => ?_) ht
  obtain ⟨a, dx, vs, rfl, ha1, rf⟩ := ins_ok R1 r1 hi
  obtain rfl : u = Value.ref a := rv
  refine getmeth_ok I1 ha1 hcl hm (rf.none_of hl) ?_
  refine cal_args0 (first := [.ref a]) hm.kp I1 hkw (R.next s1' R1) (Qd := fun xs zs C3 => sp (d :: xs) zs C3 Qd noX) q1 (fun us ws vs zs s2 H2 F2 C2 ds es I2 s2' R2 r rz rl r2 q2 => ?_) hall hks hpl
  exact fc.go (us := .ref a :: us) (vs := .ref a :: vs) hr rfl hx I2 (.cons rfl r) rz ⟨d :: ds, es, C2, F2, Qd, noX, R2, .cons (r1.mono s2') rl, r2, q2, kq.at (s1'.trans s2'), fun _ _ _ _ _ _ _ _ _ _ z => z.elim⟩
/-- C.m(e, .., k = v, ..), m a static method -/
theorem de_smeth {pl : Sem Bool} {Ca q : Addr} {mc : Value} (fc : Cee X.prog X.w X.K cl X.mg X.base CX k g ks sp) (hr : Room k X.A) (hx : Passes CX X E0) (hmg : X.mg x = some (.ref Ca)) (r : ClX.CRead X.K Ca mc) (hm : SMet X.K Ca mc m q g) (ha : PAd X cl (e :: es) t) (hkw : PKd X cl kws tk)
    (hg : Gl X x := by rfl) (hall : (backToKw pos (keywordEach kws X.env)).all (·.1.isSome) = true := by rfl) (hks : (backToKw pos (keywordEach kws X.env)).filterMap (·.1) = ks := by rfl) (hdb : (x == ("__debug__" : Str)) = false := by decide)
    (he : starEach (e :: es) X.env = (false, eval e X.env) :: starEach es X.env := by rfl) (hpl : ((backTo pos (starEach (e :: es) X.env)).any (·.1) || (backToKw pos (keywordEach kws X.env)).any (·.1.isNone)) = false := by rfl)
    (ht : eval (.Call (.Attribute (.Name x p) m apos) (e :: es) kws pos) X.env = (do
      let ov ← eval (.Name x p) X.env
      standAt apos.atName
      let (f, first) ← holding [ov] (getMethod ov m pl)
      callWith pos f first (backTo pos (starEach (e :: es) X.env)) (backToKw pos (keywordEach kws X.env))) := by rfl) :
    PEd X cl (.Call (.Attribute (.Name x p) m apos) (e :: es) kws pos) (dCal sp t tk) := by
  refine ⟨fun pins s σ H Q I ⟨ρ, C, F, Qd, R, h, kq⟩ => ?_⟩
  refine PySem.W.methodCall_KW (pl := pl) (ld_glob I hg hmg ?_ hdb) ht
  obtain ⟨rest, hp⟩ := hm.rc
  refine PySem.W.method_cls I.kIn r.ga (PySem.W.cls_bind I.kIn r.rd hm.at_ (wpAny_call (PySem.W.sm_get (s := { s with toks := s.toks + 1 }) I.kIn hp (PySem.W.handed_on rfl ?_))))
  refine cal_args (first := []) hm.kp (I.tok _) ha hkw R h (fun us ws vs zs s2 H2 F2 C2 ds es I2 s2' R2 r rz r1 r2 q2 => ?_) hall hks he hpl
  exact fc.go hr rfl hx I2 r rz ⟨ds, es, C2, F2, Qd, noX, R2, r1, r2, q2, kq.at s2', fun _ _ _ _ _ _ _ _ _ _ z => z.elim⟩
end
end G
namespace G
open PySem PySem.Spec PyProof.Rows L2
/-! ### a new instance; own special methods -/
section
variable {X : Cx} {cl : NmB} {CX : CXT} {k : Nat} {g : Addr} {ks : List Str} {sp : DSp2} {e o : Expr} {es : List Expr} {kws : List Keyword} {to : DE} {t tk : DA} {pos apos p : Pos} {x m : Str} {c : String} {te : DE}
theorem Cee.make {us ws : List Value} {vs zs : List V} {ds es : List D} {C : Cl} {F H : Hp} {pins : List (Addr × Obj)} {s : Shared} {σ : L2.St} {Qd : DQ} {Q : VK} (fc : Cee X.prog X.w X.K cl X.mg X.base CX k g ks sp) (M : Mk X.K (cl c) g) (hr : Room (k + 1) X.A) (hx : Passes CX X E0)
    (I : Inv X pins σ H s) (r : Vals vs us) (rz : Vals zs ws) (R : RC X.K cl C F H) (rl : RepL X.K cl F vs ds) (rs : RepL X.K cl F zs es)
    (h : ∀ x, C x = none → sp (.ref x :: ds) es (updC C x (.ins c [])) (fun v C4 => v = .non ∧ Qd (.ref x) C4) noX) (kq : Fin X.K cl F Qd Q) :
    wpAny (model X.prog X.w) X.A (call (.ref (cl c)) us (ks.zip ws)) (EP X pins σ Q) X.xe s := by
  have n1 : H (s.heap.objs.size + 1) = none := I.hok.fresh (Nat.le_succ _)
  have n2 : H s.heap.objs.size = none := I.hok.fresh (Nat.le_refl _)
  have ne : s.heap.objs.size ≠ s.heap.objs.size + 1 := Nat.ne_of_lt (Nat.lt_succ_self _)
  have I2 := Inv.made (C := cl c) I
  have R1 : RC X.K cl C F (upd H s.heap.objs.size (.own (s.heap.objs.size + 1))) := R.over (same_upd n2)
  have n3 : (upd H s.heap.objs.size (.own (s.heap.objs.size + 1))) (s.heap.objs.size + 1) = none := by rw [upd_ne (Ne.symm ne)]; exact n1
  have R2 : RC X.K cl (updC C (s.heap.objs.size + 1) (.ins c [])) F (upd (upd H s.heap.objs.size (.own (s.heap.objs.size + 1))) (s.heap.objs.size + 1) (.ins (cl c) s.heap.objs.size [])) := R1.cell n3 (.ins .nil)
  have hq := h (s.heap.objs.size + 1) (R.freeC n1)
  have low : lowC2 X.K cl sp (V.ref (s.heap.objs.size + 1) :: vs) zs (upd (upd H s.heap.objs.size (.own (s.heap.objs.size + 1))) (s.heap.objs.size + 1) (.ins (cl c) s.heap.objs.size [])) (fun v H3 => v = .non ∧ Q (.ref (s.heap.objs.size + 1)) H3) E0 :=
    ⟨.ref (s.heap.objs.size + 1) :: ds, es, _, F, _, noX, R2, .cons (.ref _) rl, rs, hq, fun v d C3 H3 F3 s3 R3 r3 ⟨e3, q3⟩ => by subst e3; cases r3; exact ⟨rfl, kq _ _ C3 H3 F3 s3 R3 (.ref _) q3⟩, fun _ _ _ _ _ _ _ _ _ _ z => z.elim⟩
  refine wpAny_call (make_map (f := g) I.kIn M.makes M.init (beq_iff_eq.mp M.fn) (codeAny_mono (fc _ X.stack _ _ (Value.ref (s.heap.objs.size + 1) :: us) ws (V.ref (s.heap.objs.size + 1) :: vs) zs _ _ (hr.make (cl c) us (ks.zip ws)) (I2.env0.make (cl c) us (ks.zip ws)) (.cons rfl r) rz low) fun rr s' hq' => ?_))
  cases rr with
  | error er => exact hx pins σ _ _ er s' I2 hq'
  | ok fl =>
    cases fl with
    | ret u =>
      obtain ⟨v, H', I3, rv, ev, q3⟩ := I2.after hq'
      subst ev
      exact ⟨rv, ⟨V.ref (s.heap.objs.size + 1), H', I3, rfl, q3⟩⟩
    | next => exact False.elim hq'
    | brk => exact False.elim hq'
    | cont => exact False.elim hq'
/-- C(e, .., k = v, ..) -/
theorem de_make (fc : Cee X.prog X.w X.K cl X.mg X.base CX k g ks sp) (M : Mk X.K (cl c) g) (hr : Room (k + 1) X.A) (hx : Passes CX X E0) (hm : X.mg x = some (.ref (cl c))) (ha : PAd X cl (e :: es) t) (hkw : PKd X cl kws tk)
    (hg : Gl X x := by rfl) (hall : (backToKw pos (keywordEach kws X.env)).all (·.1.isSome) = true := by rfl) (hks : (backToKw pos (keywordEach kws X.env)).filterMap (·.1) = ks := by rfl) (hdb : (x == ("__debug__" : Str)) = false := by decide)
    (he : starEach (e :: es) X.env = (false, eval e X.env) :: starEach es X.env := by rfl) (hpl : ((backTo pos (starEach (e :: es) X.env)).any (·.1) || (backToKw pos (keywordEach kws X.env)).any (·.1.isNone)) = false := by rfl) :
    PEd X cl (.Call (.Name x p) (e :: es) kws pos) (dMake c sp t tk) := by
  refine ⟨fun pins s σ H Q I ⟨ρ, C, F, Qd, R, h, kq⟩ => ?_⟩
  refine wpAny_Call_Name_kw (ld_glob I hg hm ?_ hdb)
  refine cal_args (first := []) M.kp I ha hkw R h (fun us ws vs zs s2 H2 F2 C2 ds es I2 s2' R2 r rz r1 r2 q2 => ?_) hall hks he hpl
  exact fc.make M hr hx I2 r rz R2 r1 r2 q2 (kq.at s2')
/-- the instance as the library sees it -/
theorem inst_at {pins : List (Addr × Obj)} {s : Shared} {σ : L2.St} {H : Hp} {a dx : Addr} {vs : List (Str × V)} (I : Inv X pins σ H s) (h : H a = some (.ins (cl c) dx vs)) : ∃ ox od, PySem.W.InstAt s.heap a ox (cl c) (some od) := by
  obtain ⟨mA, J, _⟩ := ins_get I.hok h
  obtain ⟨od, J, _⟩ := J.look
  exact ⟨_, _, J⟩
/-- an own special method m of the class c: its def at g -/
structure Spc (K : PySem.W.Frag) (cl : Nm) (c : String) (m : Str) (g : Addr) : Prop where
  at_ : PySem.W.findIn K (.ref (cl c)) m = some (some (.ref g))
  fn : PySem.W.isFn K (.ref g) = true
def rInO (c : String) (sp : DSp2) (neg : Bool) : RD2 := fun x y C Q => ∃ fs, insOf C y = some (c, fs) ∧ sp [y, x] [] C (fun d C1 => ∃ b, d = .bl b ∧ Q (.bl (neg.xor b)) C1) noX
theorem od_inO (fc : Cee X.prog X.w X.K cl X.mg X.base CX k g [] sp) (hr : Room k X.A) (hx : Passes CX X E0) (S : Spc X.K cl c "__contains__" g) : OpD X cl (compareOp .In) (rInO c sp false) := by
  intro pins s σ H x y v u Q I rx ry ⟨dx, dy, C, F, Qd, R, r1, r2, ⟨fs, hi, h⟩, kq⟩
  obtain ⟨a, ad, vs, rfl, ha, rf⟩ := ins_ok R r2 hi
  cases ry
  obtain ⟨ox, od, J⟩ := inst_at I ha
  obtain ⟨m, hF⟩ := I.fr
  refine PySem.W.in_K hF I.ok.mod.kin J S.at_ S.fn ?_
  refine thn (fc.goD (vs := [.ref a, x]) hr rfl hx I (.cons rfl (.cons rx .nil)) R (.cons r2 (.cons r1 .nil)) h (Q := fun v H1 => ∃ b, v = .bl b ∧ Q (.bl b) H1) fun w d C1 H1 F1 s1 R1 rd ⟨b, e, q⟩ => ?_) fun w s2 ⟨z, H2, I2, rz, b, ez, q⟩ => ?_
  · subst e; cases rd
    rw [Bool.false_xor] at q
    exact ⟨b, rfl, kq _ _ C1 H1 F1 s1 R1 (.bl b) q⟩
  · subst ez; cases rz
    exact wpAny_truthy_bool ⟨.bl b, H2, I2, rfl, q⟩
end
end G
namespace G
open PySem PySem.Spec PyProof.Rows L2
/-! ### how the values written stand to the parameters -/
def pos2 (sp : DSp) (dd : List D) : DSp2 := fun ds es C Q E => es = [] ∧ sp (ds ++ dd) C Q E
/-- the keyword-only parameters in their order: written ones (true, i), lacking ones (false, i) -/
def gOf {α : Type} (ps : List (Bool × Nat)) (us mv ws : List α) : List α := us ++ ps.flatMap fun p => ((if p.1 then ws else mv).drop p.2).take 1
def kw2 (n m : Nat) (sp : DSp) (ps : List (Bool × Nat)) (mv : List D) : DSp2 := fun ds es C Q E => ds.length = n ∧ es.length = m ∧ sp (gOf ps ds mv es) C Q E
theorem Vals.take1 : ∀ {xs : List V} {us : List Value}, Vals xs us → Vals (xs.take 1) (us.take 1)
  | _, _, .nil => .nil
  | _, _, .cons h _ => .cons h .nil
theorem gOf_vals {us ws mv : List Value} {vs zs mz : List V} (r : Vals vs us) (m : Vals mz mv) (z : Vals zs ws) : ∀ ps : List (Bool × Nat), Vals (gOf ps vs mz zs) (gOf ps us mv ws) := fun ps => by
  refine r.append ?_
  induction ps with
  | nil => exact .nil
  | cons p ps ih =>
    rw [List.flatMap_cons, List.flatMap_cons]
    refine Vals.append ?_ ih
    obtain ⟨b, i⟩ := p
    cases b
    · exact Vals.take1 (m.drop i)
    · exact Vals.take1 (z.drop i)
theorem gOf_rep {K : PySem.W.Frag} {cl : Nm} {F : Hp} {us ws mv : List D} {vs zs mz : List V} (r : RepL K cl F vs us) (m : RepL K cl F mz mv) (z : RepL K cl F zs ws) : ∀ ps : List (Bool × Nat), RepL K cl F (gOf ps vs mz zs) (gOf ps us mv ws) := fun ps => by
  refine r.append ?_
  induction ps with
  | nil => exact .nil
  | cons p ps ih =>
    rw [List.flatMap_cons, List.flatMap_cons]
    refine RepL.append ?_ ih
    obtain ⟨b, i⟩ := p
    cases b
    · exact (m.drop i).take 1
    · exact (z.drop i).take 1
section
variable {P : Program} {w : World} {K : PySem.W.Frag} {cl : Nm} {mg : Str → Option Value} {base : Heap} {CX : CXT} {k n : Nat} {f : Addr} {fd : FuncData} {ps ks : List Str} {sp : DSp}
theorem Cee.posD {dv : List Value} {dw : List V} {dd : List D} (FG : FnOk P w K mg base CX k f fd ps (lowSp K cl sp)) (hb : Binds K fd ps dv) (hd : Vals dw dv) (hv : ∀ F, RepL K cl F dw dd) : Cee P w K cl mg base CX k f [] (pos2 sp dd) := Cee.pos FG hb hd hv
theorem Cee.kwD {mv : List Value} {mz : List V} {md : List D} {qs : List (Bool × Nat)} (FG : FnOk P w K mg base CX k f fd ps (lowSp K cl sp)) (hb : KBn K fd ps n ks (fun us ws => gOf qs us mv ws) (fun vs zs => gOf qs vs mz zs)) (hv : ∀ F, RepL K cl F mz md) :
    Cee P w K cl mg base CX k f ks (kw2 n ks.length sp qs md) := Cee.kw (gD := fun ds es => gOf qs ds md es) FG hb fun F vs zs ds es r1 r2 _ _ => gOf_rep r1 (hv F) r2 qs
/-- a def with defaults -/
theorem fn_dD {x qual : Str} {params : Arguments} {body : List Stmt} {scope : Scope} {dvs : List V} {kws : List (Str × V)} {N : List Str} {td : DS} (Fu : FunD K x qual params body scope dvs kws f fd) (S : FnScope N ps scope) (len : ∀ ds C Q E, sp ds C Q E → ds.length = ps.length)
    (pure : ∀ ds C Q E, sp ds C Q E → td (endsD Q) (startD N ds) C)
    (bd : ∀ (cdv : Value) (A : Around) (outer : List Env) (s : Shared) (H : Hp) (E : XK), Room k (A.deeper (envOfC qual scope s.heap.objs.size f cdv)) → PSsd (cxOf CX0 P w K mg base N qual scope f cdv A outer s H E).nox (nb cl) body td) :
    FnD P w K cl mg base (k + 1) f fd ps sp := by
  refine Fu.ok S (fun vs H Q E ⟨ds, C, F, Qd, Ed, R, r, h, _, _⟩ => r.length.trans (len ds C Qd Ed h)) fun cdv A outer s H vs Q E hr ⟨ds, C, F, Qd, Ed, R, r, h, kq, kx⟩ => ?_
  refine ⟨_, (bd cdv A outer s H E hr).nox, startD N ds, C, F, _, RS.start N R r, pure ds C Qd Ed h, ?_⟩
  refine ⟨fun ρ C1 F1 σ H1 s1 R1 ⟨C2, sc, q⟩ => kq .non .non C2 H1 F1 s1 (R1.rc.drop sc) .non q, fun _ _ _ _ _ _ _ z => z.elim, fun _ _ _ _ _ _ _ z => z.elim, fun v d C1 F1 H1 s1 R1 r1 ⟨d', C2, g, q⟩ => ?_⟩
  obtain ⟨F2, s2, R2, r2⟩ := g.ok R1 r1
  exact kq v d' C2 H1 F2 (s1.trans s2) R2 r2 q
/-- def f(a, .., *v) -/
def star2 (n : Nat) (sp : DSp) : DSp2 := fun ds es C Q E => es = [] ∧ n ≤ ds.length ∧ ds.length ≤ sizeLine ∧ sp (ds.take n ++ [.tup (ds.drop n)]) C Q E
theorem Cee.starD {x qual : Str} {st : Stmt} {pv : Str} {N : List Str} {td : DS} (Fu : Fun K x qual st f fd) (S : FnScope N (ps ++ [pv]) (defScope st))
    (hb : ∀ (kV doc pm : Value) (an : Option Addr) (cdv ct : Value) (us rest : List Value), us.length = ps.length → bindArgs (PySem.W.fnOf x qual (defArgs st) (defBody st) (defScope st) .none kV doc pm an cdv ct) ⟨us ++ rest, []⟩ = (newTuple rest >>= fun t => pure (ps.zip us ++ [(pv, t)])))
    (len : ∀ ds C Q E, sp ds C Q E → ds.length = (ps ++ [pv]).length) (pure' : ∀ ds C Q E, sp ds C Q E → td (endsD Q) (startD N ds) C)
    (bd : ∀ (cdv : Value) (A : Around) (outer : List Env) (s : Shared) (H : Hp) (E : XK), Room k (A.deeper (envOfC qual (defScope st) s.heap.objs.size f cdv)) → PSsd (cxOf CX0 P w K mg base N qual (defScope st) f cdv A outer s H E).nox (nb cl) (defBody st) td) :
    Cee P w K cl mg base CX0 (k + 1) f [] (star2 ps.length sp) := by
  obtain ⟨oc, od, kV, doc, pm, an, cdv, ct, osl, rfl, lk, hcd⟩ := Fu.ex
  have R := StX.fn_star (CX := CX0) (P := P) (w := w) (mg := mg) (base := base) (k := k) (sp := fun vs H Q E => lowSp K cl sp vs H Q E) lk hcd S StX.cxUp_none (hb kV doc pm an cdv ct) fun A outer s H vs Q E hr ⟨ds, C, F, Qd, Ed, R, r, h, kq, kx⟩ => by
    refine ⟨_, (bd cdv A outer s H E hr).nox, startD N ds, C, F, _, RS.start N R r, pure' ds C Qd Ed h, ?_⟩
    refine ⟨fun ρ C1 F1 σ H1 s1 R1 ⟨C2, sc, q⟩ => kq .non .non C2 H1 F1 s1 (R1.rc.drop sc) .non q, fun _ _ _ _ _ _ _ z => z.elim, fun _ _ _ _ _ _ _ z => z.elim, fun v d C1 F1 H1 s1 R1 r1 ⟨d', C2, g, q⟩ => ?_⟩
    obtain ⟨F2, s2, R2, r2⟩ := g.ok R1 r1
    exact kq v d' C2 H1 F2 (s1.trans s2) R2 r2 q
  rintro A outer s H us ws vs zs Q E hr e0 r rz ⟨ds, es, C, F, Qd, Ed, RR, r1, r2, ⟨rfl, hn, hz, hq⟩, k1, k2⟩
  cases r2
  cases rz
  refine R A outer s H us vs Q E hr e0 r ⟨vs.take ps.length, vs.drop ps.length, (List.take_append_drop _ _).symm, ?_, ?_, fun p hp => ?_⟩
  · rw [List.length_take, r1.length]; omega
  · rw [List.length_drop, r1.length]; omega
  · have s1 := same_upd (o := .tup (vs.drop ps.length)) (RR.freeF hp)
    refine ⟨_, C, upd F p (.tup (vs.drop ps.length)), Qd, Ed, RR.new hp, ((r1.mono s1).take _).append (.cons (.tup (.of upd_same) ((r1.mono s1).drop _)) .nil), hq, k1.at s1, fun c fs cv d C1 H1 F1 s2 => k2 c fs cv d C1 H1 F1 (s1.trans s2)⟩
end

/-! ### three names at once -/
theorem boot_ord_ : bootBuiltins "ord" = some (.builtin "ord") := by decide +kernel
/-! ### names of classes, their constants -/
section
variable {X : Cx} {cl : NmB} {x f : Str} {c : String} {pos p : Pos}
/-! ### isinstance of own classes -/
/-- what isinstance wants of an own class whose instances are asked for -/
structure OwnTy (K : PySem.W.Frag) (cl : Nm) (c : String) : Prop where
  cls : Cls K (cl c)
  ha : PySem.W.findIn K (.ref (cl c)) "__class__" = some (some (.builtin "object.__class__"))
  hn : PySem.W.specialIn K (.builtin "object.__class__") "__get__" = some (some (.builtin "getset_descriptor.__get__"))
  tk : PySem.W.takesIn K (.builtin "object.__class__") = some true
  hm : PySem.W.mroIn K (cl c) (.type "object") = some true
/-- the built-in things are no instances of c; those of cs are told -/
structure IsiOwn (K : PySem.W.Frag) (cl : Nm) (c : String) (cs : List String) : Prop where
  blt : ∀ n ∈ (["NoneType", "bool", "int", "str", "list", "tuple", "dict"] : List String), PySem.W.kitOne K (.type n) (.ref (cl c)) = some false
  own : ∀ b ∈ cs, OwnTy K cl b ∧ PySem.W.kitOne K (.ref (cl b)) (.ref (cl c)) = some (b == c)
/-- ord of one sign -/
def rOrd : RDC := fun xs C Q => ∃ c : Nat, xs = [.str [c]] ∧ Q (.int c) C
theorem cd_ord : CallD X cl (.builtin "ord") rOrd := by
  intro pins s σ H xs us Q I r ⟨ds, C, F, Qd, R, rl, ⟨c, e, q⟩, k⟩
  subst e
  cases rl with
  | cons r1 rr =>
    cases rr; cases r1
    exact call_ord pins s σ H _ us Q I r ⟨_, rfl, rfl, k _ _ C H F (Same.refl F) R (.int _) q⟩
end

/-! ### f-strings -/
section
variable {X : Cx} {cl : NmB} {e : Expr} {te : DE} {pos : Pos} {K : PySem.W.Frag}
end
/-- a tuple of the written part -/
def KTup (K : PySem.W.Frag) (a : Addr) (vs : List V) : Prop := ∃ (o : Obj) (its : Array Value) (n : Nat), K.lookup a = some o ∧ o.cls = .type "tuple" ∧ o.data = .seq its n ∧ its.size ≤ sizeLine ∧ Vals vs its.toList
theorem KTup.rep {K : PySem.W.Frag} {cl : Nm} {F : Hp} {a : Addr} {vs : List V} {ds : List D} (h : KTup K a vs) (r : RepL K cl F vs ds) : Rep K cl F (.ref a) (.tup ds) := .tup (.inr h) r
end G
namespace G
open PySem PySem.Spec PyProof.Rows L2
/-! ### new lists that are to change -/
/-- a list that stands, or that changes -/
def lstC (C : Cl) : D → Option (List D)
  | .lst ds => some ds
  | .ref a => cellL C a
  | _ => none
theorem lstC_ok {K : PySem.W.Frag} {cl : Nm} {C : Cl} {F H : Hp} {v : V} {d : D} {ds : List D} (R : RC K cl C F H) (r : Rep K cl F v d) (h : lstC C d = some ds) : ∃ a xs, v = .ref a ∧ H a = some (.lst xs) ∧ RepL K cl F xs ds := by
  cases r with
  | lst h1 h2 => cases h; exact ⟨_, _, rfl, R.sub _ _ h1, h2⟩
  | ref a =>
    have hc := cellL_eq (show cellL C a = some ds from h)
    obtain ⟨_, o, ho, cr⟩ := R.cel _ _ hc
    cases cr with
    | lst rl => exact ⟨_, _, rfl, ho, rl⟩
  | _ => cases h
def rAddC : RD2 := fun x y C Q => ∃ xs ys, lstC C x = some xs ∧ lstC C y = some ys ∧ xs.length + ys.length ≤ sizeLine ∧ ∀ p, C p = none → Q (.ref p) (updC C p (.lst (xs ++ ys)))
section
variable {X : Cx} {cl : NmB}
theorem od_addC : OpD X cl (binaryOp .Add) rAddC := by
  intro pins s σ H x y v u Q I rx ry ⟨dx, dy, C, F, Qd, R, r1, r2, ⟨ds, es, h1, h2, sz, q⟩, k⟩
  obtain ⟨a, xs, rfl, ha, l1⟩ := lstC_ok R r1 h1
  obtain ⟨b, ys, rfl, hb, l2⟩ := lstC_ok R r2 h2
  refine op_cat pins s σ H _ _ v u Q I rx ry ⟨_, _, xs, ys, rfl, rfl, ha, hb, ?_, fun p np => ?_⟩
  · rw [l1.length, l2.length]; exact sz
  · exact k _ _ _ _ F (Same.refl F) (R.cell np (.lst (l1.append l2))) (.ref p) (q p (R.freeC np))
end
end G
namespace G
open PySem PySem.Spec PyProof.Rows L2
/-! ### things that can be compared whole -/
def Sh (n : Nat) (d : D) : Prop := plain d = true ∧ (toPy d).canLay0 = true ∧ (toPy d).depth ≤ n
def ShL (n : Nat) (ds : List D) : Prop := plainL ds = true ∧ PyData.canLayAll0 (toPyL ds) = true ∧ PyData.depthAll (toPyL ds) ≤ n
theorem sh_nil {n : Nat} : ShL n [] := by
  refine ⟨by unfold plainL; rfl, by unfold toPyL PyData.canLayAll0; rfl, ?_⟩
  unfold toPyL PyData.depthAll
  exact Nat.zero_le _
theorem sh_cons {n : Nat} {d : D} {ds : List D} (h : Sh n d) (r : ShL n ds) : ShL n (d :: ds) := by
  obtain ⟨a1, a2, a3⟩ := h
  obtain ⟨b1, b2, b3⟩ := r
  refine ⟨by unfold plainL; rw [a1, b1]; rfl, by unfold toPyL PyData.canLayAll0; rw [a2, b2]; rfl, ?_⟩
  unfold toPyL PyData.depthAll
  exact Nat.max_le.mpr ⟨a3, b3⟩
theorem sh_tup {n : Nat} {ds : List D} (h : ShL n ds) : Sh (n + 1) (.tup ds) := by
  obtain ⟨a1, a2, a3⟩ := h
  refine ⟨by unfold plain; exact a1, by unfold toPy PyData.canLay0; exact a2, ?_⟩
  unfold toPy PyData.depth
  omega
theorem sh_non {n : Nat} : Sh n .non := ⟨by unfold plain; rfl, by unfold toPy PyData.canLay0; rfl, by unfold toPy PyData.depth; omega⟩
theorem sh_bl {n : Nat} {b : Bool} : Sh n (.bl b) := ⟨by unfold plain; rfl, by unfold toPy PyData.canLay0; rfl, by unfold toPy PyData.depth; omega⟩
theorem sh_int {n : Nat} {i : Int} : Sh n (.int i) := ⟨by unfold plain; rfl, by unfold toPy PyData.canLay0; rfl, by unfold toPy PyData.depth; omega⟩
def small (l : List Nat) : Bool := l.all fun c => decide (c < 1114112)
theorem sh_str {n : Nat} {l : List Nat} (h : small l = true) : Sh n (.str l) := by
  refine ⟨by unfold plain; rfl, ?_, by unfold toPy PyData.depth; omega⟩
  unfold toPy PyData.canLay0 PyData.strOk
  rw [List.all_toArray]
  exact h
theorem Sh.mono {n m : Nat} {d : D} (h : Sh n d) (e : n ≤ m) : Sh m d := ⟨h.1, h.2.1, Nat.le_trans h.2.2 e⟩
theorem Sh.shp {n : Nat} {d : D} (h : Sh n d) (e : n ≤ 64 := by decide) : shp d = true := by
  unfold G.shp SeqAt.shaped
  rw [h.1, h.2.1, decide_eq_true (Nat.le_trans h.2.2 e)]
  rfl
theorem sh_txts {n : Nat} : ∀ {ls : List (List Nat)}, (∀ l ∈ ls, small l = true) → ShL n (txts ls)
  | [], _ => sh_nil
  | l :: ls, h => sh_cons (sh_str (h l (by simp))) (sh_txts fun z hz => h z (by simp [hz]))
end G
namespace PySem.W
open Lean Elab Tactic Meta PySem PySem.Spec PySem.Calls PyProof.Rows
section
variable {prog : Program} {w : World} {M : Model} {A : Around} {E : Value → Shared → Prop} {s : Shared} {K : Frag} {x C f L : Addr} {h₀ : Heap} {m : Str → Option Value} {ox : Obj} {od : Option Obj} {b tb : Value}
end
end PySem.W
namespace G
open PySem PySem.Spec PyProof.Rows L2
/-! ### own == and != -/
/-- what != wants of a class with its own ==: object's != , == at g -/
structure NeO (K : PySem.W.Frag) (cl : Nm) (c : String) : Prop where
  ne : PySem.W.findIn K (.ref (cl c)) "__ne__" = some (some (.builtin "object.__ne__"))
  hm : PySem.W.mroIn K (cl c) (.type "object") = some true
section
variable {X : Cx} {cl : NmB} {CX : CXT} {k : Nat} {g : Addr} {sp : DSp2} {c : String}
end
end G
namespace G
open PySem PySem.Spec PyProof.Rows L2
/-! ### dicts -/
/-- a key -/
def keyD : D → Option Key
  | .int i => some (.inl i)
  | .str l => some (.inr ⟨l.toArray⟩)
  | _ => none
def keysD : List D → Option (List Key)
  | [] => some []
  | d :: ds => match keyD d, keysD ds with
    | some k, some ks => some (k :: ks)
    | _, _ => none
section
variable {κ : Type} [DecidableEq κ]
def valD (kvs : List (κ × D)) (k : κ) : Option D := (kvs.find? fun kv => decide (kv.1 = k)).map (·.2)
def putKD (kvs : List (κ × D)) (k : κ) (v : D) : List (κ × D) :=
  if (kvs.any fun kv => decide (kv.1 = k)) = true then kvs.map (fun kv => if kv.1 = k then (kv.1, v) else kv) else kvs ++ [(k, v)]
theorem valD_pos {p : κ × D} {r : List (κ × D)} {k : κ} (e : p.1 = k) : valD (p :: r) k = some p.2 := by
  unfold valD; rw [List.find?_cons_of_pos (by simpa using e)]; rfl
theorem valD_neg {p : κ × D} {r : List (κ × D)} {k : κ} (e : ¬ p.1 = k) : valD (p :: r) k = valD r k := by
  unfold valD; rw [List.find?_cons_of_neg (by simpa using e)]
theorem valD_cons {p : κ × D} {r : List (κ × D)} {k : κ} : valD (p :: r) k = if p.1 = k then some p.2 else valD r k := by
  split
  · rename_i e; exact valD_pos e
  · rename_i e; exact valD_neg e
theorem valD_any (k : κ) : ∀ kvs : List (κ × D), (kvs.any fun kv => decide (kv.1 = k)) = (valD kvs k).isSome
  | [] => rfl
  | p :: r => by
    rw [List.any_cons, valD_cons, valD_any k r]
    by_cases e : p.1 = k
    · simp [e]
    · simp [e]
theorem valD_mem {kvs : List (κ × D)} {k : κ} {v : D} (h : valD kvs k = some v) : (k, v) ∈ kvs := by
  induction kvs with
  | nil => cases h
  | cons p r ih =>
    rw [valD_cons] at h
    by_cases e : p.1 = k
    · rw [if_pos e] at h
      have e2 : p.2 = v := Option.some.inj h
      subst e; subst e2
      exact .head _
    · rw [if_neg e] at h; exact .tail _ (ih h)
end
section
variable {K : PySem.W.Frag} {cl : Nm} {F : Hp}
theorem repT_val (k : List Key) : ∀ {vs : List (List Key × V)} {ds : List (List Key × D)}, RepT K cl F vs ds → (valD ds k = none → valV vs k = none) ∧ ∀ d, valD ds k = some d → ∃ v, valV vs k = some v ∧ Rep K cl F v d
  | _, _, .nil => ⟨fun _ => rfl, nofun⟩
  | _, _, .cons (k := j) (v := v) (d := d) (vs := vs) (ds := ds) r t => by
    obtain ⟨i1, i2⟩ := repT_val k t
    by_cases e : j = k
    · rw [valD_pos (p := (j, d)) e, valV_pos (p := (j, v)) e]
      exact ⟨nofun, fun d' h => by cases h; exact ⟨_, rfl, r⟩⟩
    · rw [valD_neg (p := (j, d)) e, valV_neg (p := (j, v)) e]
      exact ⟨i1, i2⟩
theorem repT_some (k : List Key) {vs : List (List Key × V)} {ds : List (List Key × D)} (r : RepT K cl F vs ds) : (valV vs k).isSome = (valD ds k).isSome := by
  rw [← valV_any, ← valD_any]
  induction ds generalizing vs with
  | nil => cases r; rfl
  | cons p ds ih => cases r with | cons _ t => rw [List.any_cons, List.any_cons, ih t]
theorem RepK.length : ∀ {vs : List (Key × V)} {ds : List (Key × D)}, RepK K cl F vs ds → vs.length = ds.length
  | _, _, .nil => rfl
  | _, _, .cons _ t => congrArg (· + 1) (RepK.length t)
theorem RepT.length : ∀ {vs : List (List Key × V)} {ds : List (List Key × D)}, RepT K cl F vs ds → vs.length = ds.length
  | _, _, .nil => rfl
  | _, _, .cons _ t => congrArg (· + 1) (RepT.length t)
theorem repT_map {k : List Key} {y : V} {x : D} (r : Rep K cl F y x) : ∀ {vs : List (List Key × V)} {ds : List (List Key × D)}, RepT K cl F vs ds → RepT K cl F (vs.map fun kv => if kv.1 = k then (kv.1, y) else kv) (ds.map fun kv => if kv.1 = k then (kv.1, x) else kv)
  | _, _, .nil => .nil
  | _, _, .cons (k := j) h t => by
    rw [List.map_cons, List.map_cons]
    by_cases e : j = k
    · simp only [e, if_true]; exact .cons r (repT_map r t)
    · simp only [e, if_false]; exact .cons h (repT_map r t)
theorem repT_app : ∀ {vs ws : List (List Key × V)} {ds es : List (List Key × D)}, RepT K cl F vs ds → RepT K cl F ws es → RepT K cl F (vs ++ ws) (ds ++ es)
  | _, _, _, _, .nil, s => s
  | _, _, _, _, .cons h t, s => .cons h (repT_app t s)
theorem repT_any (k : List Key) : ∀ {vs : List (List Key × V)} {ds : List (List Key × D)}, RepT K cl F vs ds → (vs.any fun kv => decide (kv.1 = k)) = ds.any fun kv => decide (kv.1 = k)
  | _, _, .nil => rfl
  | _, _, .cons _ t => by rw [List.any_cons, List.any_cons, repT_any k t]
theorem repT_put {k : List Key} {y : V} {x : D} (r : Rep K cl F y x) {vs : List (List Key × V)} {ds : List (List Key × D)} (h : RepT K cl F vs ds) : RepT K cl F (putK vs k y) (putKD ds k x) := by
  unfold putK putKD
  rw [repT_any k h]
  split
  · exact repT_map r h
  · exact repT_app h (.cons r .nil)
theorem key_rep {v : V} {d : D} {k : Key} (r : Rep K cl F v d) (h : keyD d = some k) : v = kV k := by
  cases r with
  | int i => cases h; rfl
  | str l => cases h; rfl
  | _ => cases h
theorem keys_rep : ∀ {vs : List V} {ds : List D} {ks : List Key}, RepL K cl F vs ds → keysD ds = some ks → vs = ks.map kV
  | _, _, _, .nil, h => by cases h; rfl
  | _, _, _, .cons (d := d) (ds := ds) r t, h => by
    unfold keysD at h
    cases h1 : keyD d with
    | none => rw [h1] at h; cases h
    | some k =>
      cases h2 : keysD ds with
      | none => rw [h1, h2] at h; cases h
      | some ks =>
        rw [h1, h2] at h; cases h
        rw [key_rep r h1, keys_rep t h2]; rfl
end
def dctOf (C : Cl) : D → Option (List (List Key × D))
  | .dct kvs => some kvs
  | .ref a => match C a with
    | some (.dct kvs) => some kvs
    | _ => none
  | _ => none
section
variable {K : PySem.W.Frag} {cl : Nm} {C : Cl} {F H : Hp} {v : V} {d : D}
theorem dct_ok {kvs : List (List Key × D)} (R : RC K cl C F H) (r : Rep K cl F v d) (h : dctOf C d = some kvs) : ∃ a vs, v = .ref a ∧ H a = some (.dT vs) ∧ RepT K cl F vs kvs := by
  cases r with
  | dct h1 h2 => cases h; exact ⟨_, _, rfl, R.sub _ _ h1, h2⟩
  | ref a =>
    change (match C a with | some (.dct kvs) => some kvs | _ => none) = some kvs at h
    split at h
    · rename_i kvs' hc
      cases h
      obtain ⟨_, o, ho, c⟩ := R.cel _ _ hc
      cases c with
      | dct rl => exact ⟨_, _, rfl, ho, rl⟩
    · cases h
  | _ => cases h
end
/-! readings -/
/-- d[e, ..] -/
def dGetT (to : DE) (t : DA) : DE := fun ρ C Q => to ρ C fun x C1 => t ρ C1 fun ys C2 => ys.length ≤ sizeLine ∧ ∃ kvs ks v, dctOf C2 x = some kvs ∧ keysD ys = some ks ∧ valD kvs ks = some v ∧ Q v C2
def dInT (t : DA) (to : DE) : DE := fun ρ C Q => t ρ C fun ys C1 => ys.length ≤ sizeLine ∧ to ρ C1 fun x C2 => ∃ kvs ks, dctOf C2 x = some kvs ∧ keysD ys = some ks ∧ Q (.bl (valD kvs ks).isSome) C2
def dPutT (to : DE) (t : DA) (tv : DE) : DS := fun D ρ C => tv ρ C fun v C1 => to ρ C1 fun x C2 => t ρ C2 fun ys C3 => ys.length ≤ sizeLine ∧ ∃ a kvs ks, x = .ref a ∧ C3 a = some (.dct kvs) ∧ keysD ys = some ks ∧ kvs.length < sizeLine ∧ D.nx ρ (updC C3 a (.dct (putKD kvs ks v)))
def dNewT : DE := fun _ C Q => ∀ p, C p = none → Q (.ref p) (updC C p (.dct []))
def dGet2T (to : DE) (t : DA) (tx : DE) : DE := fun ρ C Q => to ρ C fun x C1 => (∃ kvs, dctOf C1 x = some kvs) ∧ t ρ C1 fun ys C2 => ys.length ≤ sizeLine ∧ tx ρ C2 fun z C3 => ∃ kvs ks, dctOf C3 x = some kvs ∧ keysD ys = some ks ∧ Q ((valD kvs ks).getD z) C3
section
variable {X : Cx} {cl : NmB} {o i e f : Expr} {es : List Expr} {to tk tv tx : DE} {t : DA} {pos pos' kpos apos cpos : Pos} {kk : Nat} {n : Nat}
theorem de_getT (hr : Room n X.A) (ho : PEd X cl o to) (ha : PAd X cl es t) (hs : NoSl (.Tuple es kk kpos) := by intro _ _; rfl) : PEd X cl (.Subscript o (.Tuple es kk kpos) pos) (dGetT to t) := by
  refine weakE (pe_dget (hu_of hr) ho (pe_tup ha) hs) fun σ H Q ⟨ρ, C, F, Qd, R, h, k⟩ => ?_
  refine ⟨ρ, C, F, _, R, h, fun x dx C1 H1 F1 s1 R1 r1 q1 => ?_⟩
  refine ⟨ρ, C1, F1, _, R.next s1 R1, q1, fun ys dys C2 H2 F2 s2 R2 r2 ⟨hz, kvs, ks, v, e1, e2, e3, q⟩ => ⟨by rw [r2.length]; exact hz, fun p np => ?_⟩⟩
  obtain ⟨a, vs, rfl, hd, rk⟩ := dct_ok R2 (r1.mono s2) e1
  obtain ⟨u, hu, ru⟩ := (repT_val ks rk).2 v e3
  have ek := keys_rep r2 e2
  subst ek
  have s3 := same_upd (o := .tup (ks.map kV)) (R2.freeF np)
  refine ⟨a, u, rfl, .inr ⟨vs, ks, p, .inl ?_, rfl, upd_same, hu.symm⟩, k u v C2 _ _ (s1.trans (s2.trans s3)) (R2.new np) (ru.mono s3) q⟩
  rw [upd_ne (ne_of_none hd np)]; exact hd
theorem de_newT : PEd X cl (.Dict [] [] pos) dNewT := by
  refine weakE pe_dnewT fun σ H Q ⟨ρ, C, F, Qd, R, h, k⟩ p np => ?_
  exact k _ _ _ _ _ (Same.refl F) (R.rc.cell np (.dct .nil)) (.ref p) (h p (R.rc.freeC np))
theorem cell_dct {K : PySem.W.Frag} {C : Cl} {F H : Hp} {a : Addr} {kvs : List (List Key × D)} (R : RC K cl C F H) (h : C a = some (.dct kvs)) : ∃ vs, H a = some (.dT vs) ∧ RepT K cl F vs kvs := by
  obtain ⟨_, o, ho, c⟩ := R.cel _ _ h
  cases c with
  | dct rl => exact ⟨_, ho, rl⟩
theorem ds_putT {value : Expr} (hr : Room n X.A) (ho : PEd X cl o to) (ha : PAd X cl es t) (hv : PEd X cl value tv) (hs : swapsWith value (some (.Subscript o (.Tuple es kk kpos) pos')) pos.line X.env = pure false := by rfl) : PSd X cl (.Assign [.Subscript o (.Tuple es kk kpos) pos'] value pos) (dPutT to t tv) := by
  refine weakS (ps_dput (hu_of hr) ho (pe_tup ha) hv hs) fun De σ H ⟨ρ, C, F, Dd, R, h, k⟩ => ?_
  refine ⟨ρ, C, F, _, R, h, fun v dv C1 H1 F1 s1 R1 r1 q1 => ?_⟩
  refine ⟨ρ, C1, F1, _, R.next s1 R1, q1, fun x dx C2 H2 F2 s2 R2 r2 q2 => ?_⟩
  refine ⟨ρ, C2, F2, _, R.next (s1.trans s2) R2, q2, fun ys dys C3 H3 F3 s3 R3 r3 ⟨hz, a, kvs, ks, e1, e2, e3, hl, q⟩ => ⟨by rw [r3.length]; exact hz, fun p np => ?_⟩⟩
  subst e1
  cases r2
  have s4 := same_upd (o := .tup ys) (R3.freeF np)
  have R4 := R3.new (o := .tup ys) np
  obtain ⟨vs, hd, rk⟩ := cell_dct R4 e2
  have ek := keys_rep r3 e3
  subst ek
  refine ⟨a, _, rfl, DPut.t hd upd_same (by rw [rk.length]; exact hl), ?_⟩
  have R5 := R4.put e2 (o := .dT (putK vs ks v)) (.dct (repT_put (r1.mono (s2.trans (s3.trans s4))) rk))
  have sa := s1.trans (s2.trans (s3.trans s4))
  exact k.nx ρ _ _ σ _ sa (R.next sa R5) q
theorem rep_opt {K : PySem.W.Frag} {F : Hp} {κ : Type} [DecidableEq κ] {vs : List (κ × V)} {ds : List (κ × D)} {k : κ} {z : V} {dz : D} (h : (valD ds k = none → valV vs k = none) ∧ ∀ d, valD ds k = some d → ∃ v, valV vs k = some v ∧ Rep K cl F v d) (r : Rep K cl F z dz) : Rep K cl F ((valV vs k).getD z) ((valD ds k).getD dz) := by
  cases e : valD ds k with
  | none => rw [h.1 e]; exact r
  | some d => obtain ⟨v, hv, rv⟩ := h.2 d e; rw [hv]; exact rv
theorem de_get2T (hr : Room n X.A) (ho : PEd X cl o to) (ha : PAd X cl es t) (hf : PEd X cl f tx) (m : M2 X o "get" apos (.Tuple es kk kpos) f cpos := by exact ⟨rfl, rfl, rfl, rfl⟩) : PEd X cl (.Call (.Attribute o "get" apos) [.Tuple es kk kpos, f] [] cpos) (dGet2T to t tx) := by
  refine weakE (pe_dget2 (hu_of hr) ho (pe_tup ha) hf m) fun σ H Q ⟨ρ, C, F, Qd, R, h, k⟩ => ?_
  refine ⟨ρ, C, F, _, R, h, fun x dx C1 H1 F1 s1 R1 r1 ⟨⟨kvs0, e0⟩, q1⟩ => ?_⟩
  obtain ⟨a, vs0, rfl, hd0, _⟩ := dct_ok R1 r1 e0
  refine ⟨a, rfl, .inr ⟨_, .inl hd0⟩, ρ, C1, F1, _, R.next s1 R1, q1, fun ys dys C2 H2 F2 s2 R2 r2 ⟨hz, q2⟩ => ⟨by rw [r2.length]; exact hz, fun p np => ?_⟩⟩
  have s3 := same_upd (o := .tup ys) (R2.freeF np)
  refine ⟨ρ, C2, _, _, R.next (s1.trans (s2.trans s3)) (R2.new np), q2, fun z dz C4 H4 F4 s4 R4 r4 ⟨kvs, ks, e1, e2, q⟩ => ?_⟩
  obtain ⟨a', vs, ea, hd, rk⟩ := dct_ok R4 (r1.mono (s2.trans (s3.trans s4))) e1
  cases ea
  have ek := keys_rep r2 e2
  subst ek
  exact ⟨valV vs ks, .inr ⟨vs, ks, p, .inl hd, rfl, R4.sub _ _ (s4 _ _ upd_same), rfl⟩, k _ _ C4 H4 F4 (s1.trans (s2.trans (s3.trans s4))) R4 (rep_opt (repT_val ks rk) r4) q⟩
end
end G
namespace PySem.W
open Lean Elab Tactic Meta PySem PySem.Calls PyProof.Rows PyProof.V PySem.Spec
section
variable {prog : Program} {w : World} {K : Type} [DecidableEq K] {knd : HeapKind prog w K} {A : Around} {E : Value → Shared → Prop} {s : Shared}
/-- the entries of one dict, looked up in another one -/
inductive GHits {K : Type} [DecidableEq K] (A : Around) (s : Shared) (kb : List (K × Addr × Value)) : List (K × Addr × Value) → Bool → Prop
  | nil : GHits A s kb [] true
  | miss {k : K} {p : Addr × Value} {r : List (K × Addr × Value)} : atKey kb k = none → GHits A s kb ((k, p) :: r) false
  | hit {k : K} {p q : Addr × Value} {r : List (K × Addr × Value)} {e b : Bool} : atKey kb k = some q → SeqAt.EqAt A s p.2 q.2 e → GHits A s kb r b → GHits A s kb ((k, p) :: r) (e && b)
end
end PySem.W
namespace G
open PySem PySem.Spec PyProof.Rows L2
/-! ### == of a tree and itself, whatever stands in it; == of dicts -/
section
variable {X : Cx} {cl : NmB} {CX : CXT} {k n : Nat} {g : Addr} {sp : DSp2} {c : String}
/-! dicts with keys of texts and texts as values -/
end
end G
namespace G
open PySem PySem.Spec PyProof.Rows L2
/-! ### reversed, [::-1] -/
section
variable {X : Cx} {cl : NmB} {tg e : Expr} {te : DE} {K : PySem.W.Frag} {pos : Pos}
end
/-! ### own operators -/
section
variable {X : Cx} {cl : NmB} {CX : CXT} {k : Nat} {g : Addr} {sp : DSp2} {c : String}
end
/-! ### properties, classmethods, a class in a local name -/
section
variable {X : Cx} {cl : NmB} {CX : CXT} {k : Nat} {g p : Addr} {fd : FuncData} {sp : DSp} {sp2 : DSp2} {c : String} {e o : Expr} {es : List Expr} {te to : DE} {t tk : DA} {pos apos : Pos} {f m : Str}
end
end G
namespace PySem
open Sem (wp)
open PyProof.Rows Builtin
theorem gen_meets_enumerate_newB {v : Value} {o : Obj} {H : Heap → Prop} (B : Begins v o H) :
    Meets (Builtin.«enumerate.__new__» ⟨[.type "enumerate", v], []⟩) (fun _ R s => H s.heap ∧
      R (.ok (.ret (.ref (s.heap.push o).objs.size))) { s with heap := (s.heap.push o).push { cls := .type "enumerate", data := .fields #[.none, .bool false, .ref s.heap.objs.size, rawInt 0, .none, .none] } }) :=
  .of_wp fun prog w A R s h => by
    obtain ⟨hp, g, d, tk, os⟩ := s; obtain ⟨h1, h⟩ := h
    have hsub := sub_enumerate
    have q1 : ∀ {A' : Around} {E : Value → Shared → Prop} {Q : Value → Shared → Prop}, Q (.ref hp.objs.size) ⟨hp.push o, g, d, tk, os⟩ → wpAny (model prog w) A' (pyIter v) Q E ⟨hp, g, d, tk, os⟩ :=
      fun q => B.iter prog w _ _ ⟨hp, g, d, tk, os⟩ _ h1 q
    wp_walk using q1
    refine wpAny_stack_any fun st => wpAny_pure ?_
    split
    · rename_i c _ _ _ _ _
      cases (c == Value.type "enumerate")
      · wp_walk using q1
        exact ⟨_, rfl, h⟩
      · wp_walk using q1
        exact ⟨_, rfl, h⟩
    · wp_walk using q1
      exact ⟨_, rfl, h⟩
section
variable {prog : Program} {w : World} {A : Around} {E : Value → Shared → Prop} {s : Shared}
theorem gen_enum_begins {v : Value} {o : Obj} {H : Heap → Prop} {Q : Value → Shared → Prop} (B : Begins v o H) (h1 : H s.heap)
    (h : ∀ h', IsEnum h' (s.heap.objs.size + 1) s.heap.objs.size 0 .none → h'.get? s.heap.objs.size = some o → h'.objs.size = s.heap.objs.size + 2 →
      (∀ b o, s.heap.get? b = some o → h'.get? b = some o) → Q (.ref (s.heap.objs.size + 1)) { s with heap := h' }) :
    wpAny (model prog w) A (call (.type "enumerate") [v]) Q E s := by
  refine callType_new F.called_enumerate (by decide) (F.typeCall_enumerate_1 _) (F.newCall_enumerate_1 _) (fun obj => F.args_object_init_2 obj _) F.entry_enumerate_new
    (gen_meets_enumerate_newB B) ⟨h1, ?_⟩
  have hz : (s.heap.push o).objs.size = s.heap.objs.size + 1 := Heap.size_push ..
  show _ ∧ _
  rw [hz]
  have he : IsEnum ((s.heap.push o).push { cls := .type "enumerate", data := .fields #[.none, .bool false, .ref s.heap.objs.size, rawInt 0, .none, .none] }) (s.heap.objs.size + 1) s.heap.objs.size 0 .none := by
    have := Heap.get?_push_size (s.heap.push o) (o := { cls := .type "enumerate", data := .fields #[.none, .bool false, .ref s.heap.objs.size, rawInt 0, .none, .none] }) rfl
    rw [hz] at this; exact this
  refine ⟨⟨_, he, rfl⟩, h _ he (Heap.get?_push_of_some _ (Heap.get?_push_size _ B.free)) (by rw [Heap.size_push, hz]) fun b o x => Heap.get?_push_of_some _ (Heap.get?_push_of_some _ x)⟩
end
end PySem
namespace G
open PySem PySem.Spec PyProof.Rows L2
/-! ### what an iterator walks: a list, a tuple, a text -/
inductive ItS where
  | lst (a : Addr)
  | tup (a : Addr)
  | txt (x : Str) (t : Tok)
def ItS.at (j : ItS) (h : Heap) (it : Addr) (i : Nat) : Prop := match j with
  | .lst a => h.IsListIter it a i
  | .tup a => h.IsTupleIter it a i
  | .txt x t => h.IsStrIter it (strIterType x) x t i
def ItS.src (K : PySem.W.Frag) (H : Hp) (j : ItS) (xs : List V) : Prop := match j with
  | .lst a => SqL K H a xs
  | .tup a => SqT K H a xs
  | .txt x _ => xs = x.cps.toList.map fun c => V.str ⟨#[c]⟩
def ItS.fp (j : ItS) (it : Addr) : List Addr := match j with
  | .lst a => [it, a]
  | .tup a => [it, a]
  | .txt _ _ => [it]
def ItS.val : ItS → Value
  | .lst a => .ref a
  | .tup a => .ref a
  | .txt x t => .str x t
/-- the cell of the thing walked is not that address -/
def ItS.off (j : ItS) (b : Addr) : Prop := match j with
  | .lst a => a ≠ b
  | .tup a => a ≠ b
  | .txt _ _ => True
theorem Vals.getV' : ∀ {xs : List V} {us : List Value} {i : Nat} {u : Value}, Vals xs us → us[i]? = some u → ∃ x, xs[i]? = some x ∧ RelV x u
  | _, _, _, _, .nil, e => by simp at e
  | _, _, 0, _, .cons r _, e => by simp at e; subst e; exact ⟨_, rfl, r⟩
  | _, _, i + 1, x, .cons _ t, e => by
    obtain ⟨u, h1, h2⟩ := Vals.getV' (i := i) (u := x) t (by simpa using e)
    exact ⟨u, by simpa using h1, h2⟩
section
variable {X : Cx} {pins : List (Addr × Obj)} {σ : L2.St} {H : Hp} {s : Shared}
theorem ItS.inj {j : ItS} (I : Inv X pins σ H s) {xs ys : List V} (h : j.src X.K H xs) (k : j.src X.K H ys) : xs = ys := by
  cases j with
  | lst a => exact I.list_inj h k
  | tup a => exact I.tuple_inj h k
  | txt x t => exact h.trans k.symm
theorem ItS.keep {j : ItS} {h h' : Heap} {it : Addr} {i : Nat} (st : j.at h it i) (k : ∀ o, h.get? it = some o → h'.get? it = some o) : j.at h' it i := by
  cases j with
  | lst a => exact Heap.IsListIter.at st k
  | tup a => exact Heap.IsTupleIter.at st k
  | txt x t => obtain ⟨o, e, c⟩ := st; exact ⟨o, k o e, c⟩
theorem ItS.obj {j : ItS} {h : Heap} {it : Addr} {i : Nat} (st : j.at h it i) : ∃ o, h.get? it = some o ∧ ∀ v, o.data ≠ .cell v := by
  cases j with
  | lst a => obtain ⟨o, e, _, d⟩ := st; exact ⟨o, e, fun v q => by rw [d] at q; cases q⟩
  | tup a => obtain ⟨o, e, _, d⟩ := st; exact ⟨o, e, fun v q => by rw [d] at q; cases q⟩
  | txt x t => obtain ⟨o, e, _, d⟩ := st; exact ⟨o, e, fun v q => by rw [d] at q; cases q⟩
theorem ItS.draw {j : ItS} {A : Around} {it : Addr} {i : Nat} {xs : List V} (I : Inv X pins σ H s) (hh : A.handled = none) (ne : j.off it) (h : j.src X.K H xs) (st : j.at s.heap it i) :
    ∃ n P St, Draws X.prog X.w A it (j.fp it) n P St ∧ n = xs.length ∧ St i s.heap ∧ (∀ x, P i x → ∃ v, xs[i]? = some v ∧ RelV v x) ∧ ∀ k h', St k h' → j.at h' it k := by
  cases j with
  | lst a =>
    obtain ⟨its, rv, p, hz⟩ := I.list h
    refine ⟨_, _, _, Draws.list hh it a ne its.toArray, ?_, ⟨st, p.isList⟩, fun x hx => ?_, fun k h' q => q.1⟩
    · simpa using rv.length.symm
    · exact Vals.getV' rv (by simpa using hx)
  | tup a =>
    obtain ⟨its, rv, p, hz⟩ := I.tuple h
    refine ⟨_, _, _, Draws.tuple hh it a ne its.toArray, ?_, ⟨st, show s.heap.IsTuple a its.toArray from p⟩, fun x hx => ?_, fun k h' q => q.1⟩
    · simpa using rv.length.symm
    · exact Vals.getV' rv (by simpa using hx)
  | txt x t =>
    refine ⟨_, _, _, Draws.text hh it x t, ?_, st, fun y ⟨c, u, hc, e⟩ => ?_, fun k h' q => q⟩
    · rw [show xs = _ from h]; simp
    · rw [show xs = _ from h]
      refine ⟨.str ⟨#[c]⟩, ?_, ⟨u, e⟩⟩
      rw [List.getElem?_map, Array.getElem?_toList, hc]; rfl
theorem ItS.lt {j : ItS} {xs : List V} (I : Inv X pins σ H s) (h : j.src X.K H xs) : ∀ b, s.heap.objs.size ≤ b → j.off b ∧ b ∉ (match j with | .lst a => [a] | .tup a => [a] | .txt _ _ => []) := by
  intro b hb
  cases j with
  | lst a =>
    obtain ⟨its, rv, p, hz⟩ := I.list h
    have : a < s.heap.objs.size := p.lt
    have ne : a ≠ b := Nat.ne_of_lt (Nat.lt_of_lt_of_le this hb)
    exact ⟨ne, fun m => ne (List.mem_singleton.mp m).symm⟩
  | tup a =>
    obtain ⟨its, rv, ⟨o, e, _⟩, hz⟩ := I.tuple h
    have : a < s.heap.objs.size := Heap.lt_size e
    have ne : a ≠ b := Nat.ne_of_lt (Nat.lt_of_lt_of_le this hb)
    exact ⟨ne, fun m => ne (List.mem_singleton.mp m).symm⟩
  | txt x t => exact ⟨trivial, by simp⟩
theorem ItS.mem_fp {j : ItS} {it b : Addr} (h : b ∈ j.fp it) : b = it ∨ b ∈ (match j with | .lst a => [a] | .tup a => [a] | .txt _ _ => ([] : List Addr)) := by
  cases j <;> simpa [ItS.fp] using h
end
def ItE (K : PySem.W.Frag) (j : ItS) : It :=
  ⟨fun i H => ∃ xs x, j.src K H xs ∧ xs[i]? = some x, fun i H v H' => ∃ T x, v = .ref T ∧ H T = none ∧ H' = upd H T (.tup [.int (i : Nat), x]) ∧ ∀ xs, j.src K H xs → xs[i]? = some x, fun i H => ∃ xs, j.src K H xs ∧ xs.length = i⟩
theorem turn_enumS {P : Program} {w : World} {K : PySem.W.Frag} {elts : List Expr} {kk : Nat} {tpos : Pos} (j : ItS) (e it : Addr) :
    Turn P w K (.Tuple elts kk tpos) (ItE K j) [e, it] e (fun i h => (∃ old, IsEnum h e it ((i : Nat) : Int) old) ∧ j.at h it i ∧ e ≠ it ∧ e ∉ j.fp it ∧ j.off it) where
  mem := by simp
  obj := fun i h st b hb => by
    obtain ⟨⟨old, he⟩, hit, _⟩ := st
    have e' : b = e ∨ b = it := by simpa using hb
    rcases e' with z | z
    · rw [z]; exact ⟨_, he, fun v q => nomatch q⟩
    · rw [z]; exact ItS.obj hit
  keep := fun i h h' st k => let ⟨⟨old, he⟩, hi, hne⟩ := st; ⟨⟨old, k e (by simp) _ he⟩, ItS.keep hi fun o q => k it (by simp) o q, hne⟩
  item := by
    intro X hP hw hK hc i pins s σ H E I hf st hg
    subst hP hw hK
    obtain ⟨⟨old, he⟩, hit, hne, hnf, hoff⟩ := st
    obtain ⟨xs, x, hq, hx⟩ := hg
    obtain ⟨n, P, St, D, hn, hst, hP, hback⟩ := ItS.draw (A := X.A.in1) I (show X.A.in1.handled = none from I.ok.hd hc) hoff hq hit
    have hel : e < s.heap.objs.size := Heap.lt_size he
    have hil : it < s.heap.objs.size := by obtain ⟨_, q, _⟩ := ItS.obj hit; exact Heap.lt_size q
    have hlt : i < n := by rw [hn]; exact (List.getElem?_eq_some_iff.mp hx).1
    refine wpAny_pyNext_enum_itemD D he hst hlt hne hnf fun u h' tk hPu ho hst' hT hsz hk => ?_
    obtain ⟨x', hx', ru⟩ := hP u hPu
    rw [hx] at hx'; cases hx'
    refine ⟨_, rfl, wpAny_letOwnedTupleGo_enum (s := { s with heap := h', toks := tk + 1 }) ho fun h'' he' sb => ?_⟩
    have hT2 : h''.get? s.heap.objs.size = some { cls := .type "tuple", data := .seq #[.int i tk, u] } := (sb.2 _ (Nat.ne_of_gt hel)).trans hT
    have new : ObjOk X.prog X.w (upd H s.heap.objs.size (.tup [.int (i : Nat), x])) h'' s.heap.objs.size (.tup [.int (i : Nat), x]) :=
      ⟨by show 2 ≤ sizeLine; decide, [.int i tk, u], .cons ⟨_, rfl⟩ (.cons ru .nil), ⟨_, hT2, rfl, _, rfl⟩⟩
    have I1 : Inv X pins σ (upd H s.heap.objs.size (.tup [.int (i : Nat), x])) { s with heap := h'', toks := tk + 1 } :=
      I.turnedNew (ch := [e, it]) (fun b ob hb q => (sb.2 b (fun z => hb (by simp [z]))).trans (hk b ob (fun z => hb (by simp [z])) (fun z => hb (by simp [z])) q)) hf (Nat.le_refl _) new
    refine ⟨.ref s.heap.objs.size, _, I1, rfl, ⟨_, x, rfl, I.hok.fresh (Nat.le_refl _), rfl, fun ys hy => by rw [ItS.inj I hy hq]; exact hx⟩, ⟨⟨u, ?_⟩, ItS.keep (hback _ _ hst') fun o q => (sb.2 it (Ne.symm hne)).trans q, hne, hnf, hoff⟩, fun b hb => ?_⟩
    · have e1 : ((i + 1 : Nat) : Int) = (i : Int) + 1 := by omega
      rw [e1]; exact he'
    · have hb' : b < s.heap.objs.size := by
        have e' : b = e ∨ b = it := by simpa using hb
        rcases e' with z | z
        · rw [z]; exact hel
        · rw [z]; exact hil
      rw [upd_ne (Nat.ne_of_lt hb')]
      exact (hf b hb).1
  done := by
    intro X hP hw hK hc i pins s σ H E I hf st hg
    subst hP hw hK
    obtain ⟨⟨old, he⟩, hit, hne, hnf, hoff⟩ := st
    obtain ⟨xs, hq, hx⟩ := hg
    obtain ⟨n, P, St, D, hn, hst, hP, hback⟩ := ItS.draw (A := X.A.in1) I (show X.A.in1.handled = none from I.ok.hd hc) hoff hq hit
    obtain ⟨f0, f1, f2, f3, f4, f5⟩ := hf it (by simp)
    rw [hn, hx] at D
    exact wpAny_pyNext_enum_endD D he hst fun h' eb => ⟨rfl, I.turned (t' := s.toks) (fun b o hb q => eb b o hb q) f0 f1 f3 f4 f5⟩
  self := fun A i s Q E st h => let ⟨⟨_, he⟩, _⟩ := st; wpAny_pyIter_enum he h
/-- a value that is walked, and what is wanted of the walk -/
def SrcR (K : PySem.W.Frag) (H : Hp) (v : V) (xs : List V) (R : ItS → Prop) : Prop := (∃ a, v = .ref a ∧ SqL K H a xs ∧ R (.lst a)) ∨ (∃ a, v = .ref a ∧ SqT K H a xs ∧ R (.tup a)) ∨ ∃ x : Str, v = .str x ∧ xs = (x.cps.toList.map fun c => V.str ⟨#[c]⟩) ∧ ∀ t, R (.txt x t)
theorem SrcR.it {X : Cx} {pins : List (Addr × Obj)} {σ : L2.St} {H : Hp} {s : Shared} {v : V} {u : Value} {xs : List V} {R : ItS → Prop} (I : Inv X pins σ H s) (h : SrcR X.K H v xs R) (r : RelV v u) :
    ∃ (j : ItS) (o : Obj) (Hd : Heap → Prop), u = j.val ∧ j.src X.K H xs ∧ Begins u o Hd ∧ Hd s.heap ∧ (∀ h it, h.get? it = some o → j.at h it 0) ∧ R j := by
  rcases h with ⟨a, rfl, h, q⟩ | ⟨a, rfl, h, q⟩ | ⟨x, rfl, rfl, q⟩
  · cases r
    obtain ⟨its, rv, p, hz⟩ := I.list h
    exact ⟨.lst a, _, _, rfl, h, begins_list a its.toArray, p.isList, fun h it e => ⟨_, e, rfl, rfl⟩, q⟩
  · cases r
    obtain ⟨its, rv, p, hz⟩ := I.tuple h
    exact ⟨.tup a, _, _, rfl, h, begins_tuple a its.toArray, show s.heap.IsTuple a its.toArray from p, fun h it e => ⟨_, e, rfl, rfl⟩, q⟩
  · obtain ⟨t, rfl⟩ := (show ∃ t, u = Value.str x t from r)
    exact ⟨.txt x t, _, _, rfl, rfl, begins_text x t, trivial, fun h it e => ⟨_, e, rfl, rfl⟩, q t⟩
def iEnumS (K : PySem.W.Frag) (ta : TA) : TI := fun σ H R => ta σ H fun vs H1 => ∃ v xs, vs = [v] ∧ SrcR K H1 v xs fun j => R (ItE K j) H1
theorem pi_enumS {X : Cx} {e : Expr} {ta : TA} {p pos tpos : Pos} {elts : List Expr} {kk : Nat} (hg : Gl X "enumerate") (hm : X.mg "enumerate" = none) (ha : PA X [e] ta) (hs : starEach [e] X.env = [(false, eval e X.env)] := by rfl) :
    PI X (.Tuple elts kk tpos) (.Call (.Name "enumerate" p) [e] [] pos) (iEnumS X.K ta) := by
  refine ⟨fun pins s σ H R I h => ?_⟩
  refine Call_ (ld_blt I hg hm boot_enumerate (PyProof.Rows.callWith_type1 (thn (ha.run pos pins s σ H _ I h) fun us s1 ⟨vs, H1, I1, r1, q1⟩ => ?_) hs rfl))
  obtain ⟨v, xs, ex, hq⟩ := q1
  subst ex
  cases r1 with
  | cons r rr =>
    rename_i u _
    cases rr
    obtain ⟨j, o, Hd, hu, hsrc, B, h1, hat, qq⟩ := hq.it I1 r
    have hoff := ItS.lt I1 hsrc
    refine gen_enum_begins B h1 fun h' he ho hsz hk => wpAny_pyIter_enum he ?_
    have I2 : Inv X pins σ H1 { s1 with heap := h' } := I1.kept (t' := s1.toks) hk
    refine ⟨s1.heap.objs.size + 1, [s1.heap.objs.size + 1, s1.heap.objs.size], _, _, H1, rfl, I2, turn_enumS j (s1.heap.objs.size + 1) s1.heap.objs.size, ⟨⟨.none, he⟩, hat _ _ ho, Nat.succ_ne_self _, fun z => ?_, (hoff _ (Nat.le_refl _)).1⟩, fun b hb => ?_, qq⟩
    · rcases ItS.mem_fp z with z | z
      · exact Nat.succ_ne_self _ z
      · exact (hoff _ (Nat.le_succ _)).2 z
    · have e' : b = s1.heap.objs.size + 1 ∨ b = s1.heap.objs.size := by simpa using hb
      have hle : s1.heap.objs.size ≤ b := by
        rcases e' with z | z
        · rw [z]; exact Nat.le_add_right _ _
        · rw [z]; exact Nat.le_refl _
      exact I1.fpOk hle (I1.hok.fresh hle)
/-! zip -/
/-! as trees -/
def srcOf : D → Option (List D)
  | .lst ds => some ds
  | .rol ds => some ds
  | .tup ds => some ds
  | .str l => some (signs l)
  | _ => none
section
variable {K : PySem.W.Frag} {cl : Nm} {F H : Hp} {v : V} {d : D} {ds : List D}
theorem rep_signs : ∀ l : List Nat, RepL K cl F (l.map fun c => V.str ⟨#[c]⟩) (signs l)
  | [] => .nil
  | c :: l => .cons (.str [c]) (rep_signs l)
theorem src_mono {j : ItS} {xs : List V} (s : Same F H) (h : j.src K F xs) : j.src K H xs := by
  cases j with
  | lst a => exact s.seq (show SqL K F a xs from h)
  | tup a => exact sqT_mono s (show SqT K F a xs from h)
  | txt x t => exact h
theorem src_ok (r : Rep K cl F v d) (h : srcOf d = some ds) : ∃ xs, RepL K cl F xs ds ∧ ∀ (H : Hp) (R : ItS → Prop), Same F H → (∀ j : ItS, j.src K F xs → R j) → SrcR K H v xs R := by
  cases r with
  | lst h1 h2 => cases h; exact ⟨_, h2, fun H R s k => .inl ⟨_, rfl, s.seq (.of h1), k (.lst _) (SqL.of h1)⟩⟩
  | rol h1 h2 => cases h; exact ⟨_, h2, fun H R s k => .inl ⟨_, rfl, s.seq h1, k (.lst _) h1⟩⟩
  | tup h1 h2 => cases h; exact ⟨_, h2, fun H R s k => .inr (.inl ⟨_, rfl, sqT_mono s h1, k (.tup _) h1⟩)⟩
  | str l => cases h; exact ⟨_, rep_signs l, fun H R s k => .inr (.inr ⟨_, rfl, rfl, fun t => k (.txt _ t) rfl⟩)⟩
  | _ => cases h
theorem walk_enumS {j : ItS} {xs : List V} (h : j.src K F xs) (r : RepL K cl F xs ds) : Walk K cl (ItE K j) (numbered 0 ds) F := by
  intro i C F1 H s R
  have h1 : j.src K H xs := src_mono (s.trans R.sub) h
  refine ⟨fun x hx => ?_, fun hi => ⟨xs, h1, by rw [r.length]; rw [numbered_length] at hi; exact hi⟩⟩
  obtain ⟨d, hd, rfl⟩ := numbered_get hx
  obtain ⟨v, hv, rv⟩ := r.get hd
  refine ⟨⟨xs, v, h1, hv⟩, fun v' H' ⟨T, x, e1, nT, e2, y⟩ => ?_⟩
  subst e1 e2
  have e2 := y xs h1
  rw [hv] at e2
  cases e2
  have s2 := same_upd (o := .tup [.int (i : Nat), v]) (R.freeF nT)
  refine ⟨_, s2, R.new nT, .tup (.of upd_same) ?_⟩
  rw [Nat.zero_add]
  exact .cons (.int _) (.cons ((rv.mono s).mono s2) .nil)
end
section
variable {X : Cx} {cl : NmB} {tg e e2 : Expr} {t : DA} {p pos tpos : Pos} {elts : List Expr} {kk : Nat}
/-- enumerate(x) of a list, a tuple, a text -/
def diEnumS (t : DA) : DI := fun ρ C R => t ρ C fun ds C1 => ∃ x xs, ds = [x] ∧ srcOf x = some xs ∧ R (numbered 0 xs) C1
theorem di_enumS (hm : X.mg "enumerate" = none) (ha : PAd X cl [e] t) (hg : Gl X "enumerate" := by rfl) (hs : starEach [e] X.env = [(false, eval e X.env)] := by rfl) :
    PId X cl (.Tuple elts kk tpos) (.Call (.Name "enumerate" p) [e] [] pos) (diEnumS t) := by
  refine weakI (pi_enumS hg hm ha hs) fun σ H R ⟨ρ, C, F, Rd, RR, h, k⟩ => ?_
  refine ⟨ρ, C, F, _, RR, h, fun vs ds C1 H1 F1 s1 R1 r1 ⟨x, xs, e1, e2, q1⟩ => ?_⟩
  subst e1
  cases r1 with
  | cons r rr =>
    cases rr
    obtain ⟨ys, rl, w⟩ := src_ok r e2
    exact ⟨_, ys, rfl, w H1 _ R1.sub fun j hj => k _ _ C1 H1 F1 s1 R1 (walk_enumS hj rl) q1⟩
end
end G
namespace G
open PySem PySem.Spec PyProof.Rows L2
/-! ### a comprehension over a list that is to change later -/
def dLcC (ti : DE) (g : DG) (tt : DT) (te : DE) (vs : List Nat) : DE := fun ρ C Q => ti ρ C fun x C1 => ∃ a ds, x = .ref a ∧ C1 a = some (.lst ds) ∧ ∀ p, C1 p = none → ∃ Pv : Nat → Cl → Prop, Pv 0 (updC C1 p (.lst [])) ∧ (∀ i C, Pv i C → C a = some (.lst ds)) ∧
  (∀ i x C, ds[i]? = some x → Pv i C → g x (wipeD ρ vs) C fun ρ2 C2 => tt ρ2 C2 fun b C3 =>
    if b = true then te ρ2 C3 fun y C4 => ∃ acc, C4 p = some (.lst acc) ∧ acc.length < sizeLine ∧ Pv (i + 1) (updC C4 p (.lst (acc ++ [y]))) else Pv (i + 1) C3) ∧
  ∀ C, Pv ds.length C → Q (.ref p) C
section
variable {X : Cx} {cl : NmB} {pos : Pos} {vs : List Nat} {K : PySem.W.Frag}
theorem cell_lst {C : Cl} {F H : Hp} {a : Addr} {ds : List D} (R : RC K cl C F H) (h : C a = some (.lst ds)) : ∃ xs, H a = some (.lst xs) ∧ RepL K cl F xs ds := by
  obtain ⟨_, o, ho, c⟩ := R.cel _ _ h
  cases c with
  | lst rl => exact ⟨_, ho, rl⟩
theorem low_lcC {ti : DE} {g : DG} {tt : DT} {te : DE} {σ : L2.St} {H : Hp} {Q : VK} (h : lowE K cl (dLcC ti g tt te vs) σ H Q) :
    tLc (iList K (lowE K cl ti)) (lowO K cl vs g) (lowT K cl tt) (lowE K cl te) vs σ H Q := by
  obtain ⟨ρ, C, F, Qd, R, h, k⟩ := h
  refine ⟨ρ, C, F, _, R, h, fun v d C1 H1 F1 s1 R1 r1 ⟨a, ds, e, ha, q1⟩ => ?_⟩
  subst e
  cases r1
  obtain ⟨xs0, h0, _⟩ := cell_lst R1 ha
  refine ⟨a, rfl, ⟨xs0, .of h0⟩, fun p np => ?_⟩
  obtain ⟨Pv, p0, pc, ps, pd⟩ := q1 p (R1.freeC np)
  refine ⟨fun i m H => m = ds.length - i ∧ i ≤ ds.length ∧ ∃ C F', Same F1 F' ∧ RC K cl C F' H ∧ Pv i C, ⟨ds.length, by simp, Nat.zero_le _, _, F1, Same.refl F1, R1.cell np (.lst .nil), p0⟩, ?_⟩
  rintro i m H2 ⟨rfl, hi, C2, F2, s2, R2, p2⟩
  obtain ⟨xs, hx, rl⟩ := cell_lst R2 (pc i C2 p2)
  by_cases hlt : i < ds.length
  · obtain ⟨u, hu, ru⟩ := rl.get (List.getElem?_eq_getElem hlt)
    refine .inr ⟨⟨xs, u, .of hx, hu⟩, fun H' => ∃ C F', Same F1 F' ∧ RC K cl C F' H' ∧ Pv (i + 1) C, fun H' z => ⟨ds.length - (i + 1), by omega, rfl, hlt, z⟩, fun v H3 ⟨e, y⟩ => ?_⟩
    subst e
    have e2 := y xs (.of hx)
    rw [hu] at e2
    cases e2
    have Rw : RS K cl (wipeD ρ vs) C2 F2 (wipe σ vs) H3 := (R.wipe vs).next (s1.trans s2) R2
    refine ⟨_, _, C2, F2, _, Rw, ru, ps i _ C2 (List.getElem?_eq_getElem hlt) p2, fun ρ4 C4 F4 σ4 H4 s4 R4 w4 q4 => ⟨?_, ?_⟩⟩
    · rw [w4, low_lc.wipe_wipe]
    refine ⟨ρ4, C4, F4, _, R4, q4, fun b C5 H5 F5 s5 R5 q5 => ?_⟩
    have sb : Same F1 F5 := s2.trans (s4.trans s5)
    cases b with
    | false =>
      rw [if_neg Bool.false_ne_true] at q5
      exact iteF ⟨C5, F5, sb, R5, q5⟩
    | true =>
      rw [if_pos rfl] at q5
      refine iteT ⟨ρ4, C5, F5, _, R4.next s5 R5, q5, fun u d C6 H6 F6 s6 R6 r6 ⟨acc, ha, hl, q6⟩ => ?_⟩
      obtain ⟨_, o, ho, cr⟩ := R6.cel p _ ha
      cases cr with
      | lst rl =>
        exact ⟨_, ho, by rw [rl.length]; exact hl, _, F6, sb.trans s6, R6.put ha (.lst (rl.append (.cons r6 .nil))), q6⟩
  · have e : i = ds.length := by omega
    subst e
    exact .inl ⟨⟨xs, .of hx, by rw [rl.length]; exact Nat.le_refl _⟩, k (.ref p) (.ref p) C2 H2 F2 (s1.trans s2) R2 (.ref p) (pd C2 p2)⟩
theorem de_lcC {elt tg iter : Expr} {ifs : List Expr} {scope : Scope} {own : List (Str × Nat)} {ti : DE} {g : DG} {tt : DT} {te : DE} (hN : X.N.Nodup) (hi : PEd X cl iter ti) (ok : BlkOk X.N X.env.scope scope own)
    (hg : ∀ (s : Shared) (H : Hp) (C : Addr) (l : List (Str × Addr)) (fp : List Addr), POd (X.blk s H scope (compEnvC scope l C X.env) fp) cl vs tg g) (ht : ∀ (s : Shared) (H : Hp) (C : Addr) (l : List (Str × Addr)) (fp : List Addr), PTsd (X.blk s H scope (compEnvC scope l C X.env) fp) cl ifs tt)
    (he : ∀ (s : Shared) (H : Hp) (C : Addr) (l : List (Str × Addr)) (fp : List Addr), PEd (X.blk s H scope (compEnvC scope l C X.env) fp) cl elt te) (hv : own.map (·.2) = vs := by rfl) (hc : X.calm = true := by rfl) (hs : ∀ x, foldedSetIterable iter X.env x = pure x := by intro _; rfl) :
    PEd X cl (.ListComp elt [⟨tg, iter, ifs, 0⟩] scope pos) (dLcC ti g tt te vs) := by
  subst hv
  exact weakE (pe_lc hc hN (pi_list hi) ok hg ht he hs) fun _ _ _ h => low_lcC h
end
/-- things told one by one, from a list that is to change -/
theorem v_lcCF {α : Type} {ρ : DEnv} {C : Cl} {Q : DQ} {ti te : DE} {g : DG} {vs : List Nat} {as : List α} {e : α → D} {a : Addr} (f : α → D) (hw : ∀ R : D → Cl → Prop, R (.ref a) C → ti ρ C R) (ha : C a = some (.lst (as.map e))) (hl : as.length ≤ sizeLine)
    (hs : ∀ (i : Nat) (x : α) (C' : Cl) (N : DQ), as[i]? = some x → x ∈ as → SubC C C' → N (f x) C' → g (e x) (wipeD ρ vs) C' fun ρ2 C2 => te ρ2 C2 N) (hq : Q (.lst (as.map f)) C) : dFz (dLcC ti g dYes te vs) ρ C Q := by
  refine hw _ ⟨a, _, rfl, ha, fun p hp => ?_⟩
  have np : a ≠ p := by rintro rfl; rw [ha] at hp; cases hp
  refine ⟨fun i C' => C' = updC C p (.lst ((as.take i).map f)), rfl, fun i C' h => by rw [h, updC_ne np]; exact ha, ?_, ?_⟩
  · rintro i x _ hx rfl
    rw [List.getElem?_map] at hx
    cases hb : as[i]? with
    | none => rw [hb] at hx; cases hx
    | some b =>
      rw [hb] at hx; cases hx
      have hi : i < as.length := (List.getElem?_eq_some_iff.mp hb).1
      refine hs i b _ _ hb (List.mem_of_getElem? hb) ((SubC.refl _).new hp) ⟨_, updC_same, ?_, ?_⟩
      · rw [List.length_map, List.length_take]; omega
      · show updC _ p _ = updC C p (.lst ((as.take (i + 1)).map f))
        rw [updC_updC, List.take_add_one, hb]; simp
  · rintro _ rfl
    rw [List.length_map, List.take_length]
    exact ⟨p, _, rfl, updC_same, by rw [delC_new hp]; exact hq⟩
end G
namespace HT
open PySem PySem.Spec PyProof.Rows
section
variable {prog : Program} {w : World} {A : Around} {E : Value → Shared → Prop} {s : Shared}
end
end HT
namespace L2
open PySem PySem.Spec PyProof.Rows
variable {X : Cx}
end L2
namespace G
open PySem PySem.Spec PyProof.Rows L2
section
variable {X : Cx} {cl : NmB} {e : Expr} {te : DE} {pos : Pos}
end
end G
namespace G
open PySem PySem.Spec PyProof.Rows L2
theorem txts_lenG (ls : List (List Nat)) : (txts ls).length = ls.length := by unfold txts; simp
/-! ### steps of a reading, one lemma a head (printed by g16.py) -/
section
variable {D' : DEnds} {n b c : DEnv → Cl → Prop} {r : DQ} {ρ : DEnv} {C : Cl} {Q : DQ} {t u : DS} {te ta tb tc : DE} {g : DG} {A B : Prop}
theorem v_ends {t : DS} (h : t ⟨fun _ C => ∃ C', SubC C' C ∧ Q .non C', fun d C => ∃ d' C', Gh d C d' C' ∧ Q d' C', fun _ _ => False, fun _ _ => False⟩ ρ C) : t (endsD Q) ρ C := h
theorem v_seq (h : t ⟨u ⟨n, r, b, c⟩, r, b, c⟩ ρ C) : dSeq t u ⟨n, r, b, c⟩ ρ C := h
theorem v_next (h : n ρ C) : dNext ⟨n, r, b, c⟩ ρ C := h
theorem v_asg (h : te ρ C fun x C1 => g x ρ C1 n) : dAsg te g ⟨n, r, b, c⟩ ρ C := h
theorem v_drop (h : te ρ C fun _ C1 => n ρ C1) : dDrop te ⟨n, r, b, c⟩ ρ C := h
theorem v_ret (h : te ρ C r) : dRet te ⟨n, r, b, c⟩ ρ C := h
theorem v_ifS {ct : DT} (h : ct ρ C fun k C1 => if k = true then t ⟨n, r, b, c⟩ ρ C1 else u ⟨n, r, b, c⟩ ρ C1) : dIfS ct t u ⟨n, r, b, c⟩ ρ C := h
theorem v_isvar {i : Nat} (h : dVar i ρ C Q) : dVar i ρ C Q := h
theorem v_isname {i : Nat} {d : D} {K : DEnv → Cl → Prop} (h : dName i d ρ C K) : dName i d ρ C K := h
theorem v_const {d : D} (h : Q d C) : dC d ρ C Q := h
theorem v_op {rd : RD2} (h : ta ρ C fun x C1 => tb ρ C1 fun y C2 => rd x y C2 Q) : dOp rd ta tb ρ C Q := h
theorem v_un {rd : RD1} (h : ta ρ C fun x C1 => rd x C1 Q) : dUn rd ta ρ C Q := h
theorem v_test {K : Bool → Cl → Prop} (h : te ρ C fun x C1 => ∃ k, x = .bl k ∧ K k C1) : dTest te ρ C K := h
theorem v_bl {x : Bool} {K : Bool → Prop} (h : K x) : ∃ k, D.bl x = .bl k ∧ K k := ⟨x, rfl, h⟩
theorem v_dnot {tA : DT} {K : Bool → Cl → Prop} (h : tA ρ C fun k C1 => K (!k) C1) : dNot tA ρ C K := h
theorem v_dand {tA tB : DT} {K : Bool → Cl → Prop} (h : tA ρ C fun k C1 => if k = true then tB ρ C1 K else K false C1) : dAnd tA tB ρ C K := h
theorem v_dor {tA tB : DT} {K : Bool → Cl → Prop} (h : tA ρ C fun k C1 => if k = true then K true C1 else tB ρ C1 K) : dOr tA tB ρ C K := h
theorem v_andV (h : ta ρ C fun x C1 => ∃ k, x = .bl k ∧ if k = true then tb ρ C1 Q else Q (.bl false) C1) : dAndV ta tb ρ C Q := h
theorem v_orV (h : ta ρ C fun x C1 => ∃ k, x = .bl k ∧ if k = true then Q (.bl true) C1 else tb ρ C1 Q) : dOrV ta tb ρ C Q := h
theorem v_ifE {tA : DT} (h : tA ρ C fun k C1 => if k = true then ta ρ C1 Q else tb ρ C1 Q) : dIf tA ta tb ρ C Q := h
theorem v_tt (h : A) : if true = true then A else B := h
theorem v_ff (h : B) : if false = true then A else B := h
theorem v_ntt (h : B) : if (!true) = true then A else B := h
theorem v_nff (h : A) : if (!false) = true then A else B := h
theorem v_dt {p : Prop} [Decidable p] (hp : p) (h : A) : if decide p = true then A else B := by rw [decide_eq_true hp]; exact h
theorem v_df {p : Prop} [Decidable p] (hp : ¬ p) (h : B) : if decide p = true then A else B := by rw [decide_eq_false hp]; exact h
theorem v_ndt {p : Prop} [Decidable p] (hp : p) (h : B) : if (!decide p) = true then A else B := by rw [decide_eq_true hp]; exact h
theorem v_ndf {p : Prop} [Decidable p] (hp : ¬ p) (h : A) : if (!decide p) = true then A else B := by rw [decide_eq_false hp]; exact h
theorem v_chain {r1 r2 : RD2} (h : ta ρ C fun x C1 => tb ρ C1 fun y C2 => r1 x y C2 fun z C3 => ∃ k, z = .bl k ∧ if k = true then tc ρ C3 fun w C4 => r2 y w C4 Q else Q (.bl false) C3) : dChain r1 r2 ta tb tc ρ C Q := h
theorem v_nil {K : List D → Cl → Prop} (h : K [] C) : dNil ρ C K := h
theorem v_cons {tr : DA} {K : List D → Cl → Prop} (h : ta ρ C fun x C1 => tr ρ C1 fun xs C2 => K (x :: xs) C2) : dCons ta tr ρ C K := h
theorem v_tup {tA : DA} (h : tA ρ C fun xs C1 => xs.length ≤ sizeLine ∧ Q (.tup xs) C1) : dTup tA ρ C Q := h
theorem v_lst {tA : DA} (h : tA ρ C fun xs C1 => xs.length ≤ sizeLine ∧ Q (.lst xs) C1) : dLst tA ρ C Q := h
theorem v_lstC {tA : DA} (h : tA ρ C fun xs C1 => xs.length ≤ sizeLine ∧ ∀ p, C1 p = none → Q (.ref p) (updC C1 p (.lst xs))) : dLstC tA ρ C Q := h
theorem v_cb {rd : RDC} {tA : DA} (h : tA ρ C fun ds C1 => rd ds C1 Q) : dCB rd tA ρ C Q := h
theorem v_bm {T : String} {rd : RDM} {tA : DA} (h : te ρ C fun x C1 => tyD T x C1 ∧ tA ρ C1 fun ds C2 => rd x ds C2 Q) : dBM T rd te tA ρ C Q := h
theorem v_call0 {sp : DSp} {tA : DA} (h : tA ρ C fun xs C1 => sp xs C1 Q fun _ _ _ => False) : dCall sp [] tA ρ C Q := by
  show tA ρ C fun xs C1 => sp (xs ++ []) C1 Q fun _ _ _ => False
  simp only [List.append_nil]; exact h
theorem v_par (i j : Nat) {tA : DA} (h : tA ρ C fun ds C2 => ∃ v w, ds = [v, w] ∧ n ((ρ.set i (some v)).set j (some w)) C2) : dPar i j tA ⟨n, r, b, c⟩ ρ C := h
theorem v_par2 {i j : Nat} {v w : D} (h : n ((ρ.set i (some v)).set j (some w)) C) : ∃ v' w', [v, w] = [v', w'] ∧ n ((ρ.set i (some v')).set j (some w')) C := ⟨v, w, rfl, h⟩
theorem v_fld {cs : List String} {f : Str} (h : te ρ C fun d C1 => ∃ k fs v, k ∈ cs ∧ insOf C1 d = some (k, fs) ∧ fs.lookup f = some v ∧ Q v C1) : dFld cs te f ρ C Q := h
theorem v_meth {k : String} {m : Str} {sp : DSp2} {tA tk : DA} (h : te ρ C fun x C1 => ∃ fs, insOf C1 x = some (k, fs) ∧ fs.lookup m = none ∧ tA ρ C1 fun xs C2 => tk ρ C2 fun zs C3 => sp (x :: xs) zs C3 Q noX) : dMeth k m sp te tA tk ρ C Q := h
theorem v_cal {sp : DSp2} {tA tk : DA} (h : tA ρ C fun xs C2 => tk ρ C2 fun zs C3 => sp xs zs C3 Q noX) : dCal sp tA tk ρ C Q := h
theorem v_pos2 {sp : DSp} {dd ds : List D} {E : DX} (h : sp (ds ++ dd) C Q E) : pos2 sp dd ds [] C Q E := ⟨rfl, h⟩
/-- tuples of names -/
theorem v_gtup {k : Nat} {tG : DGs} {ds : List D} {K : DEnv → Cl → Prop} (hl : ds.length = k) (h : tG ds ρ C K) : dgTup k tG (.tup ds) ρ C K := ⟨ds, rfl, hl, h⟩
theorem v_gcons {tG : DG} {uG : DGs} {d : D} {ds : List D} {K : DEnv → Cl → Prop} (h : tG d ρ C fun ρ' C' => uG ds ρ' C' K) : dgCons tG uG (d :: ds) ρ C K := ⟨d, ds, rfl, h⟩
theorem v_gnil {K : DEnv → Cl → Prop} (h : K ρ C) : dgNil [] ρ C K := ⟨rfl, h⟩
theorem v_sameB {x : Bool} (h : Q (.bl x) C) : ∃ d' C', Gh (.bl x) C d' C' ∧ Q d' C' := ⟨_, C, .same, h⟩
theorem v_sameL {ds : List D} (h : Q (.lst ds) C) : ∃ d' C', Gh (.lst ds) C d' C' ∧ Q d' C' := ⟨_, C, .same, h⟩
/-! operators on known things -/
theorem v_eqS {x y : List Nat} (h : Q (.bl (decide (x = y))) C) : rEqD (.str x) (.str y) C Q := .inl ⟨_, rfl, h⟩
theorem v_eqI {x y : Int} (h : Q (.bl (decide (x = y))) C) : rEqD (.int x) (.int y) C Q := .inl ⟨_, rfl, h⟩
theorem v_neS {x y : List Nat} (h : Q (.bl (!decide (x = y))) C) : rNeD (.str x) (.str y) C Q := .inl ⟨_, rfl, h⟩
theorem v_neI {x y : Int} (h : Q (.bl (!decide (x = y))) C) : rNeD (.int x) (.int y) C Q := .inl ⟨_, rfl, h⟩
theorem v_lt {x y : Int} (h : Q (.bl (decide (x < y))) C) : rLtD (.int x) (.int y) C Q := ⟨_, rfl, trivial, h⟩
theorem v_le {x y : Int} (h : Q (.bl (decide (x ≤ y))) C) : rLeD (.int x) (.int y) C Q := ⟨_, rfl, trivial, h⟩
theorem v_gt {x y : Int} (h : Q (.bl (decide (y < x))) C) : rGtD (.int x) (.int y) C Q := ⟨_, rfl, trivial, h⟩
theorem v_addI {x y : Int} (h : Q (.int (x + y)) C) : rOf addF (.int x) (.int y) C Q := ⟨_, rfl, trivial, h⟩
theorem v_addL {x y : List D} (hl : (x ++ y).length ≤ sizeLine) (h : Q (.lst (x ++ y)) C) : rOf addF (.lst x) (.lst y) C Q := ⟨_, rfl, hl, h⟩
theorem v_isN {x : D} (h : Q (.bl (isNonD x)) C) : rIsN x .non C Q := ⟨rfl, h⟩
theorem v_notN {x : D} (h : Q (.bl (!isNonD x)) C) : rNotN x .non C Q := ⟨rfl, h⟩
theorem v_lenT {l : List D} (h : Q (.int (l.length : Nat)) C) : rLen [.tup l] C Q := ⟨_, _, rfl, rfl, trivial, h⟩
theorem v_lenL {l : List D} (h : Q (.int (l.length : Nat)) C) : rLen [.lst l] C Q := ⟨_, _, rfl, rfl, trivial, h⟩
theorem v_tupleL {l : List D} (h : Q (.tup l) C) : rTuple [.lst l] C Q := ⟨_, _, rfl, rfl, h⟩
theorem v_ixT {l : List D} {i : Int} {d : D} (hi : atI l i = some d) (h : Q d C) : rIx (.tup l) (.int i) C Q := ⟨_, rfl, .inr ⟨_, _, rfl, hi, h⟩⟩
theorem v_ixL {l : List D} {i : Int} {d : D} (hi : atI l i = some d) (h : Q d C) : rIx (.lst l) (.int i) C Q := ⟨_, rfl, .inr ⟨_, _, rfl, hi, h⟩⟩
theorem v_isiS {l : List Nat} (h : Q (.bl true) C) : rIsi "str" [.str l, .ty "str"] C Q := ⟨_, _, rfl, rfl, h⟩
theorem v_allM {α : Type} {as : List α} {f : α → Bool} (h : Q (.bl (as.all f)) C) : rAllL [.lst (as.map fun a => .bl (f a))] C Q := by
  refine ⟨_, as.map f, rfl, ?_, ?_⟩
  · show some _ = some _; unfold bls; rw [List.map_map]; rfl
  · rw [List.all_map]; exact h
theorem v_isiT {l : List D} (h : Q (.bl true) C) : rIsi "tuple" [.tup l, .ty "tuple"] C Q := ⟨_, _, rfl, rfl, h⟩
theorem v_forL {te : DE} {R : List D → Cl → Prop} (h : te ρ C fun x C1 => ∃ xs, lstOf x = some xs ∧ R xs C1) : diList te ρ C R := h
theorem v_forT {te : DE} {R : List D → Cl → Prop} (h : te ρ C fun x C1 => ∃ xs, x = .tup xs ∧ R xs C1) : diTup te ρ C R := h
theorem v_lstO {l : List D} {R : List D → Prop} (h : R l) : ∃ xs, lstOf (.lst l) = some xs ∧ R xs := ⟨l, rfl, h⟩
theorem v_tupO {l : List D} {R : List D → Prop} (h : R l) : ∃ xs, D.tup l = .tup xs ∧ R xs := ⟨l, rfl, h⟩
theorem v_nopart {K : Option Int → Cl → Prop} (h : K none C) : dNoPart ρ C K := h
theorem v_part {K : Option Int → Cl → Prop} (h : te ρ C fun x C1 => ∃ i, x = .int i ∧ K (some i) C1) : dPart te ρ C K := h
theorem v_slice {rd : RSl} {tl th : DO} (h : te ρ C fun x C1 => tl ρ C1 fun l C2 => th ρ C2 fun u C3 => rd x l u C3 Q) : dSl rd te tl th ρ C Q := h
theorem v_slL {l : List D} {lo hi : Option Int} (h : Q (.lst (cutL l lo hi)) C) : rSl (.lst l) lo hi C Q := ⟨_, rfl, trivial, h⟩
theorem v_gsub {to ti : DE} {rd : RSet} {d : D} {K : DEnv → Cl → Prop} (h : to ρ C fun o C1 => ti ρ C1 fun i C2 => rd o i d C2 fun C3 => K ρ C3) : dgSub to ti rd d ρ C K := h
theorem v_rng1 {tA : DA} {R : List D → Cl → Prop} (h : tA ρ C fun ds C1 => ∃ j : Int, ds = [.int j] ∧ (-(2 ^ 62) ≤ j ∧ j < 2 ^ 62) ∧ R (ranged 0 j.toNat) C1) : diRng1 tA ρ C R := h
theorem v_enumS {tA : DA} {R : List D → Cl → Prop} (h : tA ρ C fun ds C1 => ∃ x xs, ds = [x] ∧ srcOf x = some xs ∧ R (numbered 0 xs) C1) : diEnumS tA ρ C R := h
theorem v_putT {to : DE} {tA : DA} (h : te ρ C fun v C1 => to ρ C1 fun x C2 => tA ρ C2 fun ys C3 => ys.length ≤ sizeLine ∧ ∃ a kvs ks, x = .ref a ∧ C3 a = some (.dct kvs) ∧ keysD ys = some ks ∧ kvs.length < sizeLine ∧ n ρ (updC C3 a (.dct (putKD kvs ks v)))) : dPutT to tA te ⟨n, r, b, c⟩ ρ C := h
theorem v_inT {tA : DA} (h : tA ρ C fun ys C1 => ys.length ≤ sizeLine ∧ te ρ C1 fun x C2 => ∃ kvs ks, dctOf C2 x = some kvs ∧ keysD ys = some ks ∧ Q (.bl (valD kvs ks).isSome) C2) : dInT tA te ρ C Q := h
theorem v_getT {tA : DA} (h : te ρ C fun x C1 => tA ρ C1 fun ys C2 => ys.length ≤ sizeLine ∧ ∃ kvs ks v, dctOf C2 x = some kvs ∧ keysD ys = some ks ∧ valD kvs ks = some v ∧ Q v C2) : dGetT te tA ρ C Q := h
theorem v_get2T {tA : DA} (h : te ρ C fun x C1 => (∃ kvs, dctOf C1 x = some kvs) ∧ tA ρ C1 fun ys C2 => ys.length ≤ sizeLine ∧ ta ρ C2 fun z C3 => ∃ kvs ks, dctOf C3 x = some kvs ∧ keysD ys = some ks ∧ Q ((valD kvs ks).getD z) C3) : dGet2T te tA ta ρ C Q := h
theorem v_fldSet {cs : List String} {to : DE} {f : Str} (h : te ρ C fun y C1 => to ρ C1 fun x C2 => ∃ a k fs, k ∈ cs ∧ x = .ref a ∧ C2 a = some (.ins k fs) ∧ fs.length < 1000 ∧ n ρ (updC C2 a (.ins k (putD f y fs)))) : dFldSet cs to te f ⟨n, r, b, c⟩ ρ C := h
theorem v_var0 {d : D} {ρ : DEnv} (h : Q d C) : dVar 0 (some d :: ρ) C Q := ⟨d, rfl, h⟩
theorem v_var1 {x0 : Option D} {d : D} {ρ : DEnv} (h : Q d C) : dVar 1 (x0 :: some d :: ρ) C Q := ⟨d, rfl, h⟩
theorem v_wname1 {x0 y : Option D} {d : D} {ρ : DEnv} {K : DEnv → Cl → Prop} (h : K (x0 :: some d :: ρ) C) : dName 1 d (wipeD (x0 :: y :: ρ) [1]) C K := h
theorem v_name1 {x0 y : Option D} {d : D} {ρ : DEnv} {K : DEnv → Cl → Prop} (h : K (x0 :: some d :: ρ) C) : dName 1 d (x0 :: y :: ρ) C K := h
theorem v_var2 {x0 x1 : Option D} {d : D} {ρ : DEnv} (h : Q d C) : dVar 2 (x0 :: x1 :: some d :: ρ) C Q := ⟨d, rfl, h⟩
theorem v_wname2 {x0 x1 y : Option D} {d : D} {ρ : DEnv} {K : DEnv → Cl → Prop} (h : K (x0 :: x1 :: some d :: ρ) C) : dName 2 d (wipeD (x0 :: x1 :: y :: ρ) [2]) C K := h
theorem v_name2 {x0 x1 y : Option D} {d : D} {ρ : DEnv} {K : DEnv → Cl → Prop} (h : K (x0 :: x1 :: some d :: ρ) C) : dName 2 d (x0 :: x1 :: y :: ρ) C K := h
theorem v_var3 {x0 x1 x2 : Option D} {d : D} {ρ : DEnv} (h : Q d C) : dVar 3 (x0 :: x1 :: x2 :: some d :: ρ) C Q := ⟨d, rfl, h⟩
theorem v_name3 {x0 x1 x2 y : Option D} {d : D} {ρ : DEnv} {K : DEnv → Cl → Prop} (h : K (x0 :: x1 :: x2 :: some d :: ρ) C) : dName 3 d (x0 :: x1 :: x2 :: y :: ρ) C K := h
theorem v_var4 {x0 x1 x2 x3 : Option D} {d : D} {ρ : DEnv} (h : Q d C) : dVar 4 (x0 :: x1 :: x2 :: x3 :: some d :: ρ) C Q := ⟨d, rfl, h⟩
theorem v_name4 {x0 x1 x2 x3 y : Option D} {d : D} {ρ : DEnv} {K : DEnv → Cl → Prop} (h : K (x0 :: x1 :: x2 :: x3 :: some d :: ρ) C) : dName 4 d (x0 :: x1 :: x2 :: x3 :: y :: ρ) C K := h
theorem v_var5 {x0 x1 x2 x3 x4 : Option D} {d : D} {ρ : DEnv} (h : Q d C) : dVar 5 (x0 :: x1 :: x2 :: x3 :: x4 :: some d :: ρ) C Q := ⟨d, rfl, h⟩
theorem v_name5 {x0 x1 x2 x3 x4 y : Option D} {d : D} {ρ : DEnv} {K : DEnv → Cl → Prop} (h : K (x0 :: x1 :: x2 :: x3 :: x4 :: some d :: ρ) C) : dName 5 d (x0 :: x1 :: x2 :: x3 :: x4 :: y :: ρ) C K := h
theorem v_var6 {x0 x1 x2 x3 x4 x5 : Option D} {d : D} {ρ : DEnv} (h : Q d C) : dVar 6 (x0 :: x1 :: x2 :: x3 :: x4 :: x5 :: some d :: ρ) C Q := ⟨d, rfl, h⟩
theorem v_wname6 {x0 x1 x2 x3 x4 x5 y : Option D} {d : D} {ρ : DEnv} {K : DEnv → Cl → Prop} (h : K (x0 :: x1 :: x2 :: x3 :: x4 :: x5 :: some d :: ρ) C) : dName 6 d (wipeD (x0 :: x1 :: x2 :: x3 :: x4 :: x5 :: y :: ρ) [6]) C K := h
theorem v_name6 {x0 x1 x2 x3 x4 x5 y : Option D} {d : D} {ρ : DEnv} {K : DEnv → Cl → Prop} (h : K (x0 :: x1 :: x2 :: x3 :: x4 :: x5 :: some d :: ρ) C) : dName 6 d (x0 :: x1 :: x2 :: x3 :: x4 :: x5 :: y :: ρ) C K := h
theorem v_var7 {x0 x1 x2 x3 x4 x5 x6 : Option D} {d : D} {ρ : DEnv} (h : Q d C) : dVar 7 (x0 :: x1 :: x2 :: x3 :: x4 :: x5 :: x6 :: some d :: ρ) C Q := ⟨d, rfl, h⟩
theorem v_wname7 {x0 x1 x2 x3 x4 x5 x6 y : Option D} {d : D} {ρ : DEnv} {K : DEnv → Cl → Prop} (h : K (x0 :: x1 :: x2 :: x3 :: x4 :: x5 :: x6 :: some d :: ρ) C) : dName 7 d (wipeD (x0 :: x1 :: x2 :: x3 :: x4 :: x5 :: x6 :: y :: ρ) [7]) C K := h
theorem v_name7 {x0 x1 x2 x3 x4 x5 x6 y : Option D} {d : D} {ρ : DEnv} {K : DEnv → Cl → Prop} (h : K (x0 :: x1 :: x2 :: x3 :: x4 :: x5 :: x6 :: some d :: ρ) C) : dName 7 d (x0 :: x1 :: x2 :: x3 :: x4 :: x5 :: x6 :: y :: ρ) C K := h
theorem v_var8 {x0 x1 x2 x3 x4 x5 x6 x7 : Option D} {d : D} {ρ : DEnv} (h : Q d C) : dVar 8 (x0 :: x1 :: x2 :: x3 :: x4 :: x5 :: x6 :: x7 :: some d :: ρ) C Q := ⟨d, rfl, h⟩
theorem v_name8 {x0 x1 x2 x3 x4 x5 x6 x7 y : Option D} {d : D} {ρ : DEnv} {K : DEnv → Cl → Prop} (h : K (x0 :: x1 :: x2 :: x3 :: x4 :: x5 :: x6 :: x7 :: some d :: ρ) C) : dName 8 d (x0 :: x1 :: x2 :: x3 :: x4 :: x5 :: x6 :: x7 :: y :: ρ) C K := h
theorem v_var9 {x0 x1 x2 x3 x4 x5 x6 x7 x8 : Option D} {d : D} {ρ : DEnv} (h : Q d C) : dVar 9 (x0 :: x1 :: x2 :: x3 :: x4 :: x5 :: x6 :: x7 :: x8 :: some d :: ρ) C Q := ⟨d, rfl, h⟩
theorem v_wname9 {x0 x1 x2 x3 x4 x5 x6 x7 x8 y : Option D} {d : D} {ρ : DEnv} {K : DEnv → Cl → Prop} (h : K (x0 :: x1 :: x2 :: x3 :: x4 :: x5 :: x6 :: x7 :: x8 :: some d :: ρ) C) : dName 9 d (wipeD (x0 :: x1 :: x2 :: x3 :: x4 :: x5 :: x6 :: x7 :: x8 :: y :: ρ) [9]) C K := h
theorem v_var10 {x0 x1 x2 x3 x4 x5 x6 x7 x8 x9 : Option D} {d : D} {ρ : DEnv} (h : Q d C) : dVar 10 (x0 :: x1 :: x2 :: x3 :: x4 :: x5 :: x6 :: x7 :: x8 :: x9 :: some d :: ρ) C Q := ⟨d, rfl, h⟩
theorem v_wname10 {x0 x1 x2 x3 x4 x5 x6 x7 x8 x9 y : Option D} {d : D} {ρ : DEnv} {K : DEnv → Cl → Prop} (h : K (x0 :: x1 :: x2 :: x3 :: x4 :: x5 :: x6 :: x7 :: x8 :: x9 :: some d :: ρ) C) : dName 10 d (wipeD (x0 :: x1 :: x2 :: x3 :: x4 :: x5 :: x6 :: x7 :: x8 :: x9 :: y :: ρ) [10]) C K := h
theorem v_var11 {x0 x1 x2 x3 x4 x5 x6 x7 x8 x9 x10 : Option D} {d : D} {ρ : DEnv} (h : Q d C) : dVar 11 (x0 :: x1 :: x2 :: x3 :: x4 :: x5 :: x6 :: x7 :: x8 :: x9 :: x10 :: some d :: ρ) C Q := ⟨d, rfl, h⟩
theorem v_wname11 {x0 x1 x2 x3 x4 x5 x6 x7 x8 x9 x10 y : Option D} {d : D} {ρ : DEnv} {K : DEnv → Cl → Prop} (h : K (x0 :: x1 :: x2 :: x3 :: x4 :: x5 :: x6 :: x7 :: x8 :: x9 :: x10 :: some d :: ρ) C) : dName 11 d (wipeD (x0 :: x1 :: x2 :: x3 :: x4 :: x5 :: x6 :: x7 :: x8 :: x9 :: x10 :: y :: ρ) [11]) C K := h
/-! comprehensions whose things are known -/
/-- the same over things that a function names -/
theorem v_lcmapF {α : Type} {wi : DI} {vs : List Nat} {as : List α} {e : α → D} (f : α → D) (hw : ∀ R : List D → Cl → Prop, R (as.map e) C → wi ρ C R) (hl : as.length ≤ sizeLine)
    (hs : ∀ (i : Nat) (a : α) (C' : Cl) (N : DQ), as[i]? = some a → a ∈ as → SubC C C' → N (f a) C' → g (e a) (wipeD ρ vs) C' fun ρ2 C2 => te ρ2 C2 N) (hq : Q (.lst (as.map f)) C) : dFz (dLc wi g dYes te vs) ρ C Q := by
  refine hw _ fun p hp => ?_
  refine ⟨fun i C' => ∃ C1, C' = updC C1 p (.lst ((as.take i).map f)) ∧ C1 = C, ⟨C, rfl, rfl⟩, ?_, ?_⟩
  · rintro i x _ hx ⟨C1, rfl, rfl⟩
    rw [List.getElem?_map] at hx
    cases ha : as[i]? with
    | none => rw [ha] at hx; cases hx
    | some a =>
      rw [ha] at hx; cases hx
      have hi : i < as.length := (List.getElem?_eq_some_iff.mp ha).1
      refine hs i a _ _ ha (List.mem_of_getElem? ha) ((SubC.refl _).new hp) ⟨_, updC_same, ?_, _, ?_, rfl⟩
      · rw [List.length_map, List.length_take]; omega
      · rw [updC_updC, List.take_add_one, ha]; simp
  · rintro _ ⟨C1, rfl, rfl⟩
    rw [List.length_map, List.take_length]
    exact ⟨p, _, rfl, updC_same, by rw [delC_new hp]; exact hq⟩
theorem v_lcfilF {α : Type} {wi : DI} {tt : DT} {vs : List Nat} {as : List α} {e : α → D} (p : α → Bool) (f : α → D) (hw : ∀ R : List D → Cl → Prop, R (as.map e) C → wi ρ C R) (hl : as.length ≤ sizeLine)
    (hs : ∀ (i : Nat) (a : α) (C' : Cl) (N : DQ) (S : Cl → Prop), as[i]? = some a → a ∈ as → SubC C C' → (p a = true → N (f a) C') → (p a = false → S C') → g (e a) (wipeD ρ vs) C' fun ρ2 C2 => tt ρ2 C2 fun b C3 => if b = true then te ρ2 C3 N else S C3) (hq : Q (.lst ((as.filter p).map f)) C) : dFz (dLc wi g tt te vs) ρ C Q := by
  refine hw _ fun q hp => ?_
  refine ⟨fun i C' => ∃ C1, C' = updC C1 q (.lst (((as.take i).filter p).map f)) ∧ C1 = C, ⟨C, rfl, rfl⟩, ?_, ?_⟩
  · rintro i x _ hx ⟨C1, rfl, rfl⟩
    rw [List.getElem?_map] at hx
    cases ha : as[i]? with
    | none => rw [ha] at hx; cases hx
    | some a =>
      rw [ha] at hx; cases hx
      have hi : i < as.length := (List.getElem?_eq_some_iff.mp ha).1
      have el : ((as.take i).filter p).length ≤ i := Nat.le_trans (List.length_filter_le ..) (by rw [List.length_take]; omega)
      refine hs i a _ _ _ ha (List.mem_of_getElem? ha) ((SubC.refl _).new hp) (fun hpa => ⟨_, updC_same, ?_, _, ?_, rfl⟩) fun hpa => ⟨_, ?_, rfl⟩
      · rw [List.length_map]; omega
      · rw [updC_updC, List.take_add_one, ha]; simp [hpa]
      · rw [List.take_add_one, ha]; simp [hpa]
  · rintro _ ⟨C1, rfl, rfl⟩
    rw [List.length_map, List.take_length]
    exact ⟨q, _, rfl, updC_same, by rw [delC_new hp]; exact hq⟩
/-! loops -/
theorem v_for {wi : DI} {tb : DS} (h : wi ρ C fun xs C1 => ∃ Pv : Nat → DEnv → Cl → Prop, Pv 0 ρ C1 ∧
  (∀ i x ρ C, xs[i]? = some x → Pv i ρ C → g x ρ C fun ρ2 C2 => tb ⟨Pv (i + 1), r, n, Pv (i + 1)⟩ ρ2 C2) ∧ ∀ ρ C, Pv xs.length ρ C → n ρ C) : dFor wi g tb ⟨n, r, b, c⟩ ρ C := h
/-- over things that a function names; the slot j is the loop's -/
theorem v_loopF {α : Type} {wi : DI} {tb : DS} {as : List α} {e : α → D} (P : Nat → DEnv → Cl → Prop) (hw : ∀ R : List D → Cl → Prop, R (as.map e) C → wi ρ C R) (h0 : P 0 ρ C)
    (hs : ∀ i a ρ C, as[i]? = some a → a ∈ as → P i ρ C → g (e a) ρ C fun ρ2 C2 => tb ⟨P (i + 1), r, n, P (i + 1)⟩ ρ2 C2) (hd : ∀ ρ C, P as.length ρ C → n ρ C) : dFor wi g tb ⟨n, r, b, c⟩ ρ C := by
  refine hw _ ⟨P, h0, fun i x ρ' C' hx hp => ?_, fun ρ' C' hp => hd ρ' C' (by rw [List.length_map] at hp; exact hp)⟩
  rw [List.getElem?_map] at hx
  cases ha : as[i]? with
  | none => rw [ha] at hx; cases hx
  | some a => rw [ha] at hx; cases hx; exact hs i a ρ' C' ha (List.mem_of_getElem? ha) hp
theorem find_pre {α : Type} {p : α → Bool} {as : List α} {i : Nat} {a : α} (ha : as[i]? = some a) (hp : ∀ x ∈ as.take i, p x = false) (h : p a = true) : as.find? p = some a := by
  have e : as = as.take i ++ a :: as.drop (i + 1) := by
    have hi : i < as.length := (List.getElem?_eq_some_iff.mp ha).1
    rw [List.getElem?_eq_getElem hi] at ha
    have := List.drop_eq_getElem_cons hi
    rw [Option.some.inj ha] at this
    rw [← this, List.take_append_drop]
  rw [e, List.find?_append, List.find?_cons_of_pos h]
  have : (as.take i).find? p = none := by
    rw [List.find?_eq_none]; intro x hx; rw [hp x hx]; exact Bool.false_ne_true
  rw [this]; rfl
/-- the first one that passes a test is looked for; the slot j is the loop's -/
theorem v_findF (j : Nat) {α : Type} {wi : DI} {tb : DS} {as : List α} {e : α → D} (p : α → Bool) (hw : ∀ R : List D → Cl → Prop, R (as.map e) C → wi ρ C R) (hj : ∃ x, ρ = ρ.set j x)
    (hs : ∀ a y (N : DEnv → Cl → Prop), a ∈ as → (p a = true → as.find? p = some a) → (p a = false → ∀ z, N (ρ.set j z) C) → g (e a) (ρ.set j y) C fun ρ2 C2 => tb ⟨N, r, n, N⟩ ρ2 C2)
    (hd : ∀ y, as.find? p = none → n (ρ.set j y) C) : dFor wi g tb ⟨n, r, b, c⟩ ρ C := by
  refine hw _ ⟨fun i ρ' C' => (∀ x ∈ as.take i, p x = false) ∧ (∃ z, ρ' = ρ.set j z) ∧ C' = C, ⟨nofun, hj, rfl⟩, fun i x ρ' C' hx hp => ?_, fun ρ' C' hp => ?_⟩
  · obtain ⟨h1, ⟨y, rfl⟩, rfl⟩ := hp
    rw [List.getElem?_map] at hx
    cases ha : as[i]? with
    | none => rw [ha] at hx; cases hx
    | some a =>
      rw [ha] at hx; cases hx
      refine hs a y _ (List.mem_of_getElem? ha) (fun h => find_pre ha h1 h) fun hf z => ⟨?_, ⟨z, rfl⟩, rfl⟩
      intro x hx
      rw [List.take_add_one, ha] at hx
      rcases List.mem_append.mp hx with e | e
      · exact h1 x e
      · cases List.mem_singleton.mp e; exact hf
  · obtain ⟨h1, ⟨y, rfl⟩, rfl⟩ := hp
    rw [List.length_map, List.take_length] at h1
    exact hd y (by rw [List.find?_eq_none]; intro x hx; rw [h1 x hx]; exact Bool.false_ne_true)
end
end G
namespace G
open PySem PySem.Spec PyProof.Rows L2
/-! ### the helpers of every law: the bag, its draws -/
def sp_l_take : DSp := fun ds C Q _ => ∃ b m n, ds = [.ref b, .int m] ∧ 0 < m ∧ m < 2 ^ 200 ∧ BagAt C b n ∧ n < 100000000000 ∧ ∀ i C', 0 ≤ i → i < m → Bagged C b C' (n + 1) → Q (.int i) C'
def td_l_take : DS :=
  (dSeq (dIfS (dTest (dOp rGtD (dOp rIx (dVar 0) (dC (.int 0))) (dC (.int 0)))) (dSeq (dAsg (dMod (dCB rInt (dCons (dOp rIx (dVar 0) (dC (.int 0))) dNil)) (dVar 1)) (dName 2))
    (dSeq (dAsg (dFdiv (dOp rIx (dVar 0) (dC (.int 0))) (dVar 1)) (dgSub (dVar 0) (dC (.int 0)) rSetL))
    (dRet (dVar 2)))) dNext)
    (dSeq (dAsg (dAdd (dOp rIx (dVar 0) (dC (.int 2))) (dC (.int 1))) (dgSub (dVar 0) (dC (.int 2)) rSetL))
    (dSeq (dAsg (dMod (dCB rInt (dCons (dPow (dAdd (dOp rIx (dVar 0) (dC (.int 1))) (dMul (dC (.int 1000003)) (dOp rIx (dVar 0) (dC (.int 2))))) (dC (.int 3))) dNil)) (dC (.int 2305843009213693921))) (dName 3))
    (dSeq (dAsg (dMod (dCB rInt (dCons (dPow (dAdd (dVar 3) (dMul (dC (.int 15485863)) (dOp rIx (dVar 0) (dC (.int 2))))) (dC (.int 2))) dNil)) (dC (.int 2305843009213693951))) (dName 3))
    (dRet (dMod (dCB rInt (dCons (dFdiv (dVar 3) (dC (.int 4096))) dNil)) (dVar 1)))))))
theorem len_l_take (ds : List D) (C : Cl) (Q : DQ) (E : DX) (h : sp_l_take ds C Q E) : ds.length = 2 := by obtain ⟨_, _, _, rfl, _⟩ := h; rfl
theorem seq_ref {C : Cl} {a : Addr} {ds : List D} (h : C a = some (.lst ds)) : seqOf C (.ref a) = some ds := cellL_of h
theorem divw {m : Int} (h0 : 0 < m) (h : m < 2 ^ 200) : CDivW 0 m := wide_div (b := 200) h0 (by omega) (by decide) (by decide)
theorem pure_l_take (ds : List D) (C : Cl) (Q : DQ) (E : DX) (h : sp_l_take ds C Q E) : td_l_take (endsD Q) (startD ["_law_bag_here", "_law_many", "_law_digit", "_law_mixed"] ds) C := by
  obtain ⟨b, m, n, rfl, m0, m1, ⟨x, y, z, hc, g⟩, hn, hq⟩ := h
  obtain ⟨x0, y0, y1, z0, z1⟩ := g
  refine ⟨_, rfl, _, rfl, .inr ⟨_, .int x, seq_ref hc, rfl, _, rfl, trivial, _, rfl, ite_d (fun h => ?_) (fun h => ?_)⟩⟩
  · refine ⟨_, rfl, _, rfl, .inr ⟨_, .int x, seq_ref hc, rfl, .inl ⟨_, rfl, _, rfl, _, _, rfl, rfl, m0, ?_⟩⟩⟩
    refine ⟨_, rfl, _, rfl, .inr ⟨_, .int x, seq_ref hc, rfl, _, rfl, _, _, rfl, rfl, divw m0 m1, ?_⟩⟩
    refine ⟨_, rfl, _, 0, 0, _, rfl, rfl, hc, rfl, ?_⟩
    refine ⟨_, rfl, _, _, .same, hq _ _ (Int.emod_nonneg _ (by omega)) (Int.emod_lt_of_pos _ m0) ⟨x / m, y, z, rfl, Int.ediv_nonneg x0 (by omega), y0, y1, z0, by omega⟩⟩
  · refine ⟨_, rfl, _, rfl, .inr ⟨_, .int z, seq_ref hc, rfl, _, rfl, trivial, ?_⟩⟩
    refine ⟨_, rfl, _, 2, 2, _, rfl, rfl, hc, rfl, ?_⟩
    have hc' : (updC C b (bagC x y (z + 1))) b = some (bagC x y (z + 1)) := updC_same
    have zz : z ≤ 100000000000 := by omega
    refine ⟨_, rfl, _, rfl, .inr ⟨_, .int y, seq_ref hc', rfl, _, rfl, _, rfl, .inr ⟨_, .int (z + 1), seq_ref hc', rfl, ?_⟩⟩⟩
    refine .inl ⟨_, _, rfl, rfl, .inl ⟨by decide, by decide⟩, _, rfl, trivial, _, _, rfl, rfl, ⟨by decide, by decide, ?_⟩, .inl ⟨_, rfl, _, _, rfl, rfl, (show (0 : Int) < 2305843009213693921 by decide), ?_⟩⟩
    · (try dsimp only); omega
    have b0 := Int.emod_nonneg ((y + 1000003 * (z + 1)) ^ (3 : Int).toNat) (show (2305843009213693921 : Int) ≠ 0 by decide)
    have b1 := Int.emod_lt_of_pos ((y + 1000003 * (z + 1)) ^ (3 : Int).toNat) (show (0 : Int) < 2305843009213693921 by decide)
    dsimp only
    generalize (y + 1000003 * (z + 1)) ^ (3 : Int).toNat % 2305843009213693921 = v at *
    refine ⟨_, rfl, _, rfl, _, rfl, .inr ⟨_, .int (z + 1), seq_ref hc', rfl, ?_⟩⟩
    refine .inl ⟨_, _, rfl, rfl, .inl ⟨by decide, by decide⟩, _, rfl, trivial, _, _, rfl, rfl, ⟨by decide, by decide, ?_⟩, .inl ⟨_, rfl, _, _, rfl, rfl, (show (0 : Int) < 2305843009213693951 by decide), ?_⟩⟩
    · (try dsimp only); omega
    dsimp only
    generalize (v + 15485863 * (z + 1)) ^ (2 : Int).toNat % 2305843009213693951 = u at *
    refine ⟨_, rfl, _, _, rfl, rfl, wide_div (b := 13) (by decide) (by decide) (by decide) (by decide), .inl ⟨_, rfl, _, rfl, _, _, rfl, rfl, m0, ?_⟩⟩
    exact ⟨_, _, .same, hq _ _ (Int.emod_nonneg _ (by omega)) (Int.emod_lt_of_pos _ m0) ⟨x, y, z + 1, rfl, x0, y0, y1, by omega, by omega⟩⟩

/-- one of some things: the things stand as a sequence, or are a text's signs -/
def itemsOf (C : Cl) : D → Option (List D)
  | .str l => some (signs l)
  | d => seqOf C d
def sp_l_of : DSp := fun ds C Q _ => ∃ b s xs n, ds = [.ref b, s] ∧ itemsOf C s = some xs ∧ s ≠ .ref b ∧ xs ≠ [] ∧ xs.length ≤ 1000000 ∧ BagAt C b n ∧ n < 100000000000 ∧ ∀ d C', d ∈ xs → Bagged C b C' (n + 1) → Q d C'
def td_l_of : DS :=
  (dRet (dOp rIx (dVar 1) (dCall sp_l_take [] (dCons (dVar 0) (dCons (dCB rLen (dCons (dVar 1) dNil)) dNil)))))
theorem len_l_of (ds : List D) (C : Cl) (Q : DQ) (E : DX) (h : sp_l_of ds C Q E) : ds.length = 2 := by obtain ⟨_, _, _, _, rfl, _⟩ := h; rfl
theorem atI_mem {α : Type} {l : List α} {i : Int} (h0 : 0 ≤ i) (h1 : i < l.length) : ∃ d, atI l i = some d ∧ d ∈ l := by
  have hl : i.toNat < l.length := by omega
  refine ⟨l[i.toNat], ?_, List.getElem_mem hl⟩
  unfold atI ixN
  rw [if_pos h0, if_pos h1]
  exact List.getElem?_eq_getElem hl
theorem seqOf_ne {C C' : Cl} {s : D} {b : Addr} {xs : List D} (h : ∀ a, a ≠ b → C' a = C a) (e : s ≠ .ref b) (hs : seqOf C s = some xs) : seqOf C' s = some xs := by
  cases s with
  | ref a =>
    have : a ≠ b := fun z => e (by rw [z])
    show cellL C' a = some xs
    have hs : cellL C a = some xs := hs
    unfold cellL at hs ⊢
    rw [h a this]
    exact hs
  | _ => exact hs
theorem pure_l_of (ds : List D) (C : Cl) (Q : DQ) (E : DX) (h : sp_l_of ds C Q E) : td_l_of (endsD Q) (startD ["_law_bag_here", "_law_some"] ds) C := by
  obtain ⟨b, s, xs, n, rfl, hx, hs, hne, hl, hb, hn, hq⟩ := h
  have l0 : 0 < xs.length := List.length_pos_iff.mpr hne
  have hL : lenF C s = some xs.length ∧ srcOk s := by
    cases s with
    | str l =>
      cases hx
      rw [signs_length'] at *
      exact ⟨rfl, Nat.le_trans (by omega) (by rw [sizeLine_eq]; decide : 1000000 ≤ sizeLine)⟩
    | ref a =>
      have e : cellL C a = some xs := hx
      exact ⟨by show (cellL C a).map List.length = _; rw [e]; rfl, trivial⟩
    | tup ds => cases hx; exact ⟨rfl, trivial⟩
    | lst ds => cases hx; exact ⟨rfl, trivial⟩
    | rol ds => cases hx; exact ⟨rfl, trivial⟩
    | _ => cases hx
  refine ⟨_, rfl, _, rfl, _, rfl, _, _, rfl, hL.1, hL.2, b, (xs.length : Int), n, rfl, by omega, by omega, hb, hn, fun i C' i0 i1 hB => ?_⟩
  obtain ⟨d, hd, hm⟩ := atI_mem (l := xs) i0 i1
  refine ⟨i, rfl, ?_⟩
  have fin := hq d C' hm hB
  cases s with
  | str l =>
    cases hx
    refine .inl ⟨l, ?_⟩
    have i1' : i < l.length := by rw [signs_length'] at i1; exact i1
    obtain ⟨c, hc, hmc⟩ := atI_mem (l := l) i0 i1'
    have e : d = .str [c] := by
      unfold atI at hd hc
      rw [signs_length'] at hd
      unfold ixN at hd hc
      rw [if_pos i0, if_pos i1'] at hd hc
      have hd : (signs l)[i.toNat]? = some d := hd
      have hc : l[i.toNat]? = some c := hc
      unfold signs at hd
      rw [List.getElem?_map, hc] at hd
      exact (Option.some.inj hd).symm
    subst e
    exact ⟨c, rfl, Nat.le_trans (by rw [signs_length'] at hl; omega) (by rw [sizeLine_eq]; decide : 1000000 ≤ sizeLine), hc, _, _, .same, fin⟩
  | ref a => exact .inr ⟨xs, d, seqOf_ne (fun a e => hB.ne e) hs hx, hd, _, _, .same, fin⟩
  | tup ds => exact .inr ⟨xs, d, hx, hd, _, _, .same, fin⟩
  | lst ds => exact .inr ⟨xs, d, hx, hd, _, _, .same, fin⟩
  | rol ds => exact .inr ⟨xs, d, hx, hd, _, _, .same, fin⟩
  | _ => cases hx
where
  signs_length' {l : List Nat} : (signs l).length = l.length := by unfold signs; rw [List.length_map]
end G
namespace G
open PySem PySem.Spec PyProof.Rows L2
local macro_rules | `(tactic| walk_at "d") => `(tactic| dsimp only [dSeq, dAsg, dVar, dC, dOp, dCB, dBM, dBM0, dCons, dNil, dTest, dIf, dAnd, dOr, dNot, dAndV, dOrV, dNotV, dRet, dIfS, dNext, dName, dTup, dLst, dLstC, dCall, dSl, dPart, dNoPart, dUn, dgTup, dgCons, dgNil, dgSub, dDrop, dPar])

/-! ### texts of digits -/
def digits10 : List Nat := [48, 49, 50, 51, 52, 53, 54, 55, 56, 57]
def isDig (c : Nat) : Bool := decide (c ∈ digits10)
def digs (l : List Nat) : Bool := decide (l ≠ []) && l.all isDig
theorem signs_get {l : List Nat} {i : Nat} {x : D} (h : (signs l)[i]? = some x) : ∃ c, l[i]? = some c ∧ x = .str [c] := by
  unfold signs at h
  rw [List.getElem?_map] at h
  cases e : l[i]? with
  | none => rw [e] at h; cases h
  | some c => rw [e] at h; exact ⟨c, rfl, (Option.some.inj h).symm⟩
theorem signs_length (l : List Nat) : (signs l).length = l.length := by unfold signs; rw [List.length_map]
/-- [test of c for c in a text] -/
theorem lc_signs {wi : DI} {l : List Nat} {C1 : Cl} {ρ : DEnv} {g : DG} {te : DE} {vs : List Nat} {Q : DQ} (p : Nat → Bool) (hw : ∀ R : List D → Cl → Prop, R (signs l) C1 → wi ρ C1 R) (hl : l.length ≤ sizeLine)
    (h : ∀ (c : Nat) (C : Cl) (N : DQ), c ∈ l → SubC C1 C → N (.bl (p c)) C → g (.str [c]) (wipeD ρ vs) C fun ρ2 C2 => te ρ2 C2 N) (hq : Q (.lst (bls (l.map p))) C1) :
    dFz (dLc wi g dYes te vs) ρ C1 Q := by
  refine hw _ (lc_map (fun d => match d with | .str [c] => .bl (p c) | _ => .non) (by rw [signs_length]; exact hl) (fun i x C N hx s hN => ?_) ?_)
  · obtain ⟨c, hc, rfl⟩ := signs_get hx
    exact h c C N (List.mem_of_getElem? hc) s hN
  · have e : (signs l).map (fun d => match d with | .str [c] => D.bl (p c) | _ => .non) = bls (l.map p) := by
      unfold signs bls
      rw [List.map_map, List.map_map]
      rfl
    rw [e]
    exact hq
theorem all_map (p : Nat → Bool) (l : List Nat) : (l.map p).all id = l.all p := by rw [List.all_map]; rfl
theorem any_map (p : Nat → Bool) (l : List Nat) : (l.map p).any id = l.any p := by rw [List.any_map]; rfl

end G
namespace G
open PySem PySem.Spec PyProof.Rows L2

/-! ### slices with plain bounds -/
theorem cutL_to {α : Type} (l : List α) {v : Int} (h : 0 ≤ v) : cutL l none (some v) = l.take v.toNat := by
  unfold cutL
  show (l.drop 0).take ((if v < 0 then (v + (l.length : Int)).toNat else min v.toNat l.length) - 0) = _
  rw [if_neg (by omega), List.drop_zero, Nat.sub_zero]
  by_cases c : v.toNat ≤ l.length
  · rw [Nat.min_eq_left c]
  · rw [Nat.min_eq_right (by omega), List.take_length, List.take_of_length_le (by omega)]
theorem cutL_from {α : Type} (l : List α) {v : Int} (h : 0 ≤ v) : cutL l (some v) none = l.drop v.toNat := by
  unfold cutL
  show (l.drop (if v < 0 then (v + (l.length : Int)).toNat else min v.toNat l.length)).take (l.length - (if v < 0 then (v + (l.length : Int)).toNat else min v.toNat l.length)) = _
  rw [if_neg (by omega), ← List.length_drop, List.take_length]
  by_cases c : v.toNat ≤ l.length
  · rw [Nat.min_eq_left c]
  · rw [Nat.min_eq_right (by omega), List.drop_length, List.drop_of_length_le (by omega)]
/-! ### a text at its first point -/
theorem parts_none {l : List Nat} (h : 46 ∉ l) : parts3 l [46] = (l, [], []) := by
  unfold parts3
  rw [TL.par_none1 h]
theorem parts_dot {x y : List Nat} (h : 46 ∉ x) : parts3 (x ++ 46 :: y) [46] = (x, [46], y) := by
  unfold parts3
  rw [show x ++ 46 :: y = x ++ ([46] ++ y) from rfl, TL.par_part1 (S := []) h]
  rfl
/-! ### a number text's parts -/
def sgnOf (l : List Nat) : List Nat := if l.take 1 = [43] ∨ l.take 1 = [45] then l.take 1 else []
abbrev NumParts := Option (List Nat × List Nat × Option (List Nat))
def splitN (l : List Nat) : NumParts :=
  let p := parts3 (l.drop (sgnOf l).length) [46]
  if digs p.1 = true then
    if p.2.1 = [] then some (sgnOf l, p.1, none) else if digs p.2.2 = true then some (sgnOf l, p.1, some p.2.2) else none
  else none
def optS : Option (List Nat) → D
  | none => .non
  | some l => .str l
/-- a number text put together -/
def tailN : Option (List Nat) → List Nat
  | none => []
  | some p => 46 :: p
theorem dig_dot {l : List Nat} (h : digs l = true) : 46 ∉ l := by
  intro hm
  unfold digs at h
  rw [Bool.and_eq_true] at h
  have := List.all_eq_true.mp h.2 46 hm
  revert this
  decide
theorem dig_ne {l : List Nat} (h : digs l = true) : l ≠ [] := by
  unfold digs at h
  rw [Bool.and_eq_true] at h
  exact of_decide_eq_true h.1
theorem dig_head {l : List Nat} (h : digs l = true) : ∃ c r, l = c :: r ∧ isDig c = true := by
  cases l with
  | nil => exact absurd rfl (dig_ne h)
  | cons c r =>
    unfold digs at h
    rw [Bool.and_eq_true, List.all_cons, Bool.and_eq_true] at h
    exact ⟨c, r, rfl, h.2.1⟩
theorem splitN_of {s w : List Nat} {o : Option (List Nat)} (hs : s = [] ∨ s = [43] ∨ s = [45]) (hw : digs w = true) (ho : ∀ p, o = some p → digs p = true) : splitN (s ++ w ++ tailN o) = some (s, w, o) := by
  obtain ⟨c, r, rfl, hc⟩ := dig_head hw
  have c43 : c ≠ 43 := by rintro rfl; revert hc; decide
  have c45 : c ≠ 45 := by rintro rfl; revert hc; decide
  have e1 : sgnOf (s ++ (c :: r) ++ tailN o) = s := by
    rcases hs with rfl | rfl | rfl
    · unfold sgnOf
      rw [if_neg]
      rintro (h | h)
      · exact c43 (by simpa using h)
      · exact c45 (by simpa using h)
    · rfl
    · rfl
  have e2 : (s ++ (c :: r) ++ tailN o).drop s.length = (c :: r) ++ tailN o := by
    rw [List.append_assoc, List.drop_left]
  unfold splitN
  rw [e1]
  dsimp only
  rw [e2]
  cases o with
  | none =>
    have e3 : parts3 ((c :: r) ++ tailN none) [46] = (c :: r, [], []) := by
      rw [show (c :: r) ++ tailN none = c :: r from List.append_nil _]
      exact parts_none (dig_dot hw)
    rw [e3]
    dsimp only
    rw [if_pos hw, if_pos rfl]
  | some p =>
    have e3 : parts3 ((c :: r) ++ tailN (some p)) [46] = (c :: r, [46], p) := parts_dot (dig_dot hw)
    rw [e3]
    dsimp only
    rw [if_pos hw, if_neg (by simp), if_pos (ho p rfl)]
/-! ### the law's own way to the parts -/
/-! ### the shortest text of a number -/
def isZ (c : Nat) : Bool := ([48] : List Nat).contains c
def wholeN (w : List Nat) : List Nat := if w.dropWhile isZ ≠ [] then w.dropWhile isZ else [48]
def shortN (s w p : List Nat) : List Nat :=
  let places := rdrop isZ p
  let number := if places ≠ [] then wholeN w ++ [46] ++ places else wholeN w
  if s = [45] ∧ number ≠ [48] then 45 :: number else number
def plainN (l : List Nat) : Option (List Nat) := (splitN l).map fun x => shortN x.1 x.2.1 (x.2.2.getD [])
theorem isZ_iff (c : Nat) : isZ c = true ↔ c = 48 := by unfold isZ; simp
end G
namespace G
open PySem PySem.Spec PyProof.Rows L2

/-! ### split_number -/
/-! ### shortest -/
theorem dropWhile_le (g : Nat → Bool) (l : List Nat) : (l.dropWhile g).length ≤ l.length := by
  rw [← drop_takeWhile, List.length_drop]
  omega
/-! ### plain_form -/
end G
namespace G
open PySem PySem.Spec PyProof.Rows L2
/-! ### a new bag -/
def sp_l_bag : DSp := fun ds C Q _ => ∃ (ns : List Int) (k : Nat), ds = [.rol (ns.map D.int), .int k] ∧ k ≤ 1000 ∧ ∀ b C', C b = none → Bagged C b C' 0 → Q (.ref b) C'
def td_l_bag : DS :=
  (dSeq (dAsg (dIf (dTest (dOp rLtD (dVar 1) (dCB rLen (dCons (dVar 0) dNil)))) (dOp rIx (dVar 0) (dVar 1)) (dC (.int 0))) (dName 2))
    (dSeq (dAsg (dIf (dTest (dOp rGeD (dCB rAbs (dCons (dVar 2) dNil)) (dPow (dC (.int 10)) (dC (.int 18))))) (dCB rAbs (dCons (dVar 2) dNil)) (dC (.int 0))) (dName 3))
    (dRet (dLstC (dCons (dVar 3) (dCons (dAdd (dAdd (dMul (dMod (dCB rInt (dCons (dVar 2) dNil)) (dC (.int 2305843009213693951))) (dC (.int 5))) (dMul (dC (.int 6571)) (dVar 1))) (dC (.int 3083))) (dCons (dC (.int 0)) dNil)))))))
theorem len_l_bag (ds : List D) (C : Cl) (Q : DQ) (E : DX) (h : sp_l_bag ds C Q E) : ds.length = 2 := by obtain ⟨_, _, rfl, _⟩ := h; rfl
theorem pure_l_bag (ds : List D) (C : Cl) (Q : DQ) (E : DX) (h : sp_l_bag ds C Q E) : td_l_bag (endsD Q) (startD ["_law_script", "_law_at", "_law_cell", "_law_row"] ds) C := by
  obtain ⟨ns, k, rfl, hk, hq⟩ := h
  have go : ∀ c : Int, (dSeq (dAsg (dIf (dTest (dOp rGeD (dCB rAbs (dCons (dVar 2) dNil)) (dPow (dC (.int 10)) (dC (.int 18))))) (dCB rAbs (dCons (dVar 2) dNil)) (dC (.int 0))) (dName 3))
    (dRet (dLstC (dCons (dVar 3) (dCons (dAdd (dAdd (dMul (dMod (dCB rInt (dCons (dVar 2) dNil)) (dC (.int 2305843009213693951))) (dC (.int 5))) (dMul (dC (.int 6571)) (dVar 1))) (dC (.int 3083))) (dCons (dC (.int 0)) dNil)))))) (endsD Q) [some (.rol (ns.map D.int)), some (.int k), some (.int c), none] C := by
    intro c
    have fin : ∀ r : Int, 0 ≤ r → dRet (dLstC (dCons (dVar 3) (dCons (dAdd (dAdd (dMul (dMod (dCB rInt (dCons (dVar 2) dNil)) (dC (.int 2305843009213693951))) (dC (.int 5))) (dMul (dC (.int 6571)) (dVar 1))) (dC (.int 3083))) (dCons (dC (.int 0)) dNil)))) (endsD Q) [some (.rol (ns.map D.int)), some (.int k), some (.int c), some (.int r)] C := by
      intro r r0
      have b0 := Int.emod_nonneg c (show (2305843009213693951 : Int) ≠ 0 by decide)
      have b1 := Int.emod_lt_of_pos c (show (0 : Int) < 2305843009213693951 by decide)
      refine ⟨_, rfl, _, rfl, .inl ⟨_, rfl, _, _, rfl, rfl, (show (0 : Int) < 2305843009213693951 by decide), .inl ⟨_, _, rfl, rfl, ?_, _, rfl, .inl ⟨_, _, rfl, rfl, ?_, _, rfl, trivial, _, rfl, trivial, szl (by simp), fun p hp => ?_⟩⟩⟩⟩
      · exact .inr ⟨by decide, by decide⟩
      · exact .inl ⟨by decide, by omega⟩
      refine ⟨_, _, .same, hq _ _ hp ⟨r, _, 0, rfl, r0, ?_, ?_, by omega, by omega⟩⟩
      · show 0 ≤ c % 2305843009213693951 * 5 + 6571 * (k : Int) + 3083; omega
      · show c % 2305843009213693951 * 5 + 6571 * (k : Int) + 3083 ≤ _; omega
    refine ⟨_, rfl, c, rfl, _, _, rfl, rfl, ⟨by decide, by decide, by decide⟩, _, rfl, trivial, _, rfl, ite_d (fun h => ?_) (fun h => ?_)⟩
    · refine ⟨_, rfl, _, rfl, fin _ ?_⟩
      split <;> omega
    · exact fin 0 (by omega)
  refine ⟨_, rfl, _, rfl, _, _, rfl, rfl, trivial, _, rfl, trivial, _, rfl, ite_d (fun h => ?_) (fun h => ?_)⟩
  · have hl : k < ns.length := by
      have : (ns.map D.int).length = ns.length := List.length_map ..
      omega
    refine ⟨_, rfl, _, rfl, _, rfl, .inr ⟨_, .int ns[k], rfl, ?_, go _⟩⟩
    unfold atI ixN
    rw [if_pos (by omega), List.length_map, if_pos (by omega)]
    show (ns.map D.int)[(k : Int).toNat]? = _
    rw [List.getElem?_map, Int.toNat_natCast, List.getElem?_eq_getElem hl]
    rfl
  · exact go 0

/-! ### drawn digits -/
def sp_l_digits : DSp := fun ds C Q _ => ∃ b lo hi n, ds = [.ref b, .int (lo : Nat), .int (hi : Nat)] ∧ lo ≤ hi ∧ hi ≤ 1000 ∧ BagAt C b n ∧ n < 10000000000 ∧ ∀ l C', l.all isDig = true → lo ≤ l.length → l.length ≤ hi → Bagged C b C' (n + 2000) → Q (.str l) C'
def td_l_digits : DS :=
  (dSeq (dAsg (dC (.str [])) (dName 3))
    (dSeq (dFor (diRng1 (dCons (dAdd (dVar 1) (dCall sp_l_take [] (dCons (dVar 0) (dCons (dAdd (dSub (dVar 2) (dVar 1)) (dC (.int 1))) dNil)))) dNil)) (dName 4)
    (dAsg (dAdd (dVar 3) (dCall sp_l_of [] (dCons (dVar 0) (dCons (dC (.str [48, 48, 48, 49, 50, 51, 52, 53, 54, 55, 56, 57])) dNil)))) (dName 3)))
    (dRet (dVar 3))))
theorem len_l_digits (ds : List D) (C : Cl) (Q : DQ) (E : DX) (h : sp_l_digits ds C Q E) : ds.length = 3 := by obtain ⟨_, _, _, _, rfl, _⟩ := h; rfl
theorem pure_l_digits (ds : List D) (C : Cl) (Q : DQ) (E : DX) (h : sp_l_digits ds C Q E) : td_l_digits (endsD Q) (startD ["_law_bag_here", "_law_least", "_law_most", "_law_found", "_law_turn"] ds) C := by
  obtain ⟨b, lo, hi, n, rfl, h1, h2, hb, hn, hq⟩ := h
  refine ⟨_, rfl, _, rfl, _, rfl, _, rfl, _, rfl, trivial, _, rfl, trivial, b, (hi : Int) - lo + 1, n, rfl, by omega, by omega, hb, by omega, fun i C1 i0 i1 hB => ?_⟩
  refine ⟨_, rfl, trivial, _, rfl, ⟨by omega, by omega⟩, fun k ρ C2 => ∃ l x, ρ = [some (.ref b), some (.int lo), some (.int hi), some (.str l), x] ∧ l.all isDig = true ∧ l.length = k ∧ Bagged C b C2 (n + 1 + k), ⟨[], none, rfl, rfl, rfl, hB⟩, ?_, ?_⟩
  · rintro k d ρ C2 hx ⟨l, x, rfl, hd, hl, hB2⟩
    obtain ⟨hk, rfl⟩ := ranged_get hx
    refine ⟨_, rfl, _, rfl, b, _, signs [48, 48, 48, 49, 50, 51, 52, 53, 54, 55, 56, 57], n + 1 + k, rfl, rfl, nofun, by decide, by decide, hB2.at, by omega, fun d C3 hm hB3 => ?_⟩
    unfold signs at hm
    obtain ⟨c, hc, rfl⟩ := List.mem_map.mp hm
    refine ⟨_, rfl, szl ?_, l ++ [c], _, rfl, ?_, ?_, ?_⟩
    · show (l ++ [c]).length ≤ _
      rw [List.length_append, List.length_singleton]; omega
    · rw [List.all_append, hd, List.all_cons, List.all_nil, Bool.and_true, Bool.true_and]
      revert hc
      simp only [List.mem_cons, List.not_mem_nil, or_false]
      rintro (rfl | rfl | rfl | rfl | rfl | rfl | rfl | rfl | rfl | rfl | rfl | rfl) <;> decide
    · rw [List.length_append, hl, List.length_singleton]
    · have := hB2.trans hB3
      exact this.mono (by omega)
  · rintro ρ C2 ⟨l, x, rfl, hd, hl, hB2⟩
    rw [ranged_length] at hl hB2
    exact ⟨_, rfl, _, _, .same, hq _ _ hd (by omega) (by omega) (hB2.mono (by omega))⟩

/-! ### a drawn number text -/
def sp_l_number : DSp := fun ds C Q _ => ∃ b m n, ds = [.ref b, .int (m : Nat)] ∧ 1 ≤ m ∧ m ≤ 1000 ∧ BagAt C b n ∧ n < 1000000000 ∧
  ∀ s w o C', (s = [] ∨ s = [45] ∨ s = [43]) → digs w = true → w.length ≤ m → (∀ p, o = some p → digs p = true ∧ p.length ≤ m) → Bagged C b C' (n + 10000) → Q (.str (s ++ w ++ tailN o)) C'
def td_l_number : DS :=
  (dSeq (dAsg (dCall sp_l_of [] (dCons (dVar 0) (dCons (dLst (dCons (dC (.str [])) (dCons (dC (.str [])) (dCons (dC (.str [])) (dCons (dC (.str [45])) (dCons (dC (.str [43])) dNil)))))) dNil))) (dName 2))
    (dSeq (dAsg (dCall sp_l_digits [] (dCons (dVar 0) (dCons (dC (.int 1)) (dCons (dVar 1) dNil)))) (dName 3))
    (dSeq (dIfS (dTest (dOp rEqD (dCall sp_l_take [] (dCons (dVar 0) (dCons (dC (.int 2)) dNil))) (dC (.int 0)))) (dRet (dAdd (dVar 2) (dVar 3))) dNext)
    (dRet (dAdd (dAdd (dAdd (dVar 2) (dVar 3)) (dC (.str [46]))) (dCall sp_l_digits [] (dCons (dVar 0) (dCons (dC (.int 1)) (dCons (dVar 1) dNil)))))))))
theorem len_l_number (ds : List D) (C : Cl) (Q : DQ) (E : DX) (h : sp_l_number ds C Q E) : ds.length = 2 := by obtain ⟨_, _, _, rfl, _⟩ := h; rfl
theorem digs_of {l : List Nat} (h : l.all isDig = true) (h1 : 1 ≤ l.length) : digs l = true := by
  unfold digs
  rw [h, Bool.and_true]
  cases l with
  | nil => exact absurd h1 (by simp)
  | cons => rfl
theorem pure_l_number (ds : List D) (C : Cl) (Q : DQ) (E : DX) (h : sp_l_number ds C Q E) : td_l_number (endsD Q) (startD ["_law_bag_here", "_law_most", "_law_sign", "_law_before"] ds) C := by
  obtain ⟨b, m, n, rfl, h1, h2, hb, hn, hq⟩ := h
  refine ⟨_, rfl, szl (by simp), b, _, _, n, rfl, rfl, nofun, by simp, by simp, hb, by omega, fun d C1 hm B1 => ?_⟩
  have : ∃ s : List Nat, d = .str s ∧ (s = [] ∨ s = [45] ∨ s = [43]) := by
    simp only [List.mem_cons, List.not_mem_nil, or_false] at hm
    rcases hm with rfl | rfl | rfl | rfl | rfl <;> exact ⟨_, rfl, by simp⟩
  obtain ⟨s, rfl, hs⟩ := this
  have hsl : s.length ≤ 1 := by rcases hs with rfl | rfl | rfl <;> simp
  refine ⟨_, rfl, _, rfl, b, 1, m, n + 1, rfl, by omega, by omega, B1.at, by omega, fun w C2 w1 w2 w3 B2 => ?_⟩
  refine ⟨_, rfl, b, 2, n + 2001, rfl, by omega, by omega, B2.at, by omega, fun i C3 i0 i1 B3 => ?_⟩
  have B3' := (B1.trans B2).trans B3
  refine .inl ⟨_, rfl, _, rfl, ite_d (fun hi => ?_) (fun hi => ?_)⟩
  · refine ⟨_, rfl, _, rfl, _, rfl, szl (by rw [List.length_append]; omega), _, _, .same, ?_⟩
    have := hq s w none C3 hs (digs_of w1 w2) w3 nofun (B3'.mono (by omega))
    rw [tailN, List.append_nil] at this
    exact this
  · refine ⟨_, rfl, _, rfl, _, rfl, szl (by rw [List.length_append]; omega), _, rfl, szl (by simp only [List.length_append, List.length_cons, List.length_nil]; omega), _, rfl, _, rfl, b, 1, m, n + 2002, rfl, by omega, by omega, B3.at, by omega, fun p C4 p1 p2 p3 B4 => ?_⟩
    refine ⟨_, rfl, szl (by simp only [List.length_append, List.length_cons, List.length_nil]; omega), _, _, .same, ?_⟩
    have := hq s w (some p) C4 hs (digs_of w1 w2) w3 (fun q e => by cases e; exact ⟨digs_of p1 p2, p3⟩) ((B3'.trans B4).mono (by omega))
    rw [tailN] at this
    rw [List.append_assoc (s ++ w)]
    exact this
end G
namespace G
open PySem PySem.Spec PyProof.Rows L2
/-! ### the law's own number split -/
local macro_rules | `(tactic| walk_at "d") => `(tactic| dsimp only [dSeq, dAsg, dVar, dC, dOp, dCB, dBM, dBM0, dCons, dNil, dTest, dIf, dAnd, dOr, dNot, dAndV, dOrV, dNotV, dRet, dIfS, dNext, dName, dTup, dLst, dLstC, dCall, dSl, dPart, dNoPart, dUn, dgTup, dgCons, dgNil, dgSub, dDrop, dPar])
theorem flat_txts (ps : List (List Nat)) : (txts ps).all flatD = true := by
  unfold txts
  rw [List.all_map]
  exact List.all_eq_true.mpr fun _ _ => rfl
theorem txts_length (ps : List (List Nat)) : (txts ps).length = ps.length := List.length_map ..
theorem txts_at {ps : List (List Nat)} {i : Int} {k : Nat} (hi : i = (k : Int)) (h : k < ps.length) : atI (txts ps) i = some (.str (ps.getD k [])) := by
  subst hi
  unfold atI ixN
  rw [if_pos (by omega), txts_length, if_pos (by omega)]
  show (txts ps)[(k : Int).toNat]? = _
  unfold txts
  rw [List.getElem?_map, Int.toNat_natCast, List.getD_eq_getElem?_getD, List.getElem?_eq_getElem h]
  rfl
theorem join_le : ∀ (ls : List (List Nat)), (TL.joinL [] ls).length ≤ (ls.map List.length).sum
  | [] => Nat.le_refl _
  | [x] => by simp [TL.joinL]
  | x :: y :: r => by
    have := join_le (y :: r)
    show (x ++ ([] ++ TL.joinL [] (y :: r))).length ≤ _
    rw [List.nil_append, List.length_append, List.map_cons, List.sum_cons]
    omega
end G
namespace G
open PySem PySem.Spec PyProof.Rows L2
/-! ### the law's own shortest -/
theorem wholeN_cons {c : Nat} {l : List Nat} (h : c = 48) (h1 : l ≠ []) : wholeN (c :: l) = wholeN l := by
  unfold wholeN
  rw [List.dropWhile_cons_of_pos (by rw [isZ_iff]; exact h)]
theorem wholeN_one {c : Nat} : wholeN [c] = [c] := by
  unfold wholeN
  by_cases h : c = 48
  · subst h; rfl
  · rw [List.dropWhile_cons_of_neg (by rw [isZ_iff]; exact h)]
    rfl
theorem wholeN_same {c : Nat} {l : List Nat} (h : c ≠ 48) : wholeN (c :: l) = c :: l := by
  unfold wholeN
  rw [List.dropWhile_cons_of_neg (by rw [isZ_iff]; exact h)]
  rfl
theorem ends_one (l : List Nat) : ends [48] l = true ↔ ∃ r, l = r ++ [48] := by
  unfold ends
  rw [Bool.and_eq_true, decide_eq_true_iff, beq_iff_eq]
  constructor
  · rintro ⟨h1, h2⟩
    exact ⟨l.take (l.length - 1), by rw [← h2]; exact (List.take_append_drop _ l).symm⟩
  · rintro ⟨r, rfl⟩
    simp
theorem rdrop_app {r : List Nat} : rdrop isZ (r ++ [48]) = rdrop isZ r := by
  unfold rdrop
  rw [List.reverse_append]
  rfl
theorem rdrop_same {l : List Nat} (h : ends [48] l = false) : rdrop isZ l = l := by
  unfold rdrop
  cases e : l.reverse with
  | nil => rw [List.reverse_eq_nil_iff.mp e]; rfl
  | cons c r =>
    have hl : l = r.reverse ++ [c] := by rw [← List.reverse_reverse l, e, List.reverse_cons]
    have hc : c ≠ 48 := by
      rintro rfl
      have := (ends_one l).mpr ⟨_, hl⟩
      rw [h] at this
      cases this
    rw [List.dropWhile_cons_of_neg (by rw [isZ_iff]; exact hc), List.reverse_cons]
    exact hl.symm
theorem shortN_eq (s w p : List Nat) : shortN s w p = if rdrop isZ p = [] ∧ wholeN w = [48] then [48] else (if s = [45] then [45] else []) ++ wholeN w ++ (if rdrop isZ p ≠ [] then [46] else []) ++ rdrop isZ p := by
  unfold shortN
  dsimp only
  generalize rdrop isZ p = q
  generalize wholeN w = v
  by_cases h1 : q = []
  · subst h1
    rw [if_neg (show ¬ ([] : List Nat) ≠ [] from fun h => h rfl), if_neg (show ¬ ([] : List Nat) ≠ [] from fun h => h rfl)]
    by_cases h2 : v = [48]
    · subst h2
      rw [if_neg (fun h => h.2 rfl), if_pos ⟨rfl, rfl⟩]
    · rw [if_neg (fun h : _ ∧ v = [48] => h2 h.2)]
      by_cases h3 : s = [45]
      · rw [if_pos ⟨h3, h2⟩, if_pos h3, List.append_nil, List.append_nil]; rfl
      · rw [if_neg (fun h => h3 h.1), if_neg h3, List.append_nil, List.append_nil]; rfl
  · rw [if_pos h1, if_pos h1, if_neg (fun h : q = [] ∧ _ => h1 h.1)]
    have hn : v ++ [46] ++ q ≠ [48] := by
      intro h
      have : (46 : Nat) ∈ ([48] : List Nat) := by rw [← h]; simp
      simp at this
    by_cases h3 : s = [45]
    · rw [if_pos ⟨h3, hn⟩, if_pos h3]; rfl
    · rw [if_neg (fun h => h3 h.1), if_neg h3]; rfl
/-! ### the law's own plain form -/
/-! ### plain forms -/
/-- a plain form: its sign, its digits ahead and behind -/
structure Canon (s w p : List Nat) : Prop where
  sg : s = [] ∨ s = [45]
  dw : digs w = true
  ww : wholeN w = w
  dp : p.all isDig = true
  pp : rdrop isZ p = p
  nz : ¬ (s = [45] ∧ w = [48] ∧ p = [])
def canT (s w p : List Nat) : List Nat := s ++ w ++ (if p ≠ [] then 46 :: p else [])
def ptail (p : List Nat) : Option (List Nat) := if p ≠ [] then some p else none
theorem canT_tail (s w p : List Nat) : canT s w p = s ++ w ++ tailN (ptail p) := by
  unfold canT ptail
  split <;> rfl
theorem all_dropWhile {g f : Nat → Bool} {l : List Nat} (h : l.all f = true) : (l.dropWhile g).all f = true := by
  rw [List.all_eq_true] at *
  exact fun x hx => h x ((List.dropWhile_sublist g).subset hx)
theorem all_rdrop {g f : Nat → Bool} {l : List Nat} (h : l.all f = true) : (rdrop g l).all f = true := by
  unfold rdrop
  rw [List.all_reverse]
  exact all_dropWhile (by rw [List.all_reverse]; exact h)
theorem rdrop_idem (l : List Nat) : rdrop isZ (rdrop isZ l) = rdrop isZ l := by
  apply rdrop_same
  cases e : ends [48] (rdrop isZ l) with
  | false => rfl
  | true =>
    obtain ⟨r, hr⟩ := (ends_one _).mp e
    unfold rdrop at hr
    have hr := congrArg List.reverse hr
    rw [List.reverse_reverse, List.reverse_append] at hr
    have : ∀ (x t : List Nat), x.dropWhile isZ ≠ 48 :: t := by
      intro x
      induction x with
      | nil => intro t h; cases h
      | cons c x ih =>
        intro t h
        by_cases hc : isZ c = true
        · rw [List.dropWhile_cons_of_pos hc] at h; exact ih t h
        · rw [List.dropWhile_cons_of_neg hc] at h
          cases h
          exact hc rfl
    exact absurd hr (this _ _)
theorem Canon.short {s w p : List Nat} (h : Canon s w p) {z : List Nat} (hz : rdrop isZ z = p) : shortN s w z = canT s w p := by
  rw [shortN_eq, hz, h.ww]
  unfold canT
  by_cases c : p = [] ∧ w = [48]
  · rw [if_pos c]
    have : s = [] := by
      rcases h.sg with e | e
      · exact e
      · exact absurd ⟨e, c.2, c.1⟩ h.nz
    rw [this, c.1, c.2]; rfl
  · rw [if_neg c, List.append_assoc]
    congr 1
    · congr 1
      rcases h.sg with e | e <;> rw [e] <;> rfl
    · split
      · rfl
      · rename_i h1
        rw [Classical.not_not.mp h1]; rfl
theorem Canon.split {s w p : List Nat} (h : Canon s w p) : splitN (canT s w p) = some (s, w, ptail p) := by
  rw [canT_tail]
  refine splitN_of ?_ h.dw ?_
  · rcases h.sg with e | e
    · exact .inl e
    · exact .inr (.inr e)
  · intro q hq
    unfold ptail at hq
    split at hq
    · rename_i hp
      cases hq
      unfold digs
      rw [h.dp, decide_eq_true hp]; rfl
    · cases hq
theorem ptail_get (p : List Nat) : (ptail p).getD [] = p := by
  unfold ptail
  split
  · rfl
  · rename_i h; exact (Classical.not_not.mp h).symm
theorem Canon.plain {s w p : List Nat} (h : Canon s w p) : plainN (canT s w p) = some (canT s w p) := by
  unfold plainN
  rw [h.split]
  show some (shortN s w ((ptail p).getD [])) = _
  rw [ptail_get, h.short h.pp]
theorem Canon.len {s w p : List Nat} (h : Canon s w p) : (canT s w p).length ≤ w.length + p.length + 2 := by
  unfold canT
  rcases h.sg with e | e <;> rw [e] <;> split <;> simp <;> omega
end G
namespace G
open PySem PySem.Spec PyProof.Rows L2
/-! ### padding -/
structure NumT (s w q : List Nat) : Prop where
  sg : s = [] ∨ s = [45]
  dw : digs w = true
  dq : q.all isDig = true
theorem Canon.num {s w p : List Nat} (h : Canon s w p) : NumT s w p := ⟨h.sg, h.dw, h.dp⟩
section
variable {s w q : List Nat} (h : NumT s w q)
include h
theorem NumT.head : 46 ∉ s ++ w := by
  rw [List.mem_append]
  rintro (z | z)
  · rcases h.sg with e | e <;> rw [e] at z <;> simp at z
  · exact dig_dot h.dw z
theorem NumT.behind : 46 ∉ q := by
  intro z
  have := List.all_eq_true.mp h.dq 46 z
  revert this
  decide
theorem NumT.parts : parts3 (canT s w q) [46] = (s ++ w, if q ≠ [] then [46] else [], q) := by
  unfold canT
  by_cases e : q = []
  · subst e
    show parts3 (s ++ w ++ []) [46] = (s ++ w, [], [])
    rw [List.append_nil, parts_none h.head]
  · rw [if_pos e, if_pos e, parts_dot h.head]
theorem NumT.split : splitN (canT s w q) = some (s, w, ptail q) := by
  rw [canT_tail]
  refine splitN_of ?_ h.dw ?_
  · rcases h.sg with e | e
    · exact .inl e
    · exact .inr (.inr e)
  · intro z hq
    unfold ptail at hq
    split at hq
    · rename_i hp
      cases hq
      unfold digs
      rw [h.dq, decide_eq_true hp]; rfl
    · cases hq
theorem NumT.plain : plainN (canT s w q) = some (shortN s w q) := by
  unfold plainN
  rw [h.split]
  show some (shortN s w ((ptail q).getD [])) = _
  rw [ptail_get]
theorem NumT.len : (canT s w q).length ≤ w.length + q.length + 2 := by
  unfold canT
  rcases h.sg with e | e <;> rw [e] <;> split <;> simp <;> omega
end
theorem rdrop_zeros (p : List Nat) : ∀ n, rdrop isZ (p ++ List.replicate n 48) = rdrop isZ p
  | 0 => by rw [List.replicate_zero, List.append_nil]
  | n + 1 => by rw [List.replicate_succ', ← List.append_assoc, rdrop_app, rdrop_zeros p n]
end G
namespace G
open PySem PySem.Spec PyProof.Rows L2
/-! ### a law: its script, its answer -/
def sp_law : DSp := fun ds C Q _ => ∃ ns : List Int, ds = [.rol (ns.map D.int)] ∧ ns.length ≤ 63 ∧ ∀ C', Q (.bl true) C'
theorem len_law (ds : List D) (C : Cl) (Q : DQ) (E : DX) (h : sp_law ds C Q E) : ds.length = 1 := by obtain ⟨_, rfl, _⟩ := h; rfl
theorem rep_nums {K : PySem.W.Frag} {cl : Nm} {F : Hp} : ∀ ns : List Int, RepL K cl F (ns.map V.int) (ns.map D.int)
  | [] => .nil
  | n :: ns => .cons (.int n) (rep_nums ns)
theorem law_in {K : PySem.W.Frag} {cl : Nm} {H : Hp} {a : Addr} {E : XK} (ns : List Int) (hl : ns.length ≤ 63) (hS : SqL K H a (ns.map V.int)) : lowSp K cl sp_law [.ref a] H (fun v _ => v = .bl true) E :=
  ⟨[.rol (ns.map D.int)], fun _ => none, H, fun d _ => d = .bl true, fun _ _ _ => False, ⟨Same.refl H, fun _ _ e => nomatch e⟩, .cons (.rol hS (rep_nums ns)) .nil, ⟨ns, rfl, hl, fun _ => rfl⟩,
    fun v d C H F' s R r e => by subst e; cases r; rfl, fun _ _ _ _ _ _ _ _ _ _ z => z.elim⟩
/-- range(max(1, min(m, len(script)))) -/
theorem law_rng {ns : List Int} {m : Int} {ρ : DEnv} {C : Cl} {R : List D → Cl → Prop} (h0 : ρ[0]? = some (some (.rol (ns.map D.int)))) (hl : ns.length ≤ 63) (h : ∀ k, k ≤ 63 → R (ranged 0 k) C) :
    diRng1 (dCons (dCB rMax2 (dCons (dC (.int 1)) (dCons (dCB rMin2 (dCons (dC (.int m)) (dCons (dCB rLen (dCons (dVar 0) dNil)) dNil))) dNil))) dNil) ρ C R := by
  refine ⟨_, h0, _, _, rfl, rfl, trivial, _, _, rfl, _, _, rfl, _, rfl, ?_, ?_⟩
  · have : (ns.map D.int).length = ns.length := List.length_map ..
    repeat' split
    all_goals omega
  · refine h _ ?_
    have : (ns.map D.int).length = ns.length := List.length_map ..
    repeat' split
    all_goals omega
end G
namespace G
open PySem PySem.Spec PyProof.Rows L2
/-! ### the classes' addresses -/
def nm1 (c : String) (C : Addr) (r : Nm) : Nm := fun x => if x = c then C else r x
/-- the law's own promise does not look at classes -/
theorem law_cl {K : PySem.W.Frag} {cl cl' : Nm} {vs : List V} {H : Hp} {Q : VK} {E : XK} (h : lowSp K cl sp_law vs H Q E) : lowSp K cl' sp_law vs H Q E := by
  obtain ⟨ds, C, F, Qd, Ed, R, r, ⟨ns, rfl, hl, hq⟩, kq, kx⟩ := h
  cases r with
  | cons r1 rr =>
    cases rr
    cases r1 with
    | rol hs rl =>
      refine ⟨[.rol (ns.map D.int)], fun _ => none, F, fun d _ => d = .bl true, noX, ⟨R.sub, fun _ _ e => nomatch e⟩, .cons (.rol hs ?_) .nil, ⟨ns, rfl, hl, fun _ => rfl⟩, ?_, fun _ _ _ _ _ _ _ _ _ _ z => z.elim⟩
      · clear hl hq hs
        rename_i a xs
        generalize hd : ns.map D.int = ds at rl
        clear kq kx
        induction ns generalizing xs ds with
        | nil => subst hd; cases rl; exact .nil
        | cons n ns ih =>
          subst hd
          cases rl with
          | cons q t => cases q; exact .cons (.int n) (ih _ rfl t)
      · intro v d C2 H2 F2 s2 R2 r2 e
        subst e
        cases r2
        exact kq (.bl true) (.bl true) (fun _ => none) H2 F2 s2 ⟨R2.sub, fun _ _ e => nomatch e⟩ (.bl true) (hq _)
end G
namespace G
open PySem PySem.Spec PyProof.Rows L2
/-! ### lists of drawn things -/
theorem updC_comm {C : Cl} {a b : Addr} {c d : Cell} (h : a ≠ b) : updC (updC C a c) b d = updC (updC C b d) a c := by
  funext x
  unfold updC
  by_cases e : x = a
  · subst e; rw [if_neg h, if_pos rfl, if_pos rfl]
  · rw [if_neg e]
    by_cases e2 : x = b
    · rw [if_pos e2, if_neg e]
    · rw [if_neg e2, if_neg e]
theorem delC_updC {C : Cl} {p : Addr} {c : Cell} (h : C p = none) : delC (updC C p c) p = C := by
  funext x
  unfold delC
  by_cases e : x = p
  · rw [if_pos e, e, h]
  · rw [if_neg e, updC_ne e]
theorem BagAt.ne {C : Cl} {b p : Addr} {n : Nat} (h : BagAt C b n) (e : C p = none) : b ≠ p := by
  rintro rfl
  obtain ⟨x, y, z, hc, _⟩ := h
  rw [e] at hc; cases hc
theorem BagAt.upd {C : Cl} {b p : Addr} {c : Cell} {n : Nat} (h : BagAt C b n) (e : b ≠ p) : BagAt (updC C p c) b n := by
  obtain ⟨x, y, z, hc, g⟩ := h
  exact ⟨x, y, z, by rw [updC_ne e]; exact hc, g⟩
theorem lc_bag {g : DG} {te : DE} {ρ : DEnv} {vs : List Nat} {C1 : Cl} {b : Addr} {n k : Nat} {xs : List D} {Q : DQ} (Y : D → Prop) (hb : BagAt C1 b n) (hl : xs.length ≤ sizeLine)
    (h : ∀ i x C (N : DQ), xs[i]? = some x → BagAt C b (n + i * k) → (∀ a, C1 a ≠ none → a ≠ b → C a = C1 a) → (∀ y C', Y y → Bagged C b C' (n + (i + 1) * k) → N y C') → g x (wipeD ρ vs) C fun ρ2 C2 => te ρ2 C2 N)
    (hq : ∀ ys C', ys.length = xs.length → (∀ y ∈ ys, Y y) → Bagged C1 b C' (n + xs.length * k) → Q (.lst ys) C') :
    ∀ p, C1 p = none → ∃ Pv : Nat → Cl → Prop, Pv 0 (updC C1 p (.lst [])) ∧
      (∀ i x C, xs[i]? = some x → Pv i C → g x (wipeD ρ vs) C fun ρ2 C2 => dYes ρ2 C2 fun b C3 =>
        if b = true then te ρ2 C3 fun y C4 => ∃ acc, C4 p = some (.lst acc) ∧ acc.length < sizeLine ∧ Pv (i + 1) (updC C4 p (.lst (acc ++ [y]))) else Pv (i + 1) C3) ∧
      ∀ C, Pv xs.length C → ∃ a ds, D.ref p = .ref a ∧ C a = some (.lst ds) ∧ Q (.lst ds) (delC C a) := by
  intro p hp
  refine ⟨fun i C => ∃ ys C', C = updC C' p (.lst ys) ∧ ys.length = i ∧ (∀ y ∈ ys, Y y) ∧ Bagged C1 b C' (n + i * k), ⟨[], C1, rfl, rfl, nofun, by rw [Nat.zero_mul]; exact hb.self⟩, ?_, ?_⟩
  · rintro i x C hx ⟨ys, C', rfl, hyl, hY, B⟩
    have bp := hb.ne hp
    have i1 : i < xs.length := (List.getElem?_eq_some_iff.mp hx).1
    refine h i x _ _ hx (B.at.upd bp) (fun a ha hab => ?_) fun y C2 hy B2 => ?_
    · have : a ≠ p := by rintro rfl; exact ha hp
      rw [updC_ne this]
      exact B.ne hab
    · obtain ⟨u1, u2, u3, rfl, G2⟩ := B2
      obtain ⟨v1, v2, v3, rfl, G1⟩ := B
      refine ⟨ys, by rw [updC_ne (Ne.symm bp), updC_same], by omega, ys ++ [y], updC C1 b (bagC u1 u2 u3), ?_, by rw [List.length_append, hyl, List.length_singleton], ?_, ⟨u1, u2, u3, rfl, G2⟩⟩
      · rw [updC_comm (C := updC C1 b (bagC v1 v2 v3)) (Ne.symm bp), updC_updC, updC_updC]
      · intro z hz
        rcases List.mem_append.mp hz with e | e
        · exact hY z e
        · rw [List.mem_singleton.mp e]; exact hy
  · rintro C ⟨ys, C', rfl, hyl, hY, B⟩
    refine ⟨p, ys, rfl, updC_same, ?_⟩
    have bp := hb.ne hp
    rw [delC_updC (by rw [B.ne (Ne.symm bp), hp])]
    exact hq ys C' hyl hY B
/-- drawn texts put together -/
theorem txts_of {P : List Nat → Prop} : ∀ {ys : List D}, (∀ y ∈ ys, ∃ l, y = .str l ∧ P l) → ∃ ls : List (List Nat), ys = txts ls ∧ ∀ l ∈ ls, P l
  | [], _ => ⟨[], rfl, nofun⟩
  | y :: ys, h => by
    obtain ⟨l, rfl, hl⟩ := h y (by simp)
    obtain ⟨ls, rfl, hs⟩ := txts_of (P := P) (ys := ys) fun z hz => h z (by simp [hz])
    exact ⟨l :: ls, rfl, fun z hz => by
      rcases List.mem_cons.mp hz with e | e
      · rw [e]; exact hl
      · exact hs z e⟩
theorem sum_le {m : Nat} : ∀ {ls : List (List Nat)}, (∀ l ∈ ls, l.length ≤ m) → (ls.map List.length).sum ≤ ls.length * m
  | [], _ => Nat.zero_le _
  | l :: ls, h => by
    have := sum_le (m := m) (ls := ls) fun z hz => h z (by simp [hz])
    have := h l (by simp)
    simp only [List.map_cons, List.sum_cons, List.length_cons, Nat.add_mul]
    omega

/-! ### any sign, any text -/
def sgns1 : List Nat := [32, 33, 34, 35, 36, 38, 39, 40, 41, 42, 43, 44, 45, 46, 47, 48, 49, 50, 51, 52, 53, 54, 55, 56, 57, 58, 59, 60, 61, 62, 63, 64, 65, 66, 67, 68, 69, 70, 71, 72, 73, 74, 75, 76, 77, 78, 79, 80, 81, 82, 83, 84, 85, 86, 87, 88, 89, 90, 91, 92, 93, 94, 95]
def sgns2 : List Nat := [96, 97, 98, 99, 100, 101, 102, 103, 104, 105, 106, 107, 108, 109, 110, 111, 112, 113, 114, 115, 116, 117, 118, 119, 120, 121, 122, 123, 124, 125, 126]
def sp_l_signs : DSp := fun ds C Q _ => ds = [] ∧ Q (.str (sgns1 ++ sgns2)) C
def td_l_signs : DS :=
  (dSeq (dAsg (dC (.str [32, 33, 34, 35, 36, 38, 39, 40, 41, 42, 43, 44, 45, 46, 47, 48, 49, 50, 51, 52, 53, 54, 55, 56, 57, 58, 59, 60, 61, 62, 63, 64, 65, 66, 67, 68, 69, 70, 71, 72, 73, 74, 75, 76, 77, 78, 79, 80, 81, 82, 83, 84, 85, 86, 87, 88, 89, 90, 91, 92, 93, 94, 95])) (dName 0))
    (dRet (dAdd (dVar 0) (dC (.str [96, 97, 98, 99, 100, 101, 102, 103, 104, 105, 106, 107, 108, 109, 110, 111, 112, 113, 114, 115, 116, 117, 118, 119, 120, 121, 122, 123, 124, 125, 126])))))
theorem len_l_signs (ds : List D) (C : Cl) (Q : DQ) (E : DX) (h : sp_l_signs ds C Q E) : ds.length = 0 := by obtain ⟨rfl, _⟩ := h; rfl
theorem pure_l_signs (ds : List D) (C : Cl) (Q : DQ) (E : DX) (h : sp_l_signs ds C Q E) : td_l_signs (endsD Q) (startD ["_law_some"] ds) C := by
  obtain ⟨rfl, hq⟩ := h
  exact ⟨_, rfl, _, rfl, szl (by simp), _, _, .same, hq⟩
theorem mem_signs {l : List Nat} {d : D} (h : d ∈ signs l) : ∃ c, d = .str [c] ∧ c ∈ l := by
  unfold signs at h
  obtain ⟨c, hc, rfl⟩ := List.mem_map.mp h
  exact ⟨c, rfl, hc⟩
/-- signs that may stand in a text -/
def okSign (c : Nat) : Bool := decide (32 ≤ c ∧ c ≤ 126) && decide (c ≠ 37)
theorem all_join {p : Nat → Bool} : ∀ {ls : List (List Nat)}, (∀ l ∈ ls, l.all p = true) → (TL.joinL [] ls).all p = true
  | [], _ => rfl
  | [x], h => h x (by simp)
  | x :: y :: r, h => by
    have := all_join (p := p) (ls := y :: r) fun z hz => h z (by simp [hz])
    show (x ++ ([] ++ TL.joinL [] (y :: r))).all p = true
    rw [List.nil_append, List.all_append, h x (by simp), this]
    rfl
theorem dig_ok {l : List Nat} (h : digs l = true) : l.all okSign = true := by
  unfold digs at h
  rw [Bool.and_eq_true] at h
  rw [List.all_eq_true] at h ⊢
  intro c hc
  have := h.2 c hc
  unfold isDig digits10 at this
  have this := of_decide_eq_true this
  simp only [List.mem_cons, List.not_mem_nil, or_false] at this
  rcases this with rfl | rfl | rfl | rfl | rfl | rfl | rfl | rfl | rfl | rfl <;> decide
/-- a text that does not end with eight q -/
def noQ (l : List Nat) : Bool := !(l.reverse.take 8 == List.replicate 8 113)
theorem noQ_of {l : List Nat} (h : l.reverse.take 8 ≠ List.replicate 8 113) : noQ l = true := by
  unfold noQ
  rw [beq_eq_false_iff_ne.mpr h]; rfl
theorem noQ_short {l : List Nat} (h : l.length < 8) : noQ l = true := noQ_of fun e => by
  have := congrArg List.length e
  rw [List.length_take, List.length_reverse, List.length_replicate] at this
  omega
theorem noQ_mem {l : List Nat} (h : 113 ∉ l) : noQ l = true := noQ_of fun e => by
  have : 113 ∈ l.reverse.take 8 := by rw [e]; decide
  exact h (List.mem_reverse.mp (List.mem_of_mem_take this))
theorem noQ_z {l : List Nat} : noQ (l ++ [122]) = true := noQ_of fun e => by
  rw [List.reverse_append] at e
  cases e
theorem dig_noQ {l : List Nat} (h : digs l = true) : 113 ∉ l := fun hm => by
  unfold digs at h
  rw [Bool.and_eq_true] at h
  have := List.all_eq_true.mp h.2 _ hm
  exact absurd this (by decide)
/-- any text of at most thirty signs -/
def sp_l_text : DSp := fun ds C Q _ => ∃ b n, ds = [.ref b] ∧ BagAt C b n ∧ n < 500000000 ∧ ∀ l C', l.length ≤ 30 → l.all okSign = true → noQ l = true → Bagged C b C' (n + 20000) → Q (.str l) C'
def td_l_text : DS :=
  (dSeq (dAsg (dCall sp_l_take [] (dCons (dVar 0) (dCons (dC (.int 5)) dNil))) (dName 1))
    (dSeq (dIfS (dTest (dOp rEqD (dVar 1) (dC (.int 0)))) (dRet (dBM "str" rJoin (dC (.str [])) (dCons (dFz (dLc (diRng1 (dCons (dCall sp_l_take [] (dCons (dVar 0) (dCons (dC (.int 7)) dNil))) dNil)) (dName 2) dYes (dCall sp_l_of [] (dCons (dVar 0) (dCons (dCall sp_l_signs [] dNil) dNil))) [2])) dNil))) dNext)
    (dSeq (dIfS (dTest (dOp rEqD (dVar 1) (dC (.int 1)))) (dRet (dBM "str" rJoin (dC (.str [])) (dCons (dFz (dLc (diRng1 (dCons (dCall sp_l_take [] (dCons (dVar 0) (dCons (dC (.int 7)) dNil))) dNil)) (dName 2) dYes (dCall sp_l_of [] (dCons (dVar 0) (dCons (dC (.str [48, 48, 49, 57, 43, 45, 46, 32])) dNil))) [2])) dNil))) dNext)
    (dSeq (dIfS (dTest (dOp rEqD (dVar 1) (dC (.int 2)))) (dRet (dCall sp_l_of [] (dCons (dVar 0) (dCons (dLst (dCons (dC (.str [])) (dCons (dC (.str [78, 65])) (dCons (dC (.str [121, 101, 115])) (dCons (dC (.str [110, 111])) (dCons (dC (.str [120])) (dCons (dC (.str [116, 114, 117, 101])) (dCons (dC (.str [45])) (dCons (dC (.str [49])) (dCons (dC (.str [48])) (dCons (dC (.str [48, 48])) (dCons (dC (.str [48, 49])) (dCons (dC (.str [49, 46, 48])) (dCons (dC (.str [45, 48])) (dCons (dC (.str [43, 49])) dNil))))))))))))))) dNil)))) dNext)
    (dRet (dCall sp_l_number [] (dCons (dVar 0) (dCons (dC (.int 4)) dNil))))))))
theorem len_l_text (ds : List D) (C : Cl) (Q : DQ) (E : DX) (h : sp_l_text ds C Q E) : ds.length = 1 := by obtain ⟨_, _, rfl, _⟩ := h; rfl
theorem getWipe {ρ : DEnv} {i v : Nat} {d x : D} (h : ρ[i]? = some (some d)) (e : i ≠ v) : ((wipeD ρ [v]).set v (some x))[i]? = some (some d) := by
  show ((ρ.set v none).set v (some x))[i]? = _
  rw [List.getElem?_set_ne (Ne.symm e), List.getElem?_set_ne (Ne.symm e)]
  exact h
/-- [_law_of(bag, things) for turn in range(_law_take(bag, m))] -/
theorem lc_of {src : DE} {ρ : DEnv} {C : Cl} {b : Addr} {n ib iv : Nat} {m : Int} {items : List D} {sv : D} {Q : DQ} (h0 : ρ[ib]? = some (some (.ref b))) (hi : ib ≠ iv) (hb : BagAt C b n) (hn : n < 10000000000) (m0 : 0 < m) (m1 : m ≤ 1000)
    (hs : ∀ ρ' C' (N : DQ), N sv C' → src ρ' C' N) (hv : ∀ C', itemsOf C' sv = some items) (hr : sv ≠ .ref b) (he : items ≠ []) (hl : items.length ≤ 1000000)
    (hq : ∀ ys C', ys.length < m.toNat → (∀ y ∈ ys, y ∈ items) → Bagged C b C' (n + 1001) → Q (.lst ys) C') :
    dFz (dLc (diRng1 (dCons (dCall sp_l_take [] (dCons (dVar ib) (dCons (dC (.int m)) dNil))) dNil)) (dName iv) dYes (dCall sp_l_of [] (dCons (dVar ib) (dCons src dNil))) [iv]) ρ C Q := by
  refine ⟨_, h0, b, m, n, rfl, m0, by omega, hb, by omega, fun i C1 i0 i1 B1 => ?_⟩
  refine ⟨i, rfl, ⟨by omega, by omega⟩, ?_⟩
  refine lc_bag (k := 1) (fun y => y ∈ items) B1.at (by rw [ranged_length]; exact szl (by omega)) (fun i' x C2 N hx hb2 _ hN => ?_) fun ys C2 hyl hY B2 => ?_
  · have hx := (ranged_get hx).1
    refine ⟨_, getWipe h0 hi, hs _ _ _ ⟨b, sv, items, _, rfl, hv _, hr, he, hl, hb2, by omega, fun d C3 hd B3 => hN d C3 hd (B3.mono (by omega))⟩⟩
  · rw [ranged_length] at hyl B2
    exact hq ys C2 (by omega) hY ((B1.trans B2).mono (by omega))
theorem pure_l_text (ds : List D) (C : Cl) (Q : DQ) (E : DX) (h : sp_l_text ds C Q E) : td_l_text (endsD Q) (startD ["_law_bag_here", "_law_road", "_law_turn"] ds) C := by
  obtain ⟨b, n, rfl, hb, hn, hq⟩ := h
  refine ⟨_, rfl, b, 5, n, rfl, by decide, by decide, hb, by omega, fun i C1 i0 i1 B1 => ?_⟩
  have fin : ∀ (zs : List Nat), zs.all okSign = true → ∀ ys C2, (ys : List D).length < 7 → (∀ y ∈ ys, y ∈ signs zs) → Bagged C1 b C2 (n + 1 + 1001) → (fun x C2 => dNil [some (.ref b), some (.int i), none] C2 fun xs C3 => rJoin (.str []) (x :: xs) C3 (endsD Q).rt) (.lst ys) C2 := by
    intro zs zok ys C2 hyl hY B2
    obtain ⟨ls, rfl, hs⟩ := txts_of (P := fun l => l.length ≤ 1 ∧ l.all okSign = true) fun y hy => by
      obtain ⟨c, rfl, hc⟩ := mem_signs (hY y hy)
      exact ⟨[c], rfl, by simp, by rw [List.all_cons, List.all_nil, Bool.and_true]; exact List.all_eq_true.mp zok c hc⟩
    rw [txts_length] at hyl
    have h1 := sum_le fun l hl => (hs l hl).1
    have h3 := all_join fun l hl => (hs l hl).2
    have h2 := join_le ls
    exact ⟨[], _, ls, rfl, rfl, rfl, by simp only [List.length_nil, Nat.mul_zero]; omega, _, _, .same, hq _ _ (by omega) h3 (noQ_short (by omega)) ((B1.trans B2).mono (by omega))⟩
  refine ⟨_, rfl, .inl ⟨_, rfl, _, rfl, ite_d (fun h => ?_) (fun h => ?_)⟩⟩
  · exact ⟨rfl, lc_of (items := signs (sgns1 ++ sgns2)) (sv := .str (sgns1 ++ sgns2)) rfl (by decide) B1.at (by omega) (by decide) (by decide) (fun ρ' C' N h => ⟨rfl, h⟩) (fun _ => rfl) nofun (by decide) (by decide) (fin _ (by decide))⟩
  refine ⟨_, rfl, .inl ⟨_, rfl, _, rfl, ite_d (fun h => ?_) (fun h => ?_)⟩⟩
  · exact ⟨rfl, lc_of (items := signs [48, 48, 49, 57, 43, 45, 46, 32]) (sv := .str [48, 48, 49, 57, 43, 45, 46, 32]) rfl (by decide) B1.at (by omega) (by decide) (by decide) (fun ρ' C' N h => h) (fun _ => rfl) nofun (by decide) (by decide) (fin _ (by decide))⟩
  refine ⟨_, rfl, .inl ⟨_, rfl, _, rfl, ite_d (fun h => ?_) (fun h => ?_)⟩⟩
  · refine ⟨_, rfl, szl (by simp), b, _, _, n + 1, rfl, rfl, nofun, by simp, by simp, B1.at, by omega, fun d C2 hm B2 => ?_⟩
    have : ∃ l, d = .str l ∧ (l.length ≤ 30 ∧ l.all okSign = true ∧ noQ l = true) := by
      have all : ([.str [], .str [78, 65], .str [121, 101, 115], .str [110, 111], .str [120], .str [116, 114, 117, 101], .str [45], .str [49], .str [48], .str [48, 48], .str [48, 49], .str [49, 46, 48], .str [45, 48], .str [43, 49]] : List D) = txts [[], [78, 65], [121, 101, 115], [110, 111], [120], [116, 114, 117, 101], [45], [49], [48], [48, 48], [48, 49], [49, 46, 48], [45, 48], [43, 49]] := rfl
      rw [all] at hm
      obtain ⟨l, hl, rfl⟩ := List.mem_map.mp hm
      refine ⟨l, rfl, ?_⟩
      clear hm all
      revert l
      decide
    obtain ⟨l, rfl, hl⟩ := this
    exact ⟨_, _, .same, hq _ _ hl.1 hl.2.1 hl.2.2 ((B1.trans B2).mono (by omega))⟩
  · refine ⟨_, rfl, b, 4, n + 1, rfl, by decide, by decide, B1.at, by omega, fun s w o C2 hs hw hwl ho B2 => ⟨_, _, .same, hq _ _ ?_ ?_ ?_ ((B1.trans B2).mono (by omega))⟩⟩
    rotate_left
    rotate_left
    · refine noQ_mem fun hm => ?_
      simp only [List.mem_append] at hm
      rcases hm with (hm | hm) | hm
      · rcases hs with rfl | rfl | rfl <;> simp at hm
      · exact dig_noQ hw hm
      · cases o with
        | none => simp [tailN] at hm
        | some p => simp only [tailN, List.mem_cons] at hm; rcases hm with e | e; (· cases e); exact dig_noQ (ho p rfl).1 e
    rotate_left
    · rw [List.all_append, List.all_append, dig_ok hw]
      have h4 : s.all okSign = true := by rcases hs with rfl | rfl | rfl <;> decide
      have h5 : (tailN o).all okSign = true := by
        cases o with
        | none => rfl
        | some p => show (46 :: p).all okSign = true; rw [List.all_cons, dig_ok (ho p rfl).1]; decide
      rw [h4, h5]; rfl
    have : (tailN o).length ≤ 5 := by
      cases o with
      | none => simp [tailN]
      | some p => have := (ho p rfl).2; simp only [tailN, List.length_cons]; omega
    have hsl : s.length ≤ 1 := by rcases hs with rfl | rfl | rfl <;> simp
    simp only [List.length_append]
    omega
end G
namespace GS
open PySem PySem.Spec PyProof.Rows
/-! ### set(texts): how many different ones -/
/-- the number of different texts of a list, told from its end -/
def dcR : List Str → Nat
  | [] => 0
  | x :: r => if r.any (· == x) then dcR r else dcR r + 1
theorem dcR_le : ∀ l : List Str, dcR l ≤ l.length
  | [] => Nat.le_refl _
  | x :: r => by
    have := dcR_le r
    unfold dcR
    split <;> rw [List.length_cons] <;> omega
abbrev Has (xs : List Str) (i : Nat) : Str → Bool := fun y => (xs.take i).any (· == y)
section
variable {prog : Program} {w : World} {A : Around} {R : Result → Shared → Prop} {I : Addr} {fp wr : List Addr} {G : Array GenState → Array GenState → Prop} {n : Nat} {P : Nat → Value → Prop} {St : Nat → Shared → Prop}
theorem fill (W : WalksS prog w A.in1 I fp wr G n P St) (Z : Addr) (nz : Z ∉ fp) (xs : List Str) (hn : xs.length = n) (few : n + 1 < scanBound) (read : ∀ i v, P i v → ∃ t, v = .str (xs.getD i Str.empty) t) :
    ∀ (left i : Nat) (q : Shared), n - i = left → i ≤ n → St i q → q.heap.SetOf (PySem.strKind prog w) Z (Has xs i) (dcR (xs.take i).reverse) →
      (∀ q', Moved (Z :: wr) G q q' → q'.heap.SetOf (PySem.strKind prog w) Z (Has xs n) (dcR (xs.take n).reverse) → R (.ok (.ret .none)) q') → codeAny (model prog w) A (.builtin "set.update.loop" ⟨[.ref Z, .ref I], []⟩) R q := by
  have nw : Z ∉ wr := fun z => nz (W.sub _ z)
  have up : ∀ b ∈ wr, b ∈ Z :: wr := fun b => List.mem_cons_of_mem _
  intro left
  induction left with
  | zero =>
    intro i q e1 e2 st so out
    obtain rfl : i = n := by omega
    refine codeAny_builtin (PyProof.Rows.F.entry_set_update_loop) ?_
    rw [Around.under_plainId (PyProof.Rows.F.plain_set_update_loop) _]
    show wpAny _ A.in1 (pyNext (Value.ref I) >>= _) _ _ q
    refine wpAny_bind (W.done q _ _ st fun q' mv => ?_)
    show wpAny _ A.in1 (ret (Value.none)) _ _ q'
    refine wpAny_pure (out q' (mv.mono up) ?_)
    obtain ⟨o, es, ep, t, ho, more⟩ := so
    exact ⟨o, es, ep, t, mv.heap Z _ nw ho, more⟩
  | succ left ih =>
    intro i q e1 e2 st so out
    have lt : i < n := by omega
    refine codeAny_builtin (PyProof.Rows.F.entry_set_update_loop) ?_
    rw [Around.under_plainId (PyProof.Rows.F.plain_set_update_loop) _]
    show wpAny _ A.in1 (pyNext (Value.ref I) >>= _) _ _ q
    refine wpAny_bind (W.item i q _ _ lt st fun v q' pv st' mv => ?_)
    obtain ⟨t, rfl⟩ := read i v pv
    have so' : q'.heap.SetOf (PySem.strKind prog w) Z (Has xs i) (dcR (xs.take i).reverse) := by
      obtain ⟨o, es, ep, tb, ho, more⟩ := so
      exact ⟨o, es, ep, tb, mv.heap Z _ nw ho, more⟩
    show wpAny _ A.in1 (holding [Value.str (xs.getD i Str.empty) t] (setAdd Z (Value.str (xs.getD i Str.empty) t)) >>= _) _ _ q'
    refine wpAny_bind (wpAny_holding ?_)
    unfold setAdd
    refine wpAny_holding (wpAny_bind ((PySem.strKind prog w).pyHash (k := xs.getD i Str.empty) (strKind_is _ _ _ _) ?_))
    have room : dcR (xs.take i).reverse + 1 < scanBound := by
      have := dcR_le (xs.take i).reverse
      rw [List.length_reverse, List.length_take] at this
      omega
    refine wpAny_setAddHashed_of (s := { q' with toks := q'.toks + 1 }) (knd := PySem.strKind prog w) (strKind_is _ _ _ _) rfl so' room fun h' same so2 => ?_
    have tk : xs.take (i + 1) = xs.take i ++ [xs.getD i Str.empty] := by
      have li : i < xs.length := by omega
      rw [List.take_add_one, List.getElem?_eq_getElem li, List.getD_eq_getElem?_getD, List.getElem?_eq_getElem li]
      rfl
    have so3 : h'.SetOf (PySem.strKind prog w) Z (Has xs (i + 1)) (dcR (xs.take (i + 1)).reverse) := by
      refine SetOf_congr so2 (fun y => ?_) ?_
      · show ((xs.take i).any (· == y) || decide (y = xs.getD i Str.empty)) = (xs.take (i + 1)).any (· == y)
        rw [tk, List.any_append, List.any_cons, List.any_nil, Bool.or_false]
        congr 1
        rw [Bool.eq_iff_iff, decide_eq_true_iff, beq_iff_eq]
        exact eq_comm
      · rw [tk, List.reverse_append]
        show (if (xs.take i).any (· == xs.getD i Str.empty) then _ else _) = (if (xs.take i).reverse.any (· == xs.getD i Str.empty) then dcR (xs.take i).reverse else dcR (xs.take i).reverse + 1)
        rw [List.any_reverse]
    refine wpAny_pure ⟨plainId_quiet (PyProof.Rows.F.plain_set_update_loop) _, ih (i + 1) _ (by omega) lt (W.frame _ q' _ _ st' (Nat.le_succ _) fun b hb o eo => ?_) so3 fun q2 mv2 so4 => out q2 (Moved.trans W.gtrans ((mv.mono up).then_heap (Nat.le_succ _) fun b o hb eo => ?_) mv2) so4⟩
    · rw [same.2 b fun z : b = Z => nz (z ▸ hb)]
      exact eo
    · rw [same.2 b fun z : b = Z => hb (z ▸ List.mem_cons_self)]
      exact eo
end
section
variable {prog : Program} {w : World} {A : Around} {E : Value → Shared → Prop} {s : Shared}
set_option maxHeartbeats 3200000 in
theorem call_set_list {l : Addr} {items : Array Value} {xs : List Str} {Q : Value → Shared → Prop} (no : A.handled = none) (al : s.heap.IsList l items) (are : PyProof.Rows.StrsAre items.toList xs) (few : items.size + 1 < scanBound)
    (got : ∀ (h' : Heap) (tk : Nat), h'.SetOf (PySem.strKind prog w) s.heap.objs.size (Has xs items.size) (dcR (xs.take items.size).reverse) → (∀ b o, b < s.heap.objs.size → s.heap.get? b = some o → h'.get? b = some o) → Q (.ref s.heap.objs.size) { s with heap := h', toks := tk }) :
    wpAny (model prog w) A (call (.type "set") [.ref l]) Q E s := by
  obtain ⟨_, _, mro⟩ := PySem.F.called_set.mro
  have f1 := PySem.F.called_set.made
  have f2 := PySem.F.called_set.sub
  have f3 := PySem.F.called_set.notType
  have f4 := PySem.F.called_set.canCreate
  have f5 := PySem.F.typeCall_set_1 (Value.ref l)
  refine wpAny_call (codeAny_of_tree ?_)
  show wpAny _ _ (callAny (.type "set") _) _ _ _
  refine wpAny_pure ⟨Code.quiet_builtin _ (by decide +kernel), codeAny_builtin (PySem.F.entry_type_call) ?_⟩
  rw [Around.under_plain (weight_type_call_type "set" [Value.ref l] []) rfl]
  repeat (any_goals (first | assumption | wp_step))
  refine codeAny_mono (code_set_new_1 (Value.ref l) (E := E) (Q₁ := fun z s1 => ∃ led : Bool, z = .ref s.heap.objs.size ∧ s1 = { s with heap := s.heap.push { cls := .type "set", dict := none, data := .set #[] 0 (.fresh 0 0 led) } }) fun led => ⟨led, rfl, rfl⟩) fun r1 s1 e1 => ?_
  cases r1 with
  | error _ => exact e1
  | ok fl =>
    cases fl with
    | next => exact e1.elim
    | brk => exact e1.elim
    | cont => exact e1.elim
    | ret z =>
      obtain ⟨led, rfl, rfl⟩ := e1
      have az : (s.heap.push ({ cls := .type "set", dict := none, data := .set #[] 0 (.fresh 0 0 led) } : Obj)).get? s.heap.objs.size = some ({ cls := .type "set", dict := none, data := .set #[] 0 (.fresh 0 0 led) } : Obj) := Heap.get?_push_size _ rfl
      have tz : Shared.TypeIs { s with heap := s.heap.push ({ cls := .type "set", dict := none, data := .set #[] 0 (.fresh 0 0 led) } : Obj) } (.ref s.heap.objs.size) "set" := ⟨_, az, rfl⟩
      have f6 := PySem.F.called_set.init.lookup
      have f7 := PySem.F.called_set.init.bind (Value.ref s.heap.objs.size)
      repeat (any_goals (first | assumption | wp_step))
      refine codeAny_mono (codeAny_call_builtin (R := wants (fun r2 s2 => r2 = .none ∧ ∃ h' tk, s2 = { s with heap := h', toks := tk } ∧ h'.SetOf (PySem.strKind prog w) s.heap.objs.size (Has xs items.size) (dcR (xs.take items.size).reverse) ∧ ∀ b o, b < s.heap.objs.size → s.heap.get? b = some o → h'.get? b = some o) E) (PySem.F.called_set.init.plain) (PySem.F.entry_set_init) (check_set_init_1 tz ?_)) fun r2 s2 e2 => ?_
      · obtain ⟨⟨oc, od, oa, ob⟩, at0, c0, n0, d0⟩ := al
        dsimp only at c0 d0
        subst c0 d0
        have at1 : (s.heap.push ({ cls := .type "set", dict := none, data := .set #[] 0 (.fresh 0 0 led) } : Obj)).get? l = some { cls := .type "list", dict := od, data := .seq items n0, slots := ob } := Heap.get?_push_of_some _ at0
        have g1 := PySem.F.sub_list_set
        have g2 := PySem.F.sub_list_frozenset
        have g3 : (Value.type "list" == Value.type "dict") = false := by decide
        have at2 : (s.heap.push ({ cls := .type "set", dict := none, data := .set #[] 0 (.fresh 0 0 led) } : Obj)).IsList l items := ⟨_, at1, rfl, n0, rfl⟩
        unfold Builtin.«set.__init__» noKeywords Builtin.Frozenset.updateFrom
        generalize hit : pyIter = walkIt
        wp_walk
        subst hit
        refine wpAny_pyIter_list at2 ?_
        refine (wpAny_bind (wpAny_runValue ?_))
        have ll := Heap.lt_size at0
        have z1 : (s.heap.push ({ cls := .type "set", dict := none, data := .set #[] 0 (.fresh 0 0 led) } : Obj)).objs.size = s.heap.objs.size + 1 := Heap.size_push ..
        have len := (StrsAre.len_eq are).symm
        rw [Array.length_toList] at len
        refine fill ((Walks.list (show A.in1.in1.in1.handled = none by simp [no]) _ l (by rw [z1]; exact Nat.ne_of_lt (Nat.lt_succ_of_lt ll)) items).toS) s.heap.objs.size (by rw [z1]; simp only [List.mem_cons, List.not_mem_nil, or_false, not_or]; exact ⟨Nat.ne_of_lt (Nat.lt_succ_self _), Nat.ne_of_gt ll⟩) xs len few
          (fun i v hv => SS.strs_at are i v (by rw [Array.getElem?_toList]; exact hv)) (items.size - 0) 0 _ (by omega) (Nat.zero_le _) ⟨⟨_, Heap.get?_push_size _ rfl, rfl, rfl⟩, at2.push _⟩ ?at0 ?end0
        case at0 =>
          refine PyProof.Rows.SetOf_congr ((PyProof.Rows.setObjOf_fresh (knd := PySem.strKind prog w) led).setOf (a := s.heap.objs.size) ?_ (by unfold scanBound; omega)) (fun _ => rfl) rfl
          exact Heap.get?_push_of_some _ az
        case end0 =>
          rintro ⟨h9, g9, d9, t9, o9⟩ mv so9
          obtain rfl : g9 = s.gens := mv.gens
          obtain rfl : d9 = s.drawn := mv.drawn
          obtain rfl : o9 = s.os := mv.os
          refine wpAny_pure ?_
          show wpAny _ _ (ret (Value.none)) _ _ _
          refine wpAny_pure ⟨rfl, h9, t9, rfl, so9, fun b o hb eo => mv.heap b o ?_ (Heap.get?_push_of_some _ (Heap.get?_push_of_some _ eo))⟩
          rw [z1]
          simp only [List.mem_cons, List.not_mem_nil, or_false, not_or]
          exact ⟨Nat.ne_of_lt hb, Nat.ne_of_lt (Nat.lt_succ_of_lt hb)⟩
      · cases r2 with
        | error _ => exact e2
        | ok fl2 =>
          cases fl2 with
          | next => exact e2.elim
          | brk => exact e2.elim
          | cont => exact e2.elim
          | ret r =>
            obtain ⟨rfl, h9, t9, rfl, so9, kp⟩ := e2
            repeat (any_goals (first | assumption | wp_step))
            exact got _ _ so9 kp
set_option maxHeartbeats 3200000 in
theorem call_set_tuple {l : Addr} {items : Array Value} {xs : List Str} {Q : Value → Shared → Prop} (no : A.handled = none) (al : s.heap.IsTuple l items) (are : PyProof.Rows.StrsAre items.toList xs) (few : items.size + 1 < scanBound)
    (got : ∀ (h' : Heap) (tk : Nat), h'.SetOf (PySem.strKind prog w) s.heap.objs.size (Has xs items.size) (dcR (xs.take items.size).reverse) → (∀ b o, b < s.heap.objs.size → s.heap.get? b = some o → h'.get? b = some o) → Q (.ref s.heap.objs.size) { s with heap := h', toks := tk }) :
    wpAny (model prog w) A (call (.type "set") [.ref l]) Q E s := by
  obtain ⟨_, _, mro⟩ := PySem.F.called_set.mro
  have f1 := PySem.F.called_set.made
  have f2 := PySem.F.called_set.sub
  have f3 := PySem.F.called_set.notType
  have f4 := PySem.F.called_set.canCreate
  have f5 := PySem.F.typeCall_set_1 (Value.ref l)
  refine wpAny_call (codeAny_of_tree ?_)
  show wpAny _ _ (callAny (.type "set") _) _ _ _
  refine wpAny_pure ⟨Code.quiet_builtin _ (by decide +kernel), codeAny_builtin (PySem.F.entry_type_call) ?_⟩
  rw [Around.under_plain (weight_type_call_type "set" [Value.ref l] []) rfl]
  repeat (any_goals (first | assumption | wp_step))
  refine codeAny_mono (code_set_new_1 (Value.ref l) (E := E) (Q₁ := fun z s1 => ∃ led : Bool, z = .ref s.heap.objs.size ∧ s1 = { s with heap := s.heap.push { cls := .type "set", dict := none, data := .set #[] 0 (.fresh 0 0 led) } }) fun led => ⟨led, rfl, rfl⟩) fun r1 s1 e1 => ?_
  cases r1 with
  | error _ => exact e1
  | ok fl =>
    cases fl with
    | next => exact e1.elim
    | brk => exact e1.elim
    | cont => exact e1.elim
    | ret z =>
      obtain ⟨led, rfl, rfl⟩ := e1
      have az : (s.heap.push ({ cls := .type "set", dict := none, data := .set #[] 0 (.fresh 0 0 led) } : Obj)).get? s.heap.objs.size = some ({ cls := .type "set", dict := none, data := .set #[] 0 (.fresh 0 0 led) } : Obj) := Heap.get?_push_size _ rfl
      have tz : Shared.TypeIs { s with heap := s.heap.push ({ cls := .type "set", dict := none, data := .set #[] 0 (.fresh 0 0 led) } : Obj) } (.ref s.heap.objs.size) "set" := ⟨_, az, rfl⟩
      have f6 := PySem.F.called_set.init.lookup
      have f7 := PySem.F.called_set.init.bind (Value.ref s.heap.objs.size)
      repeat (any_goals (first | assumption | wp_step))
      refine codeAny_mono (codeAny_call_builtin (R := wants (fun r2 s2 => r2 = .none ∧ ∃ h' tk, s2 = { s with heap := h', toks := tk } ∧ h'.SetOf (PySem.strKind prog w) s.heap.objs.size (Has xs items.size) (dcR (xs.take items.size).reverse) ∧ ∀ b o, b < s.heap.objs.size → s.heap.get? b = some o → h'.get? b = some o) E) (PySem.F.called_set.init.plain) (PySem.F.entry_set_init) (check_set_init_1 tz ?_)) fun r2 s2 e2 => ?_
      · obtain ⟨⟨oc, od, oa, ob⟩, at0, c0, n0, d0⟩ := al
        dsimp only at c0 d0
        subst c0 d0
        have at1 : (s.heap.push ({ cls := .type "set", dict := none, data := .set #[] 0 (.fresh 0 0 led) } : Obj)).get? l = some { cls := .type "tuple", dict := od, data := .seq items n0, slots := ob } := Heap.get?_push_of_some _ at0
        have g1 := PySem.F.sub_tuple_set
        have g2 := PySem.F.sub_tuple_frozenset
        have g3 : (Value.type "tuple" == Value.type "dict") = false := by decide
        have at2 : (s.heap.push ({ cls := .type "set", dict := none, data := .set #[] 0 (.fresh 0 0 led) } : Obj)).IsTuple l items := ⟨_, at1, rfl, n0, rfl⟩
        unfold Builtin.«set.__init__» noKeywords Builtin.Frozenset.updateFrom
        generalize hit : pyIter = walkIt
        wp_walk
        subst hit
        refine wpAny_pyIter_tuple at2 ?_
        refine (wpAny_bind (wpAny_runValue ?_))
        have ll := Heap.lt_size at0
        have z1 : (s.heap.push ({ cls := .type "set", dict := none, data := .set #[] 0 (.fresh 0 0 led) } : Obj)).objs.size = s.heap.objs.size + 1 := Heap.size_push ..
        have len := (StrsAre.len_eq are).symm
        rw [Array.length_toList] at len
        refine fill ((Walks.tuple (show A.in1.in1.in1.handled = none by simp [no]) _ l (by rw [z1]; exact Nat.ne_of_lt (Nat.lt_succ_of_lt ll)) items).toS) s.heap.objs.size (by rw [z1]; simp only [List.mem_cons, List.not_mem_nil, or_false, not_or]; exact ⟨Nat.ne_of_lt (Nat.lt_succ_self _), Nat.ne_of_gt ll⟩) xs len few
          (fun i v hv => SS.strs_at are i v (by rw [Array.getElem?_toList]; exact hv)) (items.size - 0) 0 _ (by omega) (Nat.zero_le _) ⟨⟨_, Heap.get?_push_size _ rfl, rfl, rfl⟩, at2.push _⟩ ?at0 ?end0
        case at0 =>
          refine PyProof.Rows.SetOf_congr ((PyProof.Rows.setObjOf_fresh (knd := PySem.strKind prog w) led).setOf (a := s.heap.objs.size) ?_ (by unfold scanBound; omega)) (fun _ => rfl) rfl
          exact Heap.get?_push_of_some _ az
        case end0 =>
          rintro ⟨h9, g9, d9, t9, o9⟩ mv so9
          obtain rfl : g9 = s.gens := mv.gens
          obtain rfl : d9 = s.drawn := mv.drawn
          obtain rfl : o9 = s.os := mv.os
          refine wpAny_pure ?_
          show wpAny _ _ (ret (Value.none)) _ _ _
          refine wpAny_pure ⟨rfl, h9, t9, rfl, so9, fun b o hb eo => mv.heap b o ?_ (Heap.get?_push_of_some _ (Heap.get?_push_of_some _ eo))⟩
          rw [z1]
          simp only [List.mem_cons, List.not_mem_nil, or_false, not_or]
          exact ⟨Nat.ne_of_lt hb, Nat.ne_of_lt (Nat.lt_succ_of_lt hb)⟩
      · cases r2 with
        | error _ => exact e2
        | ok fl2 =>
          cases fl2 with
          | next => exact e2.elim
          | brk => exact e2.elim
          | cont => exact e2.elim
          | ret r =>
            obtain ⟨rfl, h9, t9, rfl, so9, kp⟩ := e2
            repeat (any_goals (first | assumption | wp_step))
            exact got _ _ so9 kp
end
end GS
namespace G
open PySem PySem.Spec PyProof.Rows L2
/-! ### len(set(texts)) -/
/-- the number of different texts, told from the end -/
def dcN : List (List Nat) → Nat
  | [] => 0
  | x :: r => if r.any (· == x) then dcN r else dcN r + 1
theorem mk_beq (a b : List Nat) : ((⟨a.toArray⟩ : Str) == ⟨b.toArray⟩) = (a == b) := by
  rw [Bool.eq_iff_iff, beq_iff_eq, beq_iff_eq]
  exact ⟨fun h => by injection h with h; exact congrArg Array.toList h, fun h => by rw [h]⟩
theorem dcN_eq : ∀ l : List (List Nat), GS.dcR (l.map fun x => (⟨x.toArray⟩ : Str)) = dcN l
  | [] => rfl
  | x :: r => by
    rw [List.map_cons]
    unfold GS.dcR dcN
    rw [dcN_eq r, List.any_map]
    have : ((fun y : Str => y == ⟨x.toArray⟩) ∘ fun x : List Nat => (⟨x.toArray⟩ : Str)) = fun y => y == x := by
      funext y
      exact mk_beq y x
    rw [this]
theorem dcN_le : ∀ l : List (List Nat), dcN l ≤ l.length
  | [] => Nat.le_refl _
  | x :: r => by
    have := dcN_le r
    unfold dcN
    split <;> rw [List.length_cons] <;> omega
theorem dcN_nodup : ∀ l : List (List Nat), dcN l = l.length ↔ l.Nodup
  | [] => by simp [dcN]
  | x :: r => by
    have h1 := dcN_le r
    have h2 := dcN_nodup r
    rw [List.nodup_cons, List.length_cons]
    unfold dcN
    by_cases c : x ∈ r
    · have : (r.any (· == x)) = true := List.any_eq_true.mpr ⟨x, c, beq_self_eq_true x⟩
      rw [if_pos this]
      exact ⟨fun e => by omega, fun e => absurd c e.1⟩
    · have : ¬ (r.any (· == x)) = true := fun h => by
        obtain ⟨y, hy, e⟩ := List.any_eq_true.mp h
        exact c ((beq_iff_eq.mp e) ▸ hy)
      rw [if_neg this]
      exact ⟨fun e => ⟨c, h2.mp (by omega)⟩, fun e => by rw [h2.mpr e.2]⟩
def dLenSet (te : DE) : DE := fun ρ C Q => te ρ C fun x C1 => ∃ ls, seqOf C1 x = some (txts ls) ∧ ls.length ≤ 4000 ∧ Q (.int (dcN ls.reverse : Nat)) C1
theorem strs_of {K : PySem.W.Frag} {cl : Nm} {F : Hp} : ∀ {ls : List (List Nat)} {xs : List V} {us : List Value}, RepL K cl F xs (txts ls) → Vals xs us → PyProof.Rows.StrsAre us (ls.map fun x => (⟨x.toArray⟩ : Str))
  | [], _, _, .nil, .nil => .nil
  | l :: ls, _, _, .cons h r, .cons u t => by
    cases h
    obtain ⟨k, rfl⟩ := u
    exact .cons _ k (strs_of r t)
theorem de_lenSet {X : Cx} {cl : NmB} {a : Expr} {te : DE} {p p2 q pos : Pos} (hm : X.mg "len" = none) (hm2 : X.mg "set" = none) (he : PEd X cl a te) (hc : X.calm = true := by rfl) (hg : Gl X "len" := by rfl) (hg2 : Gl X "set" := by rfl)
    (na : starEach [a] X.env = (false, eval a X.env) :: starEach [] X.env := by rfl) : PEd X cl (.Call (.Name "len" p) [.Call (.Name "set" p2) [a] [] q] [] pos) (dLenSet te) := by
  refine ⟨fun pins s σ H Q I ⟨ρ, C, F, Qd, R, h, kq⟩ => ?_⟩
  refine Call_ (ld_blt I hg hm boot_len (PyProof.Rows.callWith_builtin1 (PyProof.Rows.args_cons ?_ rfl) rfl rfl))
  refine Call_ (ld_blt I hg2 hm2 boot_set (PyProof.Rows.callWith_type1 (PyProof.Rows.args_cons (thn (he.run pins s σ H (fun v H1 => ∃ d C1 F1, Same F F1 ∧ RC X.K cl C1 F1 H1 ∧ Rep X.K cl F1 v d ∧ ∃ ls, seqOf C1 d = some (txts ls) ∧ ls.length ≤ 4000 ∧ Qd (.int (dcN ls.reverse : Nat)) C1) I
    ⟨ρ, C, F, _, R, h, fun v d C1 H1 F1 s1 R1 r1 q1 => ⟨d, C1, F1, s1, R1, r1, q1⟩⟩) fun u s1 ⟨v, H1, I1, rv, d, C1, F1, s1', R1, r1, ls, hs, hl, q1⟩ => PyProof.Rows.args_nil ?_) na) na rfl))
  obtain ⟨b, xs, rfl, hq, rl⟩ := seq_ok R1 r1 hs
  cases rv
  have nx : xs.length = ls.length := by rw [rl.length]; exact List.length_map ..
  have fin : ∀ (its : List Value), Vals xs its → ∀ (h' : Heap) (tk : Nat), h'.SetOf (PySem.strKind X.prog X.w) s1.heap.objs.size (GS.Has (ls.map fun x => (⟨x.toArray⟩ : Str)) its.toArray.size) (GS.dcR ((ls.map fun x => (⟨x.toArray⟩ : Str)).take its.toArray.size).reverse) →
      (∀ b o, b < s1.heap.objs.size → s1.heap.get? b = some o → h'.get? b = some o) →
      wpAny (model X.prog X.w) X.A (spliced (backTo pos (starEach [] X.env))) (fun vs s₂ => wpAny (model X.prog X.w) X.A (call (.builtin "len") (Value.ref s1.heap.objs.size :: vs)) (EP X pins σ Q) X.xe s₂) X.xe { s1 with heap := h', toks := tk } := fun its r h' tk hS hk => by
    refine PyProof.Rows.args_nil ?_
    have e1 : its.toArray.size = (ls.map fun x => (⟨x.toArray⟩ : Str)).length := by rw [List.size_toArray, ← r.length, nx, List.length_map]
    rw [e1, List.take_length, ← List.map_reverse, dcN_eq] at hS
    obtain ⟨o, es, ep, t, ho, hex, hd, _, _, _, hf, hn⟩ := hS
    have I2 : Inv X pins σ H1 { s1 with heap := h', toks := tk } := I1.kept fun b o e => hk b o (Heap.lt_size e) e
    have := dcN_le ls.reverse
    rw [List.length_reverse] at this
    refine call_len_set ho hex hd hf (by rw [hn]; omega) ⟨.int (dcN ls.reverse : Nat), H1, I2.tok _, ⟨_, by rw [hn]⟩, kq _ _ C1 H1 F1 s1' R1 (.int _) q1⟩
  have sz : ∀ its : List Value, Vals xs its → its.toArray.size + 1 < scanBound := fun its r => by
    rw [List.size_toArray, ← r.length, nx]
    unfold scanBound
    omega
  rcases hq with hq | hq
  · obtain ⟨its, r, pl, hz⟩ := I1.list hq
    exact GS.call_set_list (I1.ok.hd hc) pl.isList (by simpa using strs_of rl r) (sz its r) fun h' tk hS hk => fin its r h' tk hS hk
  · obtain ⟨its, r, pl, hz⟩ := I1.tuple hq
    exact GS.call_set_tuple (I1.ok.hd hc) pl (by simpa using strs_of rl r) (sz its r) fun h' tk hS hk => fin its r h' tk hS hk
end G
namespace G
open PySem PySem.Spec PyProof.Rows L2
/-! ### kinds: words, texts -/
def letters : List Nat := [97, 98, 99, 100, 101, 102, 103, 104, 105, 106, 107, 108, 109, 110, 111, 112, 113, 114, 115, 116, 117, 118, 119, 120, 121, 122]
def isLow (c : Nat) : Bool := decide (c ∈ letters)
def isWord (l : List Nat) : Bool := decide (1 ≤ l.length ∧ l.length ≤ 8) && l.all isLow
def isText (l : List Nat) : Bool := l.all okSign
/-- a thing of a built-in type, texts not too long -/
def Known (d : D) (C : Cl) : Prop := (∃ n, tyNm d C = some n) ∧ ∀ l, d = .str l → l.length ≤ 1000000
def onStr (f : List Nat → Bool) : D → Bool
  | .str l => f l
  | _ => false
theorem strSub {d : D} {C : Cl} {n : String} (h : tyNm d C = some n) : isSub n "str" = true ↔ ∃ l, d = .str l := by
  constructor
  · intro e
    cases d with
    | str l => exact ⟨l, rfl⟩
    | ref a =>
      unfold tyNm at h
      dsimp only at h
      split at h <;> cases h <;> exact absurd e (by decide)
    | _ => cases h <;> exact absurd e (by decide)
  · rintro ⟨l, rfl⟩
    cases h
    decide
theorem onStr_no {f : List Nat → Bool} {d : D} (h : ¬ ∃ l, d = .str l) : onStr f d = false := by
  cases d with
  | str l => exact absurd ⟨l, rfl⟩ h
  | _ => rfl
def sp_is_word : DSp := fun ds C Q _ => ∃ d, ds = [d] ∧ Known d C ∧ Q (.bl (onStr isWord d)) C
def td_is_word : DS :=
  (dSeq (dIfS (dOr (dNot (dTest (dCB (rIsi "str") (dCons (dVar 0) (dCons (dC (.ty "str")) dNil))))) (dNot (dTest (dChain rLeD rLeD (dC (.int 1)) (dCB rLen (dCons (dVar 0) dNil)) (dC (.int 8)))))) (dRet (dC (.bl false))) dNext)
    (dRet (dCB rAllL (dCons (dFz (dLc (diStr (dVar 0)) (dName 1) dYes (dOp rIn (dVar 1) (dC (.str [97, 98, 99, 100, 101, 102, 103, 104, 105, 106, 107, 108, 109, 110, 111, 112, 113, 114, 115, 116, 117, 118, 119, 120, 121, 122]))) [1])) dNil))))
theorem len_is_word (ds : List D) (C : Cl) (Q : DQ) (E : DX) (h : sp_is_word ds C Q E) : ds.length = 1 := by obtain ⟨_, rfl, _⟩ := h; rfl
local macro_rules | `(tactic| walk_at "d") => `(tactic| dsimp only [dSeq, dAsg, dVar, dC, dOp, dCB, dBM, dBM0, dCons, dNil, dTest, dIf, dAnd, dOr, dNot, dAndV, dOrV, dNotV, dRet, dIfS, dNext, dName, dTup, dLst, dLstC, dCall, dSl, dPart, dNoPart, dUn, dgTup, dgCons, dgNil, dgSub, dDrop, dPar])
theorem pure_is_word (ds : List D) (C : Cl) (Q : DQ) (E : DX) (h : sp_is_word ds C Q E) : td_is_word (endsD Q) (startD ["thing", "sign"] ds) C := by
  obtain ⟨d, rfl, ⟨⟨n, hn⟩, hl⟩, hq⟩ := h
  refine ⟨_, rfl, _, _, rfl, hn, _, rfl, ?_⟩
  by_cases hs : ∃ l, d = .str l
  · have e := (strSub hn).mpr hs
    obtain ⟨l, rfl⟩ := hs
    rw [e]
    have hl := hl l rfl
    refine iteF ⟨_, rfl, _, _, rfl, rfl, szl (by omega), _, rfl, trivial, _, rfl, ite_d (fun h1 => ?_) (fun h1 => ?_)⟩
    · refine ⟨_, rfl, trivial, _, rfl, ite_nd (fun h2 => ?_) (fun h2 => ?_)⟩
      · refine ⟨_, _, .same, ?_⟩
        have e2 : onStr isWord (.str l) = false := by
          show isWord l = false
          unfold isWord
          rw [decide_eq_false (fun z => h2 (by omega))]; rfl
        rw [← e2]; exact hq
      · walk_at "d"
        refine lc_signs (l := l) isLow (fun R h => ⟨_, rfl, _, rfl, h⟩) (szl (by omega)) (fun c C' N hc s hN => ?_) ?_
        · exact ⟨_, rfl, .inl ⟨c, _, rfl, rfl, hN⟩⟩
        · refine ⟨_, _, rfl, rfl, _, _, .same, ?_⟩
          rw [all_map]
          have e2 : onStr isWord (.str l) = l.all isLow := by
            show isWord l = _
            unfold isWord
            rw [decide_eq_true (show 1 ≤ l.length ∧ l.length ≤ 8 by omega)]; rfl
          rw [← e2]; exact hq
    · refine ⟨_, rfl, iteT ⟨_, _, .same, ?_⟩⟩
      have e2 : onStr isWord (.str l) = false := by
        show isWord l = false
        unfold isWord
        rw [decide_eq_false (fun z => h1 (by omega))]; rfl
      rw [← e2]; exact hq
  · have e : isSub n "str" = false := by
      cases e : isSub n "str" with
      | false => rfl
      | true => exact absurd ((strSub hn).mp e) hs
    rw [e]
    refine iteT ⟨_, _, .same, ?_⟩
    rw [onStr_no hs] at hq
    exact hq
def sp_is_text : DSp := fun ds C Q _ => ∃ d, ds = [d] ∧ Known d C ∧ Q (.bl (onStr isText d)) C
def td_is_text : DS :=
  (dSeq (dIfS (dNot (dTest (dCB (rIsi "str") (dCons (dVar 0) (dCons (dC (.ty "str")) dNil))))) (dRet (dC (.bl false))) dNext)
    (dRet (dCB rAllL (dCons (dFz (dLc (diStr (dVar 0)) (dName 1) dYes (dAndV (dChain rLeD rLeD (dC (.int 32)) (dCB rOrd (dCons (dVar 1) dNil)) (dC (.int 126))) (dOp rNeD (dCB rOrd (dCons (dVar 1) dNil)) (dC (.int 37)))) [1])) dNil))))
theorem len_is_text (ds : List D) (C : Cl) (Q : DQ) (E : DX) (h : sp_is_text ds C Q E) : ds.length = 1 := by obtain ⟨_, rfl, _⟩ := h; rfl
theorem pure_is_text (ds : List D) (C : Cl) (Q : DQ) (E : DX) (h : sp_is_text ds C Q E) : td_is_text (endsD Q) (startD ["thing", "sign"] ds) C := by
  obtain ⟨d, rfl, ⟨⟨n, hn⟩, hl⟩, hq⟩ := h
  refine ⟨_, rfl, _, _, rfl, hn, _, rfl, ?_⟩
  by_cases hs : ∃ l, d = .str l
  · have e := (strSub hn).mpr hs
    obtain ⟨l, rfl⟩ := hs
    rw [e]
    have hl := hl l rfl
    refine iteF ?_
    walk_at "d"
    refine lc_signs (l := l) okSign (fun R h => ⟨_, rfl, _, rfl, h⟩) (szl (by omega)) (fun c C' N hc s hN => ?_) ?_
    · have no : decide (32 ≤ c ∧ c ≤ 126) = false → N (.bl false) C' := fun z => by
        have : okSign c = false := by unfold okSign; rw [z]; rfl
        rw [← this]; exact hN
      refine ⟨_, rfl, c, rfl, _, rfl, trivial, _, rfl, ite_d (fun h1 => ?_) (fun h1 => ?_)⟩
      · refine ⟨_, rfl, trivial, _, rfl, ite_d (fun h2 => ?_) (fun h2 => ?_)⟩
        · refine ⟨_, rfl, c, rfl, .inl ⟨_, rfl, ?_⟩⟩
          have : okSign c = !decide ((c : Int) = 37) := by
            unfold okSign
            rw [decide_eq_true (show 32 ≤ c ∧ c ≤ 126 by omega), Bool.true_and, ← decide_not]
            exact decide_eq_decide.mpr (by omega)
          rw [← this]; exact hN
        · exact no (decide_eq_false (by omega))
      · exact ⟨_, rfl, iteF (no (decide_eq_false (by omega)))⟩
    · refine ⟨_, _, rfl, rfl, _, _, .same, ?_⟩
      rw [all_map]
      exact hq
  · have e : isSub n "str" = false := by
      cases e : isSub n "str" with
      | false => rfl
      | true => exact absurd ((strSub hn).mp e) hs
    rw [e]
    refine iteT ⟨_, _, .same, ?_⟩
    rw [onStr_no hs] at hq
    exact hq
theorem nodup_rev {α : Type} (l : List α) : l.reverse.Nodup ↔ l.Nodup := by
  unfold List.Nodup
  rw [List.pairwise_reverse]
  exact ⟨fun h => h.imp fun z => Ne.symm z, fun h => h.imp fun z => Ne.symm z⟩
/-- texts in a tuple -/
def areTexts (ls : List (List Nat)) (m : Nat) : Bool := decide (1 ≤ ls.length ∧ ls.length ≤ m) && (ls.all isText && decide ls.Nodup)
def sp_are_texts : DSp := fun ds C Q _ => ∃ (ls : List (List Nat)) (m : Nat), ds = [.tup (txts ls), .int m] ∧ ls.length ≤ 4000 ∧ (∀ l ∈ ls, l.length ≤ 1000000) ∧ Q (.bl (areTexts ls m)) C
def td_are_texts : DS :=
  (dSeq (dIfS (dOr (dNot (dTest (dCB (rIsi "tuple") (dCons (dVar 0) (dCons (dC (.ty "tuple")) dNil))))) (dNot (dTest (dChain rLeD rLeD (dC (.int 1)) (dCB rLen (dCons (dVar 0) dNil)) (dVar 1))))) (dRet (dC (.bl false))) dNext)
    (dRet (dAndV (dCB rAllL (dCons (dFz (dLc (diTup (dVar 0)) (dName 2) dYes (dCall sp_is_text [] (dCons (dVar 2) dNil)) [2])) dNil)) (dOp rEqD (dLenSet (dVar 0)) (dCB rLen (dCons (dVar 0) dNil))))))
theorem len_are_texts (ds : List D) (C : Cl) (Q : DQ) (E : DX) (h : sp_are_texts ds C Q E) : ds.length = 2 := by obtain ⟨_, _, rfl, _⟩ := h; rfl
/-- [test of t for t in texts] -/
theorem lc_txts {wi : DI} {ls : List (List Nat)} {C1 : Cl} {ρ : DEnv} {g : DG} {te : DE} {vs : List Nat} {Q : DQ} (p : List Nat → Bool) (hw : ∀ R : List D → Cl → Prop, R (txts ls) C1 → wi ρ C1 R) (hl : ls.length ≤ sizeLine)
    (h : ∀ (l : List Nat) (C : Cl) (N : DQ), l ∈ ls → SubC C1 C → N (.bl (p l)) C → g (.str l) (wipeD ρ vs) C fun ρ2 C2 => te ρ2 C2 N) (hq : Q (.lst (bls (ls.map p))) C1) :
    dFz (dLc wi g dYes te vs) ρ C1 Q := by
  refine hw _ (lc_map (fun d => match d with | .str l => .bl (p l) | _ => .non) (by rw [txts_length]; exact hl) (fun i x C N hx s hN => ?_) ?_)
  · unfold txts at hx
    rw [List.getElem?_map] at hx
    cases e : ls[i]? with
    | none => rw [e] at hx; cases hx
    | some l =>
      rw [e] at hx
      cases hx
      exact h l C N (List.mem_of_getElem? e) s hN
  · have e : (txts ls).map (fun d => match d with | .str l => D.bl (p l) | _ => .non) = bls (ls.map p) := by
      unfold txts bls
      rw [List.map_map, List.map_map]
      rfl
    rw [e]
    exact hq
theorem all_mapL {α : Type} (p : α → Bool) (l : List α) : (l.map p).all id = l.all p := by rw [List.all_map]; rfl
theorem any_mapL {α : Type} (p : α → Bool) (l : List α) : (l.map p).any id = l.any p := by rw [List.any_map]; rfl
theorem pure_are_texts (ds : List D) (C : Cl) (Q : DQ) (E : DX) (h : sp_are_texts ds C Q E) : td_are_texts (endsD Q) (startD ["things", "most", "thing"] ds) C := by
  obtain ⟨ls, m, rfl, h4, hl, hq⟩ := h
  have hln : (txts ls).length = ls.length := txts_length ls
  have no : ¬ (1 ≤ ls.length ∧ ls.length ≤ m) → Q (.bl false) C := fun z => by
    have : areTexts ls m = false := by unfold areTexts; rw [decide_eq_false z]; rfl
    rw [← this]; exact hq
  refine ⟨_, rfl, _, _, rfl, rfl, _, rfl, iteF ⟨_, rfl, _, _, rfl, rfl, trivial, _, rfl, trivial, _, rfl, ite_d (fun h1 => ?_) (fun h1 => ?_)⟩⟩
  · refine ⟨_, rfl, _, rfl, trivial, _, rfl, ite_nd (fun h2 => ⟨_, _, .same, no (by omega)⟩) (fun h2 => ?_)⟩
    walk_at "d"
    refine lc_txts (ls := ls) isText (fun R h => ⟨_, rfl, _, rfl, h⟩) (szl (by omega)) (fun l C' N hm s hN => ?_) ?_
    · exact ⟨_, rfl, _, rfl, ⟨⟨"str", rfl⟩, fun l' e => by cases e; exact hl l hm⟩, hN⟩
    · refine ⟨_, _, rfl, rfl, _, rfl, ?_⟩
      rw [all_mapL]
      refine ite_b (fun h3 => ?_) (fun h3 => ?_)
      · refine ⟨_, rfl, ls, rfl, h4, _, rfl, _, _, rfl, rfl, trivial, .inl ⟨_, rfl, _, _, .same, ?_⟩⟩
        have : areTexts ls m = decide ((dcN ls.reverse : Int) = ((txts ls).length : Int)) := by
          unfold areTexts
          rw [decide_eq_true (show 1 ≤ ls.length ∧ ls.length ≤ m by omega), h3, Bool.true_and, Bool.true_and]
          have nd := dcN_nodup ls.reverse
          rw [List.length_reverse, nodup_rev] at nd
          rw [hln]
          exact decide_eq_decide.mpr ⟨fun z => by rw [nd.mpr z], fun z => nd.mp (by omega)⟩
        rw [← this]; exact hq
      · refine ⟨_, _, .same, ?_⟩
        have : areTexts ls m = false := by unfold areTexts; rw [h3, Bool.false_and, Bool.and_false]
        rw [← this]; exact hq
  · exact ⟨_, rfl, iteT ⟨_, _, .same, no (by omega)⟩⟩
end G
namespace G
open PySem PySem.Spec PyProof.Rows L2
/-! ### kinds -/
structure KindR where
  name : List Nat
  fam : List Nat
  marks : List (List Nat) := []
  yes : List (List Nat) := []
  no : List (List Nat) := []
  digits : Option Nat := none
  point : Bool := false
  signs : List Nat := [45]
  zeros : Bool := true
  keep : Option Nat := none
  shown : Nat := 0
def optN : Option Nat → D
  | none => .non
  | some n => .int n
abbrev famMissing : List Nat := [109, 105, 115, 115, 105, 110, 103]
abbrev famTruth : List Nat := [116, 114, 117, 116, 104]
abbrev famNumber : List Nat := [110, 117, 109, 98, 101, 114]
abbrev famText : List Nat := [116, 101, 120, 116]
def kindFs (k : KindR) : List (Str × D) := [("name", .str k.name), ("family", .str k.fam), ("marks", .tup (txts k.marks)), ("yes", .tup (txts k.yes)), ("no", .tup (txts k.no)), ("digits", optN k.digits), ("point", .bl k.point), ("signs", .str k.signs), ("zeros", .bl k.zeros), ("keep", optN k.keep), ("shown", .int k.shown)]
def kindD (k : KindR) : D := .ins "Kind" (kindFs k)
section
variable (k : KindR)
theorem kf_name : (kindFs k).lookup ("name" : Str) = some (D.str k.name) := rfl
theorem kf_family : (kindFs k).lookup ("family" : Str) = some (D.str k.fam) := rfl
theorem kf_marks : (kindFs k).lookup ("marks" : Str) = some (D.tup (txts k.marks)) := rfl
theorem kf_digits : (kindFs k).lookup ("digits" : Str) = some (optN k.digits) := rfl
theorem kf_point : (kindFs k).lookup ("point" : Str) = some (D.bl k.point) := rfl
end
def sp_Kind_init : DSp := fun ds C Q _ => ∃ a d1 d2 d3 d4 d5 d6 d7 d8 d9 d10 d11, ds = [.ref a, d1, d2, d3, d4, d5, d6, d7, d8, d9, d10, d11] ∧ C a = some (.ins "Kind" []) ∧
  Q .non (updC C a (.ins "Kind" [("name", d1), ("family", d2), ("marks", d3), ("yes", d4), ("no", d5), ("digits", d6), ("point", d7), ("signs", d8), ("zeros", d9), ("keep", d10), ("shown", d11)]))
def td_Kind_init : DS :=
  (dSeq (dFldSet ["Kind"] (dVar 0) (dVar 1) "name")
    (dSeq (dFldSet ["Kind"] (dVar 0) (dVar 2) "family")
    (dSeq (dFldSet ["Kind"] (dVar 0) (dVar 3) "marks")
    (dSeq (dFldSet ["Kind"] (dVar 0) (dVar 4) "yes")
    (dSeq (dFldSet ["Kind"] (dVar 0) (dVar 5) "no")
    (dSeq (dFldSet ["Kind"] (dVar 0) (dVar 6) "digits")
    (dSeq (dFldSet ["Kind"] (dVar 0) (dVar 7) "point")
    (dSeq (dFldSet ["Kind"] (dVar 0) (dVar 8) "signs")
    (dSeq (dFldSet ["Kind"] (dVar 0) (dVar 9) "zeros")
    (dSeq (dFldSet ["Kind"] (dVar 0) (dVar 10) "keep")
    (dFldSet ["Kind"] (dVar 0) (dVar 11) "shown")))))))))))
theorem len_Kind_init (ds : List D) (C : Cl) (Q : DQ) (E : DX) (h : sp_Kind_init ds C Q E) : ds.length = 12 := by obtain ⟨_, _, _, _, _, _, _, _, _, _, _, _, rfl, _⟩ := h; rfl
/-- one more field -/
theorem put_fld {cs : List String} {i j : Nat} {f : Str} {ρ : DEnv} {C : Cl} {a : Addr} {c : String} {fs : List (Str × D)} {d : D} {De : DEnds} (h0 : ρ[i]? = some (some (.ref a))) (h1 : ρ[j]? = some (some d)) (hm : c ∈ cs) (hl : fs.length < 1000) (hn : fs.all (fun p => decide (p.1 ≠ f)) = true)
    (h : De.nx ρ (updC C a (.ins c (fs ++ [(f, d)])))) : dFldSet cs (dVar i) (dVar j) f De ρ (updC C a (.ins c fs)) := by
  refine ⟨d, h1, .ref a, h0, a, c, fs, hm, rfl, updC_same, hl, ?_⟩
  have e : putD f d fs = fs ++ [(f, d)] := by
    clear h hl
    induction fs with
    | nil => rfl
    | cons p fs ih =>
      obtain ⟨g, x⟩ := p
      rw [List.all_cons, Bool.and_eq_true, decide_eq_true_eq] at hn
      unfold putD
      rw [if_neg hn.1, ih hn.2]
      rfl
  rw [e, updC_updC]
  exact h
theorem pure_Kind_init (ds : List D) (C : Cl) (Q : DQ) (E : DX) (h : sp_Kind_init ds C Q E) : td_Kind_init (endsD Q) (startD ["self", "name", "family", "marks", "yes", "no", "digits", "point", "signs", "zeros", "keep", "shown"] ds) C := by
  obtain ⟨a, d1, d2, d3, d4, d5, d6, d7, d8, d9, d10, d11, rfl, hc, hq⟩ := h
  rw [← updC_self hc]
  refine put_fld rfl rfl (.head _) (by simp) rfl ?_
  refine put_fld rfl rfl (.head _) (by simp) rfl ?_
  refine put_fld rfl rfl (.head _) (by simp) rfl ?_
  refine put_fld rfl rfl (.head _) (by simp) rfl ?_
  refine put_fld rfl rfl (.head _) (by simp) rfl ?_
  refine put_fld rfl rfl (.head _) (by simp) rfl ?_
  refine put_fld rfl rfl (.head _) (by simp) rfl ?_
  refine put_fld rfl rfl (.head _) (by simp) rfl ?_
  refine put_fld rfl rfl (.head _) (by simp) rfl ?_
  refine put_fld rfl rfl (.head _) (by simp) rfl ?_
  refine put_fld rfl rfl (.head _) (by simp) rfl ?_
  exact ⟨_, SubC.refl _, hq⟩
end G
namespace G
open PySem PySem.Spec PyProof.Rows L2
/-! ### kinds made -/
/-- the end of a def that gives out what it has just made -/
theorem made_end {C : Cl} {c : String} {fs gs : List (Str × D)} {Q : DQ} (x : Addr) (hx : C x = none) (hq : Q (.ins c gs) C) : (fun (v : D) (C4 : Cl) => v = D.non ∧ (endsD Q).rt (.ref x) C4) .non (updC (updC C x (.ins c fs)) x (.ins c gs)) := by
  refine ⟨rfl, .ins c gs, C, ?_, hq⟩
  rw [updC_updC]
  have := Gh.ins (a := x) (C := updC C x (.ins c gs)) (ds := gs) (c := c) updC_same
  rw [delC_updC hx] at this
  exact this
def sp_Kind_of_texts : DSp := fun ds C Q _ => ∃ l, ds = [.str l] ∧ isWord l = true ∧ l.length ≤ 1000000 ∧ Q (kindD { name := l, fam := famText }) C
def td_Kind_of_texts : DS :=
  (dSeq (dIfS (dNot (dTest (dCall sp_is_word [] (dCons (dVar 0) dNil)))) dNever dNext)
    (dRet (dMake "Kind" (kw2 3 0 sp_Kind_init [(false, 0), (false, 1), (false, 2), (false, 3), (false, 4), (false, 5), (false, 6), (false, 7), (false, 8)] [(.tup []), (.tup []), (.tup []), .non, (.bl false), (.str [45]), (.bl true), .non, (.int 0)]) (dCons (dVar 0) (dCons (dC (.str [116, 101, 120, 116])) dNil)) dNil)))
theorem len_Kind_of_texts (ds : List D) (C : Cl) (Q : DQ) (E : DX) (h : sp_Kind_of_texts ds C Q E) : ds.length = 1 := by obtain ⟨_, rfl, _⟩ := h; rfl
theorem known_str {l : List Nat} {C : Cl} (h : l.length ≤ 1000000) : Known (.str l) C := ⟨⟨"str", rfl⟩, fun l' e => by cases e; exact h⟩
theorem pure_Kind_of_texts (ds : List D) (C : Cl) (Q : DQ) (E : DX) (h : sp_Kind_of_texts ds C Q E) : td_Kind_of_texts (endsD Q) (startD ["name"] ds) C := by
  obtain ⟨l, rfl, hw, hl, hq⟩ := h
  refine ⟨_, rfl, _, rfl, known_str hl, _, rfl, ?_⟩
  show if (!isWord l) = true then _ else _
  rw [hw]
  refine iteF ⟨_, rfl, fun x hx => ⟨rfl, rfl, x, _, _, _, _, _, _, _, _, _, _, _, rfl, updC_same, made_end x hx hq⟩⟩
def sp_Kind_of_words : DSp := fun ds C Q _ => ∃ (l : List Nat) (ys ns : List (List Nat)), ds = [.str l, .tup (txts ys), .tup (txts ns)] ∧ isWord l = true ∧ l.length ≤ 1000000 ∧ areTexts ys 4 = true ∧ areTexts ns 4 = true ∧ (∀ n ∈ ns, n ∉ ys) ∧ (∀ t ∈ ys, t.length ≤ 1000000) ∧ (∀ t ∈ ns, t.length ≤ 1000000) ∧ Q (kindD { name := l, fam := famTruth, yes := ys, no := ns }) C
def td_Kind_of_words : DS :=
  (dSeq (dIfS (dNot (dTest (dCall sp_is_word [] (dCons (dVar 0) dNil)))) dNever dNext)
    (dSeq (dIfS (dNot (dTest (dCall sp_are_texts [] (dCons (dVar 1) (dCons (dC (.int 4)) dNil))))) dNever dNext)
    (dSeq (dIfS (dOr (dNot (dTest (dCall sp_are_texts [] (dCons (dVar 2) (dCons (dC (.int 4)) dNil))))) (dTest (dCB rAnyL (dCons (dFz (dLc (diTup (dVar 2)) (dName 3) dYes (dOp rIn (dVar 3) (dVar 1)) [3])) dNil)))) dNever dNext)
    (dRet (dMake "Kind" (kw2 3 2 sp_Kind_init [(false, 0), (true, 0), (true, 1), (false, 1), (false, 2), (false, 3), (false, 4), (false, 5), (false, 6)] [(.tup []), .non, (.bl false), (.str [45]), (.bl true), .non, (.int 0)]) (dCons (dVar 0) (dCons (dC (.str [116, 114, 117, 116, 104])) dNil)) (dCons (dVar 1) (dCons (dVar 2) dNil)))))))
theorem len_Kind_of_words (ds : List D) (C : Cl) (Q : DQ) (E : DX) (h : sp_Kind_of_words ds C Q E) : ds.length = 3 := by obtain ⟨_, _, _, rfl, _⟩ := h; rfl
theorem areTexts_len {ls : List (List Nat)} {m : Nat} (h : areTexts ls m = true) : 1 ≤ ls.length ∧ ls.length ≤ m ∧ ls.all isText = true ∧ ls.Nodup := by
  unfold areTexts at h
  rw [Bool.and_eq_true, Bool.and_eq_true, decide_eq_true_iff, decide_eq_true_iff] at h
  exact ⟨h.1.1, h.1.2, h.2.1, h.2.2⟩
/-- l in texts -/
theorem any_txts (ps : List (List Nat)) (l : List Nat) : ((txts ps).any fun e => eqFl e (.str l)) = decide (l ∈ ps) := by
  rw [Bool.eq_iff_iff, List.any_eq_true, decide_eq_true_iff]
  unfold txts
  constructor
  · rintro ⟨x, hx, hy⟩
    obtain ⟨t, ht, rfl⟩ := List.mem_map.mp hx
    have : (t == l) = true := hy
    rw [beq_iff_eq] at this
    rw [← this]; exact ht
  · intro h
    exact ⟨.str l, List.mem_map.mpr ⟨l, h, rfl⟩, beq_self_eq_true l⟩
theorem in_txts {ps : List (List Nat)} {l : List Nat} {y : D} {C : Cl} {Q : DQ} (hy : seqOf C y = some (txts ps)) (hq : Q (.bl (decide (l ∈ ps))) C) : rIn (.str l) y C Q := by
  refine .inr (.inr ⟨_, hy, rfl, flat_txts ps, ?_⟩)
  rw [any_txts]
  exact hq
local macro_rules | `(tactic| walk_at "d") => `(tactic| dsimp only [dSeq, dAsg, dVar, dC, dOp, dCB, dBM, dBM0, dCons, dNil, dTest, dIf, dAnd, dOr, dNot, dAndV, dOrV, dNotV, dRet, dIfS, dNext, dName, dTup, dLst, dLstC, dCall, dSl, dPart, dNoPart, dUn, dgTup, dgCons, dgNil, dgSub, dDrop, dPar])
theorem pure_Kind_of_words (ds : List D) (C : Cl) (Q : DQ) (E : DX) (h : sp_Kind_of_words ds C Q E) : td_Kind_of_words (endsD Q) (startD ["name", "yes", "no", "word"] ds) C := by
  obtain ⟨l, ys, ns, rfl, hw, hl, hy, hn, hd, ly, ln, hq⟩ := h
  obtain ⟨a1, a2, a3, a4⟩ := areTexts_len hy
  obtain ⟨b1, b2, b3, b4⟩ := areTexts_len hn
  refine ⟨_, rfl, _, rfl, known_str hl, _, rfl, ?_⟩
  show if (!isWord l) = true then _ else _
  rw [hw]
  refine iteF ⟨_, rfl, ys, 4, rfl, by omega, ly, _, rfl, ?_⟩
  rw [hy]
  refine iteF ⟨_, rfl, ns, 4, rfl, by omega, ln, _, rfl, ?_⟩
  rw [hn]
  refine iteF ?_
  walk_at "d"
  refine lc_txts (ls := ns) (fun n => decide (n ∈ ys)) (fun R h => ⟨_, rfl, _, rfl, h⟩) (szl (by omega)) (fun t C' N hm s hN => ?_) ?_
  · exact ⟨_, rfl, _, rfl, in_txts rfl hN⟩
  · refine ⟨_, _, rfl, rfl, _, rfl, ?_⟩
    rw [any_mapL]
    have : ns.any (fun n => decide (n ∈ ys)) = false := by
      rw [List.any_eq_false]
      exact fun n h => by rw [decide_eq_false (hd n h)]; exact Bool.false_ne_true
    rw [this]
    exact iteF ⟨_, rfl, _, rfl, _, rfl, fun x hx => ⟨rfl, rfl, x, _, _, _, _, _, _, _, _, _, _, _, rfl, updC_same, made_end x hx hq⟩⟩
def sp_Kind_of_marks : DSp := fun ds C Q _ => ∃ (l : List Nat) (ms : List (List Nat)), ds = [.str l, .tup (txts ms)] ∧ isWord l = true ∧ l.length ≤ 1000000 ∧ areTexts ms 6 = true ∧ (∀ t ∈ ms, t.length ≤ 1000000) ∧ Q (kindD { name := l, fam := famMissing, marks := ms }) C
def td_Kind_of_marks : DS :=
  (dSeq (dIfS (dNot (dTest (dCall sp_is_word [] (dCons (dVar 0) dNil)))) dNever dNext)
    (dSeq (dIfS (dNot (dTest (dCall sp_are_texts [] (dCons (dVar 1) (dCons (dC (.int 6)) dNil))))) dNever dNext)
    (dRet (dMake "Kind" (kw2 3 1 sp_Kind_init [(true, 0), (false, 0), (false, 1), (false, 2), (false, 3), (false, 4), (false, 5), (false, 6), (false, 7)] [(.tup []), (.tup []), .non, (.bl false), (.str [45]), (.bl true), .non, (.int 0)]) (dCons (dVar 0) (dCons (dC (.str [109, 105, 115, 115, 105, 110, 103])) dNil)) (dCons (dVar 1) dNil)))))
theorem len_Kind_of_marks (ds : List D) (C : Cl) (Q : DQ) (E : DX) (h : sp_Kind_of_marks ds C Q E) : ds.length = 2 := by obtain ⟨_, _, rfl, _⟩ := h; rfl
theorem pure_Kind_of_marks (ds : List D) (C : Cl) (Q : DQ) (E : DX) (h : sp_Kind_of_marks ds C Q E) : td_Kind_of_marks (endsD Q) (startD ["name", "marks"] ds) C := by
  obtain ⟨l, ms, rfl, hw, hl, hy, ly, hq⟩ := h
  obtain ⟨a1, a2, a3, a4⟩ := areTexts_len hy
  refine ⟨_, rfl, _, rfl, known_str hl, _, rfl, ?_⟩
  show if (!isWord l) = true then _ else _
  rw [hw]
  refine iteF ⟨_, rfl, ms, 6, rfl, by omega, ly, _, rfl, ?_⟩
  rw [hy]
  exact iteF ⟨_, rfl, _, rfl, fun x hx => ⟨rfl, rfl, x, _, _, _, _, _, _, _, _, _, _, _, rfl, updC_same, made_end x hx hq⟩⟩

/-! ### what a kind takes -/
instance (o : Option Nat) (n : Nat) : Decidable (∃ d, o = some d ∧ d < n) :=
  match o with
  | none => .isFalse fun ⟨_, h, _⟩ => nomatch h
  | some m => if h : m < n then .isTrue ⟨m, rfl, h⟩ else .isFalse fun ⟨_, e, z⟩ => by cases e; exact h z
def takesN (k : KindR) (l : List Nat) : Bool :=
  match splitN l with
  | none => false
  | some (s, w, o) =>
    if subIn s k.signs = false ∨ (o ≠ none ∧ k.point = false) then false
    else if (∃ d, k.digits = some d ∧ d < w.length) then false
    else k.zeros || (decide (w.length = 1) || decide (w.head? ≠ some 48))
end G
namespace G
open PySem PySem.Spec PyProof.Rows L2
/-- which texts a kind takes -/
def takes (k : KindR) (l : List Nat) : Bool :=
  if k.fam = famMissing then decide (l ∈ k.marks)
  else if k.fam = famTruth then decide (l ∈ k.yes) || decide (l ∈ k.no)
  else if k.fam = famText then isText l
  else takesN k l
end G
namespace G
open PySem PySem.Spec PyProof.Rows L2
/-! ### a text nearly another -/
theorem txts_app (a b : List (List Nat)) : txts (a ++ b) = txts a ++ txts b := List.map_append ..
end G
namespace G
open PySem PySem.Spec PyProof.Rows L2
/-! ### drawn words -/
def keys7 : List Nat := [99, 103, 104, 105, 106, 108, 110]
/-- the word's sign that tells its place -/
def keyOf (side : Int) (l : List Nat) : Option Nat := if side = 0 then l.head? else l.getLast?
def sp_l_word : DSp := fun ds C Q _ => ∃ b k n, ∃ side : Int, ds = [.ref b, .int (k : Nat), .int side] ∧ k < 7 ∧ BagAt C b n ∧ n < 1000000000 ∧ ∀ l C', isWord l = true → keyOf side l = some (keys7.getD k 0) → Bagged C b C' (n + 1001) → Q (.str l) C'
def td_l_word : DS :=
  (dSeq (dAsg (dC (.str [97, 98, 99, 100, 101, 102, 103, 104, 105, 106, 107, 108, 109, 110, 111, 112, 113, 114, 115, 116, 117, 118, 119, 120, 121, 122])) (dName 3))
    (dSeq (dAsg (dBM "str" rJoin (dC (.str [])) (dCons (dFz (dLc (diRng1 (dCons (dCall sp_l_take [] (dCons (dVar 0) (dCons (dC (.int 8)) dNil))) dNil)) (dName 5) dYes (dCall sp_l_of [] (dCons (dVar 0) (dCons (dVar 3) dNil))) [5])) dNil)) (dName 4))
    (dRet (dIf (dTest (dOp rEqD (dVar 2) (dC (.int 0)))) (dAdd (dOp rIx (dC (.str [99, 103, 104, 105, 106, 108, 110])) (dVar 1)) (dVar 4)) (dAdd (dVar 4) (dOp rIx (dC (.str [99, 103, 104, 105, 106, 108, 110])) (dVar 1)))))))
theorem len_l_word (ds : List D) (C : Cl) (Q : DQ) (E : DX) (h : sp_l_word ds C Q E) : ds.length = 3 := by obtain ⟨_, _, _, _, rfl, _⟩ := h; rfl
/-- the same list comprehension where the things are in a name -/
theorem lc_of' {ρ : DEnv} {C : Cl} {b : Addr} {n ib iv is : Nat} {m : Int} {items : List D} {sv : D} {Q : DQ} (h0 : ρ[ib]? = some (some (.ref b))) (hi : ib ≠ iv) (hs : ρ[is]? = some (some sv)) (hi2 : is ≠ iv) (hb : BagAt C b n) (hn : n < 10000000000) (m0 : 0 < m) (m1 : m ≤ 1000)
    (hv : ∀ C', itemsOf C' sv = some items) (hr : sv ≠ .ref b) (he : items ≠ []) (hl : items.length ≤ 1000000)
    (hq : ∀ ys C', ys.length < m.toNat → (∀ y ∈ ys, y ∈ items) → Bagged C b C' (n + 1001) → Q (.lst ys) C') :
    dFz (dLc (diRng1 (dCons (dCall sp_l_take [] (dCons (dVar ib) (dCons (dC (.int m)) dNil))) dNil)) (dName iv) dYes (dCall sp_l_of [] (dCons (dVar ib) (dCons (dVar is) dNil))) [iv]) ρ C Q := by
  refine ⟨_, h0, b, m, n, rfl, m0, by omega, hb, by omega, fun i C1 i0 i1 B1 => ?_⟩
  refine ⟨i, rfl, ⟨by omega, by omega⟩, ?_⟩
  refine lc_bag (k := 1) (fun y => y ∈ items) B1.at (by rw [ranged_length]; exact szl (by omega)) (fun i' x C2 N hx hb2 _ hN => ?_) fun ys C2 hyl hY B2 => ?_
  · have hx := (ranged_get hx).1
    refine ⟨_, getWipe h0 hi, _, getWipe hs hi2, b, sv, items, _, rfl, hv _, hr, he, hl, hb2, by omega, fun d C3 hd B3 => hN d C3 hd (B3.mono (by omega))⟩
  · rw [ranged_length] at hyl B2
    exact hq ys C2 (by omega) hY ((B1.trans B2).mono (by omega))
theorem pure_l_word (ds : List D) (C : Cl) (Q : DQ) (E : DX) (h : sp_l_word ds C Q E) : td_l_word (endsD Q) (startD ["_law_bag_here", "_law_at", "_law_most", "_law_letters", "_law_some", "_law_turn"] ds) C := by
  obtain ⟨b, k, n, side, rfl, hk, hb, hn, hq⟩ := h
  refine ⟨rfl, lc_of' (ρ := [some (.ref b), some (.int k), some (.int side), some (.str letters), none, none]) (items := signs letters) (sv := .str letters) rfl (by decide) rfl (by decide) hb (by omega) (by decide) (by decide) (fun _ => rfl) nofun (by decide) (by decide) fun ys C1 hyl hY B1 => ?_⟩
  obtain ⟨ls, rfl, hs⟩ := txts_of (P := fun l => l.length ≤ 1 ∧ l.all isLow = true) fun y hy => by
    obtain ⟨c, rfl, hc⟩ := mem_signs (hY y hy)
    exact ⟨[c], rfl, by simp, by rw [List.all_cons, List.all_nil, Bool.and_true]; exact decide_eq_true hc⟩
  rw [txts_length] at hyl
  have h1 := sum_le fun l hl => (hs l hl).1
  have h3 := all_join fun l hl => (hs l hl).2
  have h2 := join_le ls
  have hyl : ls.length < 8 := hyl
  refine ⟨[], _, ls, rfl, rfl, rfl, by simp only [List.length_nil, Nat.mul_zero]; omega, ?_⟩
  generalize TL.joinL [] ls = t at *
  have key : atI keys7 (k : Int) = some (keys7.getD k 0) ∧ isLow (keys7.getD k 0) = true := by
    have : k = 0 ∨ k = 1 ∨ k = 2 ∨ k = 3 ∨ k = 4 ∨ k = 5 ∨ k = 6 := by omega
    rcases this with rfl | rfl | rfl | rfl | rfl | rfl | rfl <;> exact ⟨rfl, rfl⟩
  generalize keys7.getD k 0 = c at *
  refine ⟨_, rfl, .inl ⟨_, rfl, _, rfl, ite_d (fun z => ?_) (fun z => ?_)⟩⟩
  · refine ⟨_, rfl, _, rfl, .inl ⟨keys7, c, rfl, szl (by decide), key.1, _, rfl, _, rfl, szl (by simp only [List.length_append, List.length_cons, List.length_nil]; omega), _, _, .same, hq _ _ ?_ ?_ (B1.mono (by omega))⟩⟩
    · unfold isWord
      rw [List.all_append, h3, List.all_cons, List.all_nil, key.2, decide_eq_true (show 1 ≤ ([c] ++ t).length ∧ ([c] ++ t).length ≤ 8 by simp only [List.length_append, List.length_cons, List.length_nil]; omega)]
      rfl
    · unfold keyOf
      rw [if_pos z]
      rfl
  · refine ⟨_, rfl, _, rfl, _, rfl, .inl ⟨keys7, c, rfl, szl (by decide), key.1, _, rfl, szl (by simp only [List.length_append, List.length_cons, List.length_nil]; omega), _, _, .same, hq _ _ ?_ ?_ (B1.mono (by omega))⟩⟩
    · unfold isWord
      rw [List.all_append, h3, List.all_cons, List.all_nil, key.2, decide_eq_true (show 1 ≤ (t ++ [c]).length ∧ (t ++ [c]).length ≤ 8 by simp only [List.length_append, List.length_cons, List.length_nil]; omega)]
      rfl
    · unfold keyOf
      rw [if_neg z]
      simp
/-- a word has one of the seven letters that tell words apart -/
def keyed (w : List Nat) : Prop := ∃ c ∈ keys7, c ∈ w
theorem keyed_of {side : Int} {w : List Nat} {i : Nat} (hi : i < 7) (h : keyOf side w = some (keys7.getD i 0)) : keyed w := by
  refine ⟨keys7.getD i 0, ?_, ?_⟩
  · rw [List.getD_eq_getElem?_getD, List.getElem?_eq_getElem (show i < keys7.length from hi)]
    exact List.getElem_mem _
  · unfold keyOf at h
    split at h
    · exact List.mem_of_mem_head? h
    · exact List.mem_of_getLast? h
def sp_l_words : DSp := fun ds C Q _ => ∃ b m n, ds = [.ref b, .int (m : Nat)] ∧ m ≤ 7 ∧ BagAt C b n ∧ n < 100000000 ∧ ∀ ws C', ws.length = m → (∀ w ∈ ws, isWord w = true) → (ws.Nodup ∧ ∀ w ∈ ws, keyed w) → Bagged C b C' (n + 10000) → Q (.lst (txts ws)) C'
def td_l_words : DS :=
  (dSeq (dAsg (dCall sp_l_take [] (dCons (dVar 0) (dCons (dC (.int 2)) dNil))) (dName 2))
    (dRet (dFz (dLc (diRng1 (dCons (dVar 1) dNil)) (dName 3) dYes (dCall sp_l_word [] (dCons (dVar 0) (dCons (dVar 3) (dCons (dVar 2) dNil)))) [3]))))
theorem len_l_words (ds : List D) (C : Cl) (Q : DQ) (E : DX) (h : sp_l_words ds C Q E) : ds.length = 2 := by obtain ⟨_, _, _, rfl, _⟩ := h; rfl
/-- a list of drawn things, each told by its place -/
theorem lc_bagI {g : DG} {te : DE} {ρ : DEnv} {vs : List Nat} {C1 : Cl} {b : Addr} {n k : Nat} {xs : List D} {Q : DQ} (Y : Nat → D → Prop) (hb : BagAt C1 b n) (hl : xs.length ≤ sizeLine)
    (h : ∀ i x C (N : DQ), xs[i]? = some x → BagAt C b (n + i * k) → (∀ a, C1 a ≠ none → a ≠ b → C a = C1 a) → (∀ y C', Y i y → Bagged C b C' (n + (i + 1) * k) → N y C') → g x (wipeD ρ vs) C fun ρ2 C2 => te ρ2 C2 N)
    (hq : ∀ ys C', ys.length = xs.length → (∀ i y, ys[i]? = some y → Y i y) → Bagged C1 b C' (n + xs.length * k) → Q (.lst ys) C') :
    ∀ p, C1 p = none → ∃ Pv : Nat → Cl → Prop, Pv 0 (updC C1 p (.lst [])) ∧
      (∀ i x C, xs[i]? = some x → Pv i C → g x (wipeD ρ vs) C fun ρ2 C2 => dYes ρ2 C2 fun b C3 =>
        if b = true then te ρ2 C3 fun y C4 => ∃ acc, C4 p = some (.lst acc) ∧ acc.length < sizeLine ∧ Pv (i + 1) (updC C4 p (.lst (acc ++ [y]))) else Pv (i + 1) C3) ∧
      ∀ C, Pv xs.length C → ∃ a ds, D.ref p = .ref a ∧ C a = some (.lst ds) ∧ Q (.lst ds) (delC C a) := by
  intro p hp
  refine ⟨fun i C => ∃ ys C', C = updC C' p (.lst ys) ∧ ys.length = i ∧ (∀ j y, ys[j]? = some y → Y j y) ∧ Bagged C1 b C' (n + i * k), ⟨[], C1, rfl, rfl, nofun, by rw [Nat.zero_mul]; exact hb.self⟩, ?_, ?_⟩
  · rintro i x C hx ⟨ys, C', rfl, hyl, hY, B⟩
    have bp := hb.ne hp
    have i1 : i < xs.length := (List.getElem?_eq_some_iff.mp hx).1
    refine h i x _ _ hx (B.at.upd bp) (fun a ha hab => ?_) fun y C2 hy B2 => ?_
    · have : a ≠ p := by rintro rfl; exact ha hp
      rw [updC_ne this]
      exact B.ne hab
    · obtain ⟨u1, u2, u3, rfl, G2⟩ := B2
      obtain ⟨v1, v2, v3, rfl, G1⟩ := B
      refine ⟨ys, by rw [updC_ne (Ne.symm bp), updC_same], by omega, ys ++ [y], updC C1 b (bagC u1 u2 u3), ?_, by rw [List.length_append, hyl, List.length_singleton], ?_, ⟨u1, u2, u3, rfl, G2⟩⟩
      · rw [updC_comm (C := updC C1 b (bagC v1 v2 v3)) (Ne.symm bp), updC_updC, updC_updC]
      · intro j z hz
        by_cases e : j < ys.length
        · rw [List.getElem?_append_left e] at hz; exact hY j z hz
        · rw [List.getElem?_append_right (by omega)] at hz
          have : j - ys.length = 0 := by
            have := (List.getElem?_eq_some_iff.mp hz).1
            simp at this
            omega
          rw [this] at hz
          cases hz
          rw [show j = i by omega]
          exact hy
  · rintro C ⟨ys, C', rfl, hyl, hY, B⟩
    refine ⟨p, ys, rfl, updC_same, ?_⟩
    have bp := hb.ne hp
    rw [delC_updC (by rw [B.ne (Ne.symm bp), hp])]
    exact hq ys C' hyl hY B
theorem txts_ofI {P : Nat → List Nat → Prop} {ys : List D} (h : ∀ i y, ys[i]? = some y → ∃ l, y = .str l ∧ P i l) : ∃ ls : List (List Nat), ys = txts ls ∧ ∀ i l, ls[i]? = some l → P i l := by
  induction ys generalizing P with
  | nil => exact ⟨[], rfl, nofun⟩
  | cons y ys ih =>
    obtain ⟨l, rfl, hl⟩ := h 0 y rfl
    obtain ⟨ls, rfl, hs⟩ := ih (P := fun i l => P (i + 1) l) fun i z hz => h (i + 1) z (by simpa using hz)
    refine ⟨l :: ls, rfl, fun i z hz => ?_⟩
    cases i with
    | zero => cases hz; exact hl
    | succ i => exact hs i z (by simpa using hz)
theorem keys7_inj {i j : Nat} (hi : i < 7) (hj : j < 7) (h : keys7.getD i 0 = keys7.getD j 0) : i = j := by
  have a : i = 0 ∨ i = 1 ∨ i = 2 ∨ i = 3 ∨ i = 4 ∨ i = 5 ∨ i = 6 := by omega
  have b : j = 0 ∨ j = 1 ∨ j = 2 ∨ j = 3 ∨ j = 4 ∨ j = 5 ∨ j = 6 := by omega
  rcases a with rfl | rfl | rfl | rfl | rfl | rfl | rfl <;> rcases b with rfl | rfl | rfl | rfl | rfl | rfl | rfl <;> first | rfl | exact absurd h (by decide)
theorem pure_l_words (ds : List D) (C : Cl) (Q : DQ) (E : DX) (h : sp_l_words ds C Q E) : td_l_words (endsD Q) (startD ["_law_bag_here", "_law_many", "_law_side", "_law_at"] ds) C := by
  obtain ⟨b, m, n, rfl, hm, hb, hn, hq⟩ := h
  refine ⟨_, rfl, b, 2, n, rfl, by decide, by decide, hb, by omega, fun side C1 i0 i1 B1 => ?_⟩
  refine ⟨_, rfl, (m : Int), rfl, ⟨by omega, by omega⟩, ?_⟩
  refine lc_bagI (k := 1001) (fun i y => ∃ l, y = .str l ∧ isWord l = true ∧ keyOf side l = some (keys7.getD i 0)) B1.at (by rw [ranged_length]; exact szl (by omega)) (fun i x C2 N hx hb2 _ hN => ?_) fun ys C2 hyl hY B2 => ?_
  · obtain ⟨hi, rfl⟩ := ranged_get hx
    rw [show (0 : Int) + (i : Int) = (i : Int) by omega]
    have hi : i < m := by omega
    exact ⟨_, rfl, _, rfl, _, rfl, b, i, _, side, rfl, by omega, hb2, by omega, fun l C3 h1 h2 B3 => hN _ C3 ⟨l, rfl, h1, h2⟩ (B3.mono (by omega))⟩
  · rw [ranged_length] at hyl B2
    obtain ⟨ls, rfl, hs⟩ := txts_ofI hY
    rw [txts_length] at hyl
    have hyl : ls.length = m := by omega
    refine ⟨_, _, .same, hq ls C2 hyl (fun w hw => ?_) ⟨?_, fun w hw => ?_⟩ ((B1.trans B2).mono (by omega))⟩
    · obtain ⟨i, hi⟩ := List.mem_iff_getElem?.mp hw
      exact (hs i w hi).1
    rotate_left
    · obtain ⟨i, hi⟩ := List.mem_iff_getElem?.mp hw
      have := (List.getElem?_eq_some_iff.mp hi).1
      exact keyed_of (by omega) (hs i w hi).2
    · unfold List.Nodup
      rw [List.pairwise_iff_getElem]
      intro i j hi hj hij e
      have a := (hs i _ (List.getElem?_eq_getElem hi)).2
      have b := (hs j _ (List.getElem?_eq_getElem hj)).2
      rw [e] at a
      rw [a] at b
      have := keys7_inj (by omega) (by omega) (Option.some.inj b)
      omega
end G
namespace G
open PySem PySem.Spec PyProof.Rows L2
def sp_l_marked : DSp := fun ds C Q _ => ∃ (l : List Nat) (ms : List (List Nat)), ds = [.str l, .tup (txts ms)] ∧ isWord l = true ∧ l.length ≤ 1000000 ∧ areTexts ms 4 = true ∧ (∀ t ∈ ms, t.length ≤ 1000000) ∧ Q (kindD { name := l, fam := famMissing, marks := ms }) C
def td_l_marked : DS :=
  (dSeq (dIfS (dTest (dOp rEqD (dCB rLen (dCons (dVar 1) dNil)) (dC (.int 1)))) (dRet (dCal (star2 1 sp_Kind_of_marks) (dCons (dVar 0) (dCons (dOp rIx (dVar 1) (dC (.int 0))) dNil)) dNil)) dNext)
    (dSeq (dIfS (dTest (dOp rEqD (dCB rLen (dCons (dVar 1) dNil)) (dC (.int 2)))) (dRet (dCal (star2 1 sp_Kind_of_marks) (dCons (dVar 0) (dCons (dOp rIx (dVar 1) (dC (.int 0))) (dCons (dOp rIx (dVar 1) (dC (.int 1))) dNil))) dNil)) dNext)
    (dSeq (dIfS (dTest (dOp rEqD (dCB rLen (dCons (dVar 1) dNil)) (dC (.int 3)))) (dRet (dCal (star2 1 sp_Kind_of_marks) (dCons (dVar 0) (dCons (dOp rIx (dVar 1) (dC (.int 0))) (dCons (dOp rIx (dVar 1) (dC (.int 1))) (dCons (dOp rIx (dVar 1) (dC (.int 2))) dNil)))) dNil)) dNext)
    (dRet (dCal (star2 1 sp_Kind_of_marks) (dCons (dVar 0) (dCons (dOp rIx (dVar 1) (dC (.int 0))) (dCons (dOp rIx (dVar 1) (dC (.int 1))) (dCons (dOp rIx (dVar 1) (dC (.int 2))) (dCons (dOp rIx (dVar 1) (dC (.int 3))) dNil))))) dNil)))))
theorem len_l_marked (ds : List D) (C : Cl) (Q : DQ) (E : DX) (h : sp_l_marked ds C Q E) : ds.length = 2 := by obtain ⟨_, _, rfl, _⟩ := h; rfl
theorem areTexts_more {ls : List (List Nat)} {m n : Nat} (h : areTexts ls m = true) (e : m ≤ n) : areTexts ls n = true := by
  obtain ⟨h1, h2, h3, h4⟩ := areTexts_len h
  unfold areTexts
  rw [decide_eq_true (show 1 ≤ ls.length ∧ ls.length ≤ n by omega), h3, decide_eq_true h4]
  rfl
theorem pure_l_marked (ds : List D) (C : Cl) (Q : DQ) (E : DX) (h : sp_l_marked ds C Q E) : td_l_marked (endsD Q) (startD ["_law_label", "_law_marks"] ds) C := by
  obtain ⟨l, ms, rfl, hw, hl, ha, hm, hq⟩ := h
  have h6 := areTexts_more ha (show 4 ≤ 6 by decide)
  obtain ⟨h1, h2, _, _⟩ := areTexts_len ha
  have hln : (txts ms).length = ms.length := txts_length ms
  match ms, h1, h2 with
  | [m0], _, _ =>
    refine ⟨_, rfl, _, _, rfl, rfl, trivial, .inl ⟨_, rfl, _, rfl, iteT ?_⟩⟩
    refine ⟨_, rfl, _, rfl, _, rfl, .inr ⟨_, _, rfl, rfl, rfl, by simp, szl (by simp), l, [m0], rfl, hw, hl, h6, hm, _, _, .same, hq⟩⟩
  | [m0, m1], _, _ =>
    refine ⟨_, rfl, _, _, rfl, rfl, trivial, .inl ⟨_, rfl, _, rfl, iteF ?_⟩⟩
    refine ⟨_, rfl, _, _, rfl, rfl, trivial, .inl ⟨_, rfl, _, rfl, iteT ?_⟩⟩
    refine ⟨_, rfl, _, rfl, _, rfl, .inr ⟨_, _, rfl, rfl, _, rfl, _, rfl, .inr ⟨_, _, rfl, rfl, rfl, by simp, szl (by simp), l, [m0, m1], rfl, hw, hl, h6, hm, _, _, .same, hq⟩⟩⟩
  | [m0, m1, m2], _, _ =>
    refine ⟨_, rfl, _, _, rfl, rfl, trivial, .inl ⟨_, rfl, _, rfl, iteF ?_⟩⟩
    refine ⟨_, rfl, _, _, rfl, rfl, trivial, .inl ⟨_, rfl, _, rfl, iteF ?_⟩⟩
    refine ⟨_, rfl, _, _, rfl, rfl, trivial, .inl ⟨_, rfl, _, rfl, iteT ?_⟩⟩
    refine ⟨_, rfl, _, rfl, _, rfl, .inr ⟨_, _, rfl, rfl, _, rfl, _, rfl, .inr ⟨_, _, rfl, rfl, _, rfl, _, rfl, .inr ⟨_, _, rfl, rfl, rfl, by simp, szl (by simp), l, [m0, m1, m2], rfl, hw, hl, h6, hm, _, _, .same, hq⟩⟩⟩⟩
  | [m0, m1, m2, m3], _, _ =>
    refine ⟨_, rfl, _, _, rfl, rfl, trivial, .inl ⟨_, rfl, _, rfl, iteF ?_⟩⟩
    refine ⟨_, rfl, _, _, rfl, rfl, trivial, .inl ⟨_, rfl, _, rfl, iteF ?_⟩⟩
    refine ⟨_, rfl, _, _, rfl, rfl, trivial, .inl ⟨_, rfl, _, rfl, iteF ?_⟩⟩
    refine ⟨_, rfl, _, rfl, _, rfl, .inr ⟨_, _, rfl, rfl, _, rfl, _, rfl, .inr ⟨_, _, rfl, rfl, _, rfl, _, rfl, .inr ⟨_, _, rfl, rfl, _, rfl, _, rfl, .inr ⟨_, _, rfl, rfl, rfl, by simp, szl (by simp), l, [m0, m1, m2, m3], rfl, hw, hl, h6, hm, _, _, .same, hq⟩⟩⟩⟩⟩
  | _ :: _ :: _ :: _ :: _ :: _, _, z => simp at z

/-! ### texts that differ -/
def sp_l_other_texts : DSp := fun ds C Q _ => ∃ b m n L ts, ds = [.ref b, .int (m : Nat), .lst (txts ts)] ∧ m ≤ 100 ∧ 30 ≤ L ∧ L ≤ 500000 ∧ (∀ t ∈ ts, t.length ≤ L) ∧ BagAt C b n ∧ n < 100000000 ∧
  ∀ fs C', fs.length = m → (∀ t ∈ fs, isText t = true ∧ t.length ≤ L + 100 ∧ t ∉ ts ∧ noQ t = true) → fs.Nodup → Bagged C b C' (n + m * 20000) → Q (.lst (txts fs)) C'
def td_l_other_texts : DS :=
  (dSeq (dAsg (dLstC dNil) (dName 3))
    (dSeq (dFor (diRng1 (dCons (dVar 1) dNil)) (dName 4)
    (dSeq (dAsg (dCall sp_l_text [] (dCons (dVar 0) dNil)) (dName 5))
    (dSeq (dWhile (dOr (dTest (dOp rIn (dVar 5) (dVar 3))) (dTest (dOp rIn (dVar 5) (dVar 2)))) (dAsg (dAdd (dVar 5) (dC (.str [122]))) (dName 5)))
    (dDrop (dBM "list" rAppend (dVar 3) (dCons (dVar 5) dNil))))))
    (dRet (dVar 3))))
theorem len_l_other_texts (ds : List D) (C : Cl) (Q : DQ) (E : DX) (h : sp_l_other_texts ds C Q E) : ds.length = 3 := by obtain ⟨_, _, _, _, _, rfl, _⟩ := h; rfl
theorem pure_l_other_texts (ds : List D) (C : Cl) (Q : DQ) (E : DX) (h : sp_l_other_texts ds C Q E) : td_l_other_texts (endsD Q) (startD ["_law_bag_here", "_law_many", "_law_taken", "_law_found", "_law_turn", "_law_text_here"] ds) C := by
  obtain ⟨b, m, n, L, ts, rfl, hm, hL, hL2, hts, hb, hn, hq⟩ := h
  refine ⟨szl (by simp), fun p hp => ?_⟩
  have bp := hb.ne hp
  refine ⟨_, rfl, (m : Int), rfl, ⟨by omega, by omega⟩, ?_⟩
  refine ⟨fun i ρ C' => ∃ fs C0 x y, ρ = [some (.ref b), some (.int m), some (.lst (txts ts)), some (.ref p), x, y] ∧ C' = updC C0 p (.lst (txts fs)) ∧ fs.length = i ∧ (∀ t ∈ fs, isText t = true ∧ t.length ≤ L + i ∧ t ∉ ts ∧ noQ t = true) ∧ fs.Nodup ∧ Bagged C b C0 (n + i * 20000),
    ⟨[], C, none, none, rfl, rfl, rfl, nofun, List.nodup_nil, by rw [Nat.zero_mul]; exact hb.self⟩, ?_, ?_⟩
  · rintro i d ρ C' hx ⟨fs, C0, x, y, rfl, rfl, hfl, hf, hnd, B⟩
    obtain ⟨hi, rfl⟩ := ranged_get hx
    have hi : i < m := by omega
    refine ⟨_, rfl, b, _, rfl, B.at.upd bp, by omega, fun t C2 tl tk tq B2 => ?_⟩
    have hc : ∃ C3, C2 = updC C3 p (.lst (txts fs)) ∧ Bagged C b C3 (n + (i + 1) * 20000) := by
      obtain ⟨u1, u2, u3, rfl, G2⟩ := B2
      obtain ⟨v1, v2, v3, rfl, G1⟩ := B
      refine ⟨updC C b (bagC u1 u2 u3), ?_, u1, u2, u3, rfl, G2.mono (by omega)⟩
      rw [updC_comm (C := updC C b (bagC v1 v2 v3)) (Ne.symm bp), updC_updC]
    obtain ⟨C3, rfl, B3⟩ := hc
    refine ⟨fun k ρ C' => ∃ t, k + t.length = L + i + 1 ∧ t.length ≤ L + i + 1 ∧ (isText t = true ∧ noQ t = true) ∧ ρ = [some (.ref b), some (.int m), some (.lst (txts ts)), some (.ref p), some (.int (0 + i)), some (.str t)] ∧ C' = updC C3 p (.lst (txts fs)), ⟨L + i + 1 - t.length, t, by omega, by omega, ⟨tk, tq⟩, rfl, rfl⟩, ?_⟩
    rintro k ρ C' ⟨t, e1, e2, e3, rfl, rfl⟩
    have grow : t.length ≤ L + i → ∀ De : DEnds, (∀ t', t'.length = t.length + 1 → (isText t' = true ∧ noQ t' = true) → De.nx [some (.ref b), some (.int m), some (.lst (txts ts)), some (.ref p), some (.int (0 + i)), some (.str t')] (updC C3 p (.lst (txts fs)))) →
        dAsg (dAdd (dVar 5) (dC (.str [122]))) (dName 5) De [some (.ref b), some (.int m), some (.lst (txts ts)), some (.ref p), some (.int (0 + i)), some (.str t)] (updC C3 p (.lst (txts fs))) := fun hl De h => by
      refine ⟨_, rfl, _, rfl, szl (by rw [List.length_append, List.length_singleton]; omega), h (t ++ [122]) (by rw [List.length_append, List.length_singleton]) ⟨?_, noQ_z⟩⟩
      have e3 := e3.1
      unfold isText at e3 ⊢
      rw [List.all_append, e3]
      rfl
    refine ⟨_, rfl, _, rfl, in_txts (ps := fs) (cellL_of updC_same) ⟨_, rfl, ite_d (fun z => ?_) (fun z => ?_)⟩⟩
    · refine iteT (grow (hf t z).2.1 _ fun t' h1 h2 => ⟨k - 1, ?_, t', ?_, ?_, h2, rfl, rfl⟩)
      all_goals
        have := (hf t z).2.1
        omega
    · refine ⟨_, rfl, _, rfl, in_txts (ps := ts) rfl ⟨_, rfl, ite_d (fun z2 => ?_) (fun z2 => ?_)⟩⟩
      · refine grow (by have := hts t z2; omega) _ fun t' h1 h2 => ⟨k - 1, ?_, t', ?_, ?_, h2, rfl, rfl⟩
        all_goals
          have := hts t z2
          omega
      · refine ⟨_, rfl, .inl ⟨rfl, _, updC_same⟩, _, rfl, p, _, _, rfl, rfl, updC_same, Nat.lt_of_le_of_lt (by rw [txts_length]; omega : _ ≤ 1000) (small1000 (Nat.le_refl _) : 1000 < sizeLine), ?_⟩
        refine ⟨fs ++ [t], C3, _, _, rfl, ?_, by rw [List.length_append, hfl, List.length_singleton], ?_, ?_, B3⟩
        · rw [updC_updC, txts_app]; rfl
        · intro u hu
          rcases List.mem_append.mp hu with e | e
          · have := hf u e
            exact ⟨this.1, by omega, this.2.2⟩
          · rw [List.mem_singleton.mp e]
            exact ⟨e3.1, by omega, z2, e3.2⟩
        · rw [List.nodup_append]
          refine ⟨hnd, by simp, fun a ha b' hb' e => ?_⟩
          rw [List.mem_singleton.mp hb'] at e
          exact z (e ▸ ha)
  · rintro ρ C' ⟨fs, C0, x, y, rfl, rfl, hfl, hf, hnd, B⟩
    rw [ranged_length] at hfl hf B
    have e : ((m : Int).toNat) = m := Int.toNat_natCast m
    rw [e] at hfl hf B
    refine ⟨_, rfl, .lst (txts fs), C0, ?_, hq fs C0 hfl (fun t ht => ⟨(hf t ht).1, by have := (hf t ht).2.1; omega, (hf t ht).2.2⟩) hnd B⟩
    have := Gh.lst (a := p) (C := updC C0 p (.lst (txts fs))) updC_same
    rw [delC_updC (by rw [B.ne (Ne.symm bp), hp])] at this
    exact this
end G
namespace G
open PySem PySem.Spec PyProof.Rows L2
/-! ### number kinds -/
def sp_is_between : DSp := fun ds C Q _ => ∃ i lo hi : Int, ds = [.int i, .int lo, .int hi] ∧ Q (.bl (decide (lo ≤ i ∧ i ≤ hi))) C
def td_is_between : DS :=
  (dRet (dAndV (dCB (rIsi "int") (dCons (dVar 0) (dCons (dC (.ty "int")) dNil))) (dAndV (dNotV (dCB (rIsi "bool") (dCons (dVar 0) (dCons (dC (.ty "bool")) dNil)))) (dChain rLeD rLeD (dVar 1) (dVar 0) (dVar 2)))))
theorem len_is_between (ds : List D) (C : Cl) (Q : DQ) (E : DX) (h : sp_is_between ds C Q E) : ds.length = 3 := by obtain ⟨_, _, _, rfl, _⟩ := h; rfl
theorem pure_is_between (ds : List D) (C : Cl) (Q : DQ) (E : DX) (h : sp_is_between ds C Q E) : td_is_between (endsD Q) (startD ["thing", "least", "most"] ds) C := by
  obtain ⟨i, lo, hi, rfl, hq⟩ := h
  refine ⟨_, rfl, _, _, rfl, rfl, _, rfl, iteT ⟨_, rfl, _, _, rfl, rfl, _, rfl, _, rfl, iteT ?_⟩⟩
  refine ⟨_, rfl, _, rfl, _, rfl, trivial, _, rfl, ite_d (fun h1 => ?_) (fun h1 => ?_)⟩
  · refine ⟨_, rfl, _, rfl, trivial, _, _, .same, ?_⟩
    have : decide (lo ≤ i ∧ i ≤ hi) = decide (i ≤ hi) := decide_eq_decide.mpr ⟨fun z => z.2, fun z => ⟨h1, z⟩⟩
    rw [this] at hq; exact hq
  · refine ⟨_, _, .same, ?_⟩
    rw [decide_eq_false (fun z => h1 z.1)] at hq
    exact hq
structure GoodNum (k : KindR) : Prop where
  fam : k.fam = famNumber
  marks : k.marks = []
  yes : k.yes = []
  no : k.no = []
  digits : ∀ n, k.digits = some n → 1 ≤ n ∧ n ≤ 20
  keep : ∀ n, k.keep = some n → 1 ≤ n ∧ n ≤ 20
  signs : k.signs = [] ∨ k.signs = [45] ∨ k.signs = [43, 45]
  shown : k.shown ≤ 3
  point : k.shown > 0 → k.point = true
def sp_Kind_of_numbers : DSp := fun ds C Q _ => ∃ k : KindR, ds = [.str k.name, optN k.digits, .bl k.point, .str k.signs, .bl k.zeros, optN k.keep, .int k.shown] ∧ isWord k.name = true ∧ GoodNum k ∧ Q (kindD k) C
def td_Kind_of_numbers : DS :=
  (dSeq (dIfS (dNot (dTest (dCall sp_is_word [] (dCons (dVar 0) dNil)))) dNever dNext)
    (dSeq (dIfS (dAnd (dTest (dOp rNotN (dVar 1) (dC .non))) (dNot (dTest (dCall sp_is_between [] (dCons (dVar 1) (dCons (dC (.int 1)) (dCons (dC (.int 20)) dNil))))))) dNever dNext)
    (dSeq (dIfS (dNot (dTest (dCB (rIsi "bool") (dCons (dVar 2) (dCons (dC (.ty "bool")) dNil))))) dNever dNext)
    (dSeq (dIfS (dOr (dNot (dTest (dCB (rIsi "str") (dCons (dVar 3) (dCons (dC (.ty "str")) dNil))))) (dTest (dOp rNotIn (dVar 3) (dTup (dCons (dC (.str [])) (dCons (dC (.str [45])) (dCons (dC (.str [43, 45])) dNil))))))) dNever dNext)
    (dSeq (dIfS (dNot (dTest (dCB (rIsi "bool") (dCons (dVar 4) (dCons (dC (.ty "bool")) dNil))))) dNever dNext)
    (dSeq (dIfS (dAnd (dTest (dOp rNotN (dVar 5) (dC .non))) (dNot (dTest (dCall sp_is_between [] (dCons (dVar 5) (dCons (dC (.int 1)) (dCons (dC (.int 20)) dNil))))))) dNever dNext)
    (dSeq (dIfS (dOr (dNot (dTest (dCall sp_is_between [] (dCons (dVar 6) (dCons (dC (.int 0)) (dCons (dC (.int 3)) dNil)))))) (dAnd (dTest (dOp rGtD (dVar 6) (dC (.int 0)))) (dNot (dTest (dVar 2))))) dNever dNext)
    (dRet (dMake "Kind" (kw2 3 6 sp_Kind_init [(false, 0), (false, 1), (false, 2), (true, 0), (true, 1), (true, 2), (true, 3), (true, 4), (true, 5)] [(.tup []), (.tup []), (.tup [])]) (dCons (dVar 0) (dCons (dC (.str [110, 117, 109, 98, 101, 114])) dNil)) (dCons (dVar 1) (dCons (dVar 2) (dCons (dVar 3) (dCons (dVar 4) (dCons (dVar 5) (dCons (dVar 6) dNil)))))))))))))))
theorem len_Kind_of_numbers (ds : List D) (C : Cl) (Q : DQ) (E : DX) (h : sp_Kind_of_numbers ds C Q E) : ds.length = 7 := by obtain ⟨_, rfl, _⟩ := h; rfl
theorem isWord_len {l : List Nat} (h : isWord l = true) : l.length ≤ 8 := by
  unfold isWord at h
  rw [Bool.and_eq_true, decide_eq_true_iff] at h
  exact h.1.2
/-- None, or a number between 1 and 20 -/
theorem opt_ok {j : Nat} {o : Option Nat} {ρ : DEnv} {C : Cl} {N : Prop} {De : DEnds} (hj : ρ[j]? = some (some (optN o))) (ho : ∀ n, o = some n → 1 ≤ n ∧ n ≤ 20) (h : De.nx ρ C) :
    dIfS (dAnd (dTest (dOp rNotN (dVar j) (dC .non))) (dNot (dTest (dCall sp_is_between [] (dCons (dVar j) (dCons (dC (.int 1)) (dCons (dC (.int 20)) dNil))))))) dNever dNext De ρ C := by
  cases o with
  | none => exact ⟨_, hj, rfl, _, rfl, iteF (iteF h)⟩
  | some n =>
    obtain ⟨h1, h2⟩ := ho n rfl
    refine ⟨_, hj, rfl, _, rfl, iteT ⟨_, hj, (n : Int), 1, 20, rfl, _, rfl, ?_⟩⟩
    rw [decide_eq_true (show (1 : Int) ≤ n ∧ (n : Int) ≤ 20 by omega)]
    exact iteF h
theorem pure_Kind_of_numbers (ds : List D) (C : Cl) (Q : DQ) (E : DX) (h : sp_Kind_of_numbers ds C Q E) : td_Kind_of_numbers (endsD Q) (startD ["name", "digits", "point", "signs", "zeros", "keep", "shown"] ds) C := by
  obtain ⟨k, rfl, hw, g, hq⟩ := h
  have l8 := isWord_len hw
  refine ⟨_, rfl, _, rfl, known_str (by omega), _, rfl, ?_⟩
  show if (!isWord k.name) = true then _ else _
  rw [hw]
  refine iteF (opt_ok (N := True) rfl g.digits ?_)
  refine ⟨_, rfl, _, _, rfl, rfl, _, rfl, iteF ⟨_, rfl, _, _, rfl, rfl, _, rfl, iteF ?_⟩⟩
  have hin : (([D.str [], D.str [45], D.str [43, 45]] : List D).any fun e => eqFl e (.str k.signs)) = true := by
    rcases g.signs with e | e | e <;> rw [e] <;> rfl
  refine ⟨_, rfl, szl (by simp), .inr (.inr ⟨_, rfl, rfl, rfl, _, rfl, ?_⟩)⟩
  rw [hin]
  refine iteF ⟨_, rfl, _, _, rfl, rfl, _, rfl, iteF (opt_ok (N := True) rfl g.keep ?_)⟩
  refine ⟨_, rfl, (k.shown : Int), 0, 3, rfl, _, rfl, ?_⟩
  have := g.shown
  rw [decide_eq_true (show (0 : Int) ≤ k.shown ∧ (k.shown : Int) ≤ 3 by omega)]
  have mk : dRet (dMake "Kind" (kw2 3 6 sp_Kind_init [(false, 0), (false, 1), (false, 2), (true, 0), (true, 1), (true, 2), (true, 3), (true, 4), (true, 5)] [(.tup []), (.tup []), (.tup [])]) (dCons (dVar 0) (dCons (dC (.str [110, 117, 109, 98, 101, 114])) dNil)) (dCons (dVar 1) (dCons (dVar 2) (dCons (dVar 3) (dCons (dVar 4) (dCons (dVar 5) (dCons (dVar 6) dNil))))))) (endsD Q) [some (.str k.name), some (optN k.digits), some (.bl k.point), some (.str k.signs), some (.bl k.zeros), some (optN k.keep), some (.int k.shown)] C := by
    refine ⟨_, rfl, _, rfl, _, rfl, _, rfl, _, rfl, _, rfl, _, rfl, fun x hx => ⟨rfl, rfl, x, _, _, _, _, _, _, _, _, _, _, _, rfl, updC_same, made_end x hx ?_⟩⟩
    have e : kindD k = .ins "Kind" [("name", .str k.name), ("family", .str famNumber), ("marks", .tup []), ("yes", .tup []), ("no", .tup []), ("digits", optN k.digits), ("point", .bl k.point), ("signs", .str k.signs), ("zeros", .bl k.zeros), ("keep", optN k.keep), ("shown", .int k.shown)] := by
      unfold kindD kindFs
      rw [g.fam, g.marks, g.yes, g.no]
      rfl
    rw [e] at hq
    exact hq
  refine iteF ⟨_, rfl, _, rfl, trivial, _, rfl, ite_d (fun z => ?_) (fun z => iteF mk)⟩
  refine ⟨_, rfl, _, rfl, ite_nb (fun y => ?_) (fun _ => mk)⟩
  rw [g.point (by omega)] at y
  cases y
/-! ### drawn options -/
def optD (k : KindR) : D := .tup [optN k.digits, .bl k.point, .str k.signs, .bl k.zeros, optN k.keep, .int k.shown]
def sp_l_options : DSp := fun ds C Q _ => ∃ b m n, ds = [.ref b, .int (m : Nat)] ∧ 1 ≤ m ∧ m ≤ 20 ∧ BagAt C b n ∧ n < 1000000000 ∧
  ∀ (k : KindR) C', GoodNum k → (∀ d, k.digits = some d → d ≤ m) → Bagged C b C' (n + 10) → Q (optD k) C'
def td_l_options : DS :=
  (dSeq (dAsg (dIf (dTest (dOp rEqD (dCall sp_l_take [] (dCons (dVar 0) (dCons (dC (.int 2)) dNil))) (dC (.int 0)))) (dC .non) (dAdd (dC (.int 1)) (dCall sp_l_take [] (dCons (dVar 0) (dCons (dVar 1) dNil))))) (dName 2))
    (dSeq (dAsg (dOp rEqD (dCall sp_l_take [] (dCons (dVar 0) (dCons (dC (.int 2)) dNil))) (dC (.int 0))) (dName 3))
    (dSeq (dAsg (dIf (dTest (dOp rEqD (dCall sp_l_take [] (dCons (dVar 0) (dCons (dC (.int 2)) dNil))) (dC (.int 0)))) (dC .non) (dAdd (dC (.int 1)) (dCall sp_l_take [] (dCons (dVar 0) (dCons (dVar 1) dNil))))) (dName 4))
    (dSeq (dAsg (dIf (dTest (dVar 3)) (dCall sp_l_of [] (dCons (dVar 0) (dCons (dLst (dCons (dC (.int 0)) (dCons (dC (.int 0)) (dCons (dC (.int 1)) (dCons (dC (.int 2)) dNil))))) dNil))) (dC (.int 0))) (dName 5))
    (dSeq (dAsg (dCall sp_l_of [] (dCons (dVar 0) (dCons (dLst (dCons (dC (.str [])) (dCons (dC (.str [45])) (dCons (dC (.str [43, 45])) dNil)))) dNil))) (dName 6))
    (dRet (dTup (dCons (dVar 2) (dCons (dVar 3) (dCons (dVar 6) (dCons (dOp rGtD (dCall sp_l_take [] (dCons (dVar 0) (dCons (dC (.int 4)) dNil))) (dC (.int 0))) (dCons (dVar 4) (dCons (dVar 5) dNil)))))))))))))
theorem len_l_options (ds : List D) (C : Cl) (Q : DQ) (E : DX) (h : sp_l_options ds C Q E) : ds.length = 2 := by obtain ⟨_, _, _, rfl, _⟩ := h; rfl
/-- None if take(bag, 2) == 0 else 1 + take(bag, m) -/
theorem draw_opt {ρ : DEnv} {C : Cl} {b : Addr} {m n : Nat} {Q : DQ} (h0 : ρ[0]? = some (some (.ref b))) (h1 : ρ[1]? = some (some (.int (m : Nat)))) (m1 : 1 ≤ m) (m2 : m ≤ 20) (hb : BagAt C b n) (hn : n < 1000000100)
    (hq : ∀ o C', (∀ d, o = some d → 1 ≤ d ∧ d ≤ m) → Bagged C b C' (n + 2) → Q (optN o) C') :
    dIf (dTest (dOp rEqD (dCall sp_l_take [] (dCons (dVar 0) (dCons (dC (.int 2)) dNil))) (dC (.int 0)))) (dC .non) (dAdd (dC (.int 1)) (dCall sp_l_take [] (dCons (dVar 0) (dCons (dVar 1) dNil)))) ρ C Q := by
  refine ⟨_, h0, b, 2, n, rfl, by decide, by decide, hb, by omega, fun i C1 i0 i1 B1 => .inl ⟨_, rfl, _, rfl, ite_d (fun z => ?_) (fun z => ?_)⟩⟩
  · exact hq none C1 nofun (B1.mono (by omega))
  · refine ⟨_, h0, _, h1, b, (m : Int), n + 1, rfl, by omega, by omega, B1.at, by omega, fun j C2 j0 j1 B2 => ⟨_, rfl, trivial, ?_⟩⟩
    have := hq (some (1 + j).toNat) C2 (fun d e => by cases e; omega) ((B1.trans B2).mono (by omega))
    have e : optN (some (1 + j).toNat) = .int (1 + j) := by
      show D.int ((1 + j).toNat : Nat) = _
      rw [show (((1 + j).toNat : Nat) : Int) = 1 + j by omega]
    rw [e] at this
    exact this
theorem pure_l_options (ds : List D) (C : Cl) (Q : DQ) (E : DX) (h : sp_l_options ds C Q E) : td_l_options (endsD Q) (startD ["_law_bag_here", "_law_most", "_law_bound", "_law_pointed", "_law_kept", "_law_places", "_law_some"] ds) C := by
  obtain ⟨b, m, n, rfl, m1, m2, hb, hn, hq⟩ := h
  refine draw_opt (ρ := [some (.ref b), some (.int m), none, none, none, none, none]) rfl rfl m1 m2 hb (by omega) fun o1 C1 ho1 B1 => ?_
  refine ⟨_, rfl, b, 2, n + 2, rfl, by decide, by decide, B1.at, by omega, fun i C2 i0 i1 B2 => .inl ⟨_, rfl, ?_⟩⟩
  generalize hpt : decide (i = 0) = pt
  refine draw_opt (ρ := [some (.ref b), some (.int m), some (optN o1), some (.bl pt), none, none, none]) (n := n + 3) rfl rfl m1 m2 (B2.at.mono (by omega)) (by omega) fun o2 C3 ho2 B3 => ?_
  have rest : ∀ (sh : Nat) C4, sh ≤ 2 → (sh > 0 → pt = true) → Bagged C b C4 (n + 6) → (dSeq (dAsg (dCall sp_l_of [] (dCons (dVar 0) (dCons (dLst (dCons (dC (.str [])) (dCons (dC (.str [45])) (dCons (dC (.str [43, 45])) dNil)))) dNil))) (dName 6))
    (dRet (dTup (dCons (dVar 2) (dCons (dVar 3) (dCons (dVar 6) (dCons (dOp rGtD (dCall sp_l_take [] (dCons (dVar 0) (dCons (dC (.int 4)) dNil))) (dC (.int 0))) (dCons (dVar 4) (dCons (dVar 5) dNil))))))))) (endsD Q) [some (.ref b), some (.int m), some (optN o1), some (.bl pt), some (optN o2), some (.int sh), none] C4 := by
    intro sh C4 h1 h2 B4
    refine ⟨_, rfl, szl (by simp), b, _, _, n + 6, rfl, rfl, nofun, by simp, by simp, B4.at, by omega, fun d C5 hm B5 => ?_⟩
    have : ∃ s, d = .str s ∧ (s = [] ∨ s = [45] ∨ s = [43, 45]) := by
      simp only [List.mem_cons, List.not_mem_nil, or_false] at hm
      rcases hm with rfl | rfl | rfl <;> exact ⟨_, rfl, by simp⟩
    obtain ⟨s, rfl, hs⟩ := this
    refine ⟨_, rfl, _, rfl, _, rfl, _, rfl, b, 4, n + 7, rfl, by decide, by decide, B5.at, by omega, fun j C6 j0 j1 B6 => ⟨_, rfl, trivial, _, rfl, _, rfl, szl (by simp), _, _, .same, ?_⟩⟩
    exact hq { name := [], fam := famNumber, digits := o1, point := pt, signs := s, zeros := decide (0 < j), keep := o2, shown := sh } C6 ⟨rfl, rfl, rfl, rfl, fun d e => by have := ho1 d e; omega, fun d e => by have := ho2 d e; omega, hs, by show sh ≤ 3; omega, h2⟩ (fun d e => (ho1 d e).2) ((B4.trans (B5.trans B6)).mono (by omega))
  refine ⟨_, rfl, _, rfl, ite_b (fun z => ?_) (fun z => ?_)⟩
  · refine ⟨_, rfl, szl (by simp), b, _, _, n + 5, rfl, rfl, nofun, by simp, by simp, B3.at.mono (by omega), by omega, fun d C4 hm B4 => ?_⟩
    have B := (B1.trans (B2.trans (B3.trans B4))).mono (show _ ≤ n + 6 by omega)
    simp only [List.mem_cons, List.not_mem_nil, or_false] at hm
    rcases hm with rfl | rfl | rfl | rfl
    · exact rest 0 C4 (by decide) (fun _ => z) B
    · exact rest 0 C4 (by decide) (fun _ => z) B
    · exact rest 1 C4 (by decide) (fun _ => z) B
    · exact rest 2 C4 (by decide) (fun _ => z) B
  · exact rest 0 C3 (by decide) (fun y => absurd y (by decide)) ((B1.trans (B2.trans B3)).mono (by omega))
end G
namespace G
open PySem PySem.Spec PyProof.Rows L2
/-! ### kinds made by what was drawn -/
/-- what was drawn of a kind: the options o stand whatever the family -/
def specD (k : KindR) (o : D) : D := .tup [.str k.name, .str k.fam, .tup (txts k.marks), .tup (txts k.yes), .tup (txts k.no), o]
/-- a kind whose attributes go with its family; its options are told by o -/
inductive GoodK (o : D) : KindR → Prop
  | missing {l : List Nat} {ms : List (List Nat)} : isWord l = true → areTexts ms 4 = true → (∀ t ∈ ms, t.length ≤ 1000000) → GoodK o { name := l, fam := famMissing, marks := ms }
  | truth {l : List Nat} {ys ns : List (List Nat)} : isWord l = true → areTexts ys 4 = true → areTexts ns 4 = true → (∀ n ∈ ns, n ∉ ys) → (∀ t ∈ ys, t.length ≤ 1000000) → (∀ t ∈ ns, t.length ≤ 1000000) → GoodK o { name := l, fam := famTruth, yes := ys, no := ns }
  | text {l : List Nat} : isWord l = true → GoodK o { name := l, fam := famText }
  | number {k : KindR} : isWord k.name = true → GoodNum k → o = optD k → GoodK o k
def sp_l_made : DSp := fun ds C Q _ => ∃ k o, ds = [specD k o] ∧ GoodK o k ∧ Q (kindD k) C
def td_l_made : DS :=
  (dSeq (dAsg (dVar 0) (dgTup 6 (dgCons (dName 1) (dgCons (dName 2) (dgCons (dName 3) (dgCons (dName 4) (dgCons (dName 5) (dgCons (dName 6) dgNil))))))))
    (dSeq (dIfS (dTest (dOp rEqD (dVar 2) (dC (.str [109, 105, 115, 115, 105, 110, 103])))) (dRet (dCall sp_l_marked [] (dCons (dVar 1) (dCons (dVar 3) dNil)))) dNext)
    (dSeq (dIfS (dTest (dOp rEqD (dVar 2) (dC (.str [116, 114, 117, 116, 104])))) (dRet (dCal (pos2 sp_Kind_of_words []) (dCons (dVar 1) (dCons (dVar 4) (dCons (dVar 5) dNil))) dNil)) dNext)
    (dSeq (dIfS (dTest (dOp rEqD (dVar 2) (dC (.str [116, 101, 120, 116])))) (dRet (dCal (pos2 sp_Kind_of_texts []) (dCons (dVar 1) dNil) dNil)) dNext)
    (dSeq (dAsg (dVar 6) (dgTup 6 (dgCons (dName 7) (dgCons (dName 8) (dgCons (dName 9) (dgCons (dName 10) (dgCons (dName 11) (dgCons (dName 12) dgNil))))))))
    (dRet (dCal (kw2 1 6 sp_Kind_of_numbers [(true, 0), (true, 1), (true, 2), (true, 3), (true, 4), (true, 5)] []) (dCons (dVar 1) dNil) (dCons (dVar 7) (dCons (dVar 8) (dCons (dVar 9) (dCons (dVar 10) (dCons (dVar 11) (dCons (dVar 12) dNil)))))))))))))
theorem len_l_made (ds : List D) (C : Cl) (Q : DQ) (E : DX) (h : sp_l_made ds C Q E) : ds.length = 1 := by obtain ⟨_, _, rfl, _⟩ := h; rfl
/-- a, b, c, d, e, f = a tuple of six -/
theorem six {i1 i2 i3 i4 i5 i6 : Nat} {d1 d2 d3 d4 d5 d6 : D} {ρ : DEnv} {C : Cl} {Q : DEnv → Cl → Prop} (h : Q ((((((ρ.set i1 (some d1)).set i2 (some d2)).set i3 (some d3)).set i4 (some d4)).set i5 (some d5)).set i6 (some d6)) C) :
    dgTup 6 (dgCons (dName i1) (dgCons (dName i2) (dgCons (dName i3) (dgCons (dName i4) (dgCons (dName i5) (dgCons (dName i6) dgNil)))))) (.tup [d1, d2, d3, d4, d5, d6]) ρ C Q :=
  ⟨_, rfl, rfl, _, _, rfl, _, _, rfl, _, _, rfl, _, _, rfl, _, _, rfl, _, _, rfl, rfl, h⟩
theorem pure_l_made (ds : List D) (C : Cl) (Q : DQ) (E : DX) (h : sp_l_made ds C Q E) : td_l_made (endsD Q) (startD ["_law_spec", "_law_label", "_law_family", "_law_marks", "_law_yes", "_law_no", "_law_options_here", "_law_bound", "_law_pointed", "_law_some", "_law_leads", "_law_kept", "_law_places"] ds) C := by
  obtain ⟨k, o, rfl, g, hq⟩ := h
  refine ⟨_, rfl, six ?_⟩
  cases g with
  | @missing n0 ms0 hw ha hm =>
    have := isWord_len hw
    exact ⟨_, rfl, .inl ⟨_, rfl, _, rfl, iteT ⟨_, rfl, _, rfl, n0, ms0, rfl, hw, by omega, ha, hm, _, _, .same, hq⟩⟩⟩
  | @truth n0 ys0 ns0 hw hy hn hd ly ln =>
    have := isWord_len hw
    refine ⟨_, rfl, .inl ⟨_, rfl, _, rfl, iteF ?_⟩⟩
    exact ⟨_, rfl, .inl ⟨_, rfl, _, rfl, iteT ⟨_, rfl, _, rfl, _, rfl, rfl, n0, ys0, ns0, rfl, hw, by omega, hy, hn, hd, ly, ln, _, _, .same, hq⟩⟩⟩
  | @text n0 hw =>
    have := isWord_len hw
    refine ⟨_, rfl, .inl ⟨_, rfl, _, rfl, iteF ?_⟩⟩
    refine ⟨_, rfl, .inl ⟨_, rfl, _, rfl, iteF ?_⟩⟩
    exact ⟨_, rfl, .inl ⟨_, rfl, _, rfl, iteT ⟨_, rfl, rfl, n0, rfl, hw, by omega, _, _, .same, hq⟩⟩⟩
  | number hw gn ho =>
    subst ho
    obtain ⟨kn, kf, km, ky, ko, kd, kp, ks, kz, kk, ksh⟩ := k
    obtain ⟨rfl, rfl, rfl, rfl, g1, g2, g3, g4, g5⟩ := id gn
    refine ⟨_, rfl, .inl ⟨_, rfl, _, rfl, iteF ?_⟩⟩
    refine ⟨_, rfl, .inl ⟨_, rfl, _, rfl, iteF ?_⟩⟩
    refine ⟨_, rfl, .inl ⟨_, rfl, _, rfl, iteF ?_⟩⟩
    refine ⟨_, rfl, six ?_⟩
    exact ⟨_, rfl, _, rfl, _, rfl, _, rfl, _, rfl, _, rfl, _, rfl, rfl, rfl, _, rfl, hw, gn, _, _, .same, hq⟩
/-! ### the law's own way to what a kind takes -/
end G
namespace G
open PySem PySem.Spec PyProof.Rows L2
/-! ### values of kinds, written -/
inductive Va where
  | miss
  | truth (b : Bool)
  | num (s w p : List Nat)
  | text (l : List Nat)
theorem txts_first {ls : List (List Nat)} (h : ls ≠ []) : atI (txts ls) 0 = some (.str (ls.getD 0 [])) := txts_at (k := 0) rfl (List.length_pos_iff.mpr h)
end G
namespace G
open PySem PySem.Spec PyProof.Rows L2
/-! ### a kind, drawn -/
/-- the texts of a drawn kind: few, and none ends with eight q -/
def DrawnQ (k : KindR) : Prop := (∀ t ∈ k.marks ++ k.yes ++ k.no, noQ t = true) ∧ k.marks.length ≤ 3 ∧ k.yes.length ≤ 2 ∧ k.no.length ≤ 2
def sp_l_spec : DSp := fun ds C Q _ => ∃ (b : Addr) (l fam : List Nat) (m L n : Nat) (tk : List (List Nat)), ds = [.ref b, .str l, .str fam, .int (m : Nat), .lst (txts tk)] ∧ isWord l = true ∧ (fam = famMissing ∨ fam = famTruth ∨ fam = famNumber ∨ fam = famText) ∧ 1 ≤ m ∧ m ≤ 20 ∧ 30 ≤ L ∧ L ≤ 100000 ∧ tk.length ≤ 1000 ∧ (∀ t ∈ tk, t.length ≤ L) ∧ BagAt C b n ∧ n < 50000000 ∧
  ∀ (k : KindR) C', GoodK (optD k) k → k.name = l → k.fam = fam → (∀ t ∈ k.marks ++ k.yes ++ k.no, isText t = true ∧ t.length ≤ L + 200 ∧ t ∉ tk) → (∀ d, k.digits = some d → d ≤ m) → DrawnQ k → Bagged C b C' (n + 200000) → Q (specD k (optD k)) C'
def td_l_spec : DS :=
  (dSeq (dAsg (dTup (dCons (dTup dNil) (dCons (dTup dNil) (dCons (dTup dNil) (dCons (dTup (dCons (dC .non) (dCons (dC (.bl false)) (dCons (dC (.str [45])) (dCons (dC (.bl true)) (dCons (dC .non) (dCons (dC (.int 0)) dNil))))))) dNil))))) (dgTup 4 (dgCons (dName 5) (dgCons (dName 6) (dgCons (dName 7) (dgCons (dName 8) dgNil))))))
    (dSeq (dIfS (dTest (dOp rEqD (dVar 2) (dC (.str [109, 105, 115, 115, 105, 110, 103])))) (dAsg (dCB rTuple (dCons (dCall sp_l_other_texts [] (dCons (dVar 0) (dCons (dAdd (dC (.int 1)) (dCall sp_l_take [] (dCons (dVar 0) (dCons (dC (.int 3)) dNil)))) (dCons (dVar 4) dNil)))) dNil)) (dName 5)) dNext)
    (dSeq (dIfS (dTest (dOp rEqD (dVar 2) (dC (.str [116, 114, 117, 116, 104])))) (dSeq (dAsg (dCB rTuple (dCons (dCall sp_l_other_texts [] (dCons (dVar 0) (dCons (dAdd (dC (.int 1)) (dCall sp_l_take [] (dCons (dVar 0) (dCons (dC (.int 2)) dNil)))) (dCons (dVar 4) dNil)))) dNil)) (dName 6))
    (dAsg (dCB rTuple (dCons (dCall sp_l_other_texts [] (dCons (dVar 0) (dCons (dAdd (dC (.int 1)) (dCall sp_l_take [] (dCons (dVar 0) (dCons (dC (.int 2)) dNil)))) (dCons (dAdd (dCB rList (dCons (dVar 6) dNil)) (dVar 4)) dNil)))) dNil)) (dName 7))) dNext)
    (dSeq (dIfS (dTest (dOp rEqD (dVar 2) (dC (.str [110, 117, 109, 98, 101, 114])))) (dAsg (dCall sp_l_options [] (dCons (dVar 0) (dCons (dVar 3) dNil))) (dName 8)) dNext)
    (dRet (dTup (dCons (dVar 1) (dCons (dVar 2) (dCons (dVar 5) (dCons (dVar 6) (dCons (dVar 7) (dCons (dVar 8) dNil))))))))))))
theorem len_l_spec (ds : List D) (C : Cl) (Q : DQ) (E : DX) (h : sp_l_spec ds C Q E) : ds.length = 5 := by obtain ⟨_, _, _, _, _, _, _, rfl, _⟩ := h; rfl
/-- texts drawn, as a tuple -/
theorem draw_tup {ρ : DEnv} {C : Cl} {b : Addr} {n L c jt : Nat} {tk : List (List Nat)} {Q : DQ} (h0 : ρ[0]? = some (some (.ref b))) (ht : ρ[jt]? = some (some (.lst (txts tk)))) (c1 : 1 ≤ c) (c2 : c ≤ 3) (hL : 30 ≤ L) (hL2 : L ≤ 200000) (hk : ∀ t ∈ tk, t.length ≤ L) (hb : BagAt C b n) (hn : n < 60000000)
    (hq : ∀ fs C', areTexts fs 4 = true → (∀ t ∈ fs, isText t = true ∧ t.length ≤ L + 100 ∧ t ∉ tk ∧ noQ t = true) → fs.length ≤ c → Bagged C b C' (n + 60001) → Q (.tup (txts fs)) C') :
    dCB rTuple (dCons (dCall sp_l_other_texts [] (dCons (dVar 0) (dCons (dAdd (dC (.int 1)) (dCall sp_l_take [] (dCons (dVar 0) (dCons (dC (.int c)) dNil)))) (dCons (dVar jt) dNil)))) dNil) ρ C Q := by
  refine ⟨_, h0, _, h0, b, (c : Int), n, rfl, by omega, by omega, hb, by omega, fun i C2 i0 i1 B2 => ?_⟩
  refine ⟨_, rfl, trivial, _, ht, b, (1 + i).toNat, n + 1, L, tk, by rw [show (((1 + i).toNat : Nat) : Int) = 1 + i by omega]; rfl, by omega, hL, by omega, hk, B2.at, by omega, fun fs C3 fl fh fn B3 => ?_⟩
  refine ⟨_, txts fs, rfl, rfl, hq fs C3 ?_ fh (by omega) ((B2.trans B3).mono (by omega))⟩
  unfold areTexts
  rw [decide_eq_true (show 1 ≤ fs.length ∧ fs.length ≤ 4 by omega), decide_eq_true fn, List.all_eq_true.mpr fun t ht => (fh t ht).1]
  rfl
theorem four {i1 i2 i3 i4 : Nat} {d1 d2 d3 d4 : D} {ρ : DEnv} {C : Cl} {Q : DEnv → Cl → Prop} (h : Q ((((ρ.set i1 (some d1)).set i2 (some d2)).set i3 (some d3)).set i4 (some d4)) C) :
    dgTup 4 (dgCons (dName i1) (dgCons (dName i2) (dgCons (dName i3) (dgCons (dName i4) dgNil)))) (.tup [d1, d2, d3, d4]) ρ C Q :=
  ⟨_, rfl, rfl, _, _, rfl, _, _, rfl, _, _, rfl, _, _, rfl, rfl, h⟩
theorem pure_l_spec (ds : List D) (C : Cl) (Q : DQ) (E : DX) (h : sp_l_spec ds C Q E) : td_l_spec (endsD Q) (startD ["_law_bag_here", "_law_name", "_law_family", "_law_most", "_law_taken", "_law_marks", "_law_yes", "_law_no", "_law_options_here"] ds) C := by
  obtain ⟨b, l, fam, m, L, n, tk, rfl, hw, hfam, m1, m2, hL, hL2, hkn, hk, hb, hn, hq⟩ := h
  have zz : ([] : List D).length ≤ sizeLine := Nat.zero_le _
  refine ⟨zz, zz, zz, szl (by simp), szl (by simp), four ?_⟩
  rcases hfam with rfl | rfl | rfl | rfl
  · refine ⟨_, rfl, .inl ⟨_, rfl, _, rfl, iteT ?_⟩⟩
    refine draw_tup (c := 3) rfl rfl (by decide) (by decide) hL (by omega) hk hb (by omega) fun fs C1 h1 h2 h3 B1 => ?_
    refine ⟨_, rfl, .inl ⟨_, rfl, _, rfl, iteF ?_⟩⟩
    refine ⟨_, rfl, .inl ⟨_, rfl, _, rfl, iteF ?_⟩⟩
    refine ⟨_, rfl, _, rfl, _, rfl, _, rfl, _, rfl, _, rfl, szl (by simp), _, _, .same, ?_⟩
    exact hq { name := l, fam := famMissing, marks := fs } C1 (.missing hw h1 fun t ht => by have := (h2 t ht).2.1; omega) rfl rfl (fun t ht => by
      have ht : t ∈ fs := by simpa using ht
      have := h2 t ht
      exact ⟨this.1, by omega, this.2.2.1⟩) nofun ⟨fun t ht => (h2 t (by simpa using ht)).2.2.2, h3, by simp, by simp⟩ (B1.mono (by omega))
  · refine ⟨_, rfl, .inl ⟨_, rfl, _, rfl, iteF ?_⟩⟩
    refine ⟨_, rfl, .inl ⟨_, rfl, _, rfl, iteT ?_⟩⟩
    refine draw_tup (c := 2) rfl rfl (by decide) (by decide) hL (by omega) hk hb (by omega) fun ys C1 h1 h2 yl B1 => ?_
    obtain ⟨y1, y2, _, _⟩ := areTexts_len h1
    refine ⟨_, rfl, _, rfl, b, 2, n + 60001, rfl, by decide, by decide, B1.at, by omega, fun i C2 i0 i1 B2 => ?_⟩
    refine ⟨_, rfl, trivial, _, rfl, _, txts ys, rfl, rfl, _, rfl, _, rfl, szl (by rw [List.length_append, txts_length, txts_length]; omega), ?_⟩
    refine ⟨b, (1 + i).toNat, n + 60002, L + 100, ys ++ tk, by rw [txts_app, show (((1 + i).toNat : Nat) : Int) = 1 + i by omega]; rfl, by omega, by omega, by omega, fun t ht => ?_, B2.at, by omega, fun ns C3 fl fh fn B3 => ?_⟩
    · rcases List.mem_append.mp ht with e | e
      · exact (h2 t e).2.1
      · have := hk t e; omega
    refine ⟨_, txts ns, rfl, rfl, ?_⟩
    refine ⟨_, rfl, .inl ⟨_, rfl, _, rfl, iteF ?_⟩⟩
    refine ⟨_, rfl, _, rfl, _, rfl, _, rfl, _, rfl, _, rfl, szl (by simp), _, _, .same, ?_⟩
    have h3 : areTexts ns 4 = true := by
      unfold areTexts
      rw [decide_eq_true (show 1 ≤ ns.length ∧ ns.length ≤ 4 by omega), decide_eq_true fn, List.all_eq_true.mpr fun t ht => (fh t ht).1]
      rfl
    exact hq { name := l, fam := famTruth, yes := ys, no := ns } C3 (.truth hw h1 h3 (fun t ht z => (fh t ht).2.2.1 (List.mem_append_left _ z)) (fun t ht => by have := (h2 t ht).2.1; omega) (fun t ht => by have := (fh t ht).2.1; omega)) rfl rfl (fun t ht => by
      have ht : t ∈ ys ∨ t ∈ ns := by simpa using ht
      rcases ht with e | e
      · have := h2 t e
        exact ⟨this.1, by omega, this.2.2.1⟩
      · have := fh t e
        exact ⟨this.1, by omega, fun z => this.2.2.1 (List.mem_append_right _ z)⟩) nofun ⟨fun t ht => by
      have ht : t ∈ ys ∨ t ∈ ns := by simpa using ht
      rcases ht with e | e
      · exact (h2 t e).2.2.2
      · exact (fh t e).2.2.2, by simp, by simp only; omega, by simp only; omega⟩ ((B1.trans (B2.trans B3)).mono (by omega))
  · refine ⟨_, rfl, .inl ⟨_, rfl, _, rfl, iteF ?_⟩⟩
    refine ⟨_, rfl, .inl ⟨_, rfl, _, rfl, iteF ?_⟩⟩
    refine ⟨_, rfl, .inl ⟨_, rfl, _, rfl, iteT ?_⟩⟩
    refine ⟨_, rfl, _, rfl, b, m, n, rfl, m1, m2, hb, by omega, fun k C1 gk hd B1 => ?_⟩
    obtain ⟨kn, kf, km, ky, ko, kd, kp, ks, kz, kk, ksh⟩ := k
    obtain ⟨rfl, rfl, rfl, rfl, g1, g2, g3, g4, g5⟩ := id gk
    refine ⟨_, rfl, _, rfl, _, rfl, _, rfl, _, rfl, _, rfl, szl (by simp), _, _, .same, ?_⟩
    exact hq { name := l, fam := famNumber, marks := [], yes := [], no := [], digits := kd, point := kp, signs := ks, zeros := kz, keep := kk, shown := ksh } C1 (.number hw ⟨rfl, rfl, rfl, rfl, g1, g2, g3, g4, g5⟩ rfl) rfl rfl nofun hd ⟨nofun, by simp, by simp, by simp⟩ (B1.mono (by omega))
  · refine ⟨_, rfl, .inl ⟨_, rfl, _, rfl, iteF ?_⟩⟩
    refine ⟨_, rfl, .inl ⟨_, rfl, _, rfl, iteF ?_⟩⟩
    refine ⟨_, rfl, .inl ⟨_, rfl, _, rfl, iteF ?_⟩⟩
    refine ⟨_, rfl, _, rfl, _, rfl, _, rfl, _, rfl, _, rfl, szl (by simp), _, _, .same, ?_⟩
    exact hq { name := l, fam := famText } C (.text hw) rfl rfl nofun nofun ⟨nofun, by simp, by simp, by simp⟩ (hb.self.mono (by omega))
end G
namespace G
open PySem PySem.Spec PyProof.Rows L2
local macro_rules | `(tactic| sizeOf_list_dec) => `(tactic| exact szl (by first | omega | (simp only [List.length_append, List.length_cons, List.length_nil, List.length_map, List.length_reverse, List.length_singleton, txts_lenG]; omega) | (simp only [List.length_append, List.length_cons, List.length_nil, List.length_map, List.length_reverse, txts_lenG]; omega)))
local macro_rules | `(tactic| array_get_dec) => `(tactic| first | with_reducible refine v_seq ?_ | with_reducible refine v_next ?_ | with_reducible refine v_asg ?_ | (with_reducible refine v_isvar ?_; first | with_reducible refine v_var0 ?_ | with_reducible refine v_var1 ?_ | with_reducible refine v_var2 ?_ | with_reducible refine v_var3 ?_ | with_reducible refine v_var4 ?_ | with_reducible refine v_var5 ?_ | with_reducible refine v_var6 ?_ | with_reducible refine v_var7 ?_ | with_reducible refine v_var8 ?_ | with_reducible refine v_var9 ?_ | with_reducible refine v_var10 ?_ | with_reducible refine v_var11 ?_ | with_reducible refine v_var12 ?_ | with_reducible refine v_var13 ?_ | with_reducible refine v_var14 ?_ | with_reducible refine v_var15 ?_ | with_reducible refine v_var16 ?_ | with_reducible refine v_var17 ?_ | with_reducible refine v_var18 ?_ | with_reducible refine v_var19 ?_ | with_reducible refine v_var20 ?_ | with_reducible refine v_var21 ?_ | with_reducible refine v_var22 ?_ | with_reducible refine v_var23 ?_ | with_reducible refine v_var24 ?_ | with_reducible refine v_var25 ?_) | (with_reducible refine v_isname ?_; first | with_reducible refine v_name0 ?_ | with_reducible refine v_wname0 ?_ | with_reducible refine v_name1 ?_ | with_reducible refine v_wname1 ?_ | with_reducible refine v_name2 ?_ | with_reducible refine v_wname2 ?_ | with_reducible refine v_name3 ?_ | with_reducible refine v_wname3 ?_ | with_reducible refine v_name4 ?_ | with_reducible refine v_wname4 ?_ | with_reducible refine v_name5 ?_ | with_reducible refine v_wname5 ?_ | with_reducible refine v_name6 ?_ | with_reducible refine v_wname6 ?_ | with_reducible refine v_name7 ?_ | with_reducible refine v_wname7 ?_ | with_reducible refine v_name8 ?_ | with_reducible refine v_wname8 ?_ | with_reducible refine v_name9 ?_ | with_reducible refine v_wname9 ?_ | with_reducible refine v_name10 ?_ | with_reducible refine v_wname10 ?_ | with_reducible refine v_name11 ?_ | with_reducible refine v_wname11 ?_ | with_reducible refine v_name12 ?_ | with_reducible refine v_wname12 ?_ | with_reducible refine v_name13 ?_ | with_reducible refine v_wname13 ?_ | with_reducible refine v_name14 ?_ | with_reducible refine v_wname14 ?_ | with_reducible refine v_name15 ?_ | with_reducible refine v_wname15 ?_ | with_reducible refine v_name16 ?_ | with_reducible refine v_wname16 ?_ | with_reducible refine v_name17 ?_ | with_reducible refine v_wname17 ?_ | with_reducible refine v_name18 ?_ | with_reducible refine v_wname18 ?_ | with_reducible refine v_name19 ?_ | with_reducible refine v_wname19 ?_ | with_reducible refine v_name20 ?_ | with_reducible refine v_wname20 ?_ | with_reducible refine v_name21 ?_ | with_reducible refine v_wname21 ?_ | with_reducible refine v_name22 ?_ | with_reducible refine v_wname22 ?_ | with_reducible refine v_name23 ?_ | with_reducible refine v_wname23 ?_ | with_reducible refine v_name24 ?_ | with_reducible refine v_wname24 ?_ | with_reducible refine v_name25 ?_ | with_reducible refine v_wname25 ?_) | with_reducible refine v_drop ?_ | with_reducible refine v_ret ?_ | with_reducible refine v_ifS ?_ | with_reducible refine v_test ?_ | with_reducible refine v_bl ?_ | with_reducible refine v_const ?_ | with_reducible refine v_op ?_ | with_reducible refine v_cb ?_ | with_reducible refine v_nil ?_ | with_reducible refine v_cons ?_ | with_reducible refine v_fld ?_ | with_reducible refine v_meth ?_ | with_reducible refine v_cal ?_ | with_reducible refine v_call0 ?_ | with_reducible refine v_pos2 ?_ | with_reducible refine v_tt ?_ | with_reducible refine v_ff ?_ | with_reducible refine v_ntt ?_ | with_reducible refine v_nff ?_ | with_reducible refine v_dnot ?_ | with_reducible refine v_dand ?_ | with_reducible refine v_dor ?_ | with_reducible refine v_andV ?_ | with_reducible refine v_orV ?_ | with_reducible refine v_notV ?_ | with_reducible refine v_ifE ?_ | with_reducible refine v_bm0 ?_ | with_reducible refine v_eqS ?_ | with_reducible refine v_eqI ?_ | with_reducible refine v_neS ?_ | with_reducible refine v_neI ?_ | with_reducible refine v_eqB ?_ | with_reducible refine v_neB ?_ | with_reducible refine v_isNn ?_ | with_reducible refine v_isNs ?_ | with_reducible refine v_isNi ?_ | with_reducible refine v_isNt ?_ | with_reducible refine v_notNn ?_ | with_reducible refine v_notNs ?_ | with_reducible refine v_notNi ?_ | with_reducible refine v_notNt ?_ | with_reducible refine v_isN ?_ | with_reducible refine v_notN ?_ | with_reducible refine v_lt ?_ | with_reducible refine v_le ?_ | with_reducible refine v_gt ?_ | with_reducible refine v_ge ?_ | with_reducible refine v_addI ?_ | with_reducible refine v_subI ?_ | with_reducible refine v_lenT ?_ | with_reducible refine v_lenL ?_ | with_reducible refine v_chain ?_ | with_reducible refine v_un ?_ | with_reducible refine v_tup ?_ | with_reducible refine v_lst ?_ | with_reducible refine v_lstC ?_ | with_reducible refine v_gsub ?_ | with_reducible refine v_rng1 ?_ | with_reducible refine v_rng2 ?_ | with_reducible refine v_slice ?_ | with_reducible refine v_nopart ?_ | with_reducible refine v_part ?_ | with_reducible refine v_partI ?_ | with_reducible refine v_slT ?_ | with_reducible refine v_slL ?_ | with_reducible refine v_rev ?_ | with_reducible refine v_revO ?_ | with_reducible refine v_enumS ?_ | with_reducible refine v_enumL ?_ | with_reducible refine v_enumT ?_ | with_reducible refine v_zipS ?_ | with_reducible refine v_revL ?_ | with_reducible refine v_revT ?_ | with_reducible refine v_putT ?_ | with_reducible refine v_putK ?_ | with_reducible refine v_inT ?_ | with_reducible refine v_getT ?_ | with_reducible refine v_get2T ?_ | with_reducible refine v_make ?_ | with_reducible refine v_fldSet ?_ | with_reducible refine v_forL ?_ | with_reducible refine v_forT ?_ | with_reducible refine v_forS ?_ | with_reducible refine v_lstO ?_ | with_reducible refine v_rolO ?_ | with_reducible refine v_tupO ?_ | with_reducible refine v_strO ?_ | with_reducible refine v_listT ?_ | with_reducible refine v_listL ?_ | with_reducible refine v_tupleL ?_ | with_reducible refine v_tupleT ?_ | with_reducible refine v_isiS ?_ | with_reducible refine v_isiT ?_ | with_reducible refine v_isiL ?_ | with_reducible refine v_allM ?_ | with_reducible refine v_anyM ?_ | with_reducible refine v_eqNS ?_ | with_reducible refine v_neNS ?_ | with_reducible refine v_gcons ?_ | with_reducible refine v_gnil ?_ | with_reducible refine v_par2 ?_ | with_reducible refine v_par33 ?_ | with_reducible refine v_retN ?_ | with_reducible refine v_sameS ?_ | with_reducible refine v_sameB ?_ | with_reducible refine v_sameI ?_ | with_reducible refine v_sameN ?_ | with_reducible refine v_sameT ?_ | with_reducible refine v_sameL ?_ | with_reducible refine v_endN ?_ | with_reducible refine v_bm ?_ | with_reducible refine v_tystr ?_ | with_reducible refine v_break ?_ | with_reducible refine v_cont ?_ | ((with_reducible refine v_slS ?_ ?_); sizeOf_list_dec) | ((with_reducible refine v_lenS ?_ ?_); sizeOf_list_dec) | ((with_reducible refine v_addS ?_ ?_); sizeOf_list_dec) | ((with_reducible refine v_addT ?_ ?_); sizeOf_list_dec) | ((with_reducible refine v_addL ?_ ?_); sizeOf_list_dec) | (with_reducible refine v_par _ _ ?_) | (with_reducible refine v_par3 _ _ _ ?_) | ((with_reducible refine v_gtup ?_ ?_); rfl) | with_reducible refine v_ixT (by with_unfolding_all rfl) ?_ | with_reducible refine v_ixL (by with_unfolding_all rfl) ?_ | with_reducible refine v_ixR (by with_unfolding_all rfl) ?_ | ((with_reducible refine v_ixS ?_ (by with_unfolding_all rfl) ?_); sizeOf_list_dec) | ((with_reducible refine And.intro ?_ ?_); sizeOf_list_dec) | with_reducible refine v_dt (by first | assumption | with_unfolding_all rfl | omega | (simp only [List.length_map, List.length_append, List.length_cons, List.length_nil, List.length_reverse, txts_lenG]; first | done | omega)) ?_ | with_reducible refine v_ndt (by first | assumption | with_unfolding_all rfl | omega | (simp only [List.length_map, List.length_append, List.length_cons, List.length_nil, List.length_reverse, txts_lenG]; first | done | omega)) ?_ | with_reducible refine v_df (by first | assumption | omega | (with_unfolding_all decide) | (simp only [List.length_map, List.length_append, List.length_cons, List.length_nil, List.length_reverse, txts_lenG]; first | done | omega)) ?_ | with_reducible refine v_ndf (by first | assumption | omega | (with_unfolding_all decide) | (simp only [List.length_map, List.length_append, List.length_cons, List.length_nil, List.length_reverse, txts_lenG]; first | done | omega)) ?_ | decreasing_trivial_pre_omega | ((with_reducible refine v_isname ?_); dsimp only [wipeD, List.set]) | ((with_reducible refine v_isvar ?_); dsimp only [wipeD, List.set]))
local macro_rules | `(tactic| array_mem_dec) => `(tactic| repeat array_get_dec)
local macro_rules | `(tactic| bv_omega) => `(tactic| repeat' (first | array_get_dec | with_reducible refine ite_d (fun _ => ?_) (fun _ => ?_) | with_reducible refine ite_nd (fun _ => ?_) (fun _ => ?_) | with_reducible refine ite_b (fun _ => ?_) (fun _ => ?_) | with_reducible refine ite_nb (fun _ => ?_) (fun _ => ?_)))
/-! ### books: names, kinds by names, what holds what -/
section
variable {k : KindR} {C : Cl} {Q : D → Prop}
theorem kz_name (h : Q (.str k.name)) : ∃ c fs v, c ∈ ["Kind"] ∧ insOf C (kindD k) = some (c, fs) ∧ fs.lookup ("name" : Str) = some v ∧ Q v := ⟨_, _, _, .head _, rfl, kf_name k, h⟩
theorem kz_family (h : Q (.str k.fam)) : ∃ c fs v, c ∈ ["Kind"] ∧ insOf C (kindD k) = some (c, fs) ∧ fs.lookup ("family" : Str) = some v ∧ Q v := ⟨_, _, _, .head _, rfl, kf_family k, h⟩
theorem kz_marks (h : Q (.tup (txts k.marks))) : ∃ c fs v, c ∈ ["Kind"] ∧ insOf C (kindD k) = some (c, fs) ∧ fs.lookup ("marks" : Str) = some v ∧ Q v := ⟨_, _, _, .head _, rfl, kf_marks k, h⟩
theorem kz_digits (h : Q (optN k.digits)) : ∃ c fs v, c ∈ ["Kind"] ∧ insOf C (kindD k) = some (c, fs) ∧ fs.lookup ("digits" : Str) = some v ∧ Q v := ⟨_, _, _, .head _, rfl, kf_digits k, h⟩
theorem kz_point (h : Q (.bl k.point)) : ∃ c fs v, c ∈ ["Kind"] ∧ insOf C (kindD k) = some (c, fs) ∧ fs.lookup ("point" : Str) = some v ∧ Q v := ⟨_, _, _, .head _, rfl, kf_point k, h⟩
end
local macro_rules | `(tactic| decreasing_trivial_pre_omega) => `(tactic| with_reducible refine kz_name ?_)
local macro_rules | `(tactic| decreasing_trivial_pre_omega) => `(tactic| with_reducible refine kz_family ?_)
local macro_rules | `(tactic| decreasing_trivial_pre_omega) => `(tactic| with_reducible refine kz_marks ?_)
local macro_rules | `(tactic| decreasing_trivial_pre_omega) => `(tactic| with_reducible refine kz_yes ?_)
local macro_rules | `(tactic| decreasing_trivial_pre_omega) => `(tactic| with_reducible refine kz_no ?_)
local macro_rules | `(tactic| decreasing_trivial_pre_omega) => `(tactic| with_reducible refine kz_digits ?_)
local macro_rules | `(tactic| decreasing_trivial_pre_omega) => `(tactic| with_reducible refine kz_point ?_)
local macro_rules | `(tactic| decreasing_trivial_pre_omega) => `(tactic| with_reducible refine kz_keep ?_)
def bookMeths : List Str := ["names", "kind_named", "holds", "is_triple", "given_joins", "all_joins", "own_name", "kind_of", "kind_of_column", "words", "first_unlisted", "samples", "shortest_columns", "reachable", "flaw", "flaw_of_two", "flaw_of_three"]
/-- the fields of a book, as far as they are made -/
structure BFs (fs : List (Str × D)) (ks : List KindR) : Prop where
  kinds : fs.lookup ("kinds" : Str) = some (.tup (ks.map kindD))
  no : ∀ m ∈ bookMeths, fs.lookup m = none
/-- a book at C -/
def BkAt (C : Cl) (x : D) (ks : List KindR) : Prop := ∃ fs, insOf C x = some ("Book", fs) ∧ BFs fs ks
theorem insOf_sub {C C' : Cl} {x : D} {c : String} {fs : List (Str × D)} (s : SubC C C') (h : insOf C x = some (c, fs)) : insOf C' x = some (c, fs) := by
  cases x with
  | ins c' fs' => exact h
  | ref a =>
    change (match C a with | some (.ins c fs) => some (c, fs) | _ => none) = some (c, fs) at h
    show (match C' a with | some (.ins c fs) => some (c, fs) | _ => none) = some (c, fs)
    cases e : C a with
    | none => rw [e] at h; cases h
    | some o => rw [s a o e]; rw [e] at h; exact h
  | _ => cases h
theorem BkAt.sub {C C' : Cl} {x : D} {ks : List KindR} (s : SubC C C') (h : BkAt C x ks) : BkAt C' x ks := let ⟨fs, h1, h2⟩ := h; ⟨fs, insOf_sub s h1, h2⟩
/-- a method of a book is called -/
theorem BkAt.meth {C : Cl} {x : D} {ks : List KindR} (h : BkAt C x ks) (m : Str) {Q : Prop} (hm : m ∈ bookMeths) (q : Q) : ∃ fs, insOf C x = some ("Book", fs) ∧ fs.lookup m = none ∧ Q := let ⟨fs, h1, h2⟩ := h; ⟨fs, h1, h2.no m hm, q⟩
theorem BkAt.fkinds {C : Cl} {x : D} {ks : List KindR} (h : BkAt C x ks) {Q : D → Prop} (q : Q (.tup (ks.map kindD))) : ∃ c fs v, c ∈ ["Book"] ∧ insOf C x = some (c, fs) ∧ fs.lookup ("kinds" : Str) = some v ∧ Q v := let ⟨fs, h1, h2⟩ := h; ⟨_, fs, _, .head _, h1, h2.kinds, q⟩
def namesK (ks : List KindR) : List (List Nat) := ks.map (·.name)
def sp_Book_names : DSp := fun ds C Q _ => ∃ x ks, ds = [x] ∧ BkAt C x ks ∧ ks.length ≤ 1000 ∧ Q (.lst (txts (namesK ks))) C
def td_Book_names : DS :=
  (dRet (dFz (dLc (diTup (dFld ["Book"] (dVar 0) "kinds")) (dName 1) dYes (dFld ["Kind"] (dVar 1) "name") [1])))
theorem len_Book_names (ds : List D) (C : Cl) (Q : DQ) (E : DX) (h : sp_Book_names ds C Q E) : ds.length = 1 := by obtain ⟨_, _, rfl, _⟩ := h; rfl
theorem pure_Book_names (ds : List D) (C : Cl) (Q : DQ) (E : DX) (h : sp_Book_names ds C Q E) : td_Book_names (endsD Q) (startD ["self", "kind"] ds) C := by
  obtain ⟨x, ks, rfl, hb, hl, hq⟩ := h
  show td_Book_names _ [some x, none] C
  unfold td_Book_names
  refine v_ends ?_
  array_mem_dec
  refine v_lcmapF (as := ks) (e := kindD) (fun k => .str k.name) (fun R h => ?_) (by sizeOf_list_dec) (fun i k C1 N _ _ hs hn => ?_) ?_
  · array_mem_dec
    refine hb.fkinds ?_
    array_mem_dec
    exact h
  · array_mem_dec
    exact hn
  · array_mem_dec
    unfold namesK txts at hq
    rw [List.map_map] at hq
    exact hq
def findK (ks : List KindR) (l : List Nat) : Option KindR := ks.find? fun k => decide (k.name = l)
def sp_Book_kind_named : DSp := fun ds C Q _ => ∃ x ks l k, ds = [x, .str l] ∧ BkAt C x ks ∧ ks.length ≤ 1000 ∧ findK ks l = some k ∧ Q (kindD k) C
def td_Book_kind_named : DS :=
  (dSeq (dFor (diTup (dFld ["Book"] (dVar 0) "kinds")) (dName 2)
    (dIfS (dAnd (dTest (dCB (rIsi "str") (dCons (dVar 1) (dCons (dC (.ty "str")) dNil)))) (dTest (dOp rEqD (dFld ["Kind"] (dVar 2) "name") (dVar 1)))) (dRet (dVar 2)) dNext))
    dNever)
theorem len_Book_kind_named (ds : List D) (C : Cl) (Q : DQ) (E : DX) (h : sp_Book_kind_named ds C Q E) : ds.length = 2 := by obtain ⟨_, _, _, _, rfl, _⟩ := h; rfl
theorem pure_Book_kind_named (ds : List D) (C : Cl) (Q : DQ) (E : DX) (h : sp_Book_kind_named ds C Q E) : td_Book_kind_named (endsD Q) (startD ["self", "name", "kind"] ds) C := by
  obtain ⟨x, ks, l, k, rfl, hb, hl, hf, hq⟩ := h
  show td_Book_kind_named _ [some x, some (.str l), none] C
  unfold td_Book_kind_named
  refine v_ends ?_
  array_mem_dec
  refine v_findF 2 (as := ks) (e := kindD) (fun k => decide (k.name = l)) (fun R h => ?_) ⟨_, rfl⟩ (fun a y N ha hfirst hN => ?_) fun y hn => ?_
  · array_mem_dec
    refine hb.fkinds ?_
    array_mem_dec
    exact h
  · array_mem_dec
    refine ite_d (fun e => ?_) (fun e => ?_)
    · have := hfirst (decide_eq_true e)
      rw [show ks.find? (fun k => decide (k.name = l)) = some k from hf] at this
      cases this
      array_mem_dec
      exact ⟨_, _, .same, hq⟩
    · array_mem_dec
      exact hN (decide_eq_false e) _
  · rw [show ks.find? (fun k => decide (k.name = l)) = some k from hf] at hn
    cases hn
/-- whether a column of one kind can have cells of another one -/
def holdsK (h w : KindR) : Bool :=
  if h.name = w.name ∨ w.fam = famMissing ∨ h.fam = famText then true
  else if h.fam = famMissing ∨ w.fam = famText then false
  else if w.fam = famTruth then true
  else if h.fam = famTruth ∨ (w.point = true ∧ h.point = false) then false
  else match h.digits, w.digits with
    | none, _ => true
    | some _, none => false
    | some n, some m => decide (m ≤ n)
def sp_holds_kind : DSp := fun ds C Q _ => ∃ h w, ds = [kindD h, kindD w] ∧ Q (.bl (holdsK h w)) C
def td_holds_kind : DS :=
  (dSeq (dIfS (dOr (dTest (dOp rEqD (dFld ["Kind"] (dVar 0) "name") (dFld ["Kind"] (dVar 1) "name"))) (dOr (dTest (dOp rEqD (dFld ["Kind"] (dVar 1) "family") (dC (.str [109, 105, 115, 115, 105, 110, 103])))) (dTest (dOp rEqD (dFld ["Kind"] (dVar 0) "family") (dC (.str [116, 101, 120, 116])))))) (dRet (dC (.bl true))) dNext)
    (dSeq (dIfS (dOr (dTest (dOp rEqD (dFld ["Kind"] (dVar 0) "family") (dC (.str [109, 105, 115, 115, 105, 110, 103])))) (dTest (dOp rEqD (dFld ["Kind"] (dVar 1) "family") (dC (.str [116, 101, 120, 116]))))) (dRet (dC (.bl false))) dNext)
    (dSeq (dIfS (dTest (dOp rEqD (dFld ["Kind"] (dVar 1) "family") (dC (.str [116, 114, 117, 116, 104])))) (dRet (dC (.bl true))) dNext)
    (dSeq (dIfS (dOr (dTest (dOp rEqD (dFld ["Kind"] (dVar 0) "family") (dC (.str [116, 114, 117, 116, 104])))) (dAnd (dTest (dFld ["Kind"] (dVar 1) "point")) (dNot (dTest (dFld ["Kind"] (dVar 0) "point"))))) (dRet (dC (.bl false))) dNext)
    (dRet (dOrV (dOp rIsN (dFld ["Kind"] (dVar 0) "digits") (dC .non)) (dAndV (dOp rNotN (dFld ["Kind"] (dVar 1) "digits") (dC .non)) (dOp rLeD (dFld ["Kind"] (dVar 1) "digits") (dFld ["Kind"] (dVar 0) "digits")))))))))
theorem len_holds_kind (ds : List D) (C : Cl) (Q : DQ) (E : DX) (h : sp_holds_kind ds C Q E) : ds.length = 2 := by obtain ⟨_, _, rfl, _⟩ := h; rfl
theorem pure_holds_kind (ds : List D) (C : Cl) (Q : DQ) (E : DX) (h : sp_holds_kind ds C Q E) : td_holds_kind (endsD Q) (startD ["high", "low"] ds) C := by
  obtain ⟨h, w, rfl, hq⟩ := h
  show td_holds_kind _ [some (kindD h), some (kindD w)] C
  unfold td_holds_kind
  unfold holdsK at hq
  refine v_ends ?_
  bv_omega
  all_goals first
    | (simp_all; done)
    | (cases hd : h.digits <;> cases wd : w.digits <;> simp_all [optN, isNonD] <;> done)
    | (cases hd : h.digits with
       | none => simp_all [optN, isNonD]
       | some n => cases wd : w.digits with
         | none => simp_all [optN, isNonD]
         | some m =>
           refine v_le ?_
           array_mem_dec
           simp_all [optN, isNonD])
end G
namespace G
open PySem PySem.Spec PyProof.Rows L2
local macro_rules | `(tactic| sizeOf_list_dec) => `(tactic| exact szl (by first | omega | (simp only [List.length_append, List.length_cons, List.length_nil, List.length_map, List.length_reverse, List.length_singleton, txts_lenG]; omega) | (simp only [List.length_append, List.length_cons, List.length_nil, List.length_map, List.length_reverse, txts_lenG]; omega)))
local macro_rules | `(tactic| array_get_dec) => `(tactic| first | with_reducible refine v_seq ?_ | with_reducible refine v_next ?_ | with_reducible refine v_asg ?_ | (with_reducible refine v_isvar ?_; first | with_reducible refine v_var0 ?_ | with_reducible refine v_var1 ?_ | with_reducible refine v_var2 ?_ | with_reducible refine v_var3 ?_ | with_reducible refine v_var4 ?_ | with_reducible refine v_var5 ?_ | with_reducible refine v_var6 ?_ | with_reducible refine v_var7 ?_ | with_reducible refine v_var8 ?_ | with_reducible refine v_var9 ?_ | with_reducible refine v_var10 ?_ | with_reducible refine v_var11 ?_ | with_reducible refine v_var12 ?_ | with_reducible refine v_var13 ?_ | with_reducible refine v_var14 ?_ | with_reducible refine v_var15 ?_ | with_reducible refine v_var16 ?_ | with_reducible refine v_var17 ?_ | with_reducible refine v_var18 ?_ | with_reducible refine v_var19 ?_ | with_reducible refine v_var20 ?_ | with_reducible refine v_var21 ?_ | with_reducible refine v_var22 ?_ | with_reducible refine v_var23 ?_ | with_reducible refine v_var24 ?_ | with_reducible refine v_var25 ?_) | (with_reducible refine v_isname ?_; first | with_reducible refine v_name0 ?_ | with_reducible refine v_wname0 ?_ | with_reducible refine v_name1 ?_ | with_reducible refine v_wname1 ?_ | with_reducible refine v_name2 ?_ | with_reducible refine v_wname2 ?_ | with_reducible refine v_name3 ?_ | with_reducible refine v_wname3 ?_ | with_reducible refine v_name4 ?_ | with_reducible refine v_wname4 ?_ | with_reducible refine v_name5 ?_ | with_reducible refine v_wname5 ?_ | with_reducible refine v_name6 ?_ | with_reducible refine v_wname6 ?_ | with_reducible refine v_name7 ?_ | with_reducible refine v_wname7 ?_ | with_reducible refine v_name8 ?_ | with_reducible refine v_wname8 ?_ | with_reducible refine v_name9 ?_ | with_reducible refine v_wname9 ?_ | with_reducible refine v_name10 ?_ | with_reducible refine v_wname10 ?_ | with_reducible refine v_name11 ?_ | with_reducible refine v_wname11 ?_ | with_reducible refine v_name12 ?_ | with_reducible refine v_wname12 ?_ | with_reducible refine v_name13 ?_ | with_reducible refine v_wname13 ?_ | with_reducible refine v_name14 ?_ | with_reducible refine v_wname14 ?_ | with_reducible refine v_name15 ?_ | with_reducible refine v_wname15 ?_ | with_reducible refine v_name16 ?_ | with_reducible refine v_wname16 ?_ | with_reducible refine v_name17 ?_ | with_reducible refine v_wname17 ?_ | with_reducible refine v_name18 ?_ | with_reducible refine v_wname18 ?_ | with_reducible refine v_name19 ?_ | with_reducible refine v_wname19 ?_ | with_reducible refine v_name20 ?_ | with_reducible refine v_wname20 ?_ | with_reducible refine v_name21 ?_ | with_reducible refine v_wname21 ?_ | with_reducible refine v_name22 ?_ | with_reducible refine v_wname22 ?_ | with_reducible refine v_name23 ?_ | with_reducible refine v_wname23 ?_ | with_reducible refine v_name24 ?_ | with_reducible refine v_wname24 ?_ | with_reducible refine v_name25 ?_ | with_reducible refine v_wname25 ?_) | with_reducible refine v_drop ?_ | with_reducible refine v_ret ?_ | with_reducible refine v_ifS ?_ | with_reducible refine v_test ?_ | with_reducible refine v_bl ?_ | with_reducible refine v_const ?_ | with_reducible refine v_op ?_ | with_reducible refine v_cb ?_ | with_reducible refine v_nil ?_ | with_reducible refine v_cons ?_ | with_reducible refine v_fld ?_ | with_reducible refine v_meth ?_ | with_reducible refine v_cal ?_ | with_reducible refine v_call0 ?_ | with_reducible refine v_pos2 ?_ | with_reducible refine v_tt ?_ | with_reducible refine v_ff ?_ | with_reducible refine v_ntt ?_ | with_reducible refine v_nff ?_ | with_reducible refine v_dnot ?_ | with_reducible refine v_dand ?_ | with_reducible refine v_dor ?_ | with_reducible refine v_andV ?_ | with_reducible refine v_orV ?_ | with_reducible refine v_notV ?_ | with_reducible refine v_ifE ?_ | with_reducible refine v_bm0 ?_ | with_reducible refine v_eqS ?_ | with_reducible refine v_eqI ?_ | with_reducible refine v_neS ?_ | with_reducible refine v_neI ?_ | with_reducible refine v_eqB ?_ | with_reducible refine v_neB ?_ | with_reducible refine v_isNn ?_ | with_reducible refine v_isNs ?_ | with_reducible refine v_isNi ?_ | with_reducible refine v_isNt ?_ | with_reducible refine v_notNn ?_ | with_reducible refine v_notNs ?_ | with_reducible refine v_notNi ?_ | with_reducible refine v_notNt ?_ | with_reducible refine v_isN ?_ | with_reducible refine v_notN ?_ | with_reducible refine v_lt ?_ | with_reducible refine v_le ?_ | with_reducible refine v_gt ?_ | with_reducible refine v_ge ?_ | with_reducible refine v_addI ?_ | with_reducible refine v_subI ?_ | with_reducible refine v_lenT ?_ | with_reducible refine v_lenL ?_ | with_reducible refine v_chain ?_ | with_reducible refine v_un ?_ | with_reducible refine v_tup ?_ | with_reducible refine v_lst ?_ | with_reducible refine v_lstC ?_ | with_reducible refine v_gsub ?_ | with_reducible refine v_rng1 ?_ | with_reducible refine v_rng2 ?_ | with_reducible refine v_slice ?_ | with_reducible refine v_nopart ?_ | with_reducible refine v_part ?_ | with_reducible refine v_partI ?_ | with_reducible refine v_slT ?_ | with_reducible refine v_slL ?_ | with_reducible refine v_rev ?_ | with_reducible refine v_revO ?_ | with_reducible refine v_enumS ?_ | with_reducible refine v_enumL ?_ | with_reducible refine v_enumT ?_ | with_reducible refine v_zipS ?_ | with_reducible refine v_revL ?_ | with_reducible refine v_revT ?_ | with_reducible refine v_putT ?_ | with_reducible refine v_putK ?_ | with_reducible refine v_inT ?_ | with_reducible refine v_getT ?_ | with_reducible refine v_get2T ?_ | with_reducible refine v_make ?_ | with_reducible refine v_fldSet ?_ | with_reducible refine v_forL ?_ | with_reducible refine v_forT ?_ | with_reducible refine v_forS ?_ | with_reducible refine v_lstO ?_ | with_reducible refine v_rolO ?_ | with_reducible refine v_tupO ?_ | with_reducible refine v_strO ?_ | with_reducible refine v_listT ?_ | with_reducible refine v_listL ?_ | with_reducible refine v_tupleL ?_ | with_reducible refine v_tupleT ?_ | with_reducible refine v_isiS ?_ | with_reducible refine v_isiT ?_ | with_reducible refine v_isiL ?_ | with_reducible refine v_allM ?_ | with_reducible refine v_anyM ?_ | with_reducible refine v_eqNS ?_ | with_reducible refine v_neNS ?_ | with_reducible refine v_gcons ?_ | with_reducible refine v_gnil ?_ | with_reducible refine v_par2 ?_ | with_reducible refine v_par33 ?_ | with_reducible refine v_retN ?_ | with_reducible refine v_sameS ?_ | with_reducible refine v_sameB ?_ | with_reducible refine v_sameI ?_ | with_reducible refine v_sameN ?_ | with_reducible refine v_sameT ?_ | with_reducible refine v_sameL ?_ | with_reducible refine v_endN ?_ | with_reducible refine v_bm ?_ | with_reducible refine v_tystr ?_ | with_reducible refine v_break ?_ | with_reducible refine v_cont ?_ | ((with_reducible refine v_slS ?_ ?_); sizeOf_list_dec) | ((with_reducible refine v_lenS ?_ ?_); sizeOf_list_dec) | ((with_reducible refine v_addS ?_ ?_); sizeOf_list_dec) | ((with_reducible refine v_addT ?_ ?_); sizeOf_list_dec) | ((with_reducible refine v_addL ?_ ?_); sizeOf_list_dec) | (with_reducible refine v_par _ _ ?_) | (with_reducible refine v_par3 _ _ _ ?_) | ((with_reducible refine v_gtup ?_ ?_); rfl) | with_reducible refine v_ixT (by with_unfolding_all rfl) ?_ | with_reducible refine v_ixL (by with_unfolding_all rfl) ?_ | with_reducible refine v_ixR (by with_unfolding_all rfl) ?_ | ((with_reducible refine v_ixS ?_ (by with_unfolding_all rfl) ?_); sizeOf_list_dec) | ((with_reducible refine And.intro ?_ ?_); sizeOf_list_dec) | with_reducible refine v_dt (by first | assumption | with_unfolding_all rfl | omega | (simp only [List.length_map, List.length_append, List.length_cons, List.length_nil, List.length_reverse, txts_lenG]; first | done | omega)) ?_ | with_reducible refine v_ndt (by first | assumption | with_unfolding_all rfl | omega | (simp only [List.length_map, List.length_append, List.length_cons, List.length_nil, List.length_reverse, txts_lenG]; first | done | omega)) ?_ | with_reducible refine v_df (by first | assumption | omega | (with_unfolding_all decide) | (simp only [List.length_map, List.length_append, List.length_cons, List.length_nil, List.length_reverse, txts_lenG]; first | done | omega)) ?_ | with_reducible refine v_ndf (by first | assumption | omega | (with_unfolding_all decide) | (simp only [List.length_map, List.length_append, List.length_cons, List.length_nil, List.length_reverse, txts_lenG]; first | done | omega)) ?_ | decreasing_trivial_pre_omega | ((with_reducible refine v_isname ?_); dsimp only [wipeD, List.set]) | ((with_reducible refine v_isvar ?_); dsimp only [wipeD, List.set]))
local macro_rules | `(tactic| array_mem_dec) => `(tactic| repeat array_get_dec)
local macro_rules | `(tactic| bv_omega) => `(tactic| repeat' (first | array_get_dec | with_reducible refine ite_d (fun _ => ?_) (fun _ => ?_) | with_reducible refine ite_nd (fun _ => ?_) (fun _ => ?_) | with_reducible refine ite_b (fun _ => ?_) (fun _ => ?_) | with_reducible refine ite_nb (fun _ => ?_) (fun _ => ?_)))
local macro_rules | `(tactic| decreasing_trivial_pre_omega) => `(tactic| with_reducible refine kz_name ?_)
local macro_rules | `(tactic| decreasing_trivial_pre_omega) => `(tactic| with_reducible refine kz_family ?_)
local macro_rules | `(tactic| decreasing_trivial_pre_omega) => `(tactic| with_reducible refine kz_marks ?_)
local macro_rules | `(tactic| decreasing_trivial_pre_omega) => `(tactic| with_reducible refine kz_yes ?_)
local macro_rules | `(tactic| decreasing_trivial_pre_omega) => `(tactic| with_reducible refine kz_no ?_)
local macro_rules | `(tactic| decreasing_trivial_pre_omega) => `(tactic| with_reducible refine kz_digits ?_)
local macro_rules | `(tactic| decreasing_trivial_pre_omega) => `(tactic| with_reducible refine kz_point ?_)
local macro_rules | `(tactic| decreasing_trivial_pre_omega) => `(tactic| with_reducible refine kz_keep ?_)
/-! ### books: joins -/
def sp_Book_holds : DSp := fun ds C Q _ => ∃ x ks c a kc ka, ds = [x, .str c, .str a] ∧ BkAt C x ks ∧ ks.length ≤ 1000 ∧ findK ks c = some kc ∧ findK ks a = some ka ∧ Q (.bl (holdsK kc ka)) C
def td_Book_holds : DS :=
  (dSeq (dAsg (dMeth "Book" "kind_named" (pos2 sp_Book_kind_named []) (dVar 0) (dCons (dVar 1) dNil) dNil) (dName 3))
    (dRet (dCall sp_holds_kind [] (dCons (dVar 3) (dCons (dMeth "Book" "kind_named" (pos2 sp_Book_kind_named []) (dVar 0) (dCons (dVar 2) dNil) dNil) dNil)))))
theorem len_Book_holds (ds : List D) (C : Cl) (Q : DQ) (E : DX) (h : sp_Book_holds ds C Q E) : ds.length = 3 := by obtain ⟨_, _, _, _, _, _, rfl, _⟩ := h; rfl
theorem pure_Book_holds (ds : List D) (C : Cl) (Q : DQ) (E : DX) (h : sp_Book_holds ds C Q E) : td_Book_holds (endsD Q) (startD ["self", "c", "a", "high"] ds) C := by
  obtain ⟨x, ks, c, a, kc, ka, rfl, hb, hl, hc, ha, hq⟩ := h
  show td_Book_holds _ [some x, some (.str c), some (.str a), none] C
  unfold td_Book_holds
  refine v_ends ?_
  array_mem_dec
  refine hb.meth _ (by decide) ?_
  array_mem_dec
  refine ⟨x, ks, c, kc, rfl, hb, hl, hc, ?_⟩
  array_mem_dec
  refine hb.meth _ (by decide) ?_
  array_mem_dec
  refine ⟨x, ks, a, ka, rfl, hb, hl, ha, ?_⟩
  array_mem_dec
  refine ⟨kc, ka, rfl, ?_⟩
  array_mem_dec
  exact hq
def sp_Book_contains : DSp := fun ds C Q _ => ∃ x ks d, ds = [x, d] ∧ BkAt C x ks ∧ ks.length ≤ 1000 ∧ Known d C ∧ Q (.bl (onStr (fun l => decide (l ∈ namesK ks)) d)) C
def td_Book_contains : DS :=
  (dRet (dAndV (dCB (rIsi "str") (dCons (dVar 1) (dCons (dC (.ty "str")) dNil))) (dOp rIn (dVar 1) (dMeth "Book" "names" (pos2 sp_Book_names []) (dVar 0) dNil dNil))))
theorem len_Book_contains (ds : List D) (C : Cl) (Q : DQ) (E : DX) (h : sp_Book_contains ds C Q E) : ds.length = 2 := by obtain ⟨_, _, _, rfl, _⟩ := h; rfl
theorem pure_Book_contains (ds : List D) (C : Cl) (Q : DQ) (E : DX) (h : sp_Book_contains ds C Q E) : td_Book_contains (endsD Q) (startD ["self", "thing"] ds) C := by
  obtain ⟨x, ks, d, rfl, hb, hl, ⟨⟨n, hn⟩, hk⟩, hq⟩ := h
  show td_Book_contains _ [some x, some d] C
  unfold td_Book_contains
  refine v_ends ?_
  array_mem_dec
  refine ⟨_, _, rfl, hn, _, rfl, ?_⟩
  by_cases hs : ∃ l, d = .str l
  · rw [(strSub hn).mpr hs]
    obtain ⟨l, rfl⟩ := hs
    array_mem_dec
    refine hb.meth _ (by decide) ?_
    array_mem_dec
    refine ⟨x, ks, rfl, hb, hl, ?_⟩
    refine in_txts rfl ?_
    array_mem_dec
    exact hq
  · have e : isSub n "str" = false := by
      cases e : isSub n "str" with
      | false => rfl
      | true => exact absurd ((strSub hn).mp e) hs
    rw [e]
    array_mem_dec
    rw [onStr_no hs] at hq
    exact hq
abbrev T3 := List Nat × List Nat × List Nat
def tripD (t : T3) : D := .tup [.str t.1, .str t.2.1, .str t.2.2]
def tk (a b : List Nat) : List Key := [.inr ⟨a.toArray⟩, .inr ⟨b.toArray⟩]
theorem tk_inj {a b c d : List Nat} : tk a b = tk c d ↔ a = c ∧ b = d := by
  constructor
  · intro h
    unfold tk at h
    injection h with h1 h2
    injection h2 with h2 _
    injection h1 with h1; injection h2 with h2
    injection h1 with h1; injection h2 with h2
    exact ⟨by simpa using congrArg Array.toList h1, by simpa using congrArg Array.toList h2⟩
  · rintro ⟨rfl, rfl⟩; rfl
theorem keysD2 (a b : List Nat) : keysD [.str a, .str b] = some (tk a b) := rfl
def entT (t : T3) : List Key × D := (tk t.1 t.2.1, .str t.2.2)
/-- the triple of a pair of names -/
def pairT (trs : List T3) (a b : List Nat) : Option T3 := trs.find? fun t => decide (t.1 = a ∧ t.2.1 = b)
theorem val_ent (trs : List T3) (a b : List Nat) : valD (trs.map entT) (tk a b) = (pairT trs a b).map fun t => .str t.2.2 := by
  induction trs with
  | nil => rfl
  | cons t trs ih =>
    unfold pairT at *
    rw [List.map_cons, valD_cons, List.find?_cons, ih]
    by_cases e : t.1 = a ∧ t.2.1 = b
    · rw [if_pos (show (entT t).1 = tk a b from tk_inj.mpr e), decide_eq_true e]; rfl
    · rw [if_neg (show ¬ (entT t).1 = tk a b from fun z => e (tk_inj.mp z)), decide_eq_false e]
theorem putKD_new {κ : Type} [DecidableEq κ] {kvs : List (κ × D)} {k : κ} {v : D} (h : valD kvs k = none) : putKD kvs k v = kvs ++ [(k, v)] := by
  unfold putKD
  rw [valD_any, h]; rfl
/-- a triple that the book takes -/
structure OkT (ks : List KindR) (t : T3) : Prop where
  n1 : t.1 ∈ namesK ks
  n2 : t.2.1 ∈ namesK ks
  n3 : t.2.2 ∈ namesK ks
  ne : t.1 ≠ t.2.1
  h1 : ∀ c a, findK ks t.2.2 = some c → findK ks t.1 = some a → holdsK c a = true
  h2 : ∀ c a, findK ks t.2.2 = some c → findK ks t.2.1 = some a → holdsK c a = true
theorem find_name {ks : List KindR} {l : List Nat} (h : l ∈ namesK ks) : ∃ k, findK ks l = some k := by
  unfold namesK at h
  obtain ⟨k, hk, rfl⟩ := List.mem_map.mp h
  cases e : findK ks k.name with
  | some k' => exact ⟨k', rfl⟩
  | none => unfold findK at e; rw [List.find?_eq_none] at e; exact absurd (decide_eq_true rfl) (e k hk)
theorem name_len {ks : List KindR} {l : List Nat} (hw : ∀ k ∈ ks, k.name.length ≤ 100) (h : l ∈ namesK ks) : l.length ≤ 100 := by
  unfold namesK at h
  obtain ⟨k, hk, rfl⟩ := List.mem_map.mp h
  exact hw k hk
/-- is it a text that names a kind -/
def inB (ks : List KindR) (d : D) : Bool := onStr (fun l => decide (l ∈ namesK ks)) d
/-- what is no triple of a book's names -/
inductive NoTrip (ks : List KindR) : D → Cl → Prop
  | other {d : D} {C : Cl} (n : String) : tyNm d C = some n → isSub n "tuple" = false → NoTrip ks d C
  | len {es : List D} {C : Cl} : es.length ≠ 3 → es.length ≤ 100 → NoTrip ks (.tup es) C
  | name {a b c : D} {C : Cl} : (∀ d ∈ [a, b, c], ∀ C', Known d C') → [a, b, c].all (inB ks) = false → NoTrip ks (.tup [a, b, c]) C
  | same {t : T3} {C : Cl} : t.1 ∈ namesK ks → t.2.1 ∈ namesK ks → t.2.2 ∈ namesK ks → t.1 = t.2.1 → NoTrip ks (tripD t) C
def sp_Book_is_triple : DSp := fun ds C Q _ => (∃ x ks t, ds = [x, tripD t] ∧ BkAt C x ks ∧ ks.length ≤ 1000 ∧ (∀ k ∈ ks, k.name.length ≤ 100) ∧ t.1 ∈ namesK ks ∧ t.2.1 ∈ namesK ks ∧ t.2.2 ∈ namesK ks ∧ t.1 ≠ t.2.1 ∧ Q (.bl true) C) ∨
  ∃ x ks d, ds = [x, d] ∧ BkAt C x ks ∧ ks.length ≤ 1000 ∧ (∀ k ∈ ks, k.name.length ≤ 100) ∧ NoTrip ks d C ∧ Q (.bl false) C
def td_Book_is_triple : DS :=
  (dSeq (dIfS (dOr (dNot (dTest (dCB (rIsi "tuple") (dCons (dVar 1) (dCons (dC (.ty "tuple")) dNil))))) (dTest (dOp rNeD (dCB rLen (dCons (dVar 1) dNil)) (dC (.int 3))))) (dRet (dC (.bl false))) dNext)
    (dRet (dAndV (dCB rAllL (dCons (dFz (dLc (diTup (dVar 1)) (dName 2) dYes (dOp (rInO "Book" (pos2 sp_Book_contains []) false) (dVar 2) (dVar 0)) [2])) dNil)) (dOp rNeD (dOp rIx (dVar 1) (dC (.int 0))) (dOp rIx (dVar 1) (dC (.int 1)))))))
theorem len_Book_is_triple (ds : List D) (C : Cl) (Q : DQ) (E : DX) (h : sp_Book_is_triple ds C Q E) : ds.length = 2 := by rcases h with ⟨_, _, _, rfl, _⟩ | ⟨_, _, _, rfl, _⟩ <;> rfl
theorem pure_Book_is_triple (ds : List D) (C : Cl) (Q : DQ) (E : DX) (h : sp_Book_is_triple ds C Q E) : td_Book_is_triple (endsD Q) (startD ["self", "join", "name"] ds) C := by
  rcases h with ⟨x, ks, t, rfl, hb, hl, hw, n1, n2, n3, ne, hq⟩ | ⟨x, ks, d, rfl, hb, hl, hw, nt, hq⟩
  · unfold td_Book_is_triple
    refine v_ends ?_
    simp only [startD, List.map_cons, List.map_nil, List.length_cons, List.length_nil, Nat.reduceAdd, Nat.reduceSub, List.reduceReplicate, List.cons_append, List.nil_append]
    array_mem_dec
    unfold tripD
    array_mem_dec
    refine v_lcmapF (as := [t.1, t.2.1, t.2.2]) (e := D.str) (fun _ => .bl true) (fun R h => ?_) (by sizeOf_list_dec) (fun i l C1 N _ hm hs hn => ?_) ?_
    · array_mem_dec
      exact h
    · have hm : l ∈ namesK ks := by
        simp only [List.mem_cons, List.not_mem_nil, or_false] at hm
        rcases hm with rfl | rfl | rfl <;> assumption
      array_mem_dec
      obtain ⟨fs, h1, h2⟩ := hb.sub hs
      refine ⟨fs, h1, ?_⟩
      array_mem_dec
      refine ⟨x, ks, .str l, rfl, ⟨fs, h1, h2⟩, hl, ⟨⟨_, rfl⟩, fun l' e => by cases e; have := name_len hw hm; omega⟩, _, rfl, ?_⟩
      rw [show onStr (fun l => decide (l ∈ namesK ks)) (.str l) = true from decide_eq_true hm]
      exact hn
    · array_mem_dec
      rw [List.all_eq_true.mpr (fun _ _ => rfl)]
      array_mem_dec
      rw [decide_eq_false ne]
      exact hq
  · cases nt with
    | other n hn hs =>
      unfold td_Book_is_triple
      refine v_ends ?_
      simp only [startD, List.map_cons, List.map_nil, List.length_cons, List.length_nil, Nat.reduceAdd, Nat.reduceSub, List.reduceReplicate, List.cons_append, List.nil_append]
      array_mem_dec
      refine ⟨_, _, rfl, hn, _, rfl, ?_⟩
      rw [hs]
      array_mem_dec
      exact hq
    | @len es _ h3 hl2 =>
      unfold td_Book_is_triple
      refine v_ends ?_
      simp only [startD, List.map_cons, List.map_nil, List.length_cons, List.length_nil, Nat.reduceAdd, Nat.reduceSub, List.reduceReplicate, List.cons_append, List.nil_append]
      array_mem_dec
      exact hq
    | @name a b c _ hk ha =>
      unfold td_Book_is_triple
      refine v_ends ?_
      simp only [startD, List.map_cons, List.map_nil, List.length_cons, List.length_nil, Nat.reduceAdd, Nat.reduceSub, List.reduceReplicate, List.cons_append, List.nil_append]
      array_mem_dec
      refine v_lcmapF (as := [a, b, c]) (e := id) (fun d => .bl (inB ks d)) (fun R h => ?_) (by sizeOf_list_dec) (fun i l C1 N _ hm hs hn => ?_) ?_
      · array_mem_dec
        exact h
      · array_mem_dec
        obtain ⟨fs, h1, h2⟩ := hb.sub hs
        refine ⟨fs, h1, ?_⟩
        array_mem_dec
        refine ⟨x, ks, l, rfl, ⟨fs, h1, h2⟩, hl, hk l hm _, _, rfl, ?_⟩
        rw [Bool.false_xor]
        exact hn
      · array_mem_dec
        rw [if_neg (by rw [ha]; exact Bool.false_ne_true)]
        exact ⟨_, _, .same, hq⟩
    | @same t _ n1 n2 n3 e =>
      unfold td_Book_is_triple
      refine v_ends ?_
      simp only [startD, List.map_cons, List.map_nil, List.length_cons, List.length_nil, Nat.reduceAdd, Nat.reduceSub, List.reduceReplicate, List.cons_append, List.nil_append]
      array_mem_dec
      unfold tripD
      array_mem_dec
      refine v_lcmapF (as := [t.1, t.2.1, t.2.2]) (e := D.str) (fun _ => .bl true) (fun R h => ?_) (by sizeOf_list_dec) (fun i l C1 N _ hm hs hn => ?_) ?_
      · array_mem_dec
        exact h
      · have hm : l ∈ namesK ks := by
          simp only [List.mem_cons, List.not_mem_nil, or_false] at hm
          rcases hm with rfl | rfl | rfl <;> assumption
        array_mem_dec
        obtain ⟨fs, h1, h2⟩ := hb.sub hs
        refine ⟨fs, h1, ?_⟩
        array_mem_dec
        refine ⟨x, ks, .str l, rfl, ⟨fs, h1, h2⟩, hl, ⟨⟨_, rfl⟩, fun l' e => by cases e; have := name_len hw hm; omega⟩, _, rfl, ?_⟩
        rw [show onStr (fun l => decide (l ∈ namesK ks)) (.str l) = true from decide_eq_true hm]
        exact hn
      · array_mem_dec
        rw [List.all_eq_true.mpr (fun _ _ => rfl)]
        array_mem_dec
        rw [decide_eq_true e]
        exact hq
/-- the triples that a book is made of -/
structure OkTs (ks : List KindR) (trs : List T3) : Prop where
  ok : ∀ t ∈ trs, OkT ks t
  nd : (trs.map fun t => (t.1, t.2.1)).Nodup
  len : trs.length ≤ 1000
theorem numbered_map {α : Type} (e : α → D) : ∀ (k : Nat) (as : List α), numbered k (as.map e) = (as.zipIdx k).map fun p => .tup [.int (p.2 : Nat), e p.1]
  | _, [] => rfl
  | k, a :: as => by
    rw [List.map_cons, List.zipIdx_cons, List.map_cons, ← numbered_map e (k + 1) as]; rfl
theorem nodup_get {α : Type} {l : List α} (nd : l.Nodup) {i j : Nat} {a : α} (hi : l[i]? = some a) (hj : l[j]? = some a) : i = j := by
  unfold List.Nodup at nd
  rw [List.pairwise_iff_getElem] at nd
  obtain ⟨h1, e1⟩ := List.getElem?_eq_some_iff.mp hi
  obtain ⟨h2, e2⟩ := List.getElem?_eq_some_iff.mp hj
  rcases Nat.lt_trichotomy i j with h | h | h
  · exact absurd (e1.trans e2.symm) (nd i j h1 h2 h)
  · exact h
  · exact absurd (e2.trans e1.symm) (nd j i h2 h1 h)
theorem pairT_none {trs : List T3} {a b : List Nat} (h : ∀ t ∈ trs, ¬ (t.1 = a ∧ t.2.1 = b)) : pairT trs a b = none := by
  unfold pairT; rw [List.find?_eq_none]; intro t ht; simpa using h t ht
end G
namespace G
open PySem PySem.Spec PyProof.Rows L2
local macro_rules | `(tactic| sizeOf_list_dec) => `(tactic| exact szl (by first | omega | (simp only [List.length_append, List.length_cons, List.length_nil, List.length_map, List.length_reverse, List.length_singleton, txts_lenG]; omega) | (simp only [List.length_append, List.length_cons, List.length_nil, List.length_map, List.length_reverse, txts_lenG]; omega)))
local macro_rules | `(tactic| array_get_dec) => `(tactic| first | with_reducible refine v_seq ?_ | with_reducible refine v_next ?_ | with_reducible refine v_asg ?_ | (with_reducible refine v_isvar ?_; first | with_reducible refine v_var0 ?_ | with_reducible refine v_var1 ?_ | with_reducible refine v_var2 ?_ | with_reducible refine v_var3 ?_ | with_reducible refine v_var4 ?_ | with_reducible refine v_var5 ?_ | with_reducible refine v_var6 ?_ | with_reducible refine v_var7 ?_ | with_reducible refine v_var8 ?_ | with_reducible refine v_var9 ?_ | with_reducible refine v_var10 ?_ | with_reducible refine v_var11 ?_ | with_reducible refine v_var12 ?_ | with_reducible refine v_var13 ?_ | with_reducible refine v_var14 ?_ | with_reducible refine v_var15 ?_ | with_reducible refine v_var16 ?_ | with_reducible refine v_var17 ?_ | with_reducible refine v_var18 ?_ | with_reducible refine v_var19 ?_ | with_reducible refine v_var20 ?_ | with_reducible refine v_var21 ?_ | with_reducible refine v_var22 ?_ | with_reducible refine v_var23 ?_ | with_reducible refine v_var24 ?_ | with_reducible refine v_var25 ?_) | (with_reducible refine v_isname ?_; first | with_reducible refine v_name0 ?_ | with_reducible refine v_wname0 ?_ | with_reducible refine v_name1 ?_ | with_reducible refine v_wname1 ?_ | with_reducible refine v_name2 ?_ | with_reducible refine v_wname2 ?_ | with_reducible refine v_name3 ?_ | with_reducible refine v_wname3 ?_ | with_reducible refine v_name4 ?_ | with_reducible refine v_wname4 ?_ | with_reducible refine v_name5 ?_ | with_reducible refine v_wname5 ?_ | with_reducible refine v_name6 ?_ | with_reducible refine v_wname6 ?_ | with_reducible refine v_name7 ?_ | with_reducible refine v_wname7 ?_ | with_reducible refine v_name8 ?_ | with_reducible refine v_wname8 ?_ | with_reducible refine v_name9 ?_ | with_reducible refine v_wname9 ?_ | with_reducible refine v_name10 ?_ | with_reducible refine v_wname10 ?_ | with_reducible refine v_name11 ?_ | with_reducible refine v_wname11 ?_ | with_reducible refine v_name12 ?_ | with_reducible refine v_wname12 ?_ | with_reducible refine v_name13 ?_ | with_reducible refine v_wname13 ?_ | with_reducible refine v_name14 ?_ | with_reducible refine v_wname14 ?_ | with_reducible refine v_name15 ?_ | with_reducible refine v_wname15 ?_ | with_reducible refine v_name16 ?_ | with_reducible refine v_wname16 ?_ | with_reducible refine v_name17 ?_ | with_reducible refine v_wname17 ?_ | with_reducible refine v_name18 ?_ | with_reducible refine v_wname18 ?_ | with_reducible refine v_name19 ?_ | with_reducible refine v_wname19 ?_ | with_reducible refine v_name20 ?_ | with_reducible refine v_wname20 ?_ | with_reducible refine v_name21 ?_ | with_reducible refine v_wname21 ?_ | with_reducible refine v_name22 ?_ | with_reducible refine v_wname22 ?_ | with_reducible refine v_name23 ?_ | with_reducible refine v_wname23 ?_ | with_reducible refine v_name24 ?_ | with_reducible refine v_wname24 ?_ | with_reducible refine v_name25 ?_ | with_reducible refine v_wname25 ?_) | with_reducible refine v_drop ?_ | with_reducible refine v_ret ?_ | with_reducible refine v_ifS ?_ | with_reducible refine v_test ?_ | with_reducible refine v_bl ?_ | with_reducible refine v_const ?_ | with_reducible refine v_op ?_ | with_reducible refine v_cb ?_ | with_reducible refine v_nil ?_ | with_reducible refine v_cons ?_ | with_reducible refine v_fld ?_ | with_reducible refine v_meth ?_ | with_reducible refine v_cal ?_ | with_reducible refine v_call0 ?_ | with_reducible refine v_pos2 ?_ | with_reducible refine v_tt ?_ | with_reducible refine v_ff ?_ | with_reducible refine v_ntt ?_ | with_reducible refine v_nff ?_ | with_reducible refine v_dnot ?_ | with_reducible refine v_dand ?_ | with_reducible refine v_dor ?_ | with_reducible refine v_andV ?_ | with_reducible refine v_orV ?_ | with_reducible refine v_notV ?_ | with_reducible refine v_ifE ?_ | with_reducible refine v_bm0 ?_ | with_reducible refine v_eqS ?_ | with_reducible refine v_eqI ?_ | with_reducible refine v_neS ?_ | with_reducible refine v_neI ?_ | with_reducible refine v_eqB ?_ | with_reducible refine v_neB ?_ | with_reducible refine v_isNn ?_ | with_reducible refine v_isNs ?_ | with_reducible refine v_isNi ?_ | with_reducible refine v_isNt ?_ | with_reducible refine v_notNn ?_ | with_reducible refine v_notNs ?_ | with_reducible refine v_notNi ?_ | with_reducible refine v_notNt ?_ | with_reducible refine v_isN ?_ | with_reducible refine v_notN ?_ | with_reducible refine v_lt ?_ | with_reducible refine v_le ?_ | with_reducible refine v_gt ?_ | with_reducible refine v_ge ?_ | with_reducible refine v_addI ?_ | with_reducible refine v_subI ?_ | with_reducible refine v_lenT ?_ | with_reducible refine v_lenL ?_ | with_reducible refine v_chain ?_ | with_reducible refine v_un ?_ | with_reducible refine v_tup ?_ | with_reducible refine v_lst ?_ | with_reducible refine v_lstC ?_ | with_reducible refine v_gsub ?_ | with_reducible refine v_rng1 ?_ | with_reducible refine v_rng2 ?_ | with_reducible refine v_slice ?_ | with_reducible refine v_nopart ?_ | with_reducible refine v_part ?_ | with_reducible refine v_partI ?_ | with_reducible refine v_slT ?_ | with_reducible refine v_slL ?_ | with_reducible refine v_rev ?_ | with_reducible refine v_revO ?_ | with_reducible refine v_enumS ?_ | with_reducible refine v_enumL ?_ | with_reducible refine v_enumT ?_ | with_reducible refine v_zipS ?_ | with_reducible refine v_revL ?_ | with_reducible refine v_revT ?_ | with_reducible refine v_putT ?_ | with_reducible refine v_putK ?_ | with_reducible refine v_inT ?_ | with_reducible refine v_getT ?_ | with_reducible refine v_get2T ?_ | with_reducible refine v_make ?_ | with_reducible refine v_fldSet ?_ | with_reducible refine v_forL ?_ | with_reducible refine v_forT ?_ | with_reducible refine v_forS ?_ | with_reducible refine v_lstO ?_ | with_reducible refine v_rolO ?_ | with_reducible refine v_tupO ?_ | with_reducible refine v_strO ?_ | with_reducible refine v_listT ?_ | with_reducible refine v_listL ?_ | with_reducible refine v_tupleL ?_ | with_reducible refine v_tupleT ?_ | with_reducible refine v_isiS ?_ | with_reducible refine v_isiT ?_ | with_reducible refine v_isiL ?_ | with_reducible refine v_allM ?_ | with_reducible refine v_anyM ?_ | with_reducible refine v_eqNS ?_ | with_reducible refine v_neNS ?_ | with_reducible refine v_gcons ?_ | with_reducible refine v_gnil ?_ | with_reducible refine v_par2 ?_ | with_reducible refine v_par33 ?_ | with_reducible refine v_retN ?_ | with_reducible refine v_sameS ?_ | with_reducible refine v_sameB ?_ | with_reducible refine v_sameI ?_ | with_reducible refine v_sameN ?_ | with_reducible refine v_sameT ?_ | with_reducible refine v_sameL ?_ | with_reducible refine v_endN ?_ | with_reducible refine v_bm ?_ | with_reducible refine v_tystr ?_ | with_reducible refine v_break ?_ | with_reducible refine v_cont ?_ | ((with_reducible refine v_slS ?_ ?_); sizeOf_list_dec) | ((with_reducible refine v_lenS ?_ ?_); sizeOf_list_dec) | ((with_reducible refine v_addS ?_ ?_); sizeOf_list_dec) | ((with_reducible refine v_addT ?_ ?_); sizeOf_list_dec) | ((with_reducible refine v_addL ?_ ?_); sizeOf_list_dec) | (with_reducible refine v_par _ _ ?_) | (with_reducible refine v_par3 _ _ _ ?_) | ((with_reducible refine v_gtup ?_ ?_); rfl) | with_reducible refine v_ixT (by with_unfolding_all rfl) ?_ | with_reducible refine v_ixL (by with_unfolding_all rfl) ?_ | with_reducible refine v_ixR (by with_unfolding_all rfl) ?_ | ((with_reducible refine v_ixS ?_ (by with_unfolding_all rfl) ?_); sizeOf_list_dec) | ((with_reducible refine And.intro ?_ ?_); sizeOf_list_dec) | with_reducible refine v_dt (by first | assumption | with_unfolding_all rfl | omega | (simp only [List.length_map, List.length_append, List.length_cons, List.length_nil, List.length_reverse, txts_lenG]; first | done | omega)) ?_ | with_reducible refine v_ndt (by first | assumption | with_unfolding_all rfl | omega | (simp only [List.length_map, List.length_append, List.length_cons, List.length_nil, List.length_reverse, txts_lenG]; first | done | omega)) ?_ | with_reducible refine v_df (by first | assumption | omega | (with_unfolding_all decide) | (simp only [List.length_map, List.length_append, List.length_cons, List.length_nil, List.length_reverse, txts_lenG]; first | done | omega)) ?_ | with_reducible refine v_ndf (by first | assumption | omega | (with_unfolding_all decide) | (simp only [List.length_map, List.length_append, List.length_cons, List.length_nil, List.length_reverse, txts_lenG]; first | done | omega)) ?_ | decreasing_trivial_pre_omega | ((with_reducible refine v_isname ?_); dsimp only [wipeD, List.set]) | ((with_reducible refine v_isvar ?_); dsimp only [wipeD, List.set]))
local macro_rules | `(tactic| array_mem_dec) => `(tactic| repeat array_get_dec)
local macro_rules | `(tactic| bv_omega) => `(tactic| repeat' (first | array_get_dec | with_reducible refine ite_d (fun _ => ?_) (fun _ => ?_) | with_reducible refine ite_nd (fun _ => ?_) (fun _ => ?_) | with_reducible refine ite_b (fun _ => ?_) (fun _ => ?_) | with_reducible refine ite_nb (fun _ => ?_) (fun _ => ?_)))
local macro_rules | `(tactic| decreasing_trivial_pre_omega) => `(tactic| with_reducible refine kz_name ?_)
local macro_rules | `(tactic| decreasing_trivial_pre_omega) => `(tactic| with_reducible refine kz_family ?_)
local macro_rules | `(tactic| decreasing_trivial_pre_omega) => `(tactic| with_reducible refine kz_marks ?_)
local macro_rules | `(tactic| decreasing_trivial_pre_omega) => `(tactic| with_reducible refine kz_yes ?_)
local macro_rules | `(tactic| decreasing_trivial_pre_omega) => `(tactic| with_reducible refine kz_no ?_)
local macro_rules | `(tactic| decreasing_trivial_pre_omega) => `(tactic| with_reducible refine kz_digits ?_)
local macro_rules | `(tactic| decreasing_trivial_pre_omega) => `(tactic| with_reducible refine kz_point ?_)
local macro_rules | `(tactic| decreasing_trivial_pre_omega) => `(tactic| with_reducible refine kz_keep ?_)
/-! ### books: the table of all joins, the making -/
def jnT (trs : List T3) (spare a b : List Nat) : List Nat :=
  if a = b then a else match pairT trs a b with
    | some t => t.2.2
    | none => match pairT trs b a with
      | some t => t.2.2
      | none => spare
def rowT (jn : List Nat → List Nat → List Nat) (ns : List (List Nat)) (a : List Nat) : List (List Key × D) := ns.map fun b => (tk a b, .str (jn a b))
def tblT (jn : List Nat → List Nat → List Nat) (ns : List (List Nat)) : List (List Key × D) := ns.flatMap (rowT jn ns)
theorem valD_none {κ : Type} [DecidableEq κ] {kvs : List (κ × D)} {k : κ} (h : ∀ p ∈ kvs, p.1 ≠ k) : valD kvs k = none := by
  cases e : valD kvs k with
  | none => rfl
  | some v => exact absurd rfl (h _ (valD_mem e))
theorem flat_le {α β : Type} {f : α → List β} {N : Nat} (h : ∀ a, (f a).length ≤ N) : ∀ l : List α, (l.flatMap f).length ≤ l.length * N
  | [] => by simp
  | a :: l => by
    rw [List.flatMap_cons, List.length_append, List.length_cons, Nat.add_mul, Nat.one_mul]
    have := flat_le h l; have := h a; omega
/-- a book at C whose spare kind is known too -/
def BkSp (C : Cl) (x : D) (ks : List KindR) (s : List Nat) : Prop := ∃ fs, insOf C x = some ("Book", fs) ∧ BFs fs ks ∧ fs.lookup ("spare" : Str) = some (.str s)
theorem BkSp.bk {C : Cl} {x : D} {ks : List KindR} {s : List Nat} (h : BkSp C x ks s) : BkAt C x ks := let ⟨fs, h1, h2, _⟩ := h; ⟨fs, h1, h2⟩
theorem BkSp.sub {C C' : Cl} {x : D} {ks : List KindR} {sp : List Nat} (s : SubC C C') (h : BkSp C x ks sp) : BkSp C' x ks sp := let ⟨fs, h1, h2, h3⟩ := h; ⟨fs, insOf_sub s h1, h2, h3⟩
theorem BkSp.fspare {C : Cl} {x : D} {ks : List KindR} {s : List Nat} (h : BkSp C x ks s) {Q : D → Prop} (q : Q (.str s)) : ∃ c fs v, c ∈ ["Book"] ∧ insOf C x = some (c, fs) ∧ fs.lookup ("spare" : Str) = some v ∧ Q v := let ⟨fs, h1, _, h3⟩ := h; ⟨_, fs, _, .head _, h1, h3, q⟩
def sp_Book_all_joins : DSp := fun ds C Q _ => ∃ x ks s trs, ds = [x, .dct (trs.map entT)] ∧ BkSp C x ks s ∧ ks.length ≤ 1000 ∧ (namesK ks).Nodup ∧ Q (.dct (tblT (jnT trs s) (namesK ks))) C
def td_Book_all_joins : DS :=
  (dSeq (dAsg dNewT (dName 2))
    (dSeq (dFor (diList (dMeth "Book" "names" (pos2 sp_Book_names []) (dVar 0) dNil dNil)) (dName 3)
    (dFor (diList (dMeth "Book" "names" (pos2 sp_Book_names []) (dVar 0) dNil dNil)) (dName 4)
    (dIfS (dTest (dOp rEqD (dVar 3) (dVar 4))) (dPutT (dVar 2) (dCons (dVar 3) (dCons (dVar 4) dNil)) (dVar 3)) (dIfS (dTest (dInT (dCons (dVar 3) (dCons (dVar 4) dNil)) (dVar 1))) (dPutT (dVar 2) (dCons (dVar 3) (dCons (dVar 4) dNil)) (dGetT (dVar 1) (dCons (dVar 3) (dCons (dVar 4) dNil)))) (dPutT (dVar 2) (dCons (dVar 3) (dCons (dVar 4) dNil)) (dGet2T (dVar 1) (dCons (dVar 4) (dCons (dVar 3) dNil)) (dFld ["Book"] (dVar 0) "spare")))))))
    (dRet (dVar 2))))
theorem len_Book_all_joins (ds : List D) (C : Cl) (Q : DQ) (E : DX) (h : sp_Book_all_joins ds C Q E) : ds.length = 2 := by repeat (first | (obtain ⟨rfl, _⟩ := h; exact rfl) | (obtain ⟨_, h⟩ := h))
theorem pure_Book_all_joins (ds : List D) (C : Cl) (Q : DQ) (E : DX) (h : sp_Book_all_joins ds C Q E) : td_Book_all_joins (endsD Q) (startD ["self", "given", "table", "one", "other"] ds) C := by
  obtain ⟨x, ks, s, trs, rfl, hb, hl, nd, hq⟩ := h
  have nl : (namesK ks).length ≤ 1000 := by unfold namesK; rw [List.length_map]; exact hl
  have big : (1001000 : Nat) < sizeLine := by rw [sizeLine_eq]; decide
  unfold td_Book_all_joins
  refine v_ends ?_
  simp only [startD, List.map_cons, List.map_nil, List.length_cons, List.length_nil, Nat.reduceAdd, Nat.reduceSub, List.reduceReplicate, List.cons_append, List.nil_append]
  array_mem_dec
  intro p hp
  have sub : ∀ kvs, SubC C (updC C p (.dct kvs)) := fun kvs => (SubC.refl _).new hp
  array_mem_dec
  refine v_loopF (as := namesK ks) (e := D.str) (fun i ρ' C' => (∃ y z, ρ' = [some x, some (.dct (trs.map entT)), some (.ref p), y, z]) ∧ C' = updC C p (.dct (((namesK ks).take i).flatMap (rowT (jnT trs s) (namesK ks))))) (fun R h => ?_) ⟨⟨_, _, rfl⟩, rfl⟩ (fun i a ρ' C' hi hm hP => ?_) fun ρ' C' hP => ?_
  · have hb' := (hb.sub (sub [])).bk
    array_mem_dec
    refine hb'.meth _ (by decide) ?_
    array_mem_dec
    refine ⟨x, ks, rfl, hb', hl, ?_⟩
    array_mem_dec
    exact h
  · obtain ⟨⟨y, z, rfl⟩, rfl⟩ := hP
    array_mem_dec
    generalize hT : ((namesK ks).take i).flatMap (rowT (jnT trs s) (namesK ks)) = T
    have lT : T.length ≤ 1000000 := by
      rw [← hT]
      refine Nat.le_trans (flat_le (N := 1000) (fun a => by unfold rowT; rw [List.length_map]; exact nl) _) ?_
      rw [List.length_take]
      exact Nat.mul_le_mul_right 1000 (Nat.le_trans (Nat.min_le_right _ _) nl)
    refine v_loopF (as := namesK ks) (e := D.str) (fun j ρ' C' => (∃ z, ρ' = [some x, some (.dct (trs.map entT)), some (.ref p), some (.str a), z]) ∧ C' = updC C p (.dct (T ++ rowT (jnT trs s) ((namesK ks).take j) a))) (fun R h => ?_) ⟨⟨_, rfl⟩, by rw [List.take_zero]; show updC C p (.dct T) = updC C p (.dct (T ++ [])); rw [List.append_nil]⟩ (fun j b ρ' C' hj hmb hP => ?_) fun ρ' C' hP => ?_
    · have hb' := (hb.sub (sub T)).bk
      array_mem_dec
      refine hb'.meth _ (by decide) ?_
      array_mem_dec
      refine ⟨x, ks, rfl, hb', hl, ?_⟩
      array_mem_dec
      exact h
    · obtain ⟨⟨z, rfl⟩, rfl⟩ := hP
      generalize hK : T ++ rowT (jnT trs s) ((namesK ks).take j) a = K
      have lK : K.length < sizeLine := by
        refine Nat.lt_of_le_of_lt ?_ big
        rw [← hK, List.length_append]
        unfold rowT
        rw [List.length_map, List.length_take]; omega
      have hnone : valD K (tk a b) = none := valD_none fun q hq' e => by
        rw [← hK] at hq'
        rcases List.mem_append.mp hq' with m | m
        · rw [← hT] at m
          obtain ⟨a', ha', m⟩ := List.mem_flatMap.mp m
          obtain ⟨b', _, rfl⟩ := List.mem_map.mp m
          have ea := (tk_inj.mp e).1
          subst ea
          obtain ⟨i', hi'⟩ := List.mem_iff_getElem?.mp ha'
          have lt : i' < i := by have := (List.getElem?_eq_some_iff.mp hi').1; rw [List.length_take] at this; omega
          rw [List.getElem?_take_of_lt lt] at hi'
          have := nodup_get nd hi' hi; omega
        · obtain ⟨b', hb', rfl⟩ := List.mem_map.mp m
          have eb := (tk_inj.mp e).2
          subst eb
          obtain ⟨i', hi'⟩ := List.mem_iff_getElem?.mp hb'
          have lt : i' < j := by have := (List.getElem?_eq_some_iff.mp hi').1; rw [List.length_take] at this; omega
          rw [List.getElem?_take_of_lt lt] at hi'
          have := nodup_get nd hi' hj; omega
      have fin : ∀ v, v = .str (jnT trs s a b) → ∃ a' kvs' ks', D.ref p = .ref a' ∧ updC C p (.dct K) a' = some (.dct kvs') ∧ keysD [D.str a, D.str b] = some ks' ∧ kvs'.length < sizeLine ∧
          ((∃ z, [some x, some (.dct (trs.map entT)), some (.ref p), some (.str a), some (.str b)] = [some x, some (.dct (trs.map entT)), some (.ref p), some (.str a), z]) ∧ updC (updC C p (.dct K)) a' (.dct (putKD kvs' ks' v)) = updC C p (.dct (T ++ rowT (jnT trs s) ((namesK ks).take (j + 1)) a))) := by
        rintro v rfl
        refine ⟨p, K, tk a b, rfl, updC_same, rfl, lK, ⟨_, rfl⟩, ?_⟩
        rw [updC_updC, putKD_new hnone, ← hK, List.take_add_one, hj]
        unfold rowT
        simp
      array_mem_dec
      refine ite_d (fun e => ?_) (fun e => ?_)
      · array_mem_dec
        refine fin _ ?_
        unfold jnT; rw [if_pos e]
      · array_mem_dec
        refine ⟨_, _, rfl, keysD2 _ _, ?_⟩
        have hv := val_ent trs a b
        cases e1 : pairT trs a b with
        | some t =>
          rw [e1] at hv
          rw [hv, Option.map_some, Option.isSome_some]
          array_mem_dec
          refine ⟨_, _, _, rfl, keysD2 _ _, hv, ?_⟩
          array_mem_dec
          refine fin _ ?_
          unfold jnT; rw [if_neg e, e1]
        | none =>
          rw [e1] at hv
          rw [hv, Option.map_none, Option.isSome_none]
          array_mem_dec
          refine ⟨⟨_, rfl⟩, ?_⟩
          array_mem_dec
          refine (hb.sub (sub K)).fspare ?_
          array_mem_dec
          refine ⟨_, _, rfl, keysD2 _ _, ?_⟩
          rw [val_ent]
          array_mem_dec
          refine fin _ ?_
          unfold jnT; rw [if_neg e, e1]
          cases pairT trs b a <;> rfl
    · obtain ⟨⟨z, rfl⟩, rfl⟩ := hP
      refine ⟨⟨_, _, rfl⟩, ?_⟩
      rw [List.take_length, ← hT, List.take_add_one, hi]
      simp
  · obtain ⟨⟨y, z, rfl⟩, rfl⟩ := hP
    rw [List.take_length]
    array_mem_dec
    exact ⟨_, _, .dct updC_same, by rw [delC_new hp]; exact hq⟩
end G
namespace G
open PySem PySem.Spec PyProof.Rows L2
local macro_rules | `(tactic| sizeOf_list_dec) => `(tactic| exact szl (by first | omega | (simp only [List.length_append, List.length_cons, List.length_nil, List.length_map, List.length_reverse, List.length_singleton, txts_lenG]; omega) | (simp only [List.length_append, List.length_cons, List.length_nil, List.length_map, List.length_reverse, txts_lenG]; omega)))
local macro_rules | `(tactic| array_get_dec) => `(tactic| first | with_reducible refine v_seq ?_ | with_reducible refine v_next ?_ | with_reducible refine v_asg ?_ | (with_reducible refine v_isvar ?_; first | with_reducible refine v_var0 ?_ | with_reducible refine v_var1 ?_ | with_reducible refine v_var2 ?_ | with_reducible refine v_var3 ?_ | with_reducible refine v_var4 ?_ | with_reducible refine v_var5 ?_ | with_reducible refine v_var6 ?_ | with_reducible refine v_var7 ?_ | with_reducible refine v_var8 ?_ | with_reducible refine v_var9 ?_ | with_reducible refine v_var10 ?_ | with_reducible refine v_var11 ?_ | with_reducible refine v_var12 ?_ | with_reducible refine v_var13 ?_ | with_reducible refine v_var14 ?_ | with_reducible refine v_var15 ?_ | with_reducible refine v_var16 ?_ | with_reducible refine v_var17 ?_ | with_reducible refine v_var18 ?_ | with_reducible refine v_var19 ?_ | with_reducible refine v_var20 ?_ | with_reducible refine v_var21 ?_ | with_reducible refine v_var22 ?_ | with_reducible refine v_var23 ?_ | with_reducible refine v_var24 ?_ | with_reducible refine v_var25 ?_) | (with_reducible refine v_isname ?_; first | with_reducible refine v_name0 ?_ | with_reducible refine v_wname0 ?_ | with_reducible refine v_name1 ?_ | with_reducible refine v_wname1 ?_ | with_reducible refine v_name2 ?_ | with_reducible refine v_wname2 ?_ | with_reducible refine v_name3 ?_ | with_reducible refine v_wname3 ?_ | with_reducible refine v_name4 ?_ | with_reducible refine v_wname4 ?_ | with_reducible refine v_name5 ?_ | with_reducible refine v_wname5 ?_ | with_reducible refine v_name6 ?_ | with_reducible refine v_wname6 ?_ | with_reducible refine v_name7 ?_ | with_reducible refine v_wname7 ?_ | with_reducible refine v_name8 ?_ | with_reducible refine v_wname8 ?_ | with_reducible refine v_name9 ?_ | with_reducible refine v_wname9 ?_ | with_reducible refine v_name10 ?_ | with_reducible refine v_wname10 ?_ | with_reducible refine v_name11 ?_ | with_reducible refine v_wname11 ?_ | with_reducible refine v_name12 ?_ | with_reducible refine v_wname12 ?_ | with_reducible refine v_name13 ?_ | with_reducible refine v_wname13 ?_ | with_reducible refine v_name14 ?_ | with_reducible refine v_wname14 ?_ | with_reducible refine v_name15 ?_ | with_reducible refine v_wname15 ?_ | with_reducible refine v_name16 ?_ | with_reducible refine v_wname16 ?_ | with_reducible refine v_name17 ?_ | with_reducible refine v_wname17 ?_ | with_reducible refine v_name18 ?_ | with_reducible refine v_wname18 ?_ | with_reducible refine v_name19 ?_ | with_reducible refine v_wname19 ?_ | with_reducible refine v_name20 ?_ | with_reducible refine v_wname20 ?_ | with_reducible refine v_name21 ?_ | with_reducible refine v_wname21 ?_ | with_reducible refine v_name22 ?_ | with_reducible refine v_wname22 ?_ | with_reducible refine v_name23 ?_ | with_reducible refine v_wname23 ?_ | with_reducible refine v_name24 ?_ | with_reducible refine v_wname24 ?_ | with_reducible refine v_name25 ?_ | with_reducible refine v_wname25 ?_) | with_reducible refine v_drop ?_ | with_reducible refine v_ret ?_ | with_reducible refine v_ifS ?_ | with_reducible refine v_test ?_ | with_reducible refine v_bl ?_ | with_reducible refine v_const ?_ | with_reducible refine v_op ?_ | with_reducible refine v_cb ?_ | with_reducible refine v_nil ?_ | with_reducible refine v_cons ?_ | with_reducible refine v_fld ?_ | with_reducible refine v_meth ?_ | with_reducible refine v_cal ?_ | with_reducible refine v_call0 ?_ | with_reducible refine v_pos2 ?_ | with_reducible refine v_tt ?_ | with_reducible refine v_ff ?_ | with_reducible refine v_ntt ?_ | with_reducible refine v_nff ?_ | with_reducible refine v_dnot ?_ | with_reducible refine v_dand ?_ | with_reducible refine v_dor ?_ | with_reducible refine v_andV ?_ | with_reducible refine v_orV ?_ | with_reducible refine v_notV ?_ | with_reducible refine v_ifE ?_ | with_reducible refine v_bm0 ?_ | with_reducible refine v_eqS ?_ | with_reducible refine v_eqI ?_ | with_reducible refine v_neS ?_ | with_reducible refine v_neI ?_ | with_reducible refine v_eqB ?_ | with_reducible refine v_neB ?_ | with_reducible refine v_isNn ?_ | with_reducible refine v_isNs ?_ | with_reducible refine v_isNi ?_ | with_reducible refine v_isNt ?_ | with_reducible refine v_notNn ?_ | with_reducible refine v_notNs ?_ | with_reducible refine v_notNi ?_ | with_reducible refine v_notNt ?_ | with_reducible refine v_isN ?_ | with_reducible refine v_notN ?_ | with_reducible refine v_lt ?_ | with_reducible refine v_le ?_ | with_reducible refine v_gt ?_ | with_reducible refine v_ge ?_ | with_reducible refine v_addI ?_ | with_reducible refine v_subI ?_ | with_reducible refine v_lenT ?_ | with_reducible refine v_lenL ?_ | with_reducible refine v_chain ?_ | with_reducible refine v_un ?_ | with_reducible refine v_tup ?_ | with_reducible refine v_lst ?_ | with_reducible refine v_lstC ?_ | with_reducible refine v_gsub ?_ | with_reducible refine v_rng1 ?_ | with_reducible refine v_rng2 ?_ | with_reducible refine v_slice ?_ | with_reducible refine v_nopart ?_ | with_reducible refine v_part ?_ | with_reducible refine v_partI ?_ | with_reducible refine v_slT ?_ | with_reducible refine v_slL ?_ | with_reducible refine v_rev ?_ | with_reducible refine v_revO ?_ | with_reducible refine v_enumS ?_ | with_reducible refine v_enumL ?_ | with_reducible refine v_enumT ?_ | with_reducible refine v_zipS ?_ | with_reducible refine v_revL ?_ | with_reducible refine v_revT ?_ | with_reducible refine v_putT ?_ | with_reducible refine v_putK ?_ | with_reducible refine v_inT ?_ | with_reducible refine v_getT ?_ | with_reducible refine v_get2T ?_ | with_reducible refine v_make ?_ | with_reducible refine v_fldSet ?_ | with_reducible refine v_forL ?_ | with_reducible refine v_forT ?_ | with_reducible refine v_forS ?_ | with_reducible refine v_lstO ?_ | with_reducible refine v_rolO ?_ | with_reducible refine v_tupO ?_ | with_reducible refine v_strO ?_ | with_reducible refine v_listT ?_ | with_reducible refine v_listL ?_ | with_reducible refine v_tupleL ?_ | with_reducible refine v_tupleT ?_ | with_reducible refine v_isiS ?_ | with_reducible refine v_isiT ?_ | with_reducible refine v_isiL ?_ | with_reducible refine v_allM ?_ | with_reducible refine v_anyM ?_ | with_reducible refine v_eqNS ?_ | with_reducible refine v_neNS ?_ | with_reducible refine v_gcons ?_ | with_reducible refine v_gnil ?_ | with_reducible refine v_par2 ?_ | with_reducible refine v_par33 ?_ | with_reducible refine v_retN ?_ | with_reducible refine v_sameS ?_ | with_reducible refine v_sameB ?_ | with_reducible refine v_sameI ?_ | with_reducible refine v_sameN ?_ | with_reducible refine v_sameT ?_ | with_reducible refine v_sameL ?_ | with_reducible refine v_endN ?_ | with_reducible refine v_bm ?_ | with_reducible refine v_tystr ?_ | with_reducible refine v_break ?_ | with_reducible refine v_cont ?_ | ((with_reducible refine v_slS ?_ ?_); sizeOf_list_dec) | ((with_reducible refine v_lenS ?_ ?_); sizeOf_list_dec) | ((with_reducible refine v_addS ?_ ?_); sizeOf_list_dec) | ((with_reducible refine v_addT ?_ ?_); sizeOf_list_dec) | ((with_reducible refine v_addL ?_ ?_); sizeOf_list_dec) | (with_reducible refine v_par _ _ ?_) | (with_reducible refine v_par3 _ _ _ ?_) | ((with_reducible refine v_gtup ?_ ?_); rfl) | with_reducible refine v_ixT (by with_unfolding_all rfl) ?_ | with_reducible refine v_ixL (by with_unfolding_all rfl) ?_ | with_reducible refine v_ixR (by with_unfolding_all rfl) ?_ | ((with_reducible refine v_ixS ?_ (by with_unfolding_all rfl) ?_); sizeOf_list_dec) | ((with_reducible refine And.intro ?_ ?_); sizeOf_list_dec) | with_reducible refine v_dt (by first | assumption | with_unfolding_all rfl | omega | (simp only [List.length_map, List.length_append, List.length_cons, List.length_nil, List.length_reverse, txts_lenG]; first | done | omega)) ?_ | with_reducible refine v_ndt (by first | assumption | with_unfolding_all rfl | omega | (simp only [List.length_map, List.length_append, List.length_cons, List.length_nil, List.length_reverse, txts_lenG]; first | done | omega)) ?_ | with_reducible refine v_df (by first | assumption | omega | (with_unfolding_all decide) | (simp only [List.length_map, List.length_append, List.length_cons, List.length_nil, List.length_reverse, txts_lenG]; first | done | omega)) ?_ | with_reducible refine v_ndf (by first | assumption | omega | (with_unfolding_all decide) | (simp only [List.length_map, List.length_append, List.length_cons, List.length_nil, List.length_reverse, txts_lenG]; first | done | omega)) ?_ | decreasing_trivial_pre_omega | ((with_reducible refine v_isname ?_); dsimp only [wipeD, List.set]) | ((with_reducible refine v_isvar ?_); dsimp only [wipeD, List.set]))
local macro_rules | `(tactic| array_mem_dec) => `(tactic| repeat array_get_dec)
local macro_rules | `(tactic| bv_omega) => `(tactic| repeat' (first | array_get_dec | with_reducible refine ite_d (fun _ => ?_) (fun _ => ?_) | with_reducible refine ite_nd (fun _ => ?_) (fun _ => ?_) | with_reducible refine ite_b (fun _ => ?_) (fun _ => ?_) | with_reducible refine ite_nb (fun _ => ?_) (fun _ => ?_)))
local macro_rules | `(tactic| decreasing_trivial_pre_omega) => `(tactic| with_reducible refine kz_name ?_)
local macro_rules | `(tactic| decreasing_trivial_pre_omega) => `(tactic| with_reducible refine kz_family ?_)
local macro_rules | `(tactic| decreasing_trivial_pre_omega) => `(tactic| with_reducible refine kz_marks ?_)
local macro_rules | `(tactic| decreasing_trivial_pre_omega) => `(tactic| with_reducible refine kz_yes ?_)
local macro_rules | `(tactic| decreasing_trivial_pre_omega) => `(tactic| with_reducible refine kz_no ?_)
local macro_rules | `(tactic| decreasing_trivial_pre_omega) => `(tactic| with_reducible refine kz_digits ?_)
local macro_rules | `(tactic| decreasing_trivial_pre_omega) => `(tactic| with_reducible refine kz_point ?_)
local macro_rules | `(tactic| decreasing_trivial_pre_omega) => `(tactic| with_reducible refine kz_keep ?_)
/-! ### books made -/
def isFam (f : List Nat) (k : KindR) : Bool := decide (k.fam = f)
/-- the name of the first kind of the family text -/
def spareOf (ks : List KindR) : List Nat := ((ks.filter (isFam famText)).map (·.name)).getD 0 []
def markOf (ks : List KindR) : List Nat := ((ks.filter (isFam famMissing)).map fun k => k.marks.getD 0 []).getD 0 []
def bookFs (ks : List KindR) (trs : List T3) : List (Str × D) :=
  [("kinds", .tup (ks.map kindD)), ("spare", .str (spareOf ks)), ("joined", .dct (tblT (jnT trs (spareOf ks)) (namesK ks))), ("mark", .str (markOf ks))]
/-- what a book is made of -/
structure OkB (ks : List KindR) (trs : List T3) : Prop where
  len1 : 1 ≤ ks.length
  len7 : ks.length ≤ 7
  nd : (namesK ks).Nodup
  nm : ∀ k ∈ ks, k.name.length ≤ 100
  txt : ∃ k ∈ ks, k.fam = famText
  mks : ∀ k ∈ ks, k.fam = famMissing → k.marks ≠ []
  js : OkTs ks trs
theorem bfs_mk {fs : List (Str × D)} {ks : List KindR} (h : fs.lookup ("kinds" : Str) = some (.tup (ks.map kindD))) (n : bookMeths.all (fun m => (fs.lookup m).isNone) = true) : BFs fs ks := by
  refine ⟨h, fun m hm => ?_⟩
  have := List.all_eq_true.mp n m hm
  exact Option.isNone_iff_eq_none.mp this
theorem ins_upd {C : Cl} {p : Addr} {c : String} {fs : List (Str × D)} : insOf (updC C p (.ins c fs)) (.ref p) = some (c, fs) := by
  show (match updC C p _ p with | some (.ins c fs) => some (c, fs) | _ => none) = _; rw [updC_same]
theorem bk_take {C : Cl} {p : Addr} {ks : List KindR} {trs : List T3} (n : Nat) (h1 : 1 ≤ n) (h4 : n ≤ 4) : BkAt (updC C p (.ins "Book" ((bookFs ks trs).take n))) (.ref p) ks := by
  have : n = 1 ∨ n = 2 ∨ n = 3 ∨ n = 4 := by omega
  rcases this with rfl | rfl | rfl | rfl <;> exact ⟨_, ins_upd, bfs_mk rfl (by with_unfolding_all rfl)⟩
theorem getD_at {α : Type} {l : List α} {d : α} (h : l ≠ []) : l[0]? = some (l.getD 0 d) := by cases l with | nil => exact absurd rfl h | cons a l => rfl
end G
set_option maxHeartbeats 1000000
namespace G
open PySem PySem.Spec PyProof.Rows L2
/-! ### walks over lists that stand, or over cells that stay as they are while they are walked -/
def WalkC (K : PySem.W.Frag) (cl : Nm) (J : It) (xs : List D) (F : Hp) (G : Cl → Prop) : Prop := ∀ i C F1 H, Same F F1 → RC K cl C F1 H → G C →
  (∀ x, xs[i]? = some x → J.go i H ∧ ∀ v H', J.yld i H v H' → ∃ F2, Same F1 F2 ∧ RC K cl C F2 H' ∧ Rep K cl F2 v x) ∧ (xs.length = i → J.stop i H)
theorem Walk.c {K : PySem.W.Frag} {cl : Nm} {J : It} {xs : List D} {F : Hp} (w : Walk K cl J xs F) (G : Cl → Prop) : WalkC K cl J xs F G := fun i C F1 H s R _ => w i C F1 H s R
/-- what x tells when it is walked, as long as G holds -/
def Walks (C : Cl) (x : D) (xs : List D) (G : Cl → Prop) : Prop := (lstOf x = some xs ∧ G = fun _ => True) ∨ ∃ a, x = .ref a ∧ C a = some (.lst xs) ∧ G = fun C => C a = some (.lst xs)
theorem Walks.new {C : Cl} {x : D} {xs : List D} {G : Cl → Prop} {p : Addr} {c : Cell} (w : Walks C x xs G) (hp : C p = none) : G (updC C p c) := by
  rcases w with ⟨_, rfl⟩ | ⟨a, _, h, rfl⟩
  · trivial
  · show updC C p c a = _
    rw [updC_ne (fun z => by rw [z, hp] at h; cases h)]; exact h
theorem Walks.seq {C : Cl} {x : D} {xs : List D} {G : Cl → Prop} (w : Walks C x xs G) : seqOf C x = some xs := by
  rcases w with ⟨h, _⟩ | ⟨a, rfl, h, _⟩
  · cases x <;> first | exact h | cases h
  · show (match C a with | some (.lst ds) => some ds | _ => none) = _
    rw [h]
section
variable {K : PySem.W.Frag} {cl : NmB} {F : Hp}
end
section
variable {X : Cx} {cl : NmB} {tg e : Expr} {te : DE} {t : DA} {pos p tpos : Pos} {elts : List Expr} {kk : Nat}
variable {vs : List Nat}
end
/-! ### steps -/
/-! ### == of lists that may be cells -/
section
variable {X : Cx} {cl : NmB}
end
end G
namespace G
open PySem PySem.Spec PyProof.Rows L2
/-! ### d.setdefault(k, v) -/
section
variable {X : Cx} {cl : NmB} {o e f : Expr} {to tk tx : DE} {apos cpos : Pos}
end
end G
set_option maxHeartbeats 1000000
namespace G
open PySem PySem.Spec PyProof.Rows L2
/-! ### exceptions of one's own: what may leave, calls that may raise, raise -/
/-- the readings' exception end keeps the wish W -/
def FinW (K : PySem.W.Frag) (cl : NmB) (Ex : DEnv → DX) (W : WX) : Prop :=
  ∀ (ρ : DEnv) (σ : L2.St) (c : String) (ds : List (Str × D)) (cv : Value) (d : Option Addr) (C : Cl) (F H : Hp), RS K cl ρ C F σ H → ExcRep K cl F c ds cv d H → Ex ρ c ds C → W cv d σ H
theorem finw_none {K : PySem.W.Frag} {cl : NmB} {W : WX} : FinW K cl (fun _ => noX) W := fun _ _ _ _ _ _ _ _ _ _ _ z => z.elim
theorem FinW.at {K : PySem.W.Frag} {cl : NmB} {Ex : DEnv → DX} {W : WX} (k : FinW K cl Ex W) {ρ : DEnv} {C : Cl} {F F1 : Hp} {σ : L2.St} {H : Hp} (R : RS K cl ρ C F σ H) (s : Same F F1) : FinX K cl F1 (Ex ρ) (WE W σ) :=
  fun c ds cv d C2 H2 F2 s2 R2 x h => k ρ σ c ds cv d C2 F2 H2 (R.next (s.trans s2) R2) x h

section
variable {X : Cx} {cl : NmB} {CX : CXT} {k n : Nat} {f : Addr} {ks : List Str} {sp : DSp2} {E : XK} {pins : List (Addr × Obj)} {σ : L2.St} {H : Hp} {s : Shared}
theorem Cee.goS {A : Around} {us ws : List Value} {vs zs : List V} {Q : VK} (c : Cee X.prog X.w X.K cl X.mg X.base CX k f ks sp) (hr : Room k A) (hf : A.frames = X.A.frames) (hx : PassesAt CX X σ E) (I : Inv X pins σ H s) (r : Vals vs us) (rz : Vals zs ws)
    (h : lowC2 X.K cl sp vs zs H Q E) : wpAny (model X.prog X.w) A (call (.ref f) us (ks.zip ws)) (EP X pins σ Q) X.xe s := by
  have e0 : Env0 X.prog X.w X.K X.mg X.base A X.stack s H := by
    have e := I.env0
    exact ⟨by rw [hf]; exact e.frames, e.mod, e.bs, e.bsz, e.funs, e.frf, e.hok, e.bare⟩
  refine wpAny_call (codeAny_mono (c A X.stack s H us ws vs zs Q E hr e0 r rz h) fun r s' hq => ?_)
  cases r with
  | error e => exact hx pins H s e s' I hq
  | ok fl =>
    cases fl with
    | ret u => exact I.after hq
    | next => exact False.elim hq
    | brk => exact False.elim hq
    | cont => exact False.elim hq
end
def dMethX (Ex : DEnv → DX) (c : String) (m : Str) (sp : DSp2) (to : DE) (t tk : DA) : DE := fun ρ C Q => to ρ C fun x C1 => ∃ fs, insOf C1 x = some (c, fs) ∧ fs.lookup m = none ∧ t ρ C1 fun xs C2 => tk ρ C2 fun zs C3 => sp (x :: xs) zs C3 Q (Ex ρ)
section
variable {X : Cx} {cl : NmB} {k : Nat} {g : Addr} {ks : List Str} {sp : DSp2} {e o : Expr} {es : List Expr} {kws : List Keyword} {to : DE} {t tk : DA} {pos apos p : Pos} {x m : Str} {c : String} {te : DE} {Ex : DEnv → DX} {W : WX}
/-- o.m(e, .., k = v, ..), m may raise -/
theorem de_methX {pl : Sem Bool} (tkX : Takes X W) (fw : FinW X.K cl Ex W) (fc : Cee X.prog X.w X.K cl X.mg X.base (L2.CX X.prog X.w) k g ks sp) (hr : Room k X.A) (hcl : Cls X.K (cl c)) (hm : Meth X.K (cl c) m g) (ho : PEd X cl o to) (ha : PAd X cl (e :: es) t) (hkw : PKd X cl kws tk)
    (hall : (backToKw pos (keywordEach kws X.env)).all (·.1.isSome) = true := by rfl) (hks : (backToKw pos (keywordEach kws X.env)).filterMap (·.1) = ks := by rfl)
    (he : starEach (e :: es) X.env = (false, eval e X.env) :: starEach es X.env := by rfl) (hpl : ((backTo pos (starEach (e :: es) X.env)).any (·.1) || (backToKw pos (keywordEach kws X.env)).any (·.1.isNone)) = false := by rfl)
    (ht : eval (.Call (.Attribute o m apos) (e :: es) kws pos) X.env = (do
      let ov ← eval o X.env
      standAt apos.atName
      let (f, first) ← holding [ov] (getMethod ov m pl)
      callWith pos f first (backTo pos (starEach (e :: es) X.env)) (backToKw pos (keywordEach kws X.env))) := by rfl) :
    PEd X cl (.Call (.Attribute o m apos) (e :: es) kws pos) (dMethX Ex c m sp to t tk) := by
  refine ⟨fun pins s σ H Q I ⟨ρ, C, F, Qd, R, h, kq⟩ => ?_⟩
  refine PySem.W.methodCall_KW (pl := pl) (thn (ho.run pins s σ H (fun v H1 => ∃ d C1 F1, Same F F1 ∧ RC X.K cl C1 F1 H1 ∧ Rep X.K cl F1 v d ∧ ∃ fs, insOf C1 d = some (c, fs) ∧ fs.lookup m = none ∧ t ρ C1 fun xs C2 => tk ρ C2 fun zs C3 => sp (d :: xs) zs C3 Qd (Ex ρ)) I
    ⟨ρ, C, F, _, R, h, fun v d C1 H1 F1 s1 R1 r1 q1 => ⟨d, C1, F1, s1, R1, r1, q1⟩⟩) fun u s1 ⟨v, H1, I1, rv, d, C1, F1, s1', R1, r1, fs, hi, hl, q1⟩ => ?_) ht
  obtain ⟨a, dx, vs, rfl, ha1, rf⟩ := ins_ok R1 r1 hi
  obtain rfl : u = Value.ref a := rv
  refine getmeth_ok I1 ha1 hcl hm (rf.none_of hl) ?_
  refine cal_args (first := [.ref a]) hm.kp I1 ha hkw (R.next s1' R1) q1 (fun us ws vs zs s2 H2 F2 C2 ds es I2 s2' R2 r rz rl r2 q2 => ?_) hall hks he hpl
  exact fc.goS (us := .ref a :: us) (vs := .ref a :: vs) hr rfl (passAt tkX σ) I2 (.cons rfl r) rz ⟨d :: ds, es, C2, F2, Qd, Ex ρ, R2, .cons (r1.mono s2') rl, r2, q2, kq.at (s1'.trans s2'), fw.at R (s1'.trans s2')⟩
end

/-! ### a def that may raise -/
section
variable {P : Program} {w : World} {K : PySem.W.Frag} {cl : Nm} {mg : Str → Option Value} {base : Heap}
theorem fn_dX {x qual : Str} {st : Stmt} {f : Addr} {fd : FuncData} {N ps : List Str} {k : Nat} {sp : DSp} {td : (DEnv → DX) → DS} (Fu : Fun K x qual st f fd) (S : FnScope N ps (defScope st)) (len : ∀ ds C Q E, sp ds C Q E → ds.length = ps.length)
    (pure : ∀ ds C Q E, sp ds C Q E → td (fun _ => E) (endsD Q) (startD N ds) C)
    (body : ∀ (cdv : Value) (A : Around) (outer : List Env) (s : Shared) (H : Hp) (E : XK) (F0 : Hp) (Ex : DEnv → DX) (W : WX), Room k (A.deeper (envOfC qual (defScope st) s.heap.objs.size f cdv)) →
      Takes (cxOf (L2.CX P w) P w K mg base N qual (defScope st) f cdv A outer s H E) W → FinW K ⟨cl, F0⟩ Ex W → PSsd (cxOf (L2.CX P w) P w K mg base N qual (defScope st) f cdv A outer s H E) ⟨cl, F0⟩ (defBody st) (td Ex)) :
    FnOk P w K mg base (L2.CX P w) (k + 1) f fd ps (lowSp K cl sp) := by
  refine Fu.okX S (fun vs H Q E ⟨ds, C, F, Qd, Ed, R, r, h, _, _⟩ => r.length.trans (len ds C Qd Ed h)) fun cdv A outer s H vs Q E hr ⟨ds, C, F, Qd, Ed, R, r, h, kq, kx⟩ => ?_
  refine ⟨_, body cdv A outer s H E F (fun _ => Ed) (fun cv d _ H => E cv d H) hr (takes_of rfl rfl rfl rfl) ?_, startD N ds, C, F, _, RS.startB (cl := ⟨cl, F⟩) N R r (Same.refl F), pure ds C Qd Ed h, ?_⟩
  · intro ρ σ c fs cv d C1 F1 H1 R1 x1 h1
    exact kx c fs cv d C1 H1 F1 R1.bs R1.rc x1 h1
  · refine ⟨fun ρ C1 F1 σ H1 s1 R1 ⟨C2, sc, q⟩ => kq .non .non C2 H1 F1 s1 (R1.rc.drop sc) .non q, fun _ _ _ _ _ _ _ z => z.elim, fun _ _ _ _ _ _ _ z => z.elim, fun v d C1 F1 H1 s1 R1 r1 ⟨d', C2, g, q⟩ => ?_⟩
    obtain ⟨F2, s2, R2, r2⟩ := g.ok R1 r1
    exact kq v d' C2 H1 F2 (s1.trans s2) R2 r2 q
end

/-! ### raise c(e, ..) -/
/-- what a text can hold of an argument -/
def PrV (y : V) : Prop := (∃ z : Str, y = .str z ∧ z.length ≤ 1000000) ∨ ∃ i : Int, y = .int i ∧ i.natAbs.log2 < 1920
def PrD (x : D) : Prop := (∃ l : List Nat, x = .str l ∧ l.length ≤ 1000000) ∨ ∃ i : Int, x = .int i ∧ i.natAbs.log2 < 1920
/-- an own exception's __init__: its fields are its arguments -/
def spXi (K : PySem.W.Frag) (C : Addr) (fs : List Str) : Sp := fun vs H Q E => ∃ a ys, vs = .ref a :: ys ∧ ys.length = fs.length ∧ OexC K C ∧ (∀ f ∈ fs, PySem.W.findIn K (.ref C) f = some none) ∧ H a = some (exo a C none) ∧ (∀ y ∈ ys, PrV y) ∧
  ∀ dx, H dx = none → dx ≠ a → Q .non (upd (upd H dx (exd dx (fs.zip ys).reverse)) a (exo a C (some dx)))
def dRaise (Ex : DEnv → DX) (c : String) (fs : List Str) (t : DA) : DS := fun D ρ C => t ρ C fun xs C1 => xs.length = fs.length ∧ xs.length ≤ 900 ∧ (∀ x ∈ xs, PrD x) ∧ Ex ρ c (fs.zip xs).reverse C1
theorem RepF.append {K : PySem.W.Frag} {cl : Nm} {F : Hp} : ∀ {as bs : List (Str × V)} {ds es : List (Str × D)}, RepF K cl F as ds → RepF K cl F bs es → RepF K cl F (as ++ bs) (ds ++ es)
  | _, _, _, _, .nil, s => s
  | _, _, _, _, .cons h r, s => .cons h (RepF.append r s)
theorem RepF.reverse {K : PySem.W.Frag} {cl : Nm} {F : Hp} : ∀ {as : List (Str × V)} {ds : List (Str × D)}, RepF K cl F as ds → RepF K cl F as.reverse ds.reverse
  | _, _, .nil => .nil
  | _, _, .cons h r => by rw [List.reverse_cons, List.reverse_cons]; exact (RepF.reverse r).append (.cons h .nil)
theorem RepF.zip {K : PySem.W.Frag} {cl : Nm} {F : Hp} : ∀ (fs : List Str) {vs : List V} {ds : List D}, RepL K cl F vs ds → RepF K cl F (fs.zip vs) (fs.zip ds)
  | [], _, _, _ => by rw [List.zip_nil_left, List.zip_nil_left]; exact .nil
  | _ :: _, _, _, .nil => .nil
  | _ :: fs, _, _, .cons h r => .cons h (RepF.zip fs r)
theorem prv_of {K : PySem.W.Frag} {cl : Nm} {F : Hp} : ∀ {vs : List V} {ds : List D}, RepL K cl F vs ds → (∀ x ∈ ds, PrD x) → ∀ y ∈ vs, PrV y
  | _, _, .nil, _ => nofun
  | _, _, .cons h r, k => fun y hy => by
    rcases List.mem_cons.mp hy with e | e
    · rcases k _ List.mem_cons_self with ⟨l, e1, e2⟩ | ⟨i, e1, e2⟩
      · subst e e1
        cases h
        exact .inl ⟨_, rfl, by simpa [Str.length] using e2⟩
      · subst e e1
        cases h
        exact .inr ⟨_, rfl, e2⟩
    · exact prv_of r (fun x hx => k x (List.mem_cons_of_mem _ hx)) y e
theorem exheap {H : Hp} {a dx : Addr} {o o2 u v : HO} (ha : H a = none) (hd : dx ≠ a) : upd (del (upd (upd (upd H a o) dx u) a o2) a) dx v = upd H dx v := by
  funext b
  by_cases h : b = dx
  · subst h; rw [upd_same, upd_same]
  · rw [upd_ne h, upd_ne h]
    by_cases z : b = a
    · subst z; rw [del_same, ha]
    · rw [del_ne z, upd_ne z, upd_ne h, upd_ne z]
section
variable {X : Cx} {cl : NmB} {k : Nat} {fI : Addr} {fd : FuncData} {ps fs : List Str} {c : String} {e : Expr} {es : List Expr} {t : DA} {x : Str} {p pos pos2 : Pos} {Ex : DEnv → DX} {W : WX}
theorem ds_raise (tkX : Takes X W) (fw : FinW X.K cl Ex W) (T : OexC X.K (cl c)) (iC : PySem.W.findIn X.K (.ref (cl c)) "__init__" = some (some (.ref fI))) (tI : PySem.W.typeIn X.K (.ref fI) = some (.type "function")) (nf : ∀ f ∈ fs, PySem.W.findIn X.K (.ref (cl c)) f = some none)
    (F1 : FnOk X.prog X.w X.K X.mg X.base CX0 k fI fd ps (spXi X.K (cl c) fs)) (hr : Room (k + 1) X.A) (hb : Binds X.K fd ps []) (hm : X.mg x = some (.ref (cl c))) (ha : PAd X cl (e :: es) t) (hc : X.calm = true := by rfl) (hg : Gl X x := by rfl)
    (hdb : (x == ("__debug__" : Str)) = false := by decide) (he : starEach (e :: es) X.env = (false, eval e X.env) :: starEach es X.env := by rfl) (hpl : (backTo pos (starEach es X.env)).any (·.1) = false := by rfl) :
    PSd X cl (.Raise (some (.Call (.Name x p) (e :: es) [] pos)) none pos2) (dRaise Ex c fs t) := by
  refine weakS (ps_raise hc tkX (pmk_oex (dvs := []) T iC tI F1 hr hb .nil pass0 hg hm ha hdb he hpl)) fun De σ H ⟨ρ, C, F, Dd, R, h, k⟩ => ?_
  refine ⟨ρ, C, F, _, R, h, fun vs ds C1 H1 F1 s1 R1 r1 ⟨l1, l2, pr, hx⟩ => ⟨by rw [r1.length]; omega, fun a na => ⟨a, vs, by rw [List.append_nil], by rw [r1.length, l1], T, nf, upd_same, prv_of r1 pr, fun dx hd hda => ?_⟩⟩⟩
  have hd1 : H1 dx = none := by rw [upd_ne hda] at hd; exact hd
  refine ⟨rfl, dx, (fs.zip vs).reverse, upd_same, by rw [upd_ne hda, upd_same], hd1, ?_⟩
  rw [exheap na hda]
  exact fw ρ σ c _ _ _ C1 F1 _ (R.next s1 (R1.over (same_upd hd1))) ⟨rfl, dx, _, rfl, upd_same, (RepF.zip fs r1).reverse⟩ hx
end
end G
set_option maxHeartbeats 1000000
namespace G
open PySem PySem.Spec PyProof.Rows L2
/-! ### an own exception's __init__ -/
section
variable {X : Cx} {C G0 : Addr} {mc : Value} {e : Expr} {es : List Expr} {ta : TA} {x : Str} {p1 p2 pos : Pos}
/-- G.__init__(self, ..), G an own class over ValueError without an own __init__ -/
theorem pe_ginit {pl : Sem Bool} (hm : X.mg x = some (.ref G0)) (r : ClX.CRead X.K G0 mc) (vV : PySem.W.findCls X.K (.ref G0) mc "__init__" = some (.val (.builtin "ValueError.__init__"))) (ha : PA X (e :: es) ta)
    (hc : eval (.Call (.Attribute (.Name x p1) "__init__" p2) (e :: es) [] pos) X.env = (do
      let ov ← eval (.Name x p1) X.env
      standAt p2.atName
      let (f, first) ← holding [ov] (getMethod ov "__init__" pl)
      callWith pos f first (backTo pos (starEach (e :: es) X.env)) (backToKw pos (keywordEach [] X.env))) := by rfl)
    (hg : Gl X x := by rfl) (hdb : (x == ("__debug__" : Str)) = false := by decide)
    (he : starEach (e :: es) X.env = (false, eval e X.env) :: starEach es X.env := by rfl) (hpl : (backTo pos (starEach es X.env)).any (·.1) = false := by rfl) :
    PE X (.Call (.Attribute (.Name x p1) "__init__" p2) (e :: es) [] pos) (tVeI X.K ta) := by
  refine ⟨fun pins s σ H Q I h => ?_⟩
  refine PySem.W.methodCall_KW (pl := pl) (ld_glob I hg hm ?_ hdb) hc
  refine PySem.W.method_cls I.kIn r.ga (PySem.W.cls_value I.kIn r.rd vV (by decide +kernel) ?_)
  show wpAny _ _ (callWith pos (Value.builtin "ValueError.__init__") [] (backTo pos (starEach (e :: es) X.env)) []) _ _ _
  refine PyProof.Rows.callWith_method1 (thn (ha.run pos pins _ σ H _ (I.tok _) h) fun us s1 ⟨vs, H1, I1, r1, a, C, ws, ev, hl, T, ea, q⟩ => ?_) he hpl
  subst ev
  cases r1 with
  | @cons _ u0 _ ur ra rw' =>
    obtain rfl : u0 = Value.ref a := ra
    have hlen : ur.length ≤ sizeLine := by
      rw [← Paired.length rw', sizeLine_eq]
      omega
    exact oinit_ok T I1 ea hlen fun s' J => ⟨.non, H1, J, rfl, q⟩
end
/-- a part of a short text, nothing changed -/
def Pl (σ : L2.St) (H : Hp) (t : TE) : Prop := ∀ Q : VK, (∀ y : Str, y.length ≤ 1000000 → Q (.str y) H) → t σ H Q
theorem pl_c {σ : L2.St} {H : Hp} {y : Str} (h : y.length ≤ 1000000) : Pl σ H (tC (.str y)) := fun Q k => k y h
theorem pl_fmt {σ : L2.St} {H : Hp} {i : Nat} {y : V} (e : σ[i]? = some (some y)) (h : PrV y) : Pl σ H (tFmt (tVar i)) := fun Q k => by
  rcases h with ⟨z, rfl, hz⟩ | ⟨j, rfl, hz⟩
  · exact ⟨_, e, .inl ⟨z, rfl, szl (by omega), k z hz⟩⟩
  · exact ⟨_, e, .inr ⟨j, rfl, hz, k _ (Nat.le_trans (int_text_len_1921 hz) (by decide))⟩⟩
theorem js_pl {σ : L2.St} {H : Hp} {Q : Str → Hp → Prop} (hq : ∀ out, Q out H) : ∀ (ts : List TE) (acc : Str), (∀ t ∈ ts, Pl σ H t) → acc.length + ts.length * 1000000 ≤ 16000000 → tJs ts acc σ H Q
  | [], acc, _, _ => hq acc
  | t :: ts, acc, h, l => h t List.mem_cons_self _ fun y hy => by
    have e : (acc ++ y).length = acc.length + y.length := by
      show (acc ++ y).cps.size = acc.cps.size + y.cps.size
      exact Array.size_append
    rw [List.length_cons] at l
    exact ⟨y, rfl, szl (by omega), js_pl hq ts (acc ++ y) (fun x hx => h x (List.mem_cons_of_mem _ hx)) (by omega)⟩
/-- the readings of such an __init__ : the text's parts ts, then the fields -/
def tXi (K : PySem.W.Frag) (ts : List TE) (u : TS) : TS := tSeq (tDrop (tVeI K (tCons (tVar 0) (tCons (fun σ H Q => tJs ts Str.empty σ H fun out H1 => Q (.str out) H1) tNil)))) u
section
variable {P : Program} {w : World} {K : PySem.W.Frag} {mg : Str → Option Value} {base : Heap} {q : Str} {st : Stmt} {f : Addr} {fd : FuncData} {k : Nat} {C : Addr}
theorem xi_1 {N : List Str} {n f1 : Str} {ts : List TE} (Fu : Fun K "__init__" q st f fd) (S : FnScope N ["self", n] (defScope st)) (hN : N = (["self", n] : List Str)) (hts : ∀ (σ : L2.St) (H : Hp) (y : V), σ[1]? = some (some y) → PrV y → ∀ t ∈ ts, Pl σ H t) (hl : ts.length ≤ 16)
    (body : ∀ (cdv : Value) (A : Around) (outer : List Env) (s : Shared) (H : Hp) (E : XK), PSs (cxOf CX0 P w K mg base N q (defScope st) f cdv A outer s H E).nox (defBody st) (tXi K ts (tSeq (tOst K f1 (tVar 0) (tVar 1)) tNext))) :
    FnOk P w K mg base CX0 (k + 1) f fd ["self", n] (spXi K C [f1]) := by
  subst hN
  refine Fu.ok S (fun vs H Q E ⟨a, ys, e, l, _⟩ => by rw [e, List.length_cons, l]; rfl) fun cdv A outer s H vs Q E hr ⟨a, ys, e, l, T, nf, ha, pr, hq⟩ => ⟨_, body cdv A outer s H E, ?_⟩
  subst e
  match ys, l with
  | [y], _ =>
    have h0 : (start (["self", n] : List Str) [V.ref a, y])[0]? = some (some (V.ref a)) := rfl
    have h1 : (start (["self", n] : List Str) [V.ref a, y])[1]? = some (some y) := rfl
    refine ⟨_, h0, js_pl (fun out => ?_) ts Str.empty (hts _ _ y h1 (pr y List.mem_cons_self)) (by show 0 + _ ≤ _; omega)⟩
    refine ⟨a, C, [.str out], rfl, by show (1 : Nat) ≤ 1000; decide, T, ha, ?_⟩
    exact ⟨y, h1, _, h0, a, C, rfl, T, nf f1 List.mem_cons_self, .inl ⟨ha, fun dx n1 n2 => hq dx n1 n2⟩⟩
end

/-! ### try: body, except c as n: suite -/
theorem FinS.base {K : PySem.W.Frag} {cl : NmB} {F : Hp} {Dd : DEnds} {De : Ends} (k : FinS K cl F Dd De) (hb : Same cl.bs F) {F2 : Hp} (s2 : Same F F2) (G0 : Hp) : FinS K ⟨cl.f, G0⟩ F2 Dd De :=
  ⟨fun ρ C F' σ H s R q => k.nx ρ C F' σ H (s2.trans s) ⟨R.rc, R.len, R.env, hb.trans (s2.trans s)⟩ q, fun ρ C F' σ H s R q => k.bk ρ C F' σ H (s2.trans s) ⟨R.rc, R.len, R.env, hb.trans (s2.trans s)⟩ q,
    fun ρ C F' σ H s R q => k.ct ρ C F' σ H (s2.trans s) ⟨R.rc, R.len, R.env, hb.trans (s2.trans s)⟩ q, fun v d C F' H s R r q => k.rt v d C F' H (s2.trans s) R r q⟩
/-- what a clause does with an exception; cs: the classes that may come, whether the clause takes them -/
def dCatch (cs : List (String × Bool)) (i : Nat) (ts : Addr → String → List (Str × D) → DS) (Ex : DEnv → DX) (D : DEnds) : DEnv → DX := fun ρ' c ds C' => ∃ b, cs.lookup c = some b ∧
    if b = true then ∀ a, C' a = none → ts a c ds { nx := fun ρ2 C2 => D.nx (ρ2.set i none) C2, rt := D.rt, bk := fun ρ2 C2 => D.bk (ρ2.set i none) C2, ct := fun ρ2 C2 => D.ct (ρ2.set i none) C2 } (ρ'.set i (some (.ref a))) C' else Ex ρ' c ds C'
def dTry (cs : List (String × Bool)) (i : Nat) (tb : (DEnv → DX) → DS) (ts : Addr → String → List (Str × D) → DS) (Ex : DEnv → DX) : DS := fun D ρ C => tb (dCatch cs i ts Ex D) D ρ C
def ExsOk (K : PySem.W.Frag) (cl : Nm) (cx : String) (cs : List (String × Bool)) : Prop := ∀ c b, cs.lookup c = some b → PySem.W.exmOne K (.ref (cl c)) (.ref (cl cx)) = some b
section
variable {X : Cx} {cl : NmB} {x n : Str} {cx : String} {cs : List (String × Bool)} {i : Nat} {body suite : List Stmt} {b₀ : Stmt} {np pos pos' : Pos} {tb : (DEnv → DX) → DS} {ts : Addr → String → List (Str × D) → DS} {Ex : DEnv → DX} {W : WX}
theorem ds_try (tkX : Takes X W) (fw : FinW X.K cl Ex W) (hc : Names X x (.ref (cl cx))) (hcs : ExsOk X.K cl cx cs)
    (hb : ∀ (W : WX) (pn : List (Addr × Obj)) (xe : Value → Shared → Prop) (F0 : Hp) (Ex : DEnv → DX), Takes (X.tr pn xe) W → PassesOwn (model X.prog X.w) X.A X.env xe → FinW X.K ⟨cl.f, F0⟩ Ex W → PSsd (X.tr pn xe) ⟨cl.f, F0⟩ body (tb Ex))
    (hsu : ∀ (a dd : Addr) (oe : Obj) (c : String) (fs : List (Str × V)) (ds : List (Str × D)) (pn : List (Addr × Obj)) (F0 : Hp), Zc (.ref (cl c)) (some dd) oe → (∃ vs, oe.data = .fields vs) → F0 dd = some (.xd fs) → RepF X.K cl F0 fs ds → cs.lookup c = some true →
      PSsd (X.suite a ((a, oe) :: pn)) ⟨cl.f, F0⟩ (b₀ :: suite) (ts a c ds))
    (hi : X.N[i]? = some n := by rfl) (hN : X.N.Nodup := by decide) (hln : X.env.kindOf n = some .local := by rfl) (hs : X.stack = X.env :: X.outer := by rfl) (hf : X.env.frame = some X.env.locals := by rfl) :
    PSd X cl (.Try body [.ExceptHandler (some (.Name x np)) (some n) (b₀ :: suite) pos'] [] [] pos) (dTry cs i tb ts Ex) := by
  refine weakS (ps_try_as (tb := fun W De σ H => ∃ ρ C F Dd Ex, RS X.K ⟨cl.f, F⟩ ρ C F σ H ∧ tb Ex Dd ρ C ∧ FinS X.K ⟨cl.f, F⟩ F Dd De ∧ FinW X.K ⟨cl.f, F⟩ Ex W)
    (ts := fun a cv d De σ H => ∃ c dd ρ C F Dd fs ds, cv = .ref (cl c) ∧ d = some dd ∧ F dd = some (.xd fs) ∧ RepF X.K cl F fs ds ∧ cs.lookup c = some true ∧ RS X.K ⟨cl.f, F⟩ ρ C F σ H ∧ ts a c ds Dd ρ C ∧ FinS X.K ⟨cl.f, F⟩ F Dd De)
    (Wout := W) (c := .ref (cl cx)) (i := i) hs hf hN hi hln hc tkX
    (fun W pn xe tk po => ⟨fun pins s σ H De I ⟨ρ, C, F, Dd, Ex, R, h, k, fw⟩ => (hb W pn xe F Ex tk po fw).run pins s σ H De I ⟨ρ, C, F, Dd, R, h, k⟩⟩)
    (fun a oe cv d pn hz hv => ⟨fun pins s σ H De I ⟨c, dd, ρ, C, F, Dd, fs, ds, e1, e2, fd, rf, lk, R, h, k⟩ => by
      subst e1 e2
      exact (hsu a dd oe c fs ds pn F hz hv fd rf lk).run pins s σ H De I ⟨ρ, C, F, Dd, R, h, k⟩⟩)) ?_
  intro De σ H ⟨ρ, C, F, Dd, R, h, k⟩
  refine ⟨ρ, C, F, Dd, _, ⟨R.rc, R.len, R.env, Same.refl F⟩, h, k.base R.bs (Same.refl F) F, ?_⟩
  intro ρ1 σ1 c ds cv d C1 F1 H1 R1 ⟨e1, dd, fs, e2, hd, rf⟩ ⟨b, lk, hx⟩
  subst e1 e2
  refine ⟨b, hcs c b lk, fun hb1 a na => ?_, fun hb1 => ?_⟩
  · subst hb1
    rw [if_pos rfl] at hx
    have c0 : C1 dd = none := by
      cases q : C1 dd with
      | none => rfl
      | some cc =>
        obtain ⟨_, o, ho, cr⟩ := R1.rc.cel dd cc q
        rw [hd] at ho; cases ho
        cases cr
    have ca : C1 a = none := R1.rc.freeC na
    have s2 : Same F1 (upd F1 dd (.xd fs)) := fun b o e => by
      by_cases z : b = dd
      · subst z
        have := R1.rc.sub b o e
        rw [hd] at this; cases this
        exact upd_same
      · rw [upd_ne z]; exact e
    have rc2 : RC X.K cl C1 (upd F1 dd (.xd fs)) H1 := ⟨fun b o e => by
      by_cases z : b = dd
      · subst z; rw [upd_same] at e; cases e; exact hd
      · rw [upd_ne z] at e; exact R1.rc.sub b o e, fun b cc e => by
      obtain ⟨f0, o, ho, cr⟩ := R1.rc.cel b cc e
      have z : b ≠ dd := fun z => by rw [z, c0] at e; cases e
      exact ⟨by rw [upd_ne z]; exact f0, o, ho, cr.mono s2⟩⟩
    have R2 : RS X.K ⟨cl.f, upd F1 dd (.xd fs)⟩ ρ1 C1 (upd F1 dd (.xd fs)) σ1 H1 := ⟨rc2, R1.len, fun j e q => let ⟨v, h1, h2⟩ := R1.env j e q; ⟨v, h1, h2.mono s2⟩, Same.refl _⟩
    refine ⟨c, dd, _, C1, _, _, fs, ds, rfl, rfl, upd_same, rf.mono s2, lk, R2.set i (.ref a), hx a ca, ?_⟩
    have sF : Same F (upd F1 dd (.xd fs)) := R1.bs.trans s2
    exact ⟨fun ρ3 C3 F3 σ3 H3 s3 R3 q => k.nx _ C3 F3 _ H3 (sF.trans s3) (RS.unset (cl := cl) ⟨R3.rc, R3.len, R3.env, R.bs.trans (sF.trans s3)⟩ i) q, fun ρ3 C3 F3 σ3 H3 s3 R3 q => k.bk _ C3 F3 _ H3 (sF.trans s3) (RS.unset (cl := cl) ⟨R3.rc, R3.len, R3.env, R.bs.trans (sF.trans s3)⟩ i) q,
      fun ρ3 C3 F3 σ3 H3 s3 R3 q => k.ct _ C3 F3 _ H3 (sF.trans s3) (RS.unset (cl := cl) ⟨R3.rc, R3.len, R3.env, R.bs.trans (sF.trans s3)⟩ i) q, fun v d C3 F3 H3 s3 R3 r3 q => k.rt v d C3 F3 H3 (sF.trans s3) R3 r3 q⟩
  · subst hb1
    rw [if_neg Bool.false_ne_true] at hx
    exact fw ρ1 σ1 c ds _ _ C1 F1 H1 ⟨R1.rc, R1.len, R1.env, R.bs.trans R1.bs⟩ ⟨rfl, dd, fs, rfl, hd, rf⟩ hx
end
/-! ### in an except suite: e.f, isinstance(e, c) -/
/-- a: the caught exception; ds: its fields -/
def dXf (a : Addr) (ds : List (Str × D)) (f : Str) (te : DE) : DE := fun ρ C Q => te ρ C fun x C1 => x = .ref a ∧ ∃ v, ds.lookup f = some v ∧ Q v C1
def dXis (a : Addr) (b : Bool) (te : DE) : DE := fun ρ C Q => te ρ C fun x C1 => x = .ref a ∧ Q (.bl b) C1
section
variable {X : Cx} {cl : NmB} {a dd : Addr} {oe : Obj} {pn : List (Addr × Obj)} {c : String} {fs : List (Str × V)} {ds : List (Str × D)} {e : Expr} {te : DE} {pos : Pos} {f : Str} {F0 : Hp}
theorem de_xf (hz : Zc (.ref (cl c)) (some dd) oe) (hv : ∃ vs, oe.data = .fields vs) (hd : F0 dd = some (.xd fs)) (rf : RepF X.K cl F0 fs ds) (T : XfC X.K (cl c)) (hno : PySem.W.findIn X.K (.ref (cl c)) f = some none)
    (he : PEd (X.suite a ((a, oe) :: pn)) ⟨cl.f, F0⟩ e te) (hb : attributeBase e f X.env (eval e X.env) = eval e X.env := by rfl) :
    PEd (X.suite a ((a, oe) :: pn)) ⟨cl.f, F0⟩ (.Attribute e f pos) (dXf a ds f te) := by
  refine weakE (pe_xf T hno hz hv he hb) fun σ H Q ⟨ρ, C, F, Qd, R, h, k⟩ => ?_
  refine ⟨ρ, C, F, _, R, h, fun v d C1 H1 F1 s1 R1 r1 ⟨e1, u, lk, q⟩ => ?_⟩
  subst e1
  cases r1
  have s0 : Same F0 F1 := R.bs.trans s1
  obtain ⟨y, ly, ry⟩ := rf.get lk
  exact ⟨rfl, rfl, dd, fs, y, rfl, R1.sub _ _ (s0 _ _ hd), ly, k y u C1 H1 F1 s1 R1 (ry.mono s0) q⟩
/-- isinstance(e, c), e the caught exception -/
theorem call_xis {X : Cx} {a dd D : Addr} {oe : Obj} {pn : List (Addr × Obj)} {b : Bool} {cv : Value} {v : V} {fs : List (Str × V)} (C : ExcC X.K D) (hcl : (PySem.W.clsIn X.K D).isSome = true) (hz : Zc (.ref D) (some dd) oe) (hf : ∃ vs, oe.data = .fields vs)
    (hcv : ∀ u, RelV v u → u = cv) (kit : PySem.W.kitOne X.K (.ref D) cv = some b) :
    CallR (X.suite a ((a, oe) :: pn)) (.builtin "isinstance") (fun xs H Q => xs = [.ref a, v] ∧ H dd = some (.xd fs) ∧ Q (.bl b) H) := by
  intro pins s σ H xs us Q I r ⟨e, hd, q⟩
  subst e
  cases r with
  | cons rx rr =>
    cases rr with
    | cons rt rr =>
      cases rr
      cases rx
      have ec := hcv _ rt
      subst ec
      obtain ⟨hget, _⟩ := I.pin (a, oe) (List.mem_append.mpr (.inl List.mem_cons_self))
      obtain ⟨vs, hv⟩ := hf
      have hx : ObjOk X.prog X.w H s.heap dd (.xd fs) := I.hok dd _ hd
      obtain ⟨mA, hns, hr⟩ := hx
      obtain ⟨od, ho, hl⟩ := lookIn_ns hns
      have J : PySem.W.InstAt s.heap a oe D (some od) := ⟨hget, hz.1, by unfold PySem.W.notCls; rw [hv] <;> rfl, by rw [hz.2]; exact ho⟩
      exact PySem.W.kia_one (PySem.W.kitx_exc hcl C.hg C.hk C.hs C.ha C.hn C.ht C.hm) I.kIn J kit (fun z => nomatch z) fun tk => ⟨.bl b, H, I.kept (t' := tk) fun _ _ z => z, rfl, q⟩
theorem de_xis {b : Bool} {cv : Value} {v : V} {e2 : Expr} {p : Pos} (hz : Zc (.ref (cl c)) (some dd) oe) (hv : ∃ vs, oe.data = .fields vs) (hd : F0 dd = some (.xd fs)) (T : ExcC X.K (cl c)) (hcl : (PySem.W.clsIn X.K (cl c)).isSome = true) (hm : X.mg "isinstance" = none)
    (he : PEd (X.suite a ((a, oe) :: pn)) ⟨cl.f, F0⟩ e te) (hc : PE (X.suite a ((a, oe) :: pn)) e2 (tC v)) (hcv : ∀ u, RelV v u → u = cv) (kit : PySem.W.kitOne X.K (.ref (cl c)) cv = some b) (hg : Gl X "isinstance" := by rfl)
    (hs : starEach [e, e2] X.env = (false, eval e X.env) :: starEach [e2] X.env := by rfl) (hs2 : starEach [e2] X.env = (false, eval e2 X.env) :: starEach [] X.env := by rfl) (hpl : (backTo pos (starEach [e2] X.env)).any (·.1) = false := by rfl) :
    PEd (X.suite a ((a, oe) :: pn)) ⟨cl.f, F0⟩ (.Call (.Name "isinstance" p) [e, e2] [] pos) (dXis a b te) := by
  refine weakE (pe_callB (X := X.suite a ((a, oe) :: pn)) (call_xis (fs := fs) T hcl hz hv hcv kit) hg hm boot_isinstance (pa_cons he (pa_cons hc pa_nil hs2) hs) (by decide) (by decide) hs hpl) fun σ H Q ⟨ρ, C, F, Qd, R, h, k⟩ => ?_
  refine ⟨ρ, C, F, _, R, h, fun v d C1 H1 F1 s1 R1 r1 ⟨e1, q⟩ => ?_⟩
  subst e1
  cases r1
  exact ⟨rfl, R1.sub _ _ ((R.bs.trans s1) _ _ hd), k _ _ C1 H1 F1 s1 R1 (.bl b) q⟩
theorem xis_own {X : Cx} {x : Str} {D : Addr} {p : Pos} (hm : X.mg x = some (.ref D)) (hg : Gl X x := by rfl) (hdb : (x == ("__debug__" : Str)) = false := by decide) : PE X (.Name x p) (tC (.ref D)) := pe_glob hg hm rfl hdb
theorem rel_ref {D : Addr} : ∀ u, RelV (.ref D) u → u = .ref D := fun _ h => h
end
end G
set_option maxHeartbeats 1000000
namespace G
open PySem PySem.Spec PyProof.Rows L2
/-! ### what the text must tell of an own exception's class -/
abbrev veTl : List Value := [.type "ValueError", .type "Exception", .type "BaseException", .type "object"]
theorem refsVE_of : ∀ l : List Value, PySem.W.excTail veTl l = true → PySem.HandSPX.refsVE l = true
  | l, e => by
    induction l with
    | nil => cases e
    | cons a r ih =>
      rcases PySem.W.excTail_cases (a :: r) e with ⟨c, r', q, h⟩ | q
      · obtain ⟨rfl, rfl⟩ := List.cons.inj q
        exact ih h
      · rw [q]; decide +kernel
theorem oexC_of {K : PySem.W.Frag} {C : Addr} (h : PySem.W.excInitIn K C veTl "ValueError.__new__" = true) (hd : PySem.W.hasDictIn K C = true) (sa : PySem.W.findIn K (.ref C) "__setattr__" = some (some (.builtin "object.__setattr__"))) (exC : PySem.W.subIn K (.ref C) (.type "BaseException") = some true)
    (tyC : PySem.W.typeIn K (.ref C) = some (.type "type")) (kC : PySem.W.keepIn K (.ref C) = true) : OexC K C := by
  refine ⟨?_, sa, exC, tyC, kC⟩
  obtain ⟨cd0, hc0, hd0⟩ := PySem.W.any_some hd
  unfold PySem.W.excInitIn at h
  split at h
  · rename_i dd cd sl ho
    split at h
    · rename_i C' bm k0 k1 k2 k3 n k5 hm hs
      simp only [Bool.and_eq_true, beq_iff_eq, Bool.not_eq_true'] at h
      obtain ⟨⟨⟨rfl, rfl⟩, hdel⟩, ht⟩ := h
      unfold PySem.W.clsIn at hc0
      rw [ho] at hc0
      have e0 := Option.some.inj hc0
      subst e0
      obtain ⟨nm, bs, mro, ns, qn, hd', sn, sub, ab, col, del⟩ := cd
      dsimp only at hm hdel hd0
      subst hm hdel hd0
      have hsl : sl = #[k0, k1, k2, k3, some (.builtin "ValueError.__new__"), k5] := by
        obtain ⟨l⟩ := sl
        simp only at hs
        rw [hs]
      subst hsl
      exact ⟨nm, qn, ns, bs, bm, sn, sub, ab, col, dd, k0, k1, k2, k3, k5, ho, refsVE_of _ ht⟩
    · cases h
  · cases h
theorem ck_of {K : PySem.W.Frag} {C : Addr} (h : PySem.W.hasDictIn K C = true) : (PySem.W.clsIn K C).isSome = true := by
  obtain ⟨cd, hc, _⟩ := PySem.W.any_some h
  rw [hc]; rfl
theorem exs_nil {K : PySem.W.Frag} {cl : Nm} {cx : String} : ExsOk K cl cx [] := fun _ _ h => nomatch h
theorem exs_cons {K : PySem.W.Frag} {cl : Nm} {cx c : String} {b : Bool} {l : List (String × Bool)} (h : PySem.W.exmOne K (.ref (cl c)) (.ref (cl cx)) = some b) (r : ExsOk K cl cx l) : ExsOk K cl cx ((c, b) :: l) := fun x d e => by
  by_cases z : x = c
  · subst z
    rw [List.lookup_cons_self] at e
    cases e
    exact h
  · have z' : (x == c) = false := by simpa using z
    rw [List.lookup_cons, z'] at e
    exact r x d e
theorem caught1 {c n : String} {l : List (String × Bool)} (h : ((n, true) :: l).lookup c = some true) (hr : l.all (fun x => !x.2) = true) : c = n := by
  by_cases z : c = n
  · exact z
  · have z' : (c == n) = false := by simpa using z
    rw [List.lookup_cons, z'] at h
    have : ∀ l : List (String × Bool), l.all (fun x => !x.2) = true → l.lookup c = some true → False := by
      intro l
      induction l with
      | nil => intro _ h; cases h
      | cons p l ih =>
        intro ha h
        obtain ⟨k, b⟩ := p
        simp only [List.all_cons, Bool.and_eq_true, Bool.not_eq_true'] at ha
        rw [List.lookup_cons] at h
        split at h
        · rw [ha.1] at h; cases h
        · exact ih ha.2 h
    exact (this l hr h).elim
theorem xis_blt {X : Cx} {x : Str} {n : String} {p : Pos} (hm : X.mg x = none) (hv : bootBuiltins x = some (.type n)) (hg : Gl X x := by rfl) (hn : x ≠ "__name__" := by decide) (hdb : (x == ("__debug__" : Str)) = false := by decide) : PE X (.Name x p) (tC (.ty n)) := pe_bltn hg hm hv rfl hn hdb
theorem rel_ty {n : String} : ∀ u, RelV (.ty n) u → u = .type n := fun _ h => h
theorem nf_nil {P : Str → Prop} : ∀ f ∈ ([] : List Str), P f := nofun
theorem nf_cons {P : Str → Prop} {g : Str} {l : List Str} (h : P g) (r : ∀ f ∈ l, P f) : ∀ f ∈ g :: l, P f := fun f hf => by
  rcases List.mem_cons.mp hf with e | e
  · rw [e]; exact h
  · exact r f e
/-! ### steps -/
section
variable {ρ : DEnv} {C : Cl} {Q : DQ} {te : DE} {Ex : DEnv → DX}
theorem v_try {cs : List (String × Bool)} {i : Nat} {tb : (DEnv → DX) → DS} {ts : Addr → String → List (Str × D) → DS} {Dd : DEnds} (h : tb (dCatch cs i ts Ex Dd) Dd ρ C) : dTry cs i tb ts Ex Dd ρ C := h
theorem v_methX {k : String} {m : Str} {sp : DSp2} {tA tk : DA} (h : te ρ C fun x C1 => ∃ fs, insOf C1 x = some (k, fs) ∧ fs.lookup m = none ∧ tA ρ C1 fun xs C2 => tk ρ C2 fun zs C3 => sp (x :: xs) zs C3 Q (Ex ρ)) : dMethX Ex k m sp te tA tk ρ C Q := h
theorem v_raise {c : String} {fs : List Str} {t : DA} {Dd : DEnds} (h : t ρ C fun xs C1 => xs.length = fs.length ∧ xs.length ≤ 900 ∧ (∀ x ∈ xs, PrD x) ∧ Ex ρ c (fs.zip xs).reverse C1) : dRaise Ex c fs t Dd ρ C := h
theorem v_xfV {a : Addr} {ds : List (Str × D)} {f : Str} {i : Nat} {v : D} (e : ρ[i]? = some (some (.ref a))) (l : ds.lookup f = some v) (h : Q v C) : dXf a ds f (dVar i) ρ C Q := ⟨_, e, rfl, v, l, h⟩
theorem v_xisV {a : Addr} {b : Bool} {i : Nat} (e : ρ[i]? = some (some (.ref a))) (h : Q (.bl b) C) : dXis a b (dVar i) ρ C Q := ⟨_, e, rfl, h⟩
/-- the clause takes it -/
theorem v_catch {cs : List (String × Bool)} {i : Nat} {ts : Addr → String → List (Str × D) → DS} {Dd : DEnds} {c : String} {ds : List (Str × D)} (e : cs.lookup c = some true)
    (h : ∀ a, C a = none → ts a c ds { nx := fun ρ2 C2 => Dd.nx (ρ2.set i none) C2, rt := Dd.rt, bk := fun ρ2 C2 => Dd.bk (ρ2.set i none) C2, ct := fun ρ2 C2 => Dd.ct (ρ2.set i none) C2 } (ρ.set i (some (.ref a))) C) : dCatch cs i ts Ex Dd ρ c ds C :=
  ⟨true, e, by rw [if_pos rfl]; exact h⟩
theorem prd1 {l : List Nat} (h : l.length ≤ 1000000) : ∀ x ∈ [D.str l], PrD x := fun x hx => .inl ⟨l, List.mem_singleton.mp hx, h⟩
theorem prdI {i : Int} (h : i.natAbs.log2 < 1920) : ∀ x ∈ [D.int i], PrD x := fun x hx => .inr ⟨i, List.mem_singleton.mp hx, h⟩
end
end G
/-! own exceptions over any built-in class (LookupError): the same as over ValueError, at the library's general lemmas -/
namespace PySem
namespace OXL
open PySem.W PySem.Calls PyProof.Rows
section
open Builtin Builtin.ObjectAttr
variable {prog : Program} {w : World} {A : Around} {E : Value → Shared → Prop} {R : Result → Shared → Prop} {hp : Heap} {g : Array GenState} {d : Drawn} {t : Nat} {os : OsState} {B : String} {bmB : List Value}
end
end OXL
end PySem
namespace G
open PySem PySem.Spec PyProof.Rows L2
/-! ### own exceptions over LookupError -/
abbrev leTail : List Value := [.type "LookupError", .type "Exception", .type "BaseException", .type "object"]
/-- what the text must tell of such a class -/
structure OexL (K : PySem.W.Frag) (C : Addr) : Prop where
  q : PySem.W.excInitIn K C leTail "LookupError.__new__" = true
  ov : PySem.W.excOver K C leTail = true
  hd : PySem.W.hasDictIn K C = true
  sa : PySem.W.findIn K (.ref C) "__setattr__" = some (some (.builtin "object.__setattr__"))
  exC : PySem.W.subIn K (.ref C) (.type "BaseException") = some true
  tyC : PySem.W.typeIn K (.ref C) = some (.type "type")
  kC : PySem.W.keepIn K (.ref C) = true
section
variable {X : Cx} {pins : List (Addr × Obj)} {σ : L2.St} {H : Hp} {s : Shared} {a C dx : Addr} {f : Str} {y : V} {u : Value} {fs : List (Str × V)} {Q : Unit → Shared → Prop} {E : Value → Shared → Prop} {A : Around}
end
section
variable {X : Cx} {o e : Expr} {es : List Expr} {to te : TE} {ta : TA} {f : Str} {p p' p1 p2 pos : Pos}
end
end G
set_option maxHeartbeats 1000000
namespace G
open PySem PySem.Spec PyProof.Rows L2
section
variable {X : Cx} {cl : NmB} {k : Nat} {fI : Addr} {fd : FuncData} {ps : List Str} {f : Str} {c : String} {e : Expr} {es : List Expr} {t : DA} {x : Str} {p pos pos2 : Pos} {Ex : DEnv → DX} {W : WX}
end
section
variable {P : Program} {w : World} {K : PySem.W.Frag} {mg : Str → Option Value} {base : Heap} {q : Str} {st : Stmt} {f : Addr} {fd : FuncData} {k : Nat} {C : Addr}
end
end G
set_option maxHeartbeats 1000000
namespace G
open PySem PySem.Spec PyProof.Rows L2
/-! ### o[i] of an own class, its def may raise -/
section
variable {X : Cx} {cl : NmB} {k : Nat} {g : Addr} {sp : DSp2} {c : String} {ta tb : DE} {a b : Expr} {pos : Pos} {Ex : DEnv → DX} {W : WX}
end
end G
set_option maxHeartbeats 1000000
namespace GQ2
open PySem PySem.SeqAt
open AutoSeq1 (wpAny_loadPart')
open MeetsSeq MeetsSeq2 MeetsSeq3 SeqRoads2
section
variable {prog : Program} {w : World} {A : Around} {R : Result → Shared → Prop}
end
section
variable {prog : Program} {w : World} {A : Around} {E : Value → Shared → Prop} {s : Shared}
end
end GQ2
namespace G
open PySem PySem.Spec PyProof.Rows L2
/-! ### == of tuples of instances, alike or not -/
section
variable {X : Cx} {cl : NmB} {CX : CXT} {k : Nat} {g : Addr} {sp : DSp2} {c : String}
end
/-! ### x op y of two instances, the def may raise -/
section
variable {X : Cx} {cl : NmB} {k : Nat} {g : Addr} {sp : DSp2} {c : String} {ta tb : DE} {a b : Expr} {pos : Pos} {Ex : DEnv → DX} {W : WX} {op : Operator}
end
end G
namespace L2
open PySem PySem.Spec PyProof.Rows
/-! ### try with several clauses that name the exception alike -/
inductive HdsAs (X : Cx) (n : Str) : List ExceptHandler → List (Value × (Addr → Value → Option Addr → TS)) → Prop
  | nil : HdsAs X n [] []
  | cons {x : Str} {c : Value} {ts : Addr → Value → Option Addr → TS} {b₀ : Stmt} {suite : List Stmt} {np pos' : Pos} {hds : List ExceptHandler} {l : List (Value × (Addr → Value → Option Addr → TS))} (hc : Names X x c)
      (hsu : ∀ (a : Addr) (oe : Obj) (cls : Value) (d : Option Addr) (pn : List (Addr × Obj)), Zc cls d oe → (∃ vs, oe.data = .fields vs) → PSs (X.suite a ((a, oe) :: pn)) (b₀ :: suite) (ts a cls d)) (r : HdsAs X n hds l) :
      HdsAs X n (.ExceptHandler (some (.Name x np)) (some n) (b₀ :: suite) pos' :: hds) ((c, ts) :: l)
section
variable {X : Cx} {n : Str} {i : Nat} {body : List Stmt} {h₀ : ExceptHandler} {hds : List ExceptHandler} {l : List (Value × (Addr → Value → Option Addr → TS))} {pos : Pos} {tb : WX → TS} {Wout : WX}
end
end L2
namespace G
open PySem PySem.Spec PyProof.Rows L2
section
variable {X : Cx} {cl : NmB} {x x1 x2 n : Str} {cx cx1 cx2 : String} {cs cs1 cs2 : List (String × Bool)} {i : Nat} {body suite suite1 suite2 : List Stmt} {b₀ b1 b2 : Stmt} {np np1 np2 pos pos' pos1 pos2' : Pos} {tb : (DEnv → DX) → DS} {ts ts1 ts2 : Addr → String → List (Str × D) → DS} {Ex : DEnv → DX} {W : WX}
end
end G
set_option maxHeartbeats 1000000
namespace G
open PySem PySem.Spec PyProof.Rows L2
/-! ### a new instance whose __init__ may raise -/
def dMakeX (Ex : DEnv → DX) (c : String) (sp : DSp2) (t tk : DA) : DE := fun ρ C Q => t ρ C fun ds C1 => tk ρ C1 fun es C2 => ∀ x, C2 x = none → sp (.ref x :: ds) es (updC C2 x (.ins c [])) (fun v C4 => v = .non ∧ Q (.ref x) C4) (Ex ρ)
section
variable {X : Cx} {cl : NmB} {k : Nat} {g : Addr} {ks : List Str} {sp : DSp2} {e : Expr} {es : List Expr} {kws : List Keyword} {t tk : DA} {pos p : Pos} {x : Str} {c : String} {Ex : DEnv → DX} {W : WX}
theorem Cee.makeX {us ws : List Value} {vs zs : List V} {ds es : List D} {C : Cl} {F H : Hp} {pins : List (Addr × Obj)} {s : Shared} {σ : L2.St} {Qd : DQ} {Q : VK} {E : DX} (tkX : Takes X W) (fc : Cee X.prog X.w X.K cl X.mg X.base (L2.CX X.prog X.w) k g ks sp) (M : Mk X.K (cl c) g) (hr : Room (k + 1) X.A)
    (I : Inv X pins σ H s) (r : Vals vs us) (rz : Vals zs ws) (R : RC X.K cl C F H) (rl : RepL X.K cl F vs ds) (rs : RepL X.K cl F zs es)
    (h : ∀ x, C x = none → sp (.ref x :: ds) es (updC C x (.ins c [])) (fun v C4 => v = .non ∧ Qd (.ref x) C4) E) (kq : Fin X.K cl F Qd Q) (kx : FinX X.K cl F E (WE W σ)) :
    wpAny (model X.prog X.w) X.A (call (.ref (cl c)) us (ks.zip ws)) (EP X pins σ Q) X.xe s := by
  have n1 : H (s.heap.objs.size + 1) = none := I.hok.fresh (Nat.le_succ _)
  have n2 : H s.heap.objs.size = none := I.hok.fresh (Nat.le_refl _)
  have ne : s.heap.objs.size ≠ s.heap.objs.size + 1 := Nat.ne_of_lt (Nat.lt_succ_self _)
  have I2 := Inv.made (C := cl c) I
  have R1 : RC X.K cl C F (upd H s.heap.objs.size (.own (s.heap.objs.size + 1))) := R.over (same_upd n2)
  have n3 : (upd H s.heap.objs.size (.own (s.heap.objs.size + 1))) (s.heap.objs.size + 1) = none := by rw [upd_ne (Ne.symm ne)]; exact n1
  have R2 : RC X.K cl (updC C (s.heap.objs.size + 1) (.ins c [])) F (upd (upd H s.heap.objs.size (.own (s.heap.objs.size + 1))) (s.heap.objs.size + 1) (.ins (cl c) s.heap.objs.size [])) := R1.cell n3 (.ins .nil)
  have hq := h (s.heap.objs.size + 1) (R.freeC n1)
  have low : lowC2 X.K cl sp (V.ref (s.heap.objs.size + 1) :: vs) zs (upd (upd H s.heap.objs.size (.own (s.heap.objs.size + 1))) (s.heap.objs.size + 1) (.ins (cl c) s.heap.objs.size [])) (fun v H3 => v = .non ∧ Q (.ref (s.heap.objs.size + 1)) H3) (WE W σ) :=
    ⟨.ref (s.heap.objs.size + 1) :: ds, es, _, F, _, E, R2, .cons (.ref _) rl, rs, hq, fun v d C3 H3 F3 s3 R3 r3 ⟨e3, q3⟩ => by subst e3; cases r3; exact ⟨rfl, kq _ _ C3 H3 F3 s3 R3 (.ref _) q3⟩, kx⟩
  refine wpAny_call (make_map (f := g) I.kIn M.makes M.init (beq_iff_eq.mp M.fn) (codeAny_mono (fc _ X.stack _ _ (Value.ref (s.heap.objs.size + 1) :: us) ws (V.ref (s.heap.objs.size + 1) :: vs) zs _ _ (hr.make (cl c) us (ks.zip ws)) (I2.env0.make (cl c) us (ks.zip ws)) (.cons rfl r) rz low) fun rr s' hq' => ?_))
  cases rr with
  | error er => exact passAt tkX σ pins _ _ er s' I2 hq'
  | ok fl =>
    cases fl with
    | ret u =>
      obtain ⟨v, H', I3, rv, ev, q3⟩ := I2.after hq'
      subst ev
      exact ⟨rv, ⟨V.ref (s.heap.objs.size + 1), H', I3, rfl, q3⟩⟩
    | next => exact False.elim hq'
    | brk => exact False.elim hq'
    | cont => exact False.elim hq'
theorem de_makeX (tkX : Takes X W) (fw : FinW X.K cl Ex W) (fc : Cee X.prog X.w X.K cl X.mg X.base (L2.CX X.prog X.w) k g ks sp) (M : Mk X.K (cl c) g) (hr : Room (k + 1) X.A) (hm : X.mg x = some (.ref (cl c))) (ha : PAd X cl (e :: es) t) (hkw : PKd X cl kws tk)
    (hg : Gl X x := by rfl) (hall : (backToKw pos (keywordEach kws X.env)).all (·.1.isSome) = true := by rfl) (hks : (backToKw pos (keywordEach kws X.env)).filterMap (·.1) = ks := by rfl) (hdb : (x == ("__debug__" : Str)) = false := by decide)
    (he : starEach (e :: es) X.env = (false, eval e X.env) :: starEach es X.env := by rfl) (hpl : ((backTo pos (starEach (e :: es) X.env)).any (·.1) || (backToKw pos (keywordEach kws X.env)).any (·.1.isNone)) = false := by rfl) :
    PEd X cl (.Call (.Name x p) (e :: es) kws pos) (dMakeX Ex c sp t tk) := by
  refine ⟨fun pins s σ H Q I ⟨ρ, C, F, Qd, R, h, kq⟩ => ?_⟩
  refine wpAny_Call_Name_kw (ld_glob I hg hm ?_ hdb)
  refine cal_args (first := []) M.kp I ha hkw R h (fun us ws vs zs s2 H2 F2 C2 ds es I2 s2' R2 r rz r1 r2 q2 => ?_) hall hks he hpl
  exact fc.makeX tkX M hr I2 r rz R2 r1 r2 q2 (kq.at s2') (fw.at R s2')
theorem v_makeX {ρ : DEnv} {C : Cl} {Q : DQ} (h : t ρ C fun ds C1 => tk ρ C1 fun es C2 => ∀ x, C2 x = none → sp (.ref x :: ds) es (updC C2 x (.ins c [])) (fun v C4 => v = .non ∧ Q (.ref x) C4) (Ex ρ)) : dMakeX Ex c sp t tk ρ C Q := h
end
/-- a def with defaults that may raise -/
theorem fn_dDX {P : Program} {w : World} {K : PySem.W.Frag} {mg : Str → Option Value} {base : Heap} {cl : Nm} {x qual : Str} {params : Arguments} {body : List Stmt} {scope : Scope} {dvs : List V} {kws : List (Str × V)} {f : Addr} {fd : FuncData} {N ps : List Str} {k : Nat} {sp : DSp} {td : (DEnv → DX) → DS}
    (Fu : FunD K x qual params body scope dvs kws f fd) (S : FnScope N ps scope) (len : ∀ ds C Q E, sp ds C Q E → ds.length = ps.length)
    (pure : ∀ ds C Q E, sp ds C Q E → td (fun _ => E) (endsD Q) (startD N ds) C)
    (bd : ∀ (cdv : Value) (A : Around) (outer : List Env) (s : Shared) (H : Hp) (E : XK) (F0 : Hp) (Ex : DEnv → DX) (W : WX), Room k (A.deeper (envOfC qual scope s.heap.objs.size f cdv)) →
      Takes (cxOf (L2.CX P w) P w K mg base N qual scope f cdv A outer s H E) W → FinW K ⟨cl, F0⟩ Ex W → PSsd (cxOf (L2.CX P w) P w K mg base N qual scope f cdv A outer s H E) ⟨cl, F0⟩ body (td Ex)) :
    FnOk P w K mg base (L2.CX P w) (k + 1) f fd ps (lowSp K cl sp) := by
  refine Fu.ok S (fun vs H Q E ⟨ds, C, F, Qd, Ed, R, r, h, _, _⟩ => r.length.trans (len ds C Qd Ed h)) fun cdv A outer s H vs Q E hr ⟨ds, C, F, Qd, Ed, R, r, h, kq, kx⟩ => ?_
  refine ⟨_, bd cdv A outer s H E F (fun _ => Ed) (fun cv d _ H => E cv d H) hr (takes_of rfl rfl rfl rfl) ?_, startD N ds, C, F, _, RS.startB (cl := ⟨cl, F⟩) N R r (Same.refl F), pure ds C Qd Ed h, ?_⟩
  · intro ρ σ c fs cv d C1 F1 H1 R1 x1 h1
    exact kx c fs cv d C1 H1 F1 R1.bs R1.rc x1 h1
  · refine ⟨fun ρ C1 F1 σ H1 s1 R1 ⟨C2, sc, q⟩ => kq .non .non C2 H1 F1 s1 (R1.rc.drop sc) .non q, fun _ _ _ _ _ _ _ z => z.elim, fun _ _ _ _ _ _ _ z => z.elim, fun v d C1 F1 H1 s1 R1 r1 ⟨d', C2, g, q⟩ => ?_⟩
    obtain ⟨F2, s2, R2, r2⟩ := g.ok R1 r1
    exact kq v d' C2 H1 F2 (s1.trans s2) R2 r2 q
end G
namespace G
open PySem PySem.Spec PyProof.Rows L2
local macro_rules | `(tactic| sizeOf_list_dec) => `(tactic| exact szl (by first | omega | (simp only [List.length_append, List.length_cons, List.length_nil, List.length_map, List.length_reverse, List.length_singleton, txts_lenG]; omega) | (simp only [List.length_append, List.length_cons, List.length_nil, List.length_map, List.length_reverse, txts_lenG]; omega)))
local macro_rules | `(tactic| array_get_dec) => `(tactic| first | with_reducible refine v_seq ?_ | with_reducible refine v_next ?_ | with_reducible refine v_asg ?_ | (with_reducible refine v_isvar ?_; first | with_reducible refine v_var0 ?_ | with_reducible refine v_var1 ?_ | with_reducible refine v_var2 ?_ | with_reducible refine v_var3 ?_ | with_reducible refine v_var4 ?_ | with_reducible refine v_var5 ?_ | with_reducible refine v_var6 ?_ | with_reducible refine v_var7 ?_ | with_reducible refine v_var8 ?_ | with_reducible refine v_var9 ?_ | with_reducible refine v_var10 ?_ | with_reducible refine v_var11 ?_ | with_reducible refine v_var12 ?_ | with_reducible refine v_var13 ?_ | with_reducible refine v_var14 ?_ | with_reducible refine v_var15 ?_ | with_reducible refine v_var16 ?_ | with_reducible refine v_var17 ?_ | with_reducible refine v_var18 ?_ | with_reducible refine v_var19 ?_ | with_reducible refine v_var20 ?_ | with_reducible refine v_var21 ?_ | with_reducible refine v_var22 ?_ | with_reducible refine v_var23 ?_ | with_reducible refine v_var24 ?_ | with_reducible refine v_var25 ?_) | (with_reducible refine v_isname ?_; first | with_reducible refine v_name0 ?_ | with_reducible refine v_wname0 ?_ | with_reducible refine v_name1 ?_ | with_reducible refine v_wname1 ?_ | with_reducible refine v_name2 ?_ | with_reducible refine v_wname2 ?_ | with_reducible refine v_name3 ?_ | with_reducible refine v_wname3 ?_ | with_reducible refine v_name4 ?_ | with_reducible refine v_wname4 ?_ | with_reducible refine v_name5 ?_ | with_reducible refine v_wname5 ?_ | with_reducible refine v_name6 ?_ | with_reducible refine v_wname6 ?_ | with_reducible refine v_name7 ?_ | with_reducible refine v_wname7 ?_ | with_reducible refine v_name8 ?_ | with_reducible refine v_wname8 ?_ | with_reducible refine v_name9 ?_ | with_reducible refine v_wname9 ?_ | with_reducible refine v_name10 ?_ | with_reducible refine v_wname10 ?_ | with_reducible refine v_name11 ?_ | with_reducible refine v_wname11 ?_ | with_reducible refine v_name12 ?_ | with_reducible refine v_wname12 ?_ | with_reducible refine v_name13 ?_ | with_reducible refine v_wname13 ?_ | with_reducible refine v_name14 ?_ | with_reducible refine v_wname14 ?_ | with_reducible refine v_name15 ?_ | with_reducible refine v_wname15 ?_ | with_reducible refine v_name16 ?_ | with_reducible refine v_wname16 ?_ | with_reducible refine v_name17 ?_ | with_reducible refine v_wname17 ?_ | with_reducible refine v_name18 ?_ | with_reducible refine v_wname18 ?_ | with_reducible refine v_name19 ?_ | with_reducible refine v_wname19 ?_ | with_reducible refine v_name20 ?_ | with_reducible refine v_wname20 ?_ | with_reducible refine v_name21 ?_ | with_reducible refine v_wname21 ?_ | with_reducible refine v_name22 ?_ | with_reducible refine v_wname22 ?_ | with_reducible refine v_name23 ?_ | with_reducible refine v_wname23 ?_ | with_reducible refine v_name24 ?_ | with_reducible refine v_wname24 ?_ | with_reducible refine v_name25 ?_ | with_reducible refine v_wname25 ?_) | with_reducible refine v_drop ?_ | with_reducible refine v_ret ?_ | with_reducible refine v_ifS ?_ | with_reducible refine v_test ?_ | with_reducible refine v_bl ?_ | with_reducible refine v_const ?_ | with_reducible refine v_op ?_ | with_reducible refine v_cb ?_ | with_reducible refine v_nil ?_ | with_reducible refine v_cons ?_ | with_reducible refine v_fld ?_ | with_reducible refine v_meth ?_ | with_reducible refine v_cal ?_ | with_reducible refine v_call0 ?_ | with_reducible refine v_pos2 ?_ | with_reducible refine v_tt ?_ | with_reducible refine v_ff ?_ | with_reducible refine v_ntt ?_ | with_reducible refine v_nff ?_ | with_reducible refine v_dnot ?_ | with_reducible refine v_dand ?_ | with_reducible refine v_dor ?_ | with_reducible refine v_andV ?_ | with_reducible refine v_orV ?_ | with_reducible refine v_notV ?_ | with_reducible refine v_ifE ?_ | with_reducible refine v_bm0 ?_ | with_reducible refine v_eqS ?_ | with_reducible refine v_eqI ?_ | with_reducible refine v_neS ?_ | with_reducible refine v_neI ?_ | with_reducible refine v_eqB ?_ | with_reducible refine v_neB ?_ | with_reducible refine v_isNn ?_ | with_reducible refine v_isNs ?_ | with_reducible refine v_isNi ?_ | with_reducible refine v_isNt ?_ | with_reducible refine v_notNn ?_ | with_reducible refine v_notNs ?_ | with_reducible refine v_notNi ?_ | with_reducible refine v_notNt ?_ | with_reducible refine v_isN ?_ | with_reducible refine v_notN ?_ | with_reducible refine v_lt ?_ | with_reducible refine v_le ?_ | with_reducible refine v_gt ?_ | with_reducible refine v_ge ?_ | with_reducible refine v_addI ?_ | with_reducible refine v_subI ?_ | with_reducible refine v_lenT ?_ | with_reducible refine v_lenL ?_ | with_reducible refine v_chain ?_ | with_reducible refine v_un ?_ | with_reducible refine v_tup ?_ | with_reducible refine v_lst ?_ | with_reducible refine v_lstC ?_ | with_reducible refine v_gsub ?_ | with_reducible refine v_rng1 ?_ | with_reducible refine v_rng2 ?_ | with_reducible refine v_slice ?_ | with_reducible refine v_nopart ?_ | with_reducible refine v_part ?_ | with_reducible refine v_partI ?_ | with_reducible refine v_slT ?_ | with_reducible refine v_slL ?_ | with_reducible refine v_rev ?_ | with_reducible refine v_revO ?_ | with_reducible refine v_enumS ?_ | with_reducible refine v_enumL ?_ | with_reducible refine v_enumT ?_ | with_reducible refine v_zipS ?_ | with_reducible refine v_revL ?_ | with_reducible refine v_revT ?_ | with_reducible refine v_putT ?_ | with_reducible refine v_putK ?_ | with_reducible refine v_inT ?_ | with_reducible refine v_getT ?_ | with_reducible refine v_get2T ?_ | with_reducible refine v_make ?_ | with_reducible refine v_fldSet ?_ | with_reducible refine v_forL ?_ | with_reducible refine v_forT ?_ | with_reducible refine v_forS ?_ | with_reducible refine v_lstO ?_ | with_reducible refine v_rolO ?_ | with_reducible refine v_tupO ?_ | with_reducible refine v_strO ?_ | with_reducible refine v_listT ?_ | with_reducible refine v_listL ?_ | with_reducible refine v_tupleL ?_ | with_reducible refine v_tupleT ?_ | with_reducible refine v_isiS ?_ | with_reducible refine v_isiT ?_ | with_reducible refine v_isiL ?_ | with_reducible refine v_allM ?_ | with_reducible refine v_anyM ?_ | with_reducible refine v_eqNS ?_ | with_reducible refine v_neNS ?_ | with_reducible refine v_gcons ?_ | with_reducible refine v_gnil ?_ | with_reducible refine v_par2 ?_ | with_reducible refine v_par33 ?_ | with_reducible refine v_retN ?_ | with_reducible refine v_sameS ?_ | with_reducible refine v_sameB ?_ | with_reducible refine v_sameI ?_ | with_reducible refine v_sameN ?_ | with_reducible refine v_sameT ?_ | with_reducible refine v_sameL ?_ | with_reducible refine v_endN ?_ | with_reducible refine v_bm ?_ | with_reducible refine v_tystr ?_ | with_reducible refine v_break ?_ | with_reducible refine v_cont ?_ | ((with_reducible refine v_slS ?_ ?_); sizeOf_list_dec) | ((with_reducible refine v_lenS ?_ ?_); sizeOf_list_dec) | ((with_reducible refine v_addS ?_ ?_); sizeOf_list_dec) | ((with_reducible refine v_addT ?_ ?_); sizeOf_list_dec) | ((with_reducible refine v_addL ?_ ?_); sizeOf_list_dec) | (with_reducible refine v_par _ _ ?_) | (with_reducible refine v_par3 _ _ _ ?_) | ((with_reducible refine v_gtup ?_ ?_); rfl) | with_reducible refine v_ixT (by with_unfolding_all rfl) ?_ | with_reducible refine v_ixL (by with_unfolding_all rfl) ?_ | with_reducible refine v_ixR (by with_unfolding_all rfl) ?_ | ((with_reducible refine v_ixS ?_ (by with_unfolding_all rfl) ?_); sizeOf_list_dec) | ((with_reducible refine And.intro ?_ ?_); sizeOf_list_dec) | with_reducible refine v_dt (by first | assumption | with_unfolding_all rfl | omega | (simp only [List.length_map, List.length_append, List.length_cons, List.length_nil, List.length_reverse, txts_lenG]; first | done | omega)) ?_ | with_reducible refine v_ndt (by first | assumption | with_unfolding_all rfl | omega | (simp only [List.length_map, List.length_append, List.length_cons, List.length_nil, List.length_reverse, txts_lenG]; first | done | omega)) ?_ | with_reducible refine v_df (by first | assumption | omega | (with_unfolding_all decide) | (simp only [List.length_map, List.length_append, List.length_cons, List.length_nil, List.length_reverse, txts_lenG]; first | done | omega)) ?_ | with_reducible refine v_ndf (by first | assumption | omega | (with_unfolding_all decide) | (simp only [List.length_map, List.length_append, List.length_cons, List.length_nil, List.length_reverse, txts_lenG]; first | done | omega)) ?_ | decreasing_trivial_pre_omega | ((with_reducible refine v_isname ?_); dsimp only [wipeD, List.set]) | ((with_reducible refine v_isvar ?_); dsimp only [wipeD, List.set]))
local macro_rules | `(tactic| array_mem_dec) => `(tactic| repeat array_get_dec)
local macro_rules | `(tactic| bv_omega) => `(tactic| repeat' (first | array_get_dec | with_reducible refine ite_d (fun _ => ?_) (fun _ => ?_) | with_reducible refine ite_nd (fun _ => ?_) (fun _ => ?_) | with_reducible refine ite_b (fun _ => ?_) (fun _ => ?_) | with_reducible refine ite_nb (fun _ => ?_) (fun _ => ?_)))
local macro_rules | `(tactic| decreasing_trivial_pre_omega) => `(tactic| with_reducible refine kz_name ?_)
local macro_rules | `(tactic| decreasing_trivial_pre_omega) => `(tactic| with_reducible refine kz_family ?_)
local macro_rules | `(tactic| decreasing_trivial_pre_omega) => `(tactic| with_reducible refine kz_marks ?_)
local macro_rules | `(tactic| decreasing_trivial_pre_omega) => `(tactic| with_reducible refine kz_yes ?_)
local macro_rules | `(tactic| decreasing_trivial_pre_omega) => `(tactic| with_reducible refine kz_no ?_)
local macro_rules | `(tactic| decreasing_trivial_pre_omega) => `(tactic| with_reducible refine kz_digits ?_)
local macro_rules | `(tactic| decreasing_trivial_pre_omega) => `(tactic| with_reducible refine kz_point ?_)
local macro_rules | `(tactic| decreasing_trivial_pre_omega) => `(tactic| with_reducible refine kz_keep ?_)
local macro_rules | `(tactic| decreasing_trivial_pre_omega) => `(tactic| with_reducible refine v_try ?_)
local macro_rules | `(tactic| decreasing_trivial_pre_omega) => `(tactic| with_reducible refine v_methX ?_)
local macro_rules | `(tactic| decreasing_trivial_pre_omega) => `(tactic| with_reducible refine v_makeX ?_)
local macro_rules | `(tactic| decreasing_trivial_pre_omega) => `(tactic| with_reducible refine v_calX ?_)
local macro_rules | `(tactic| decreasing_trivial_pre_omega) => `(tactic| with_reducible refine v_xfV (by with_unfolding_all rfl) (by with_unfolding_all rfl) ?_)
local macro_rules | `(tactic| decreasing_trivial_pre_omega) => `(tactic| with_reducible refine v_xisV (by with_unfolding_all rfl) ?_)
local macro_rules | `(tactic| decreasing_trivial_pre_omega) => `(tactic| with_reducible refine v_raise ?_)
/-! ### books refused -/
theorem prdN {n : Nat} (h : n ≤ 1000) : ∀ x ∈ [D.int (n : Nat)], PrD x := prdI (by
  have := Nat.log2_le_self n
  simp only [Int.natAbs_natCast]
  omega)
/-- a join that cannot stand behind others -/
def BadJ (ks : List KindR) (trs : List T3) (d : D) : Prop := (∀ C, NoTrip ks d C) ∨ ∃ t : T3, d = tripD t ∧ t.1 ∈ namesK ks ∧ t.2.1 ∈ namesK ks ∧ t.2.2 ∈ namesK ks ∧ t.1 ≠ t.2.1 ∧
  ((pairT trs t.1 t.2.1).isSome = true ∨ ∀ c a b, findK ks t.2.2 = some c → findK ks t.1 = some a → findK ks t.2.1 = some b → (holdsK c a && holdsK c b) = false)
def sp_Book_given_joinsX : DSp := fun ds C Q E => ∃ x ks js xs trs, ds = [x, js] ∧ BkAt C x ks ∧ ks.length ≤ 1000 ∧ (∀ k ∈ ks, k.name.length ≤ 100) ∧ srcOf js = some xs ∧ OkTs ks trs ∧
  ((xs = trs.map tripD ∧ Q (.dct (trs.map entT)) C) ∨ ∃ d rest, xs = trs.map tripD ++ d :: rest ∧ BadJ ks trs d ∧ ∀ C', SubC C C' → E "BadBook" [("part", .int (trs.length : Nat))] C')
def td_Book_given_joinsX (Ex : DEnv → DX) : DS :=
  (dSeq (dAsg dNewT (dName 2))
    (dSeq (dFor (diEnumS (dCons (dVar 1) dNil)) (dgTup 2 (dgCons (dName 3) (dgCons (dName 4) dgNil)))
    (dSeq (dIfS (dOr (dNot (dTest (dMeth "Book" "is_triple" (pos2 sp_Book_is_triple []) (dVar 0) (dCons (dVar 4) dNil) dNil))) (dTest (dInT (dCons (dOp rIx (dVar 4) (dC (.int 0))) (dCons (dOp rIx (dVar 4) (dC (.int 1))) dNil)) (dVar 2)))) (dRaise Ex "BadBook" ["part"] (dCons (dVar 3) dNil)) dNext)
    (dSeq (dIfS (dOr (dNot (dTest (dMeth "Book" "holds" (pos2 sp_Book_holds []) (dVar 0) (dCons (dOp rIx (dVar 4) (dC (.int 2))) (dCons (dOp rIx (dVar 4) (dC (.int 0))) dNil)) dNil))) (dNot (dTest (dMeth "Book" "holds" (pos2 sp_Book_holds []) (dVar 0) (dCons (dOp rIx (dVar 4) (dC (.int 2))) (dCons (dOp rIx (dVar 4) (dC (.int 1))) dNil)) dNil)))) (dRaise Ex "BadBook" ["part"] (dCons (dVar 3) dNil)) dNext)
    (dPutT (dVar 2) (dCons (dOp rIx (dVar 4) (dC (.int 0))) (dCons (dOp rIx (dVar 4) (dC (.int 1))) dNil)) (dOp rIx (dVar 4) (dC (.int 2)))))))
    (dRet (dVar 2))))
theorem len_Book_given_joinsX (ds : List D) (C : Cl) (Q : DQ) (E : DX) (h : sp_Book_given_joinsX ds C Q E) : ds.length = 2 := by repeat (first | (obtain ⟨rfl, _⟩ := h; exact rfl) | (obtain ⟨_, h⟩ := h))
theorem pure_Book_given_joinsX (ds : List D) (C : Cl) (Q : DQ) (E : DX) (h : sp_Book_given_joinsX ds C Q E) : td_Book_given_joinsX (fun _ => E) (endsD Q) (startD ["self", "joins", "given", "at", "join"] ds) C := by
  obtain ⟨x, ks, js, xs, trs, rfl, hb, hl, hw, hj, ht, hq⟩ := h
  unfold td_Book_given_joinsX
  refine v_ends ?_
  simp only [startD, List.map_cons, List.map_nil, List.length_cons, List.length_nil, Nat.reduceAdd, Nat.reduceSub, List.reduceReplicate, List.cons_append, List.nil_append]
  array_mem_dec
  intro p hp
  array_mem_dec
  have hx : ∀ (i : Nat) t, trs[i]? = some t → xs[i]? = some (tripD t) := fun i t e => by
    rcases hq with ⟨rfl, _⟩ | ⟨d, rest, rfl, _⟩
    · rw [List.getElem?_map, e]; rfl
    · rw [List.getElem?_append_left (by rw [List.length_map]; exact (List.getElem?_eq_some_iff.mp e).1), List.getElem?_map, e]; rfl
  refine v_loopF (as := xs.zipIdx 0) (e := fun q => .tup [.int (q.2 : Nat), q.1]) (fun i ρ' C' => i ≤ trs.length ∧ (∃ y z, ρ' = [some x, some js, some (.ref p), y, z]) ∧ C' = updC C p (.dct ((trs.take i).map entT))) (fun R h => ?_) ⟨Nat.zero_le _, ⟨_, _, rfl⟩, rfl⟩ (fun i q ρ' C' hi hm hP => ?_) fun ρ' C' hP => ?_
  · array_mem_dec
    refine ⟨_, _, rfl, hj, ?_⟩
    have e := numbered_map id 0 xs
    rw [List.map_id] at e
    rw [e]
    exact h
  · obtain ⟨il, ⟨y, z, rfl⟩, rfl⟩ := hP
    obtain ⟨d, j⟩ := q
    have hti : xs[i]? = some d ∧ j = i := by
      rw [List.getElem?_zipIdx] at hi
      cases e : xs[i]? with
      | none => rw [e] at hi; cases hi
      | some t' => rw [e] at hi; cases hi; exact ⟨rfl, by omega⟩
    obtain ⟨hti, rfl⟩ := hti
    have hb' : BkAt (updC C p (.dct ((trs.take j).map entT))) x ks := hb.sub ((SubC.refl _).new hp)
    have sb : SubC C (updC C p (.dct ((trs.take j).map entT))) := (SubC.refl _).new hp
    rcases Nat.lt_or_ge j trs.length with lt | ge
    · obtain ⟨t, hj2⟩ : ∃ t, trs[j]? = some t := ⟨_, List.getElem?_eq_getElem lt⟩
      have e2 := hx j t hj2
      rw [hti] at e2
      cases e2
      have htm : t ∈ trs := List.mem_of_getElem? hj2
      have ok := ht.ok t htm
      unfold tripD
      array_mem_dec
      refine hb'.meth _ (by decide) ?_
      array_mem_dec
      refine .inl ⟨x, ks, t, rfl, hb', hl, hw, ok.n1, ok.n2, ok.n3, ok.ne, ?_⟩
      array_mem_dec
      refine ⟨_, _, by show (match updC C p (.dct ((trs.take j).map entT)) p with | some (.dct kvs) => some kvs | _ => none) = _; rw [updC_same], keysD2 _ _, ?_⟩
      have hnone : pairT (trs.take j) t.1 t.2.1 = none := pairT_none fun t' ht' e => by
        obtain ⟨m, hm⟩ := List.mem_iff_getElem?.mp ht'
        have hmi : m < j := by
          have := (List.getElem?_eq_some_iff.mp hm).1
          rw [List.length_take] at this; omega
        rw [List.getElem?_take_of_lt hmi] at hm
        have := nodup_get ht.nd (i := m) (j := j) (a := (t.1, t.2.1)) (by rw [List.getElem?_map, hm, Option.map_some, e.1, e.2]) (by rw [List.getElem?_map, hj2]; rfl)
        omega
      rw [val_ent, hnone, Option.map_none, Option.isSome_none]
      array_mem_dec
      refine hb'.meth _ (by decide) ?_
      array_mem_dec
      obtain ⟨kc, hkc⟩ := find_name ok.n3
      obtain ⟨ka, hka⟩ := find_name ok.n1
      obtain ⟨kb, hkb⟩ := find_name ok.n2
      refine ⟨x, ks, _, _, kc, ka, rfl, hb', hl, hkc, hka, ?_⟩
      rw [ok.h1 kc ka hkc hka]
      array_mem_dec
      refine hb'.meth _ (by decide) ?_
      array_mem_dec
      refine ⟨x, ks, _, _, kc, kb, rfl, hb', hl, hkc, hkb, ?_⟩
      rw [ok.h2 kc kb hkc hkb]
      array_mem_dec
      refine ⟨p, _, _, rfl, updC_same, keysD2 _ _, ?_, by omega, ⟨_, _, rfl⟩, ?_⟩
      · have := ht.len
        refine Nat.lt_of_le_of_lt ?_ (show 1000 < sizeLine by rw [sizeLine_eq]; decide)
        rw [List.length_map, List.length_take]; omega
      · rw [updC_updC, putKD_new (by rw [val_ent, hnone]; rfl), List.take_add_one, hj2]
        simp [entT]
    · obtain rfl : j = trs.length := by omega
      rcases hq with ⟨rfl, _⟩ | ⟨d', rest, rfl, bad, hE⟩
      · rw [List.getElem?_eq_none (by rw [List.length_map]; exact Nat.le_refl _)] at hti; cases hti
      rw [List.getElem?_append_right (by rw [List.length_map]; exact Nat.le_refl _), List.length_map, Nat.sub_self] at hti
      cases hti
      have hE' := hE _ sb
      array_mem_dec
      refine hb'.meth _ (by decide) ?_
      array_mem_dec
      rcases bad with nt | ⟨t, rfl, n1, n2, n3, ne, bad⟩
      · refine .inr ⟨x, ks, _, rfl, hb', hl, hw, nt _, ?_⟩
        array_mem_dec
        exact ⟨rfl, by show (1 : Nat) ≤ 900; decide, prdN ht.len, hE'⟩
      · refine .inl ⟨x, ks, t, rfl, hb', hl, hw, n1, n2, n3, ne, ?_⟩
        unfold tripD
        array_mem_dec
        refine ⟨_, _, by show (match updC C p (.dct ((trs.take trs.length).map entT)) p with | some (.dct kvs) => some kvs | _ => none) = _; rw [updC_same], keysD2 _ _, ?_⟩
        rw [val_ent, List.take_length]
        cases hp2 : pairT trs t.1 t.2.1 with
        | some t' =>
          rw [Option.map_some, Option.isSome_some]
          array_mem_dec
          rw [List.take_length] at hE'
          exact ⟨rfl, by show (1 : Nat) ≤ 900; decide, prdN ht.len, hE'⟩
        | none =>
          rw [Option.map_none, Option.isSome_none]
          rw [List.take_length] at hE' hb'
          rcases bad with b1 | bad
          · rw [hp2] at b1; cases b1
          obtain ⟨kc, hkc⟩ := find_name n3
          obtain ⟨ka, hka⟩ := find_name n1
          obtain ⟨kb, hkb⟩ := find_name n2
          have hh := bad kc ka kb hkc hka hkb
          array_mem_dec
          refine hb'.meth _ (by decide) ?_
          array_mem_dec
          refine ⟨x, ks, _, _, kc, ka, rfl, hb', hl, hkc, hka, ?_⟩
          cases h1 : holdsK kc ka with
          | false =>
            array_mem_dec
            exact ⟨rfl, by show (1 : Nat) ≤ 900; decide, prdN ht.len, hE'⟩
          | true =>
            rw [h1, Bool.true_and] at hh
            array_mem_dec
            refine hb'.meth _ (by decide) ?_
            array_mem_dec
            refine ⟨x, ks, _, _, kc, kb, rfl, hb', hl, hkc, hkb, ?_⟩
            rw [hh]
            array_mem_dec
            exact ⟨rfl, by show (1 : Nat) ≤ 900; decide, prdN ht.len, hE'⟩
  · obtain ⟨il, ⟨y, z, rfl⟩, rfl⟩ := hP
    rw [List.length_zipIdx] at il ⊢
    rcases hq with ⟨rfl, hq⟩ | ⟨d', rest, rfl, bad, hE⟩
    · rw [List.length_map, List.take_length]
      array_mem_dec
      exact ⟨_, _, .dct updC_same, by rw [delC_new hp]; exact hq⟩
    · simp at il; omega
/-- all but the cell p stays -/
def SubX (C : Cl) (p : Addr) (C' : Cl) : Prop := ∀ a c, a ≠ p → C a = some c → C' a = some c
theorem SubX.of {C C' : Cl} {p : Addr} {c : Cell} (h : SubC (updC C p c) C') : SubX C p C' := fun a x ne e => h a x (by rw [updC_ne ne]; exact e)
theorem SubX.upd {C : Cl} {p : Addr} {c : Cell} : SubX C p (updC C p c) := SubX.of (SubC.refl _)
theorem SubX.refl {C : Cl} {p : Addr} : SubX C p C := fun _ _ _ e => e
def wKinds : List Nat := [107, 105, 110, 100, 115]
def wNames : List Nat := [110, 97, 109, 101, 115]
def wText : List Nat := [116, 101, 120, 116]
def sp_Book_initX : DSp := fun ds C Q E => ∃ p ks js, ds = [.ref p, .lst (ks.map kindD), js] ∧ C p = some (.ins "Book" []) ∧ ks.length ≤ 1000 ∧ (∀ k ∈ ks, k.name.length ≤ 100) ∧
  ((¬ (1 ≤ ks.length ∧ ks.length ≤ 7) ∧ ∀ C', SubX C p C' → E "BadBook" [("part", .str wKinds)] C') ∨
   (1 ≤ ks.length ∧ ks.length ≤ 7 ∧ ¬ (namesK ks).Nodup ∧ ∀ C', SubX C p C' → E "BadBook" [("part", .str wNames)] C') ∨
   (1 ≤ ks.length ∧ ks.length ≤ 7 ∧ (namesK ks).Nodup ∧ (∀ k ∈ ks, k.fam ≠ famText) ∧ ∀ C', SubX C p C' → E "BadBook" [("part", .str wText)] C') ∨
   ∃ trs xs, srcOf js = some xs ∧ OkB ks trs ∧ ((xs = trs.map tripD ∧ Q .non (updC C p (.ins "Book" (bookFs ks trs)))) ∨ ∃ d rest, xs = trs.map tripD ++ d :: rest ∧ BadJ ks trs d ∧ ∀ C', SubX C p C' → E "BadBook" [("part", .int (trs.length : Nat))] C'))
theorem dcN_ne {l : List (List Nat)} (h : ¬ l.Nodup) : dcN l.reverse ≠ l.length := fun e => h ((nodup_rev _).mp ((dcN_nodup _).mp (by rw [e, List.length_reverse])))
def td_Book_initX (Ex : DEnv → DX) : DS :=
  (dSeq (dIfS (dNot (dTest (dChain rLeD rLeD (dC (.int 1)) (dCB rLen (dCons (dVar 1) dNil)) (dC (.int 7))))) (dRaise Ex "BadBook" ["part"] (dCons (dC (.str [107, 105, 110, 100, 115])) dNil)) dNext)
    (dSeq (dFldSet ["Book"] (dVar 0) (dCB rTuple (dCons (dVar 1) dNil)) "kinds")
    (dSeq (dAsg (dMeth "Book" "names" (pos2 sp_Book_names []) (dVar 0) dNil dNil) (dName 3))
    (dSeq (dIfS (dTest (dOp rNeD (dLenSet (dVar 3)) (dCB rLen (dCons (dVar 3) dNil)))) (dRaise Ex "BadBook" ["part"] (dCons (dC (.str [110, 97, 109, 101, 115])) dNil)) dNext)
    (dSeq (dAsg (dFz (dLc (diList (dVar 1)) (dName 6) (dTest (dOp rEqD (dFld ["Kind"] (dVar 6) "family") (dC (.str [116, 101, 120, 116])))) (dFld ["Kind"] (dVar 6) "name") [6])) (dName 4))
    (dSeq (dIfS (dTest (dOp rEqD (dCB rLen (dCons (dVar 4) dNil)) (dC (.int 0)))) (dRaise Ex "BadBook" ["part"] (dCons (dC (.str [116, 101, 120, 116])) dNil)) dNext)
    (dSeq (dFldSet ["Book"] (dVar 0) (dOp rIx (dVar 4) (dC (.int 0))) "spare")
    (dSeq (dFldSet ["Book"] (dVar 0) (dMeth "Book" "all_joins" (pos2 sp_Book_all_joins []) (dVar 0) (dCons (dMethX Ex "Book" "given_joins" (pos2 sp_Book_given_joinsX []) (dVar 0) (dCons (dVar 2) dNil) dNil) dNil) dNil) "joined")
    (dSeq (dAsg (dFz (dLc (diList (dVar 1)) (dName 6) (dTest (dOp rEqD (dFld ["Kind"] (dVar 6) "family") (dC (.str [109, 105, 115, 115, 105, 110, 103])))) (dOp rIx (dFld ["Kind"] (dVar 6) "marks") (dC (.int 0))) [6])) (dName 5))
    (dFldSet ["Book"] (dVar 0) (dIf (dTest (dOp rGtD (dCB rLen (dCons (dVar 5) dNil)) (dC (.int 0)))) (dOp rIx (dVar 5) (dC (.int 0))) (dC (.str []))) "mark"))))))))))
theorem len_Book_initX (ds : List D) (C : Cl) (Q : DQ) (E : DX) (h : sp_Book_initX ds C Q E) : ds.length = 3 := by repeat (first | (obtain ⟨rfl, _⟩ := h; exact rfl) | (obtain ⟨_, h⟩ := h))
theorem pure_Book_initX (ds : List D) (C : Cl) (Q : DQ) (E : DX) (h : sp_Book_initX ds C Q E) : td_Book_initX (fun _ => E) (endsD Q) (startD ["self", "kinds", "joins", "labels", "texts", "marks", "kind"] ds) C := by
  obtain ⟨p, ks, js, rfl, hp, lk, nm, hq⟩ := h
  have nl : (namesK ks).length = ks.length := by unfold namesK; rw [List.length_map]
  unfold td_Book_initX
  refine v_ends ?_
  simp only [startD, List.map_cons, List.map_nil, List.length_cons, List.length_nil, Nat.reduceAdd, Nat.reduceSub, List.reduceReplicate, List.cons_append, List.nil_append]
  array_mem_dec
  have p1 : (1 : Nat) ≤ 900 := by decide
  have r0 : SubX C p C := SubX.refl
  rcases hq with ⟨bad, hE⟩ | hq
  · have fin := hE C r0
    by_cases h1 : 1 ≤ ks.length
    · have h7 : 7 < ks.length := by omega
      bv_omega <;> first | (exfalso; omega) | exact ⟨rfl, p1, prd1 (by decide), fin⟩
    · bv_omega <;> first | (exfalso; omega) | exact ⟨rfl, p1, prd1 (by decide), fin⟩
  have l1 : 1 ≤ ks.length := by
    rcases hq with h | h | ⟨_, _, _, ok, _⟩
    · exact h.1
    · exact h.1
    · exact ok.len1
  have l7 : ks.length ≤ 7 := by
    rcases hq with h | h | ⟨_, _, _, ok, _⟩
    · exact h.2.1
    · exact h.2.1
    · exact ok.len7
  array_mem_dec
  refine ⟨p, _, _, .head _, rfl, hp, by decide, ?_⟩
  rw [show putD ("kinds" : Str) (.tup (ks.map kindD)) [] = (bookFs ks []).take 1 from rfl]
  have hb1 : BkAt (updC C p (.ins "Book" ((bookFs ks []).take 1))) (.ref p) ks := bk_take 1 (by decide) (by decide)
  array_mem_dec
  refine hb1.meth _ (by decide) ?_
  array_mem_dec
  refine ⟨_, ks, rfl, hb1, by omega, ?_⟩
  array_mem_dec
  refine ⟨_, rfl, namesK ks, rfl, by omega, ?_⟩
  have r1 : SubX C p (updC C p (.ins "Book" ((bookFs ks []).take 1))) := SubX.upd
  rcases hq with ⟨_, _, nd, hE⟩ | hq
  · have ne := dcN_ne nd
    have fin := hE _ r1
    bv_omega <;> first | (exfalso; omega) | exact ⟨rfl, p1, prd1 (by decide), fin⟩
  have nd : (namesK ks).Nodup := by
    rcases hq with h | ⟨_, _, _, ok, _⟩
    · exact h.2.2.1
    · exact ok.nd
  rw [(dcN_nodup _).mpr ((nodup_rev _).mpr nd), List.length_reverse]
  array_mem_dec
  refine v_lcfilF (as := ks) (e := kindD) (isFam famText) (fun k => .str k.name) (fun R h => ?_) (by sizeOf_list_dec) (fun i k C1 N S _ _ hs hy hn => ?_) ?_
  · array_mem_dec
    exact h
  · array_mem_dec
    refine ite_d (fun e => ?_) (fun e => ?_)
    · array_mem_dec
      exact hy (decide_eq_true e)
    · exact hn (decide_eq_false e)
  rcases hq with ⟨_, _, _, nt, hE⟩ | ⟨trs, xs, hj, ok, hq⟩
  · have fin := hE _ r1
    have e0 : ks.filter (isFam famText) = [] := List.filter_eq_nil_iff.mpr fun k hk z => nt k hk (of_decide_eq_true z)
    rw [e0]
    array_mem_dec
    exact ⟨rfl, p1, prd1 (by decide), fin⟩
  have hne : ks.filter (isFam famText) ≠ [] := by
    obtain ⟨k, hk, hf⟩ := ok.txt
    intro z
    have : k ∈ ks.filter (isFam famText) := List.mem_filter.mpr ⟨hk, decide_eq_true hf⟩
    rw [z] at this; cases this
  have hpos : 0 < (ks.filter (isFam famText)).length := List.length_pos_iff.mpr hne
  array_mem_dec
  refine v_ixL (d := .str (spareOf ks)) ?_ ?_
  · refine atI_nat (j := 0) ?_
    rw [List.getElem?_map]
    have h0 : (ks.filter (isFam famText)).map (·.name) ≠ [] := fun z => hne (List.map_eq_nil_iff.mp z)
    have := getD_at (d := []) h0
    rw [List.getElem?_map] at this
    cases e : (ks.filter (isFam famText))[0]? with
    | none => rw [e] at this; cases this
    | some k => rw [e] at this; exact congrArg (Option.map D.str) this
  array_mem_dec
  refine ⟨p, _, _, .head _, rfl, updC_same, by show 1 < 1000; decide, ?_⟩
  rw [updC_updC, show putD ("spare" : Str) (.str (spareOf ks)) ((bookFs ks []).take 1) = (bookFs ks trs).take 2 from rfl]
  have hb2 : BkAt (updC C p (.ins "Book" ((bookFs ks trs).take 2))) (.ref p) ks := bk_take 2 (by decide) (by decide)
  have hs2 : BkSp (updC C p (.ins "Book" ((bookFs ks trs).take 2))) (.ref p) ks (spareOf ks) := ⟨_, ins_upd, bfs_mk rfl (by with_unfolding_all rfl), rfl⟩
  array_mem_dec
  refine hb2.meth _ (by decide) ?_
  array_mem_dec
  refine hb2.meth _ (by decide) ?_
  array_mem_dec
  refine ⟨_, ks, js, xs, trs, rfl, hb2, by omega, ok.nm, hj, ok.js, ?_⟩
  rcases hq with ⟨rfl, hq⟩ | ⟨d, rest, rfl, bad, hE⟩
  rotate_left
  · exact .inr ⟨d, rest, rfl, bad, fun C' hs => hE C' (.of hs)⟩
  refine .inl ⟨rfl, ?_⟩
  array_mem_dec
  refine ⟨_, ks, _, trs, rfl, hs2, by omega, ok.nd, ?_⟩
  array_mem_dec
  refine ⟨p, _, _, .head _, rfl, updC_same, by show 2 < 1000; decide, ?_⟩
  rw [updC_updC, show putD ("joined" : Str) (.dct (tblT (jnT trs (spareOf ks)) (namesK ks))) ((bookFs ks trs).take 2) = (bookFs ks trs).take 3 from rfl]
  array_mem_dec
  refine v_lcfilF (as := ks) (e := kindD) (isFam famMissing) (fun k => .str (k.marks.getD 0 [])) (fun R h => ?_) (by sizeOf_list_dec) (fun i k C1 N S _ hm hs hy hn => ?_) ?_
  · array_mem_dec
    exact h
  · array_mem_dec
    refine ite_d (fun e => ?_) (fun e => ?_)
    · array_mem_dec
      refine v_ixT (txts_first (ok.mks k hm e)) ?_
      exact hy (decide_eq_true e)
    · exact hn (decide_eq_false e)
  array_mem_dec
  have hq' : Q .non (updC (updC C p (.ins "Book" ((bookFs ks trs).take 3))) p (.ins "Book" (putD ("mark" : Str) (.str (markOf ks)) ((bookFs ks trs).take 3)))) := by
    rw [updC_updC]; exact hq
  have fin : ∀ v, v = .str (markOf ks) → ∃ a k fs, k ∈ ["Book"] ∧ D.ref p = .ref a ∧ (updC C p (.ins "Book" ((bookFs ks trs).take 3))) a = some (.ins k fs) ∧ fs.length < 1000 ∧ ∃ C', SubC C' (updC (updC C p (.ins "Book" ((bookFs ks trs).take 3))) a (.ins k (putD ("mark" : Str) v fs))) ∧ Q .non C' := by
    rintro v rfl
    exact ⟨p, _, _, .head _, rfl, updC_same, by show 3 < 1000; decide, _, SubC.refl _, hq'⟩
  refine ite_d (fun e => ?_) (fun e => ?_)
  · array_mem_dec
    have hne : ks.filter (isFam famMissing) ≠ [] := by
      intro z; rw [z] at e; simp at e
    refine v_ixL (d := .str (markOf ks)) ?_ ?_
    · refine atI_nat (j := 0) ?_
      rw [List.getElem?_map]
      have h0 : (ks.filter (isFam famMissing)).map (fun k => k.marks.getD 0 []) ≠ [] := fun z => hne (List.map_eq_nil_iff.mp z)
      have := getD_at (d := []) h0
      rw [List.getElem?_map] at this
      cases e : (ks.filter (isFam famMissing))[0]? with
      | none => rw [e] at this; cases this
      | some k => rw [e] at this; exact congrArg (Option.map D.str) this
    array_mem_dec
    exact fin _ rfl
  · array_mem_dec
    refine fin _ ?_
    have : ks.filter (isFam famMissing) = [] := by
      cases h : ks.filter (isFam famMissing) with
      | nil => rfl
      | cons a l => rw [h] at e; simp at e
    unfold markOf; rw [this]; rfl
end G
namespace G
open PySem PySem.Spec PyProof.Rows L2
local macro_rules | `(tactic| sizeOf_list_dec) => `(tactic| exact szl (by first | omega | (simp only [List.length_append, List.length_cons, List.length_nil, List.length_map, List.length_reverse, List.length_singleton, txts_lenG]; omega) | (simp only [List.length_append, List.length_cons, List.length_nil, List.length_map, List.length_reverse, txts_lenG]; omega)))
local macro_rules | `(tactic| array_get_dec) => `(tactic| first | with_reducible refine v_seq ?_ | with_reducible refine v_next ?_ | with_reducible refine v_asg ?_ | (with_reducible refine v_isvar ?_; first | with_reducible refine v_var0 ?_ | with_reducible refine v_var1 ?_ | with_reducible refine v_var2 ?_ | with_reducible refine v_var3 ?_ | with_reducible refine v_var4 ?_ | with_reducible refine v_var5 ?_ | with_reducible refine v_var6 ?_ | with_reducible refine v_var7 ?_ | with_reducible refine v_var8 ?_ | with_reducible refine v_var9 ?_ | with_reducible refine v_var10 ?_ | with_reducible refine v_var11 ?_ | with_reducible refine v_var12 ?_ | with_reducible refine v_var13 ?_ | with_reducible refine v_var14 ?_ | with_reducible refine v_var15 ?_ | with_reducible refine v_var16 ?_ | with_reducible refine v_var17 ?_ | with_reducible refine v_var18 ?_ | with_reducible refine v_var19 ?_ | with_reducible refine v_var20 ?_ | with_reducible refine v_var21 ?_ | with_reducible refine v_var22 ?_ | with_reducible refine v_var23 ?_ | with_reducible refine v_var24 ?_ | with_reducible refine v_var25 ?_) | (with_reducible refine v_isname ?_; first | with_reducible refine v_name0 ?_ | with_reducible refine v_wname0 ?_ | with_reducible refine v_name1 ?_ | with_reducible refine v_wname1 ?_ | with_reducible refine v_name2 ?_ | with_reducible refine v_wname2 ?_ | with_reducible refine v_name3 ?_ | with_reducible refine v_wname3 ?_ | with_reducible refine v_name4 ?_ | with_reducible refine v_wname4 ?_ | with_reducible refine v_name5 ?_ | with_reducible refine v_wname5 ?_ | with_reducible refine v_name6 ?_ | with_reducible refine v_wname6 ?_ | with_reducible refine v_name7 ?_ | with_reducible refine v_wname7 ?_ | with_reducible refine v_name8 ?_ | with_reducible refine v_wname8 ?_ | with_reducible refine v_name9 ?_ | with_reducible refine v_wname9 ?_ | with_reducible refine v_name10 ?_ | with_reducible refine v_wname10 ?_ | with_reducible refine v_name11 ?_ | with_reducible refine v_wname11 ?_ | with_reducible refine v_name12 ?_ | with_reducible refine v_wname12 ?_ | with_reducible refine v_name13 ?_ | with_reducible refine v_wname13 ?_ | with_reducible refine v_name14 ?_ | with_reducible refine v_wname14 ?_ | with_reducible refine v_name15 ?_ | with_reducible refine v_wname15 ?_ | with_reducible refine v_name16 ?_ | with_reducible refine v_wname16 ?_ | with_reducible refine v_name17 ?_ | with_reducible refine v_wname17 ?_ | with_reducible refine v_name18 ?_ | with_reducible refine v_wname18 ?_ | with_reducible refine v_name19 ?_ | with_reducible refine v_wname19 ?_ | with_reducible refine v_name20 ?_ | with_reducible refine v_wname20 ?_ | with_reducible refine v_name21 ?_ | with_reducible refine v_wname21 ?_ | with_reducible refine v_name22 ?_ | with_reducible refine v_wname22 ?_ | with_reducible refine v_name23 ?_ | with_reducible refine v_wname23 ?_ | with_reducible refine v_name24 ?_ | with_reducible refine v_wname24 ?_ | with_reducible refine v_name25 ?_ | with_reducible refine v_wname25 ?_) | with_reducible refine v_drop ?_ | with_reducible refine v_ret ?_ | with_reducible refine v_ifS ?_ | with_reducible refine v_test ?_ | with_reducible refine v_bl ?_ | with_reducible refine v_const ?_ | with_reducible refine v_op ?_ | with_reducible refine v_cb ?_ | with_reducible refine v_nil ?_ | with_reducible refine v_cons ?_ | with_reducible refine v_fld ?_ | with_reducible refine v_meth ?_ | with_reducible refine v_cal ?_ | with_reducible refine v_call0 ?_ | with_reducible refine v_pos2 ?_ | with_reducible refine v_tt ?_ | with_reducible refine v_ff ?_ | with_reducible refine v_ntt ?_ | with_reducible refine v_nff ?_ | with_reducible refine v_dnot ?_ | with_reducible refine v_dand ?_ | with_reducible refine v_dor ?_ | with_reducible refine v_andV ?_ | with_reducible refine v_orV ?_ | with_reducible refine v_notV ?_ | with_reducible refine v_ifE ?_ | with_reducible refine v_bm0 ?_ | with_reducible refine v_eqS ?_ | with_reducible refine v_eqI ?_ | with_reducible refine v_neS ?_ | with_reducible refine v_neI ?_ | with_reducible refine v_eqB ?_ | with_reducible refine v_neB ?_ | with_reducible refine v_isNn ?_ | with_reducible refine v_isNs ?_ | with_reducible refine v_isNi ?_ | with_reducible refine v_isNt ?_ | with_reducible refine v_notNn ?_ | with_reducible refine v_notNs ?_ | with_reducible refine v_notNi ?_ | with_reducible refine v_notNt ?_ | with_reducible refine v_isN ?_ | with_reducible refine v_notN ?_ | with_reducible refine v_lt ?_ | with_reducible refine v_le ?_ | with_reducible refine v_gt ?_ | with_reducible refine v_ge ?_ | with_reducible refine v_addI ?_ | with_reducible refine v_subI ?_ | with_reducible refine v_lenT ?_ | with_reducible refine v_lenL ?_ | with_reducible refine v_chain ?_ | with_reducible refine v_un ?_ | with_reducible refine v_tup ?_ | with_reducible refine v_lst ?_ | with_reducible refine v_lstC ?_ | with_reducible refine v_gsub ?_ | with_reducible refine v_rng1 ?_ | with_reducible refine v_rng2 ?_ | with_reducible refine v_slice ?_ | with_reducible refine v_nopart ?_ | with_reducible refine v_part ?_ | with_reducible refine v_partI ?_ | with_reducible refine v_slT ?_ | with_reducible refine v_slL ?_ | with_reducible refine v_rev ?_ | with_reducible refine v_revO ?_ | with_reducible refine v_enumS ?_ | with_reducible refine v_enumL ?_ | with_reducible refine v_enumT ?_ | with_reducible refine v_zipS ?_ | with_reducible refine v_revL ?_ | with_reducible refine v_revT ?_ | with_reducible refine v_putT ?_ | with_reducible refine v_putK ?_ | with_reducible refine v_inT ?_ | with_reducible refine v_getT ?_ | with_reducible refine v_get2T ?_ | with_reducible refine v_make ?_ | with_reducible refine v_fldSet ?_ | with_reducible refine v_forL ?_ | with_reducible refine v_forT ?_ | with_reducible refine v_forS ?_ | with_reducible refine v_lstO ?_ | with_reducible refine v_rolO ?_ | with_reducible refine v_tupO ?_ | with_reducible refine v_strO ?_ | with_reducible refine v_listT ?_ | with_reducible refine v_listL ?_ | with_reducible refine v_tupleL ?_ | with_reducible refine v_tupleT ?_ | with_reducible refine v_isiS ?_ | with_reducible refine v_isiT ?_ | with_reducible refine v_isiL ?_ | with_reducible refine v_allM ?_ | with_reducible refine v_anyM ?_ | with_reducible refine v_eqNS ?_ | with_reducible refine v_neNS ?_ | with_reducible refine v_gcons ?_ | with_reducible refine v_gnil ?_ | with_reducible refine v_par2 ?_ | with_reducible refine v_par33 ?_ | with_reducible refine v_retN ?_ | with_reducible refine v_sameS ?_ | with_reducible refine v_sameB ?_ | with_reducible refine v_sameI ?_ | with_reducible refine v_sameN ?_ | with_reducible refine v_sameT ?_ | with_reducible refine v_sameL ?_ | with_reducible refine v_endN ?_ | with_reducible refine v_bm ?_ | with_reducible refine v_tystr ?_ | with_reducible refine v_break ?_ | with_reducible refine v_cont ?_ | ((with_reducible refine v_slS ?_ ?_); sizeOf_list_dec) | ((with_reducible refine v_lenS ?_ ?_); sizeOf_list_dec) | ((with_reducible refine v_addS ?_ ?_); sizeOf_list_dec) | ((with_reducible refine v_addT ?_ ?_); sizeOf_list_dec) | ((with_reducible refine v_addL ?_ ?_); sizeOf_list_dec) | (with_reducible refine v_par _ _ ?_) | (with_reducible refine v_par3 _ _ _ ?_) | ((with_reducible refine v_gtup ?_ ?_); rfl) | with_reducible refine v_ixT (by with_unfolding_all rfl) ?_ | with_reducible refine v_ixL (by with_unfolding_all rfl) ?_ | with_reducible refine v_ixR (by with_unfolding_all rfl) ?_ | ((with_reducible refine v_ixS ?_ (by with_unfolding_all rfl) ?_); sizeOf_list_dec) | ((with_reducible refine And.intro ?_ ?_); sizeOf_list_dec) | with_reducible refine v_dt (by first | assumption | with_unfolding_all rfl | omega | (simp only [List.length_map, List.length_append, List.length_cons, List.length_nil, List.length_reverse, txts_lenG]; first | done | omega)) ?_ | with_reducible refine v_ndt (by first | assumption | with_unfolding_all rfl | omega | (simp only [List.length_map, List.length_append, List.length_cons, List.length_nil, List.length_reverse, txts_lenG]; first | done | omega)) ?_ | with_reducible refine v_df (by first | assumption | omega | (with_unfolding_all decide) | (simp only [List.length_map, List.length_append, List.length_cons, List.length_nil, List.length_reverse, txts_lenG]; first | done | omega)) ?_ | with_reducible refine v_ndf (by first | assumption | omega | (with_unfolding_all decide) | (simp only [List.length_map, List.length_append, List.length_cons, List.length_nil, List.length_reverse, txts_lenG]; first | done | omega)) ?_ | decreasing_trivial_pre_omega | ((with_reducible refine v_isname ?_); dsimp only [wipeD, List.set]) | ((with_reducible refine v_isvar ?_); dsimp only [wipeD, List.set]))
local macro_rules | `(tactic| array_mem_dec) => `(tactic| repeat array_get_dec)
local macro_rules | `(tactic| bv_omega) => `(tactic| repeat' (first | array_get_dec | with_reducible refine ite_d (fun _ => ?_) (fun _ => ?_) | with_reducible refine ite_nd (fun _ => ?_) (fun _ => ?_) | with_reducible refine ite_b (fun _ => ?_) (fun _ => ?_) | with_reducible refine ite_nb (fun _ => ?_) (fun _ => ?_)))
local macro_rules | `(tactic| decreasing_trivial_pre_omega) => `(tactic| with_reducible refine kz_name ?_)
local macro_rules | `(tactic| decreasing_trivial_pre_omega) => `(tactic| with_reducible refine kz_family ?_)
local macro_rules | `(tactic| decreasing_trivial_pre_omega) => `(tactic| with_reducible refine kz_marks ?_)
local macro_rules | `(tactic| decreasing_trivial_pre_omega) => `(tactic| with_reducible refine kz_yes ?_)
local macro_rules | `(tactic| decreasing_trivial_pre_omega) => `(tactic| with_reducible refine kz_no ?_)
local macro_rules | `(tactic| decreasing_trivial_pre_omega) => `(tactic| with_reducible refine kz_digits ?_)
local macro_rules | `(tactic| decreasing_trivial_pre_omega) => `(tactic| with_reducible refine kz_point ?_)
local macro_rules | `(tactic| decreasing_trivial_pre_omega) => `(tactic| with_reducible refine kz_keep ?_)
/-! ### levels; kinds, books, levels compared -/
local macro_rules | `(tactic| decreasing_trivial_pre_omega) => `(tactic| with_reducible refine v_lenSet ?_)
/-! the parts of a kind -/
def partsD (k : KindR) : D := .tup [.str k.name, .str k.fam, .tup (txts k.marks), .tup (txts k.yes), .tup (txts k.no), optN k.digits, .bl k.point, .str k.signs, .bl k.zeros, optN k.keep, .int k.shown]
/-- texts whose signs are characters -/
structure SmK (k : KindR) : Prop where
  nm : small k.name = true
  fm : small k.fam = true
  mk' : ∀ l ∈ k.marks, small l = true
  ys : ∀ l ∈ k.yes, small l = true
  ns : ∀ l ∈ k.no, small l = true
  sg : small k.signs = true
theorem SmK.sh {k : KindR} (h : SmK k) : Sh 2 (partsD k) := by
  have sO : ∀ (n : Nat) (o : Option Nat), Sh n (optN o) := fun n o => by cases o <;> first | exact sh_non | exact sh_int
  exact sh_tup (sh_cons (sh_str h.nm) (sh_cons (sh_str h.fm) (sh_cons (sh_tup (sh_txts h.mk')) (sh_cons (sh_tup (sh_txts h.ys)) (sh_cons (sh_tup (sh_txts h.ns)) (sh_cons (sO _ _) (sh_cons sh_bl (sh_cons (sh_str h.sg) (sh_cons sh_bl (sh_cons (sO _ _) (sh_cons sh_int sh_nil)))))))))))
local macro_rules | `(tactic| decreasing_trivial_pre_omega) => `(tactic| with_reducible refine kz_parts ?_)
/-! books compared -/
section
variable {ks : List KindR} {trs : List T3} {C : Cl} {Q : D → Prop}
end
local macro_rules | `(tactic| decreasing_trivial_pre_omega) => `(tactic| with_reducible refine bz_kinds ?_)
local macro_rules | `(tactic| decreasing_trivial_pre_omega) => `(tactic| with_reducible refine bz_spare ?_)
local macro_rules | `(tactic| decreasing_trivial_pre_omega) => `(tactic| with_reducible refine bz_joined ?_)
local macro_rules | `(tactic| decreasing_trivial_pre_omega) => `(tactic| with_reducible refine bz_mark ?_)
local macro_rules | `(tactic| decreasing_trivial_pre_omega) => `(tactic| with_reducible refine bz_meth (by decide) ?_)
/-! two kinds of one object are one kind -/
/-! levels -/
section
variable {ks : List KindR} {trs : List T3} {k : KindR} {C : Cl} {Q : D → Prop}
end
local macro_rules | `(tactic| decreasing_trivial_pre_omega) => `(tactic| with_reducible refine lz_book ?_)
local macro_rules | `(tactic| decreasing_trivial_pre_omega) => `(tactic| with_reducible refine lz_name ?_)
local macro_rules | `(tactic| decreasing_trivial_pre_omega) => `(tactic| with_reducible refine lz_kind ?_)
/-- the first kind that takes a text -/
def ownK (ks : List KindR) (l : List Nat) : Option KindR := ks.find? fun k => takes k l
theorem find_nd {ks : List KindR} {k : KindR} (nd : (namesK ks).Nodup) (h : k ∈ ks) : findK ks k.name = some k := by
  obtain ⟨k', hk'⟩ := find_name (l := k.name) (List.mem_map.mpr ⟨k, h, rfl⟩)
  have h1 := List.mem_of_find?_eq_some hk'
  have h2 := List.find?_some hk'
  simp only [decide_eq_true_eq] at h2
  obtain ⟨i, hi⟩ := List.mem_iff_getElem?.mp h
  obtain ⟨j, hj⟩ := List.mem_iff_getElem?.mp h1
  have := nodup_get nd (i := i) (j := j) (a := k.name) (by unfold namesK; rw [List.getElem?_map, hi]; rfl) (by unfold namesK; rw [List.getElem?_map, hj, Option.map_some, h2])
  subst this
  rw [hi] at hj; cases hj; exact hk'
end G
namespace G
open PySem PySem.Spec PyProof.Rows L2
local macro_rules | `(tactic| sizeOf_list_dec) => `(tactic| exact szl (by first | omega | (simp only [List.length_append, List.length_cons, List.length_nil, List.length_map, List.length_reverse, List.length_singleton, txts_lenG]; omega) | (simp only [List.length_append, List.length_cons, List.length_nil, List.length_map, List.length_reverse, txts_lenG]; omega)))
local macro_rules | `(tactic| array_get_dec) => `(tactic| first | with_reducible refine v_seq ?_ | with_reducible refine v_next ?_ | with_reducible refine v_asg ?_ | (with_reducible refine v_isvar ?_; first | with_reducible refine v_var0 ?_ | with_reducible refine v_var1 ?_ | with_reducible refine v_var2 ?_ | with_reducible refine v_var3 ?_ | with_reducible refine v_var4 ?_ | with_reducible refine v_var5 ?_ | with_reducible refine v_var6 ?_ | with_reducible refine v_var7 ?_ | with_reducible refine v_var8 ?_ | with_reducible refine v_var9 ?_ | with_reducible refine v_var10 ?_ | with_reducible refine v_var11 ?_ | with_reducible refine v_var12 ?_ | with_reducible refine v_var13 ?_ | with_reducible refine v_var14 ?_ | with_reducible refine v_var15 ?_ | with_reducible refine v_var16 ?_ | with_reducible refine v_var17 ?_ | with_reducible refine v_var18 ?_ | with_reducible refine v_var19 ?_ | with_reducible refine v_var20 ?_ | with_reducible refine v_var21 ?_ | with_reducible refine v_var22 ?_ | with_reducible refine v_var23 ?_ | with_reducible refine v_var24 ?_ | with_reducible refine v_var25 ?_) | (with_reducible refine v_isname ?_; first | with_reducible refine v_name0 ?_ | with_reducible refine v_wname0 ?_ | with_reducible refine v_name1 ?_ | with_reducible refine v_wname1 ?_ | with_reducible refine v_name2 ?_ | with_reducible refine v_wname2 ?_ | with_reducible refine v_name3 ?_ | with_reducible refine v_wname3 ?_ | with_reducible refine v_name4 ?_ | with_reducible refine v_wname4 ?_ | with_reducible refine v_name5 ?_ | with_reducible refine v_wname5 ?_ | with_reducible refine v_name6 ?_ | with_reducible refine v_wname6 ?_ | with_reducible refine v_name7 ?_ | with_reducible refine v_wname7 ?_ | with_reducible refine v_name8 ?_ | with_reducible refine v_wname8 ?_ | with_reducible refine v_name9 ?_ | with_reducible refine v_wname9 ?_ | with_reducible refine v_name10 ?_ | with_reducible refine v_wname10 ?_ | with_reducible refine v_name11 ?_ | with_reducible refine v_wname11 ?_ | with_reducible refine v_name12 ?_ | with_reducible refine v_wname12 ?_ | with_reducible refine v_name13 ?_ | with_reducible refine v_wname13 ?_ | with_reducible refine v_name14 ?_ | with_reducible refine v_wname14 ?_ | with_reducible refine v_name15 ?_ | with_reducible refine v_wname15 ?_ | with_reducible refine v_name16 ?_ | with_reducible refine v_wname16 ?_ | with_reducible refine v_name17 ?_ | with_reducible refine v_wname17 ?_ | with_reducible refine v_name18 ?_ | with_reducible refine v_wname18 ?_ | with_reducible refine v_name19 ?_ | with_reducible refine v_wname19 ?_ | with_reducible refine v_name20 ?_ | with_reducible refine v_wname20 ?_ | with_reducible refine v_name21 ?_ | with_reducible refine v_wname21 ?_ | with_reducible refine v_name22 ?_ | with_reducible refine v_wname22 ?_ | with_reducible refine v_name23 ?_ | with_reducible refine v_wname23 ?_ | with_reducible refine v_name24 ?_ | with_reducible refine v_wname24 ?_ | with_reducible refine v_name25 ?_ | with_reducible refine v_wname25 ?_) | with_reducible refine v_drop ?_ | with_reducible refine v_ret ?_ | with_reducible refine v_ifS ?_ | with_reducible refine v_test ?_ | with_reducible refine v_bl ?_ | with_reducible refine v_const ?_ | with_reducible refine v_op ?_ | with_reducible refine v_cb ?_ | with_reducible refine v_nil ?_ | with_reducible refine v_cons ?_ | with_reducible refine v_fld ?_ | with_reducible refine v_meth ?_ | with_reducible refine v_cal ?_ | with_reducible refine v_call0 ?_ | with_reducible refine v_pos2 ?_ | with_reducible refine v_tt ?_ | with_reducible refine v_ff ?_ | with_reducible refine v_ntt ?_ | with_reducible refine v_nff ?_ | with_reducible refine v_dnot ?_ | with_reducible refine v_dand ?_ | with_reducible refine v_dor ?_ | with_reducible refine v_andV ?_ | with_reducible refine v_orV ?_ | with_reducible refine v_notV ?_ | with_reducible refine v_ifE ?_ | with_reducible refine v_bm0 ?_ | with_reducible refine v_eqS ?_ | with_reducible refine v_eqI ?_ | with_reducible refine v_neS ?_ | with_reducible refine v_neI ?_ | with_reducible refine v_eqB ?_ | with_reducible refine v_neB ?_ | with_reducible refine v_isNn ?_ | with_reducible refine v_isNs ?_ | with_reducible refine v_isNi ?_ | with_reducible refine v_isNt ?_ | with_reducible refine v_notNn ?_ | with_reducible refine v_notNs ?_ | with_reducible refine v_notNi ?_ | with_reducible refine v_notNt ?_ | with_reducible refine v_isN ?_ | with_reducible refine v_notN ?_ | with_reducible refine v_lt ?_ | with_reducible refine v_le ?_ | with_reducible refine v_gt ?_ | with_reducible refine v_ge ?_ | with_reducible refine v_addI ?_ | with_reducible refine v_subI ?_ | with_reducible refine v_lenT ?_ | with_reducible refine v_lenL ?_ | with_reducible refine v_chain ?_ | with_reducible refine v_un ?_ | with_reducible refine v_tup ?_ | with_reducible refine v_lst ?_ | with_reducible refine v_lstC ?_ | with_reducible refine v_gsub ?_ | with_reducible refine v_rng1 ?_ | with_reducible refine v_rng2 ?_ | with_reducible refine v_slice ?_ | with_reducible refine v_nopart ?_ | with_reducible refine v_part ?_ | with_reducible refine v_partI ?_ | with_reducible refine v_slT ?_ | with_reducible refine v_slL ?_ | with_reducible refine v_rev ?_ | with_reducible refine v_revO ?_ | with_reducible refine v_enumS ?_ | with_reducible refine v_enumL ?_ | with_reducible refine v_enumT ?_ | with_reducible refine v_zipS ?_ | with_reducible refine v_revL ?_ | with_reducible refine v_revT ?_ | with_reducible refine v_putT ?_ | with_reducible refine v_putK ?_ | with_reducible refine v_inT ?_ | with_reducible refine v_getT ?_ | with_reducible refine v_get2T ?_ | with_reducible refine v_make ?_ | with_reducible refine v_fldSet ?_ | with_reducible refine v_forL ?_ | with_reducible refine v_forT ?_ | with_reducible refine v_forS ?_ | with_reducible refine v_lstO ?_ | with_reducible refine v_rolO ?_ | with_reducible refine v_tupO ?_ | with_reducible refine v_strO ?_ | with_reducible refine v_listT ?_ | with_reducible refine v_listL ?_ | with_reducible refine v_tupleL ?_ | with_reducible refine v_tupleT ?_ | with_reducible refine v_isiS ?_ | with_reducible refine v_isiT ?_ | with_reducible refine v_isiL ?_ | with_reducible refine v_allM ?_ | with_reducible refine v_anyM ?_ | with_reducible refine v_eqNS ?_ | with_reducible refine v_neNS ?_ | with_reducible refine v_gcons ?_ | with_reducible refine v_gnil ?_ | with_reducible refine v_par2 ?_ | with_reducible refine v_par33 ?_ | with_reducible refine v_retN ?_ | with_reducible refine v_sameS ?_ | with_reducible refine v_sameB ?_ | with_reducible refine v_sameI ?_ | with_reducible refine v_sameN ?_ | with_reducible refine v_sameT ?_ | with_reducible refine v_sameL ?_ | with_reducible refine v_endN ?_ | with_reducible refine v_bm ?_ | with_reducible refine v_tystr ?_ | with_reducible refine v_break ?_ | with_reducible refine v_cont ?_ | ((with_reducible refine v_slS ?_ ?_); sizeOf_list_dec) | ((with_reducible refine v_lenS ?_ ?_); sizeOf_list_dec) | ((with_reducible refine v_addS ?_ ?_); sizeOf_list_dec) | ((with_reducible refine v_addT ?_ ?_); sizeOf_list_dec) | ((with_reducible refine v_addL ?_ ?_); sizeOf_list_dec) | (with_reducible refine v_par _ _ ?_) | (with_reducible refine v_par3 _ _ _ ?_) | ((with_reducible refine v_gtup ?_ ?_); rfl) | with_reducible refine v_ixT (by with_unfolding_all rfl) ?_ | with_reducible refine v_ixL (by with_unfolding_all rfl) ?_ | with_reducible refine v_ixR (by with_unfolding_all rfl) ?_ | ((with_reducible refine v_ixS ?_ (by with_unfolding_all rfl) ?_); sizeOf_list_dec) | ((with_reducible refine And.intro ?_ ?_); sizeOf_list_dec) | with_reducible refine v_dt (by first | assumption | with_unfolding_all rfl | omega | (simp only [List.length_map, List.length_append, List.length_cons, List.length_nil, List.length_reverse, txts_lenG]; first | done | omega)) ?_ | with_reducible refine v_ndt (by first | assumption | with_unfolding_all rfl | omega | (simp only [List.length_map, List.length_append, List.length_cons, List.length_nil, List.length_reverse, txts_lenG]; first | done | omega)) ?_ | with_reducible refine v_df (by first | assumption | omega | (with_unfolding_all decide) | (simp only [List.length_map, List.length_append, List.length_cons, List.length_nil, List.length_reverse, txts_lenG]; first | done | omega)) ?_ | with_reducible refine v_ndf (by first | assumption | omega | (with_unfolding_all decide) | (simp only [List.length_map, List.length_append, List.length_cons, List.length_nil, List.length_reverse, txts_lenG]; first | done | omega)) ?_ | decreasing_trivial_pre_omega | ((with_reducible refine v_isname ?_); dsimp only [wipeD, List.set]) | ((with_reducible refine v_isvar ?_); dsimp only [wipeD, List.set]))
local macro_rules | `(tactic| array_mem_dec) => `(tactic| repeat array_get_dec)
local macro_rules | `(tactic| bv_omega) => `(tactic| repeat' (first | array_get_dec | with_reducible refine ite_d (fun _ => ?_) (fun _ => ?_) | with_reducible refine ite_nd (fun _ => ?_) (fun _ => ?_) | with_reducible refine ite_b (fun _ => ?_) (fun _ => ?_) | with_reducible refine ite_nb (fun _ => ?_) (fun _ => ?_)))
local macro_rules | `(tactic| decreasing_trivial_pre_omega) => `(tactic| with_reducible refine kz_name ?_)
local macro_rules | `(tactic| decreasing_trivial_pre_omega) => `(tactic| with_reducible refine kz_family ?_)
local macro_rules | `(tactic| decreasing_trivial_pre_omega) => `(tactic| with_reducible refine kz_marks ?_)
local macro_rules | `(tactic| decreasing_trivial_pre_omega) => `(tactic| with_reducible refine kz_yes ?_)
local macro_rules | `(tactic| decreasing_trivial_pre_omega) => `(tactic| with_reducible refine kz_no ?_)
local macro_rules | `(tactic| decreasing_trivial_pre_omega) => `(tactic| with_reducible refine kz_digits ?_)
local macro_rules | `(tactic| decreasing_trivial_pre_omega) => `(tactic| with_reducible refine kz_point ?_)
local macro_rules | `(tactic| decreasing_trivial_pre_omega) => `(tactic| with_reducible refine kz_keep ?_)
local macro_rules | `(tactic| decreasing_trivial_pre_omega) => `(tactic| with_reducible refine v_lenSet ?_)
local macro_rules | `(tactic| decreasing_trivial_pre_omega) => `(tactic| with_reducible refine kz_parts ?_)
local macro_rules | `(tactic| decreasing_trivial_pre_omega) => `(tactic| with_reducible refine bz_kinds ?_)
local macro_rules | `(tactic| decreasing_trivial_pre_omega) => `(tactic| with_reducible refine bz_spare ?_)
local macro_rules | `(tactic| decreasing_trivial_pre_omega) => `(tactic| with_reducible refine bz_joined ?_)
local macro_rules | `(tactic| decreasing_trivial_pre_omega) => `(tactic| with_reducible refine bz_mark ?_)
local macro_rules | `(tactic| decreasing_trivial_pre_omega) => `(tactic| with_reducible refine bz_meth (by decide) ?_)
local macro_rules | `(tactic| decreasing_trivial_pre_omega) => `(tactic| with_reducible refine lz_book ?_)
local macro_rules | `(tactic| decreasing_trivial_pre_omega) => `(tactic| with_reducible refine lz_name ?_)
local macro_rules | `(tactic| decreasing_trivial_pre_omega) => `(tactic| with_reducible refine lz_kind ?_)
/-! ### kinds of a book, drawn -/
theorem bag_over {C1 C2 : Cl} {b p : Addr} {c : Cell} {m : Nat} (h : Bagged (updC C1 p c) b C2 m) (ne : b ≠ p) : ∃ C3, C2 = updC C3 p c ∧ Bagged C1 b C3 m := by
  obtain ⟨x, y, z, rfl, g⟩ := h
  exact ⟨updC C1 b (bagC x y z), by rw [updC_comm (Ne.symm ne)], x, y, z, rfl, g⟩
def specOf (k : KindR) : D := specD k (optD k)
structure OkS (ks : List KindR) (L : Nat) : Prop where
  good : ∀ k ∈ ks, GoodK (optD k) k
  txt : ∀ k ∈ ks, ∀ t ∈ k.marks ++ k.yes ++ k.no, isText t = true ∧ t.length ≤ 230
  nd : (namesK ks).Nodup
  has : ∃ k ∈ ks, k.fam = famText
  dg : ∀ k ∈ ks, ∀ d, k.digits = some d → d ≤ L
  key : ∀ k ∈ ks, keyed k.name
  dr : ∀ k ∈ ks, DrawnQ k
def txtK (l : List Nat) : KindR := { name := l, fam := famText }
theorem mem_set_iff {α : Type} {l : List α} {i : Nat} {x y : α} (h : y ∈ l.set i x) : y = x ∨ y ∈ l := by
  rcases List.mem_or_eq_of_mem_set h with h | h
  · exact .inr h
  · exact .inl h
def sp_l_specs : DSp := fun ds C Q _ => ∃ (b : Addr) (m L n : Nat), ds = [.ref b, .int (m : Nat), .int (L : Nat)] ∧ 1 ≤ m ∧ m ≤ 7 ∧ 1 ≤ L ∧ L ≤ 20 ∧ BagAt C b n ∧ n < 40000000 ∧
  ∀ (ks : List KindR) C', ks.length = m → OkS ks L → Bagged C b C' (n + 2000000) → Q (.lst (ks.map specOf)) C'
def td_l_specs : DS :=
  (dSeq (dPar 3 4 (dCons (dCall sp_l_words [] (dCons (dVar 0) (dCons (dVar 1) dNil))) (dCons (dLstC dNil) dNil)))
    (dSeq (dFor (diRng1 (dCons (dVar 1) dNil)) (dName 5)
    (dSeq (dAsg (dCall sp_l_of [] (dCons (dVar 0) (dCons (dLst (dCons (dC (.str [109, 105, 115, 115, 105, 110, 103])) (dCons (dC (.str [116, 114, 117, 116, 104])) (dCons (dC (.str [110, 117, 109, 98, 101, 114])) (dCons (dC (.str [110, 117, 109, 98, 101, 114])) (dCons (dC (.str [116, 101, 120, 116])) dNil)))))) dNil))) (dName 6))
    (dDrop (dBM "list" rAppend (dVar 4) (dCons (dCall sp_l_spec [] (dCons (dVar 0) (dCons (dOp rIx (dVar 3) (dVar 5)) (dCons (dVar 6) (dCons (dVar 2) (dCons (dLst dNil) dNil)))))) dNil)))))
    (dSeq (dIfS (dTest (dCB rAllL (dCons (dFz (dLcC (dVar 4) (dName 7) dYes (dOp rNeD (dOp rIx (dVar 7) (dC (.int 1))) (dC (.str [116, 101, 120, 116]))) [7])) dNil))) (dSeq (dAsg (dCall sp_l_take [] (dCons (dVar 0) (dCons (dCB rLen (dCons (dVar 4) dNil)) dNil))) (dName 5))
    (dAsg (dTup (dCons (dOp rIx (dVar 3) (dVar 5)) (dCons (dC (.str [116, 101, 120, 116])) (dCons (dTup dNil) (dCons (dTup dNil) (dCons (dTup dNil) (dCons (dTup (dCons (dC .non) (dCons (dC (.bl false)) (dCons (dC (.str [45])) (dCons (dC (.bl true)) (dCons (dC .non) (dCons (dC (.int 0)) dNil))))))) dNil))))))) (dgSub (dVar 4) (dVar 5) rSetL))) dNext)
    (dRet (dVar 4)))))
theorem len_l_specs (ds : List D) (C : Cl) (Q : DQ) (E : DX) (h : sp_l_specs ds C Q E) : ds.length = 3 := by repeat (first | (obtain ⟨rfl, _⟩ := h; exact rfl) | (obtain ⟨_, h⟩ := h))
theorem pure_l_specs (ds : List D) (C : Cl) (Q : DQ) (E : DX) (h : sp_l_specs ds C Q E) : td_l_specs (endsD Q) (startD ["_law_bag_here", "_law_many", "_law_most", "_law_labels", "_law_specs_here", "_law_at", "_law_family", "_law_spec_here"] ds) C := by
  obtain ⟨b, m, L, n, rfl, m1, m7, L1, L2, hb, hn, hq⟩ := h
  unfold td_l_specs
  refine v_ends ?_
  simp only [startD, List.map_cons, List.map_nil, List.length_cons, List.length_nil, Nat.reduceAdd, Nat.reduceSub, List.reduceReplicate, List.cons_append, List.nil_append]
  array_mem_dec
  refine ⟨b, m, n, rfl, m7, hb, by omega, fun ws C1 wl hw ⟨wnd, wky⟩ B1 => ?_⟩
  array_mem_dec
  intro p hp
  have bp := B1.at.ne hp
  array_mem_dec
  refine v_for ?_
  array_mem_dec
  refine ⟨_, rfl, ⟨by omega, by omega⟩, ?_⟩
  refine ⟨fun i ρ' C' => ∃ y5 y6, ρ' = [some (.ref b), some (.int (m : Nat)), some (.int (L : Nat)), some (.lst (txts ws)), some (.ref p), y5, y6, none] ∧ ∃ ks C2, ks.length = i ∧ C' = updC C2 p (.lst (ks.map specOf)) ∧ C2 p = none ∧ Bagged C b C2 (n + 10000 + i * 200001) ∧ (∀ k ∈ ks, GoodK (optD k) k ∧ (∀ t ∈ k.marks ++ k.yes ++ k.no, isText t = true ∧ t.length ≤ 230) ∧ (∀ d, k.digits = some d → d ≤ L) ∧ DrawnQ k) ∧ namesK ks = ws.take i, ⟨_, _, rfl, [], C1, rfl, rfl, hp, B1.mono (by omega), nofun, rfl⟩, ?_, ?_⟩
  · rintro i d ρ' C' hx ⟨y5, y6, rfl, ks, C2, kl, rfl, hp2, B2, hks, hnm⟩
    obtain ⟨hi, rfl⟩ := ranged_get hx
    rw [show (0 : Int) + (i : Int) = (i : Int) by omega]
    have hi : i < m := by omega
    array_mem_dec
    refine ⟨b, _, _, n + 10000 + i * 200001, rfl, rfl, nofun, by simp, by simp, B2.at.upd bp, by omega, fun d C3 hm B3 => ?_⟩
    have hf : ∃ fam, d = .str fam ∧ (fam = famMissing ∨ fam = famTruth ∨ fam = famNumber ∨ fam = famText) := by
      simp only [List.mem_cons, List.not_mem_nil, or_false] at hm
      rcases hm with rfl | rfl | rfl | rfl | rfl <;> exact ⟨_, rfl, by simp [famMissing, famTruth, famNumber, famText]⟩
    obtain ⟨fam, rfl, hf⟩ := hf
    obtain ⟨C4, rfl, B4⟩ := bag_over B3 bp
    array_mem_dec
    refine ⟨.inl ⟨rfl, _, updC_same⟩, ?_⟩
    have hwi : ws[i]? = some (ws.getD i []) := by rw [List.getD_eq_getElem?_getD, List.getElem?_eq_getElem (by omega)]; rfl
    have hwm : ws.getD i [] ∈ ws := List.mem_of_getElem? hwi
    array_mem_dec
    refine v_ixL (d := .str (ws.getD i [])) (atI_nat (by unfold txts; rw [List.getElem?_map, hwi]; rfl)) ?_
    array_mem_dec
    have B5 := B2.trans B4
    refine ⟨b, ws.getD i [], fam, L, 30, n + 10000 + i * 200001 + 1, [], rfl, hw _ hwm, hf, L1, L2, by decide, by decide, by decide, nofun, B4.at.upd bp, by omega, fun k C5 gk kn kf kt kd kq B6 => ?_⟩
    obtain ⟨C6, rfl, B7⟩ := bag_over B6 bp
    refine ⟨p, _, _, rfl, rfl, updC_same, by rw [List.length_map]; exact Nat.lt_of_lt_of_le (by omega : ks.length < 100) (szl (by omega)), ?_⟩
    rw [updC_updC]
    refine ⟨_, _, rfl, ks ++ [k], C6, by rw [List.length_append, kl]; rfl, by rw [List.map_append]; rfl, ?_, (B5.trans B7).mono (by omega), ?_, ?_⟩
    · rw [(B5.trans B7).ne (Ne.symm bp), ← B2.ne (Ne.symm bp)]; exact hp2
    · intro x hx
      rcases List.mem_append.mp hx with hx | hx
      · exact hks x hx
      · cases List.mem_singleton.mp hx
        exact ⟨gk, fun t ht => ⟨(kt t ht).1, by have := (kt t ht).2.1; omega⟩, kd, kq⟩
    · unfold namesK at hnm ⊢
      rw [List.map_append, hnm, List.take_add_one, hwi, List.map_cons, List.map_nil, kn]; rfl
  · rintro ρ' C' ⟨y5, y6, rfl, ks, C2, kl, rfl, hp2, B2, hks, hnm⟩
    rw [ranged_length] at kl hnm B2
    have kl : ks.length = m := by omega
    rw [List.take_of_length_le (by omega)] at hnm
    have nd : (namesK ks).Nodup := by rw [hnm]; exact wnd
    array_mem_dec
    refine v_lcCF (as := ks) (e := specOf) (a := p) (fun k => .bl (!decide (k.fam = famText))) (fun R h => ?_) updC_same (by sizeOf_list_dec) (fun i k C3 N _ _ _ hN => ?_) ?_
    · array_mem_dec
      exact h
    · unfold specOf specD
      array_mem_dec
      exact hN
    array_mem_dec
    refine ite_b (fun e => ?_) (fun e => ?_)
    · array_mem_dec
      refine ⟨_, _, rfl, by show (cellL (updC C2 p _) p).map List.length = _; unfold cellL; rw [updC_same]; rfl, trivial, ?_⟩
      array_mem_dec
      refine ⟨b, _, n + 10000 + m * 200001, rfl, by rw [List.length_map]; omega, by rw [List.length_map]; omega, (B2.mono (by omega)).at.upd bp, by omega, fun i C3 i0 i1 B3 => ?_⟩
      rw [List.length_map] at i1
      obtain ⟨j, rfl⟩ := Int.eq_ofNat_of_zero_le i0
      have hj : j < m := by omega
      obtain ⟨C4, rfl, B4⟩ := bag_over B3 bp
      have hwj : ws[j]? = some (ws.getD j []) := by rw [List.getD_eq_getElem?_getD, List.getElem?_eq_getElem (by omega)]; rfl
      array_mem_dec
      refine v_ixL (d := .str (ws.getD j [])) (atI_nat (by unfold txts; rw [List.getElem?_map, hwj]; rfl)) ?_
      array_mem_dec
      refine ⟨p, _, j, _, rfl, rfl, updC_same, ?_, ?_⟩
      · unfold ixN
        rw [List.length_map, if_pos (by omega), if_pos (by omega)]; rfl
      rw [updC_updC]
      array_mem_dec
      have hp4 : C4 p = none := by rw [B4.ne (Ne.symm bp)]; exact hp2
      refine ⟨_, _, .lst updC_same, ?_⟩
      rw [delC_new hp4]
      have hset : (ks.map specOf).set j (specOf (txtK (ws.getD j []))) = (ks.set j (txtK (ws.getD j []))).map specOf := by rw [List.map_set]
      have hnk : namesK (ks.set j (txtK (ws.getD j []))) = namesK ks := by
        unfold namesK at hnm ⊢
        rw [List.map_set, hnm]
        exact set_own hwj
      have mem : ∀ k ∈ ks.set j (txtK (ws.getD j [])), k = txtK (ws.getD j []) ∨ k ∈ ks := fun k hk => mem_set_iff hk
      have gt : GoodK (optD (txtK (ws.getD j []))) (txtK (ws.getD j [])) := .text (hw _ (List.mem_of_getElem? hwj))
      have := hq (ks.set j (txtK (ws.getD j []))) C4 (by rw [List.length_set]; exact kl) ⟨fun k hk => ?_, fun k hk => ?_, by rw [hnk]; exact nd, ⟨txtK (ws.getD j []), List.mem_set (by omega) _, rfl⟩, fun k hk => ?_, fun k hk => wky _ (by rw [← hnm, ← hnk]; exact List.mem_map.mpr ⟨k, hk, rfl⟩), fun k hk => ?_⟩ ((B2.trans B4).mono (by omega))
      · rw [← hset] at this; exact this
      · rcases mem k hk with rfl | h
        · exact gt
        · exact (hks k h).1
      · rcases mem k hk with rfl | h
        · exact nofun
        · exact (hks k h).2.1
      · rcases mem k hk with rfl | h
        · exact nofun
        · exact (hks k h).2.2.1
      · rcases mem k hk with rfl | h
        · exact ⟨nofun, Nat.zero_le _, Nat.zero_le _, Nat.zero_le _⟩
        · exact (hks k h).2.2.2
    · array_mem_dec
      have hh : ∃ k ∈ ks, k.fam = famText := by
        rw [List.all_eq_false] at e
        obtain ⟨k, hk, h2⟩ := e
        exact ⟨k, hk, by simpa using h2⟩
      refine ⟨_, _, .lst updC_same, ?_⟩
      rw [delC_new hp2]
      exact hq ks C2 kl ⟨fun k hk => (hks k hk).1, fun k hk => (hks k hk).2.1, nd, hh, fun k hk => (hks k hk).2.2.1, fun k hk => wky _ (by rw [← hnm]; exact List.mem_map.mpr ⟨k, hk, rfl⟩), fun k hk => (hks k hk).2.2.2⟩ (B2.mono (by omega))
end G
namespace G
open PySem PySem.Spec PyProof.Rows L2
/-! ### own [], instances left alone -/
section
variable {X : Cx} {cl : NmB} {CX : CXT} {k : Nat} {g : Addr} {sp : DSp2} {c : String}
end
/-! ### in a dict, as a test -/
section
variable {X : Cx} {cl : NmB} {o i e f : Expr} {es : List Expr} {to tk tv tx : DE} {t : DA} {pos pos' kpos apos cpos : Pos} {kk : Nat} {n : Nat}
theorem dt_inT (hr : Room n X.A) (ha : PAd X cl es t) (ho : PEd X cl o to) (hm : behindInMarks .In o = false) : PTd X cl (.Compare (.Tuple es kk kpos) [.In] [o] pos) (dTest (dInT t to)) := by
  refine weakT (pt_cmp (pc_din (hu_of hr) (pe_tup ha) ho) hm) fun σ H Q hh => ?_
  obtain ⟨ρ, C, F, Qd, R, h, k⟩ := low_test hh
  unfold tB
  refine ⟨ρ, C, F, _, R, h, fun ys dys C1 H1 F1 s1 R1 r1 ⟨hz, q1⟩ => ⟨by rw [r1.length]; exact hz, fun p np => ?_⟩⟩
  have s2 := same_upd (o := .tup ys) (R1.freeF np)
  refine ⟨ρ, C1, _, _, R.next (s1.trans s2) (R1.new np), q1, fun x dx C3 H3 F3 s3 R3 r3 ⟨kvs, ks, e1, e2, q⟩ => ?_⟩
  obtain ⟨a, vs, rfl, hd, rk⟩ := dct_ok R3 r3 e1
  have ek := keys_rep r1 e2
  subst ek
  refine ⟨a, valV vs ks, rfl, .inr ⟨vs, ks, p, .inl hd, rfl, R3.sub _ _ (s3 _ _ upd_same), rfl⟩, ?_⟩
  rw [repT_some ks rk]
  exact k _ _ C3 H3 F3 (s1.trans (s2.trans s3)) R3 (.bl _) q
end
end G
namespace G
open PySem PySem.Spec PyProof.Rows L2
local macro_rules | `(tactic| sizeOf_list_dec) => `(tactic| exact szl (by first | omega | (simp only [List.length_append, List.length_cons, List.length_nil, List.length_map, List.length_reverse, List.length_singleton, txts_lenG]; omega) | (simp only [List.length_append, List.length_cons, List.length_nil, List.length_map, List.length_reverse, txts_lenG]; omega)))
local macro_rules | `(tactic| array_get_dec) => `(tactic| first | with_reducible refine v_seq ?_ | with_reducible refine v_next ?_ | with_reducible refine v_asg ?_ | (with_reducible refine v_isvar ?_; first | with_reducible refine v_var0 ?_ | with_reducible refine v_var1 ?_ | with_reducible refine v_var2 ?_ | with_reducible refine v_var3 ?_ | with_reducible refine v_var4 ?_ | with_reducible refine v_var5 ?_ | with_reducible refine v_var6 ?_ | with_reducible refine v_var7 ?_ | with_reducible refine v_var8 ?_ | with_reducible refine v_var9 ?_ | with_reducible refine v_var10 ?_ | with_reducible refine v_var11 ?_ | with_reducible refine v_var12 ?_ | with_reducible refine v_var13 ?_ | with_reducible refine v_var14 ?_ | with_reducible refine v_var15 ?_ | with_reducible refine v_var16 ?_ | with_reducible refine v_var17 ?_ | with_reducible refine v_var18 ?_ | with_reducible refine v_var19 ?_ | with_reducible refine v_var20 ?_ | with_reducible refine v_var21 ?_ | with_reducible refine v_var22 ?_ | with_reducible refine v_var23 ?_ | with_reducible refine v_var24 ?_ | with_reducible refine v_var25 ?_) | (with_reducible refine v_isname ?_; first | with_reducible refine v_name0 ?_ | with_reducible refine v_wname0 ?_ | with_reducible refine v_name1 ?_ | with_reducible refine v_wname1 ?_ | with_reducible refine v_name2 ?_ | with_reducible refine v_wname2 ?_ | with_reducible refine v_name3 ?_ | with_reducible refine v_wname3 ?_ | with_reducible refine v_name4 ?_ | with_reducible refine v_wname4 ?_ | with_reducible refine v_name5 ?_ | with_reducible refine v_wname5 ?_ | with_reducible refine v_name6 ?_ | with_reducible refine v_wname6 ?_ | with_reducible refine v_name7 ?_ | with_reducible refine v_wname7 ?_ | with_reducible refine v_name8 ?_ | with_reducible refine v_wname8 ?_ | with_reducible refine v_name9 ?_ | with_reducible refine v_wname9 ?_ | with_reducible refine v_name10 ?_ | with_reducible refine v_wname10 ?_ | with_reducible refine v_name11 ?_ | with_reducible refine v_wname11 ?_ | with_reducible refine v_name12 ?_ | with_reducible refine v_wname12 ?_ | with_reducible refine v_name13 ?_ | with_reducible refine v_wname13 ?_ | with_reducible refine v_name14 ?_ | with_reducible refine v_wname14 ?_ | with_reducible refine v_name15 ?_ | with_reducible refine v_wname15 ?_ | with_reducible refine v_name16 ?_ | with_reducible refine v_wname16 ?_ | with_reducible refine v_name17 ?_ | with_reducible refine v_wname17 ?_ | with_reducible refine v_name18 ?_ | with_reducible refine v_wname18 ?_ | with_reducible refine v_name19 ?_ | with_reducible refine v_wname19 ?_ | with_reducible refine v_name20 ?_ | with_reducible refine v_wname20 ?_ | with_reducible refine v_name21 ?_ | with_reducible refine v_wname21 ?_ | with_reducible refine v_name22 ?_ | with_reducible refine v_wname22 ?_ | with_reducible refine v_name23 ?_ | with_reducible refine v_wname23 ?_ | with_reducible refine v_name24 ?_ | with_reducible refine v_wname24 ?_ | with_reducible refine v_name25 ?_ | with_reducible refine v_wname25 ?_) | with_reducible refine v_drop ?_ | with_reducible refine v_ret ?_ | with_reducible refine v_ifS ?_ | with_reducible refine v_test ?_ | with_reducible refine v_bl ?_ | with_reducible refine v_const ?_ | with_reducible refine v_op ?_ | with_reducible refine v_cb ?_ | with_reducible refine v_nil ?_ | with_reducible refine v_cons ?_ | with_reducible refine v_fld ?_ | with_reducible refine v_meth ?_ | with_reducible refine v_cal ?_ | with_reducible refine v_call0 ?_ | with_reducible refine v_pos2 ?_ | with_reducible refine v_tt ?_ | with_reducible refine v_ff ?_ | with_reducible refine v_ntt ?_ | with_reducible refine v_nff ?_ | with_reducible refine v_dnot ?_ | with_reducible refine v_dand ?_ | with_reducible refine v_dor ?_ | with_reducible refine v_andV ?_ | with_reducible refine v_orV ?_ | with_reducible refine v_notV ?_ | with_reducible refine v_ifE ?_ | with_reducible refine v_bm0 ?_ | with_reducible refine v_eqS ?_ | with_reducible refine v_eqI ?_ | with_reducible refine v_neS ?_ | with_reducible refine v_neI ?_ | with_reducible refine v_eqB ?_ | with_reducible refine v_neB ?_ | with_reducible refine v_isNn ?_ | with_reducible refine v_isNs ?_ | with_reducible refine v_isNi ?_ | with_reducible refine v_isNt ?_ | with_reducible refine v_notNn ?_ | with_reducible refine v_notNs ?_ | with_reducible refine v_notNi ?_ | with_reducible refine v_notNt ?_ | with_reducible refine v_isN ?_ | with_reducible refine v_notN ?_ | with_reducible refine v_lt ?_ | with_reducible refine v_le ?_ | with_reducible refine v_gt ?_ | with_reducible refine v_ge ?_ | with_reducible refine v_addI ?_ | with_reducible refine v_subI ?_ | with_reducible refine v_lenT ?_ | with_reducible refine v_lenL ?_ | with_reducible refine v_chain ?_ | with_reducible refine v_un ?_ | with_reducible refine v_tup ?_ | with_reducible refine v_lst ?_ | with_reducible refine v_lstC ?_ | with_reducible refine v_gsub ?_ | with_reducible refine v_rng1 ?_ | with_reducible refine v_rng2 ?_ | with_reducible refine v_slice ?_ | with_reducible refine v_nopart ?_ | with_reducible refine v_part ?_ | with_reducible refine v_partI ?_ | with_reducible refine v_slT ?_ | with_reducible refine v_slL ?_ | with_reducible refine v_rev ?_ | with_reducible refine v_revO ?_ | with_reducible refine v_enumS ?_ | with_reducible refine v_enumL ?_ | with_reducible refine v_enumT ?_ | with_reducible refine v_zipS ?_ | with_reducible refine v_revL ?_ | with_reducible refine v_revT ?_ | with_reducible refine v_putT ?_ | with_reducible refine v_putK ?_ | with_reducible refine v_inT ?_ | with_reducible refine v_getT ?_ | with_reducible refine v_get2T ?_ | with_reducible refine v_make ?_ | with_reducible refine v_fldSet ?_ | with_reducible refine v_forL ?_ | with_reducible refine v_forT ?_ | with_reducible refine v_forS ?_ | with_reducible refine v_lstO ?_ | with_reducible refine v_rolO ?_ | with_reducible refine v_tupO ?_ | with_reducible refine v_strO ?_ | with_reducible refine v_listT ?_ | with_reducible refine v_listL ?_ | with_reducible refine v_tupleL ?_ | with_reducible refine v_tupleT ?_ | with_reducible refine v_isiS ?_ | with_reducible refine v_isiT ?_ | with_reducible refine v_isiL ?_ | with_reducible refine v_allM ?_ | with_reducible refine v_anyM ?_ | with_reducible refine v_eqNS ?_ | with_reducible refine v_neNS ?_ | with_reducible refine v_gcons ?_ | with_reducible refine v_gnil ?_ | with_reducible refine v_par2 ?_ | with_reducible refine v_par33 ?_ | with_reducible refine v_retN ?_ | with_reducible refine v_sameS ?_ | with_reducible refine v_sameB ?_ | with_reducible refine v_sameI ?_ | with_reducible refine v_sameN ?_ | with_reducible refine v_sameT ?_ | with_reducible refine v_sameL ?_ | with_reducible refine v_endN ?_ | with_reducible refine v_bm ?_ | with_reducible refine v_tystr ?_ | with_reducible refine v_break ?_ | with_reducible refine v_cont ?_ | ((with_reducible refine v_slS ?_ ?_); sizeOf_list_dec) | ((with_reducible refine v_lenS ?_ ?_); sizeOf_list_dec) | ((with_reducible refine v_addS ?_ ?_); sizeOf_list_dec) | ((with_reducible refine v_addT ?_ ?_); sizeOf_list_dec) | ((with_reducible refine v_addL ?_ ?_); sizeOf_list_dec) | (with_reducible refine v_par _ _ ?_) | (with_reducible refine v_par3 _ _ _ ?_) | ((with_reducible refine v_gtup ?_ ?_); rfl) | with_reducible refine v_ixT (by with_unfolding_all rfl) ?_ | with_reducible refine v_ixL (by with_unfolding_all rfl) ?_ | with_reducible refine v_ixR (by with_unfolding_all rfl) ?_ | ((with_reducible refine v_ixS ?_ (by with_unfolding_all rfl) ?_); sizeOf_list_dec) | ((with_reducible refine And.intro ?_ ?_); sizeOf_list_dec) | with_reducible refine v_dt (by first | assumption | with_unfolding_all rfl | omega | (simp only [List.length_map, List.length_append, List.length_cons, List.length_nil, List.length_reverse, txts_lenG]; first | done | omega)) ?_ | with_reducible refine v_ndt (by first | assumption | with_unfolding_all rfl | omega | (simp only [List.length_map, List.length_append, List.length_cons, List.length_nil, List.length_reverse, txts_lenG]; first | done | omega)) ?_ | with_reducible refine v_df (by first | assumption | omega | (with_unfolding_all decide) | (simp only [List.length_map, List.length_append, List.length_cons, List.length_nil, List.length_reverse, txts_lenG]; first | done | omega)) ?_ | with_reducible refine v_ndf (by first | assumption | omega | (with_unfolding_all decide) | (simp only [List.length_map, List.length_append, List.length_cons, List.length_nil, List.length_reverse, txts_lenG]; first | done | omega)) ?_ | decreasing_trivial_pre_omega | ((with_reducible refine v_isname ?_); dsimp only [wipeD, List.set]) | ((with_reducible refine v_isvar ?_); dsimp only [wipeD, List.set]))
local macro_rules | `(tactic| array_mem_dec) => `(tactic| repeat array_get_dec)
local macro_rules | `(tactic| bv_omega) => `(tactic| repeat' (first | array_get_dec | with_reducible refine ite_d (fun _ => ?_) (fun _ => ?_) | with_reducible refine ite_nd (fun _ => ?_) (fun _ => ?_) | with_reducible refine ite_b (fun _ => ?_) (fun _ => ?_) | with_reducible refine ite_nb (fun _ => ?_) (fun _ => ?_)))
local macro_rules | `(tactic| decreasing_trivial_pre_omega) => `(tactic| with_reducible refine kz_name ?_)
local macro_rules | `(tactic| decreasing_trivial_pre_omega) => `(tactic| with_reducible refine kz_family ?_)
local macro_rules | `(tactic| decreasing_trivial_pre_omega) => `(tactic| with_reducible refine kz_marks ?_)
local macro_rules | `(tactic| decreasing_trivial_pre_omega) => `(tactic| with_reducible refine kz_yes ?_)
local macro_rules | `(tactic| decreasing_trivial_pre_omega) => `(tactic| with_reducible refine kz_no ?_)
local macro_rules | `(tactic| decreasing_trivial_pre_omega) => `(tactic| with_reducible refine kz_digits ?_)
local macro_rules | `(tactic| decreasing_trivial_pre_omega) => `(tactic| with_reducible refine kz_point ?_)
local macro_rules | `(tactic| decreasing_trivial_pre_omega) => `(tactic| with_reducible refine kz_keep ?_)
local macro_rules | `(tactic| decreasing_trivial_pre_omega) => `(tactic| with_reducible refine v_lenSet ?_)
local macro_rules | `(tactic| decreasing_trivial_pre_omega) => `(tactic| with_reducible refine kz_parts ?_)
local macro_rules | `(tactic| decreasing_trivial_pre_omega) => `(tactic| with_reducible refine bz_kinds ?_)
local macro_rules | `(tactic| decreasing_trivial_pre_omega) => `(tactic| with_reducible refine bz_spare ?_)
local macro_rules | `(tactic| decreasing_trivial_pre_omega) => `(tactic| with_reducible refine bz_joined ?_)
local macro_rules | `(tactic| decreasing_trivial_pre_omega) => `(tactic| with_reducible refine bz_mark ?_)
local macro_rules | `(tactic| decreasing_trivial_pre_omega) => `(tactic| with_reducible refine bz_meth (by decide) ?_)
local macro_rules | `(tactic| decreasing_trivial_pre_omega) => `(tactic| with_reducible refine lz_book ?_)
local macro_rules | `(tactic| decreasing_trivial_pre_omega) => `(tactic| with_reducible refine lz_name ?_)
local macro_rules | `(tactic| decreasing_trivial_pre_omega) => `(tactic| with_reducible refine lz_kind ?_)
/-! ### the law of a book's own kinds -/
theorem good_wd {k : KindR} {o : D} (g : GoodK o k) : isWord k.name = true := by cases g <;> assumption
theorem wd_len {l : List Nat} (h : isWord l = true) : 1 ≤ l.length ∧ l.length ≤ 8 := by
  unfold isWord at h
  rw [Bool.and_eq_true] at h
  exact of_decide_eq_true h.1
theorem OkS.okb {ks : List KindR} {L : Nat} (h : OkS ks L) (h1 : 1 ≤ ks.length) (h7 : ks.length ≤ 7) (hj : OkTs ks []) : OkB ks [] :=
  ⟨h1, h7, h.nd, fun k hk => by have := (wd_len (good_wd (h.good k hk))).2; omega, h.has, fun k hk e => by
    have g := h.good k hk
    cases g with
    | missing hw ha hm => intro z; have := (areTexts_len ha).1; simp only at z; rw [z] at this; simp at this
    | truth hw hy hn hd ly ln => cases e
    | text hw => cases e
    | number hw gn ho => rw [gn.fam] at e; exact absurd e (by decide), hj⟩
/-- a text has a kind -/
theorem OkS.own {ks : List KindR} {L : Nat} (h : OkS ks L) {l : List Nat} (hl : isText l = true) : ∃ k, ownK ks l = some k := by
  unfold ownK
  rw [← Option.isSome_iff_exists, List.find?_isSome]
  obtain ⟨k, hk, e⟩ := h.has
  refine ⟨k, hk, ?_⟩
  unfold takes
  rw [e, if_neg (by decide), if_neg (by decide), if_pos rfl]
  exact hl
end G
namespace G
open PySem PySem.Spec PyProof.Rows L2
local macro_rules | `(tactic| sizeOf_list_dec) => `(tactic| exact szl (by first | omega | (simp only [List.length_append, List.length_cons, List.length_nil, List.length_map, List.length_reverse, List.length_singleton, txts_lenG]; omega) | (simp only [List.length_append, List.length_cons, List.length_nil, List.length_map, List.length_reverse, txts_lenG]; omega)))
local macro_rules | `(tactic| array_get_dec) => `(tactic| first | with_reducible refine v_seq ?_ | with_reducible refine v_next ?_ | with_reducible refine v_asg ?_ | (with_reducible refine v_isvar ?_; first | with_reducible refine v_var0 ?_ | with_reducible refine v_var1 ?_ | with_reducible refine v_var2 ?_ | with_reducible refine v_var3 ?_ | with_reducible refine v_var4 ?_ | with_reducible refine v_var5 ?_ | with_reducible refine v_var6 ?_ | with_reducible refine v_var7 ?_ | with_reducible refine v_var8 ?_ | with_reducible refine v_var9 ?_ | with_reducible refine v_var10 ?_ | with_reducible refine v_var11 ?_ | with_reducible refine v_var12 ?_ | with_reducible refine v_var13 ?_ | with_reducible refine v_var14 ?_ | with_reducible refine v_var15 ?_ | with_reducible refine v_var16 ?_ | with_reducible refine v_var17 ?_ | with_reducible refine v_var18 ?_ | with_reducible refine v_var19 ?_ | with_reducible refine v_var20 ?_ | with_reducible refine v_var21 ?_ | with_reducible refine v_var22 ?_ | with_reducible refine v_var23 ?_ | with_reducible refine v_var24 ?_ | with_reducible refine v_var25 ?_) | (with_reducible refine v_isname ?_; first | with_reducible refine v_name0 ?_ | with_reducible refine v_wname0 ?_ | with_reducible refine v_name1 ?_ | with_reducible refine v_wname1 ?_ | with_reducible refine v_name2 ?_ | with_reducible refine v_wname2 ?_ | with_reducible refine v_name3 ?_ | with_reducible refine v_wname3 ?_ | with_reducible refine v_name4 ?_ | with_reducible refine v_wname4 ?_ | with_reducible refine v_name5 ?_ | with_reducible refine v_wname5 ?_ | with_reducible refine v_name6 ?_ | with_reducible refine v_wname6 ?_ | with_reducible refine v_name7 ?_ | with_reducible refine v_wname7 ?_ | with_reducible refine v_name8 ?_ | with_reducible refine v_wname8 ?_ | with_reducible refine v_name9 ?_ | with_reducible refine v_wname9 ?_ | with_reducible refine v_name10 ?_ | with_reducible refine v_wname10 ?_ | with_reducible refine v_name11 ?_ | with_reducible refine v_wname11 ?_ | with_reducible refine v_name12 ?_ | with_reducible refine v_wname12 ?_ | with_reducible refine v_name13 ?_ | with_reducible refine v_wname13 ?_ | with_reducible refine v_name14 ?_ | with_reducible refine v_wname14 ?_ | with_reducible refine v_name15 ?_ | with_reducible refine v_wname15 ?_ | with_reducible refine v_name16 ?_ | with_reducible refine v_wname16 ?_ | with_reducible refine v_name17 ?_ | with_reducible refine v_wname17 ?_ | with_reducible refine v_name18 ?_ | with_reducible refine v_wname18 ?_ | with_reducible refine v_name19 ?_ | with_reducible refine v_wname19 ?_ | with_reducible refine v_name20 ?_ | with_reducible refine v_wname20 ?_ | with_reducible refine v_name21 ?_ | with_reducible refine v_wname21 ?_ | with_reducible refine v_name22 ?_ | with_reducible refine v_wname22 ?_ | with_reducible refine v_name23 ?_ | with_reducible refine v_wname23 ?_ | with_reducible refine v_name24 ?_ | with_reducible refine v_wname24 ?_ | with_reducible refine v_name25 ?_ | with_reducible refine v_wname25 ?_) | with_reducible refine v_drop ?_ | with_reducible refine v_ret ?_ | with_reducible refine v_ifS ?_ | with_reducible refine v_test ?_ | with_reducible refine v_bl ?_ | with_reducible refine v_const ?_ | with_reducible refine v_op ?_ | with_reducible refine v_cb ?_ | with_reducible refine v_nil ?_ | with_reducible refine v_cons ?_ | with_reducible refine v_fld ?_ | with_reducible refine v_meth ?_ | with_reducible refine v_cal ?_ | with_reducible refine v_call0 ?_ | with_reducible refine v_pos2 ?_ | with_reducible refine v_tt ?_ | with_reducible refine v_ff ?_ | with_reducible refine v_ntt ?_ | with_reducible refine v_nff ?_ | with_reducible refine v_dnot ?_ | with_reducible refine v_dand ?_ | with_reducible refine v_dor ?_ | with_reducible refine v_andV ?_ | with_reducible refine v_orV ?_ | with_reducible refine v_notV ?_ | with_reducible refine v_ifE ?_ | with_reducible refine v_bm0 ?_ | with_reducible refine v_eqS ?_ | with_reducible refine v_eqI ?_ | with_reducible refine v_neS ?_ | with_reducible refine v_neI ?_ | with_reducible refine v_eqB ?_ | with_reducible refine v_neB ?_ | with_reducible refine v_isNn ?_ | with_reducible refine v_isNs ?_ | with_reducible refine v_isNi ?_ | with_reducible refine v_isNt ?_ | with_reducible refine v_notNn ?_ | with_reducible refine v_notNs ?_ | with_reducible refine v_notNi ?_ | with_reducible refine v_notNt ?_ | with_reducible refine v_isN ?_ | with_reducible refine v_notN ?_ | with_reducible refine v_lt ?_ | with_reducible refine v_le ?_ | with_reducible refine v_gt ?_ | with_reducible refine v_ge ?_ | with_reducible refine v_addI ?_ | with_reducible refine v_subI ?_ | with_reducible refine v_lenT ?_ | with_reducible refine v_lenL ?_ | with_reducible refine v_chain ?_ | with_reducible refine v_un ?_ | with_reducible refine v_tup ?_ | with_reducible refine v_lst ?_ | with_reducible refine v_lstC ?_ | with_reducible refine v_gsub ?_ | with_reducible refine v_rng1 ?_ | with_reducible refine v_rng2 ?_ | with_reducible refine v_slice ?_ | with_reducible refine v_nopart ?_ | with_reducible refine v_part ?_ | with_reducible refine v_partI ?_ | with_reducible refine v_slT ?_ | with_reducible refine v_slL ?_ | with_reducible refine v_rev ?_ | with_reducible refine v_revO ?_ | with_reducible refine v_enumS ?_ | with_reducible refine v_enumL ?_ | with_reducible refine v_enumT ?_ | with_reducible refine v_zipS ?_ | with_reducible refine v_revL ?_ | with_reducible refine v_revT ?_ | with_reducible refine v_putT ?_ | with_reducible refine v_putK ?_ | with_reducible refine v_inT ?_ | with_reducible refine v_getT ?_ | with_reducible refine v_get2T ?_ | with_reducible refine v_make ?_ | with_reducible refine v_fldSet ?_ | with_reducible refine v_forL ?_ | with_reducible refine v_forT ?_ | with_reducible refine v_forS ?_ | with_reducible refine v_lstO ?_ | with_reducible refine v_rolO ?_ | with_reducible refine v_tupO ?_ | with_reducible refine v_strO ?_ | with_reducible refine v_listT ?_ | with_reducible refine v_listL ?_ | with_reducible refine v_tupleL ?_ | with_reducible refine v_tupleT ?_ | with_reducible refine v_isiS ?_ | with_reducible refine v_isiT ?_ | with_reducible refine v_isiL ?_ | with_reducible refine v_allM ?_ | with_reducible refine v_anyM ?_ | with_reducible refine v_eqNS ?_ | with_reducible refine v_neNS ?_ | with_reducible refine v_gcons ?_ | with_reducible refine v_gnil ?_ | with_reducible refine v_par2 ?_ | with_reducible refine v_par33 ?_ | with_reducible refine v_retN ?_ | with_reducible refine v_sameS ?_ | with_reducible refine v_sameB ?_ | with_reducible refine v_sameI ?_ | with_reducible refine v_sameN ?_ | with_reducible refine v_sameT ?_ | with_reducible refine v_sameL ?_ | with_reducible refine v_endN ?_ | with_reducible refine v_bm ?_ | with_reducible refine v_tystr ?_ | with_reducible refine v_break ?_ | with_reducible refine v_cont ?_ | ((with_reducible refine v_slS ?_ ?_); sizeOf_list_dec) | ((with_reducible refine v_lenS ?_ ?_); sizeOf_list_dec) | ((with_reducible refine v_addS ?_ ?_); sizeOf_list_dec) | ((with_reducible refine v_addT ?_ ?_); sizeOf_list_dec) | ((with_reducible refine v_addL ?_ ?_); sizeOf_list_dec) | (with_reducible refine v_par _ _ ?_) | (with_reducible refine v_par3 _ _ _ ?_) | ((with_reducible refine v_gtup ?_ ?_); rfl) | with_reducible refine v_ixT (by with_unfolding_all rfl) ?_ | with_reducible refine v_ixL (by with_unfolding_all rfl) ?_ | with_reducible refine v_ixR (by with_unfolding_all rfl) ?_ | ((with_reducible refine v_ixS ?_ (by with_unfolding_all rfl) ?_); sizeOf_list_dec) | ((with_reducible refine And.intro ?_ ?_); sizeOf_list_dec) | with_reducible refine v_dt (by first | assumption | with_unfolding_all rfl | omega | (simp only [List.length_map, List.length_append, List.length_cons, List.length_nil, List.length_reverse, txts_lenG]; first | done | omega)) ?_ | with_reducible refine v_ndt (by first | assumption | with_unfolding_all rfl | omega | (simp only [List.length_map, List.length_append, List.length_cons, List.length_nil, List.length_reverse, txts_lenG]; first | done | omega)) ?_ | with_reducible refine v_df (by first | assumption | omega | (with_unfolding_all decide) | (simp only [List.length_map, List.length_append, List.length_cons, List.length_nil, List.length_reverse, txts_lenG]; first | done | omega)) ?_ | with_reducible refine v_ndf (by first | assumption | omega | (with_unfolding_all decide) | (simp only [List.length_map, List.length_append, List.length_cons, List.length_nil, List.length_reverse, txts_lenG]; first | done | omega)) ?_ | decreasing_trivial_pre_omega | ((with_reducible refine v_isname ?_); dsimp only [wipeD, List.set]) | ((with_reducible refine v_isvar ?_); dsimp only [wipeD, List.set]))
local macro_rules | `(tactic| array_mem_dec) => `(tactic| repeat array_get_dec)
local macro_rules | `(tactic| bv_omega) => `(tactic| repeat' (first | array_get_dec | with_reducible refine ite_d (fun _ => ?_) (fun _ => ?_) | with_reducible refine ite_nd (fun _ => ?_) (fun _ => ?_) | with_reducible refine ite_b (fun _ => ?_) (fun _ => ?_) | with_reducible refine ite_nb (fun _ => ?_) (fun _ => ?_)))
local macro_rules | `(tactic| decreasing_trivial_pre_omega) => `(tactic| with_reducible refine kz_name ?_)
local macro_rules | `(tactic| decreasing_trivial_pre_omega) => `(tactic| with_reducible refine kz_family ?_)
local macro_rules | `(tactic| decreasing_trivial_pre_omega) => `(tactic| with_reducible refine kz_marks ?_)
local macro_rules | `(tactic| decreasing_trivial_pre_omega) => `(tactic| with_reducible refine kz_yes ?_)
local macro_rules | `(tactic| decreasing_trivial_pre_omega) => `(tactic| with_reducible refine kz_no ?_)
local macro_rules | `(tactic| decreasing_trivial_pre_omega) => `(tactic| with_reducible refine kz_digits ?_)
local macro_rules | `(tactic| decreasing_trivial_pre_omega) => `(tactic| with_reducible refine kz_point ?_)
local macro_rules | `(tactic| decreasing_trivial_pre_omega) => `(tactic| with_reducible refine kz_keep ?_)
local macro_rules | `(tactic| decreasing_trivial_pre_omega) => `(tactic| with_reducible refine v_lenSet ?_)
local macro_rules | `(tactic| decreasing_trivial_pre_omega) => `(tactic| with_reducible refine kz_parts ?_)
local macro_rules | `(tactic| decreasing_trivial_pre_omega) => `(tactic| with_reducible refine bz_kinds ?_)
local macro_rules | `(tactic| decreasing_trivial_pre_omega) => `(tactic| with_reducible refine bz_spare ?_)
local macro_rules | `(tactic| decreasing_trivial_pre_omega) => `(tactic| with_reducible refine bz_joined ?_)
local macro_rules | `(tactic| decreasing_trivial_pre_omega) => `(tactic| with_reducible refine bz_mark ?_)
local macro_rules | `(tactic| decreasing_trivial_pre_omega) => `(tactic| with_reducible refine bz_meth (by decide) ?_)
local macro_rules | `(tactic| decreasing_trivial_pre_omega) => `(tactic| with_reducible refine lz_book ?_)
local macro_rules | `(tactic| decreasing_trivial_pre_omega) => `(tactic| with_reducible refine lz_name ?_)
local macro_rules | `(tactic| decreasing_trivial_pre_omega) => `(tactic| with_reducible refine lz_kind ?_)
/-! ### levels joined -/
theorem v_intO {i : Int} {R : Int → Prop} (h : R i) : ∃ j, D.int i = .int j ∧ R j := ⟨i, rfl, h⟩
local macro_rules | `(tactic| decreasing_trivial_pre_omega) => `(tactic| with_reducible refine v_intO ?_)
local macro_rules | `(tactic| decreasing_trivial_pre_omega) => `(tactic| with_reducible refine v_gh ?_)
section
variable {k : KindR} {C : Cl} {Q : DQ}
def specL (k : KindR) : List D := [.str k.name, .str k.fam, .tup (txts k.marks), .tup (txts k.yes), .tup (txts k.no), optD k]
theorem v_sp0 (h : Q (.str k.name) C) : rIx (specOf k) (.int 0) C Q := v_ixT (l := specL k) (by with_unfolding_all rfl) h
theorem v_sp1 (h : Q (.str k.fam) C) : rIx (specOf k) (.int 1) C Q := v_ixT (l := specL k) (by with_unfolding_all rfl) h
theorem v_sp5 (h : Q (optD k) C) : rIx (specOf k) (.int 5) C Q := v_ixT (l := specL k) (by with_unfolding_all rfl) h
def optL (k : KindR) : List D := [optN k.digits, .bl k.point, .str k.signs, .bl k.zeros, optN k.keep, .int k.shown]
theorem v_op0 (h : Q (optN k.digits) C) : rIx (optD k) (.int 0) C Q := v_ixT (l := optL k) (by with_unfolding_all rfl) h
theorem v_op1 (h : Q (.bl k.point) C) : rIx (optD k) (.int 1) C Q := v_ixT (l := optL k) (by with_unfolding_all rfl) h
end
local macro_rules | `(tactic| decreasing_trivial_pre_omega) => `(tactic| with_reducible refine v_sp0 ?_)
local macro_rules | `(tactic| decreasing_trivial_pre_omega) => `(tactic| with_reducible refine v_sp1 ?_)
local macro_rules | `(tactic| decreasing_trivial_pre_omega) => `(tactic| with_reducible refine v_sp2 ?_)
local macro_rules | `(tactic| decreasing_trivial_pre_omega) => `(tactic| with_reducible refine v_sp3 ?_)
local macro_rules | `(tactic| decreasing_trivial_pre_omega) => `(tactic| with_reducible refine v_sp4 ?_)
local macro_rules | `(tactic| decreasing_trivial_pre_omega) => `(tactic| with_reducible refine v_sp5 ?_)
local macro_rules | `(tactic| decreasing_trivial_pre_omega) => `(tactic| with_reducible refine v_op0 ?_)
local macro_rules | `(tactic| decreasing_trivial_pre_omega) => `(tactic| with_reducible refine v_op1 ?_)
local macro_rules | `(tactic| decreasing_trivial_pre_omega) => `(tactic| with_reducible refine v_op4 ?_)
local macro_rules | `(tactic| decreasing_trivial_pre_omega) => `(tactic| with_reducible refine v_op5 ?_)
theorem okT0 {ks : List KindR} : OkTs ks [] := ⟨nofun, by simp, by simp⟩
/-! what the law knows of a book -/
theorem spare_find {ks : List KindR} (h : ∃ k ∈ ks, k.fam = famText) : ∃ k ∈ ks, (ks.filter (isFam famText))[0]? = some k ∧ k.name = spareOf ks := by
  obtain ⟨k, hk, e⟩ := h
  have hm : k ∈ ks.filter (isFam famText) := List.mem_filter.mpr ⟨hk, decide_eq_true e⟩
  unfold spareOf
  cases e2 : ks.filter (isFam famText) with
  | nil => rw [e2] at hm; cases hm
  | cons z zs => exact ⟨z, (List.mem_filter.mp (show z ∈ ks.filter (isFam famText) by rw [e2]; exact .head _)).1, rfl, rfl⟩
def sp_l_spare : DSp := fun ds C Q _ => ∃ ks, ds = [.lst (ks.map specOf)] ∧ ks.length ≤ 1000 ∧ (∃ k ∈ ks, k.fam = famText) ∧ ∀ s ∈ ks, s.name = spareOf ks → Q (specOf s) C
def td_l_spare : DS :=
  (dRet (dOp rIx (dFz (dLc (diList (dVar 0)) (dName 1) (dTest (dOp rEqD (dOp rIx (dVar 1) (dC (.int 1))) (dC (.str [116, 101, 120, 116])))) (dVar 1) [1])) (dC (.int 0))))
theorem len_l_spare (ds : List D) (C : Cl) (Q : DQ) (E : DX) (h : sp_l_spare ds C Q E) : ds.length = 1 := by repeat (first | (obtain ⟨rfl, _⟩ := h; exact rfl) | (obtain ⟨_, h⟩ := h))
theorem pure_l_spare (ds : List D) (C : Cl) (Q : DQ) (E : DX) (h : sp_l_spare ds C Q E) : td_l_spare (endsD Q) (startD ["_law_specs_here", "_law_spec_here"] ds) C := by
  obtain ⟨ks, rfl, hl, hx, hq⟩ := h
  unfold td_l_spare
  refine v_ends ?_
  simp only [startD, List.map_cons, List.map_nil, List.length_cons, List.length_nil, Nat.reduceAdd, Nat.reduceSub, List.reduceReplicate, List.cons_append, List.nil_append]
  array_mem_dec
  refine v_lcfilF (as := ks) (e := specOf) (isFam famText) specOf (fun R h => ?_) (szl (by omega)) (fun i a C' N S _ ha _ hy hn => ?_) ?_
  · array_mem_dec
    exact h
  · array_mem_dec
    refine ite_d (fun e => ?_) (fun e => ?_)
    · array_mem_dec
      exact hy (decide_eq_true e)
    · exact hn (decide_eq_false e)
  · array_mem_dec
    obtain ⟨s, hs, e0, en⟩ := spare_find hx
    refine v_ixL (d := specOf s) (by rw [show (0 : Int) = ((0 : Nat) : Int) from rfl]; exact atI_nat (by rw [List.getElem?_map, e0]; rfl)) ?_
    exact ⟨_, _, .same, hq s hs en⟩
end G
namespace G
open PySem PySem.Spec PyProof.Rows L2
local macro_rules | `(tactic| sizeOf_list_dec) => `(tactic| exact szl (by first | omega | (simp only [List.length_append, List.length_cons, List.length_nil, List.length_map, List.length_reverse, List.length_singleton, txts_lenG]; omega) | (simp only [List.length_append, List.length_cons, List.length_nil, List.length_map, List.length_reverse, txts_lenG]; omega)))
local macro_rules | `(tactic| array_get_dec) => `(tactic| first | with_reducible refine v_seq ?_ | with_reducible refine v_next ?_ | with_reducible refine v_asg ?_ | (with_reducible refine v_isvar ?_; first | with_reducible refine v_var0 ?_ | with_reducible refine v_var1 ?_ | with_reducible refine v_var2 ?_ | with_reducible refine v_var3 ?_ | with_reducible refine v_var4 ?_ | with_reducible refine v_var5 ?_ | with_reducible refine v_var6 ?_ | with_reducible refine v_var7 ?_ | with_reducible refine v_var8 ?_ | with_reducible refine v_var9 ?_ | with_reducible refine v_var10 ?_ | with_reducible refine v_var11 ?_ | with_reducible refine v_var12 ?_ | with_reducible refine v_var13 ?_ | with_reducible refine v_var14 ?_ | with_reducible refine v_var15 ?_ | with_reducible refine v_var16 ?_ | with_reducible refine v_var17 ?_ | with_reducible refine v_var18 ?_ | with_reducible refine v_var19 ?_ | with_reducible refine v_var20 ?_ | with_reducible refine v_var21 ?_ | with_reducible refine v_var22 ?_ | with_reducible refine v_var23 ?_ | with_reducible refine v_var24 ?_ | with_reducible refine v_var25 ?_) | (with_reducible refine v_isname ?_; first | with_reducible refine v_name0 ?_ | with_reducible refine v_wname0 ?_ | with_reducible refine v_name1 ?_ | with_reducible refine v_wname1 ?_ | with_reducible refine v_name2 ?_ | with_reducible refine v_wname2 ?_ | with_reducible refine v_name3 ?_ | with_reducible refine v_wname3 ?_ | with_reducible refine v_name4 ?_ | with_reducible refine v_wname4 ?_ | with_reducible refine v_name5 ?_ | with_reducible refine v_wname5 ?_ | with_reducible refine v_name6 ?_ | with_reducible refine v_wname6 ?_ | with_reducible refine v_name7 ?_ | with_reducible refine v_wname7 ?_ | with_reducible refine v_name8 ?_ | with_reducible refine v_wname8 ?_ | with_reducible refine v_name9 ?_ | with_reducible refine v_wname9 ?_ | with_reducible refine v_name10 ?_ | with_reducible refine v_wname10 ?_ | with_reducible refine v_name11 ?_ | with_reducible refine v_wname11 ?_ | with_reducible refine v_name12 ?_ | with_reducible refine v_wname12 ?_ | with_reducible refine v_name13 ?_ | with_reducible refine v_wname13 ?_ | with_reducible refine v_name14 ?_ | with_reducible refine v_wname14 ?_ | with_reducible refine v_name15 ?_ | with_reducible refine v_wname15 ?_ | with_reducible refine v_name16 ?_ | with_reducible refine v_wname16 ?_ | with_reducible refine v_name17 ?_ | with_reducible refine v_wname17 ?_ | with_reducible refine v_name18 ?_ | with_reducible refine v_wname18 ?_ | with_reducible refine v_name19 ?_ | with_reducible refine v_wname19 ?_ | with_reducible refine v_name20 ?_ | with_reducible refine v_wname20 ?_ | with_reducible refine v_name21 ?_ | with_reducible refine v_wname21 ?_ | with_reducible refine v_name22 ?_ | with_reducible refine v_wname22 ?_ | with_reducible refine v_name23 ?_ | with_reducible refine v_wname23 ?_ | with_reducible refine v_name24 ?_ | with_reducible refine v_wname24 ?_ | with_reducible refine v_name25 ?_ | with_reducible refine v_wname25 ?_) | with_reducible refine v_drop ?_ | with_reducible refine v_ret ?_ | with_reducible refine v_ifS ?_ | with_reducible refine v_test ?_ | with_reducible refine v_bl ?_ | with_reducible refine v_const ?_ | with_reducible refine v_op ?_ | with_reducible refine v_cb ?_ | with_reducible refine v_nil ?_ | with_reducible refine v_cons ?_ | with_reducible refine v_fld ?_ | with_reducible refine v_meth ?_ | with_reducible refine v_cal ?_ | with_reducible refine v_call0 ?_ | with_reducible refine v_pos2 ?_ | with_reducible refine v_tt ?_ | with_reducible refine v_ff ?_ | with_reducible refine v_ntt ?_ | with_reducible refine v_nff ?_ | with_reducible refine v_dnot ?_ | with_reducible refine v_dand ?_ | with_reducible refine v_dor ?_ | with_reducible refine v_andV ?_ | with_reducible refine v_orV ?_ | with_reducible refine v_notV ?_ | with_reducible refine v_ifE ?_ | with_reducible refine v_bm0 ?_ | with_reducible refine v_eqS ?_ | with_reducible refine v_eqI ?_ | with_reducible refine v_neS ?_ | with_reducible refine v_neI ?_ | with_reducible refine v_eqB ?_ | with_reducible refine v_neB ?_ | with_reducible refine v_isNn ?_ | with_reducible refine v_isNs ?_ | with_reducible refine v_isNi ?_ | with_reducible refine v_isNt ?_ | with_reducible refine v_notNn ?_ | with_reducible refine v_notNs ?_ | with_reducible refine v_notNi ?_ | with_reducible refine v_notNt ?_ | with_reducible refine v_isN ?_ | with_reducible refine v_notN ?_ | with_reducible refine v_lt ?_ | with_reducible refine v_le ?_ | with_reducible refine v_gt ?_ | with_reducible refine v_ge ?_ | with_reducible refine v_addI ?_ | with_reducible refine v_subI ?_ | with_reducible refine v_lenT ?_ | with_reducible refine v_lenL ?_ | with_reducible refine v_chain ?_ | with_reducible refine v_un ?_ | with_reducible refine v_tup ?_ | with_reducible refine v_lst ?_ | with_reducible refine v_lstC ?_ | with_reducible refine v_gsub ?_ | with_reducible refine v_rng1 ?_ | with_reducible refine v_rng2 ?_ | with_reducible refine v_slice ?_ | with_reducible refine v_nopart ?_ | with_reducible refine v_part ?_ | with_reducible refine v_partI ?_ | with_reducible refine v_slT ?_ | with_reducible refine v_slL ?_ | with_reducible refine v_rev ?_ | with_reducible refine v_revO ?_ | with_reducible refine v_enumS ?_ | with_reducible refine v_enumL ?_ | with_reducible refine v_enumT ?_ | with_reducible refine v_zipS ?_ | with_reducible refine v_revL ?_ | with_reducible refine v_revT ?_ | with_reducible refine v_putT ?_ | with_reducible refine v_putK ?_ | with_reducible refine v_inT ?_ | with_reducible refine v_getT ?_ | with_reducible refine v_get2T ?_ | with_reducible refine v_make ?_ | with_reducible refine v_fldSet ?_ | with_reducible refine v_forL ?_ | with_reducible refine v_forT ?_ | with_reducible refine v_forS ?_ | with_reducible refine v_lstO ?_ | with_reducible refine v_rolO ?_ | with_reducible refine v_tupO ?_ | with_reducible refine v_strO ?_ | with_reducible refine v_listT ?_ | with_reducible refine v_listL ?_ | with_reducible refine v_tupleL ?_ | with_reducible refine v_tupleT ?_ | with_reducible refine v_isiS ?_ | with_reducible refine v_isiT ?_ | with_reducible refine v_isiL ?_ | with_reducible refine v_allM ?_ | with_reducible refine v_anyM ?_ | with_reducible refine v_eqNS ?_ | with_reducible refine v_neNS ?_ | with_reducible refine v_gcons ?_ | with_reducible refine v_gnil ?_ | with_reducible refine v_par2 ?_ | with_reducible refine v_par33 ?_ | with_reducible refine v_retN ?_ | with_reducible refine v_sameS ?_ | with_reducible refine v_sameB ?_ | with_reducible refine v_sameI ?_ | with_reducible refine v_sameN ?_ | with_reducible refine v_sameT ?_ | with_reducible refine v_sameL ?_ | with_reducible refine v_endN ?_ | with_reducible refine v_bm ?_ | with_reducible refine v_tystr ?_ | with_reducible refine v_break ?_ | with_reducible refine v_cont ?_ | ((with_reducible refine v_slS ?_ ?_); sizeOf_list_dec) | ((with_reducible refine v_lenS ?_ ?_); sizeOf_list_dec) | ((with_reducible refine v_addS ?_ ?_); sizeOf_list_dec) | ((with_reducible refine v_addT ?_ ?_); sizeOf_list_dec) | ((with_reducible refine v_addL ?_ ?_); sizeOf_list_dec) | (with_reducible refine v_par _ _ ?_) | (with_reducible refine v_par3 _ _ _ ?_) | ((with_reducible refine v_gtup ?_ ?_); rfl) | with_reducible refine v_ixT (by with_unfolding_all rfl) ?_ | with_reducible refine v_ixL (by with_unfolding_all rfl) ?_ | with_reducible refine v_ixR (by with_unfolding_all rfl) ?_ | ((with_reducible refine v_ixS ?_ (by with_unfolding_all rfl) ?_); sizeOf_list_dec) | ((with_reducible refine And.intro ?_ ?_); sizeOf_list_dec) | with_reducible refine v_dt (by first | assumption | with_unfolding_all rfl | omega | (simp only [List.length_map, List.length_append, List.length_cons, List.length_nil, List.length_reverse, txts_lenG]; first | done | omega)) ?_ | with_reducible refine v_ndt (by first | assumption | with_unfolding_all rfl | omega | (simp only [List.length_map, List.length_append, List.length_cons, List.length_nil, List.length_reverse, txts_lenG]; first | done | omega)) ?_ | with_reducible refine v_df (by first | assumption | omega | (with_unfolding_all decide) | (simp only [List.length_map, List.length_append, List.length_cons, List.length_nil, List.length_reverse, txts_lenG]; first | done | omega)) ?_ | with_reducible refine v_ndf (by first | assumption | omega | (with_unfolding_all decide) | (simp only [List.length_map, List.length_append, List.length_cons, List.length_nil, List.length_reverse, txts_lenG]; first | done | omega)) ?_ | decreasing_trivial_pre_omega | ((with_reducible refine v_isname ?_); dsimp only [wipeD, List.set]) | ((with_reducible refine v_isvar ?_); dsimp only [wipeD, List.set]))
local macro_rules | `(tactic| array_mem_dec) => `(tactic| repeat array_get_dec)
local macro_rules | `(tactic| bv_omega) => `(tactic| repeat' (first | array_get_dec | with_reducible refine ite_d (fun _ => ?_) (fun _ => ?_) | with_reducible refine ite_nd (fun _ => ?_) (fun _ => ?_) | with_reducible refine ite_b (fun _ => ?_) (fun _ => ?_) | with_reducible refine ite_nb (fun _ => ?_) (fun _ => ?_)))
local macro_rules | `(tactic| decreasing_trivial_pre_omega) => `(tactic| with_reducible refine kz_name ?_)
local macro_rules | `(tactic| decreasing_trivial_pre_omega) => `(tactic| with_reducible refine kz_family ?_)
local macro_rules | `(tactic| decreasing_trivial_pre_omega) => `(tactic| with_reducible refine kz_marks ?_)
local macro_rules | `(tactic| decreasing_trivial_pre_omega) => `(tactic| with_reducible refine kz_yes ?_)
local macro_rules | `(tactic| decreasing_trivial_pre_omega) => `(tactic| with_reducible refine kz_no ?_)
local macro_rules | `(tactic| decreasing_trivial_pre_omega) => `(tactic| with_reducible refine kz_digits ?_)
local macro_rules | `(tactic| decreasing_trivial_pre_omega) => `(tactic| with_reducible refine kz_point ?_)
local macro_rules | `(tactic| decreasing_trivial_pre_omega) => `(tactic| with_reducible refine kz_keep ?_)
local macro_rules | `(tactic| decreasing_trivial_pre_omega) => `(tactic| with_reducible refine v_lenSet ?_)
local macro_rules | `(tactic| decreasing_trivial_pre_omega) => `(tactic| with_reducible refine kz_parts ?_)
local macro_rules | `(tactic| decreasing_trivial_pre_omega) => `(tactic| with_reducible refine bz_kinds ?_)
local macro_rules | `(tactic| decreasing_trivial_pre_omega) => `(tactic| with_reducible refine bz_spare ?_)
local macro_rules | `(tactic| decreasing_trivial_pre_omega) => `(tactic| with_reducible refine bz_joined ?_)
local macro_rules | `(tactic| decreasing_trivial_pre_omega) => `(tactic| with_reducible refine bz_mark ?_)
local macro_rules | `(tactic| decreasing_trivial_pre_omega) => `(tactic| with_reducible refine bz_meth (by decide) ?_)
local macro_rules | `(tactic| decreasing_trivial_pre_omega) => `(tactic| with_reducible refine lz_book ?_)
local macro_rules | `(tactic| decreasing_trivial_pre_omega) => `(tactic| with_reducible refine lz_name ?_)
local macro_rules | `(tactic| decreasing_trivial_pre_omega) => `(tactic| with_reducible refine lz_kind ?_)
local macro_rules | `(tactic| decreasing_trivial_pre_omega) => `(tactic| with_reducible refine v_intO ?_)
local macro_rules | `(tactic| decreasing_trivial_pre_omega) => `(tactic| with_reducible refine v_gh ?_)
local macro_rules | `(tactic| decreasing_trivial_pre_omega) => `(tactic| with_reducible refine v_sp0 ?_)
local macro_rules | `(tactic| decreasing_trivial_pre_omega) => `(tactic| with_reducible refine v_sp1 ?_)
local macro_rules | `(tactic| decreasing_trivial_pre_omega) => `(tactic| with_reducible refine v_sp2 ?_)
local macro_rules | `(tactic| decreasing_trivial_pre_omega) => `(tactic| with_reducible refine v_sp3 ?_)
local macro_rules | `(tactic| decreasing_trivial_pre_omega) => `(tactic| with_reducible refine v_sp4 ?_)
local macro_rules | `(tactic| decreasing_trivial_pre_omega) => `(tactic| with_reducible refine v_sp5 ?_)
local macro_rules | `(tactic| decreasing_trivial_pre_omega) => `(tactic| with_reducible refine v_op0 ?_)
local macro_rules | `(tactic| decreasing_trivial_pre_omega) => `(tactic| with_reducible refine v_op1 ?_)
local macro_rules | `(tactic| decreasing_trivial_pre_omega) => `(tactic| with_reducible refine v_op4 ?_)
local macro_rules | `(tactic| decreasing_trivial_pre_omega) => `(tactic| with_reducible refine v_op5 ?_)
/-! ### what the law knows of a kind that holds another one; joins drawn -/
def Fam4 (k : KindR) : Prop := k.fam = famMissing ∨ k.fam = famTruth ∨ k.fam = famText ∨ k.fam = famNumber
theorem good_fam {o : D} {k : KindR} (g : GoodK o k) : Fam4 k := by
  cases g with
  | missing => exact .inl rfl
  | truth => exact .inr (.inl rfl)
  | text => exact .inr (.inr (.inl rfl))
  | number _ gn _ => exact .inr (.inr (.inr gn.fam))
section
variable {A B : Prop} {n : Nat}
theorem v_onN (h : A) : if isNonD (optN none) = true then A else B := iteT h
theorem v_onS (h : B) : if isNonD (optN (some n)) = true then A else B := iteF h
theorem v_nonN (h : B) : if (!isNonD (optN none)) = true then A else B := iteF h
theorem v_nonS (h : A) : if (!isNonD (optN (some n))) = true then A else B := iteT h
end
local macro_rules | `(tactic| decreasing_trivial_pre_omega) => `(tactic| with_reducible refine v_onN ?_)
local macro_rules | `(tactic| decreasing_trivial_pre_omega) => `(tactic| with_reducible refine v_onS ?_)
local macro_rules | `(tactic| decreasing_trivial_pre_omega) => `(tactic| with_reducible refine v_nonN ?_)
local macro_rules | `(tactic| decreasing_trivial_pre_omega) => `(tactic| with_reducible refine v_nonS ?_)
def sp_l_holds : DSp := fun ds C Q _ => ∃ a b, ds = [specOf a, specOf b] ∧ Fam4 a ∧ Fam4 b ∧ Q (.bl (holdsK a b)) C
def td_l_holds : DS :=
  (dSeq (dIfS (dOr (dTest (dOp rEqD (dOp rIx (dVar 0) (dC (.int 0))) (dOp rIx (dVar 1) (dC (.int 0))))) (dOr (dTest (dOp rEqD (dOp rIx (dVar 1) (dC (.int 1))) (dC (.str [109, 105, 115, 115, 105, 110, 103])))) (dTest (dOp rEqD (dOp rIx (dVar 0) (dC (.int 1))) (dC (.str [116, 101, 120, 116])))))) (dRet (dC (.bl true))) dNext)
    (dSeq (dIfS (dTest (dOp rEqD (dOp rIx (dVar 0) (dC (.int 1))) (dC (.str [116, 114, 117, 116, 104])))) (dRet (dOp rEqD (dOp rIx (dVar 1) (dC (.int 1))) (dC (.str [116, 114, 117, 116, 104])))) dNext)
    (dSeq (dIfS (dOr (dTest (dOp rNeD (dOp rIx (dVar 0) (dC (.int 1))) (dC (.str [110, 117, 109, 98, 101, 114])))) (dTest (dOp rEqD (dOp rIx (dVar 1) (dC (.int 1))) (dC (.str [116, 101, 120, 116]))))) (dRet (dC (.bl false))) dNext)
    (dSeq (dIfS (dTest (dOp rEqD (dOp rIx (dVar 1) (dC (.int 1))) (dC (.str [116, 114, 117, 116, 104])))) (dRet (dC (.bl true))) dNext)
    (dSeq (dIfS (dAnd (dTest (dOp rIx (dOp rIx (dVar 1) (dC (.int 5))) (dC (.int 1)))) (dNot (dTest (dOp rIx (dOp rIx (dVar 0) (dC (.int 5))) (dC (.int 1)))))) (dRet (dC (.bl false))) dNext)
    (dRet (dOrV (dOp rIsN (dOp rIx (dOp rIx (dVar 0) (dC (.int 5))) (dC (.int 0))) (dC .non)) (dAndV (dOp rNotN (dOp rIx (dOp rIx (dVar 1) (dC (.int 5))) (dC (.int 0))) (dC .non)) (dOp rLeD (dOp rIx (dOp rIx (dVar 1) (dC (.int 5))) (dC (.int 0))) (dOp rIx (dOp rIx (dVar 0) (dC (.int 5))) (dC (.int 0))))))))))))
theorem len_l_holds (ds : List D) (C : Cl) (Q : DQ) (E : DX) (h : sp_l_holds ds C Q E) : ds.length = 2 := by repeat (first | (obtain ⟨rfl, _⟩ := h; exact rfl) | (obtain ⟨_, h⟩ := h))
theorem pure_l_holds (ds : List D) (C : Cl) (Q : DQ) (E : DX) (h : sp_l_holds ds C Q E) : td_l_holds (endsD Q) (startD ["_law_high", "_law_low"] ds) C := by
  obtain ⟨a, b, rfl, fa, fb, hq⟩ := h
  unfold td_l_holds
  refine v_ends ?_
  simp only [startD, List.map_cons, List.map_nil, List.length_cons, List.length_nil, Nat.reduceAdd, Nat.reduceSub, List.reduceReplicate, List.cons_append, List.nil_append]
  array_mem_dec
  unfold holdsK at hq
  have n1 : famText ≠ famMissing := by decide
  have n2 : famTruth ≠ famMissing := by decide
  have n3 : famNumber ≠ famMissing := by decide
  have n4 : famTruth ≠ famText := by decide
  have n5 : famNumber ≠ famText := by decide
  have n6 : famNumber ≠ famTruth := by decide
  refine ite_d (fun e1 => ?_) (fun e1 => ?_)
  · array_mem_dec
    rw [if_pos (.inl e1)] at hq; exact hq
  array_mem_dec
  refine ite_d (fun e2 => ?_) (fun e2 => ?_)
  · array_mem_dec
    rw [if_pos (.inr (.inl e2))] at hq; exact hq
  array_mem_dec
  refine ite_d (fun e3 => ?_) (fun e3 => ?_)
  · array_mem_dec
    rw [if_pos (.inr (.inr e3))] at hq; exact hq
  rw [if_neg (by rintro (z | z | z) <;> contradiction)] at hq
  array_mem_dec
  refine ite_d (fun e4 => ?_) (fun e4 => ?_)
  · array_mem_dec
    have e4' : a.fam = famTruth := e4
    rw [e4'] at hq
    by_cases h5 : b.fam = famText
    · rw [if_pos (.inr h5)] at hq
      rw [h5]
      exact hq
    · rw [if_neg (by rintro (z | z) <;> contradiction)] at hq
      by_cases h6 : b.fam = famTruth
      · rw [if_pos h6] at hq
        rw [h6]
        exact hq
      · rw [if_neg h6, if_pos (.inl rfl)] at hq
        rw [decide_eq_false (show ¬ b.fam = [116, 114, 117, 116, 104] from h6)]
        exact hq
  array_mem_dec
  refine ite_nd (fun e5 => ?_) (fun e5 => ?_)
  · array_mem_dec
    have : a.fam = famMissing := by
      rcases fa with h | h | h | h
      · exact h
      · exact absurd h e4
      · exact absurd h e3
      · exact absurd h e5
    rw [if_pos (.inl this)] at hq; exact hq
  have e5' : a.fam = famNumber := e5
  array_mem_dec
  refine ite_d (fun e6 => ?_) (fun e6 => ?_)
  · array_mem_dec
    rw [if_pos (.inr e6)] at hq; exact hq
  rw [if_neg (by rw [e5']; rintro (z | z) <;> contradiction)] at hq
  array_mem_dec
  refine ite_d (fun e7 => ?_) (fun e7 => ?_)
  · array_mem_dec
    rw [if_pos e7] at hq; exact hq
  rw [if_neg e7, e5'] at hq
  array_mem_dec
  have oN : ∀ {k : KindR}, k.digits = none → optN k.digits = .non := fun h => by rw [h]; rfl
  have oS : ∀ {k : KindR} {n : Nat}, k.digits = some n → optN k.digits = .int n := fun h => by rw [h]; rfl
  by_cases hp : b.point = true ∧ a.point = false
  · rw [if_pos (.inr hp)] at hq
    rw [hp.1]
    array_mem_dec
    rw [hp.2]
    array_mem_dec
    exact hq
  · rw [if_neg (by rintro (z | z) <;> contradiction)] at hq
    have ok : b.point = false ∨ (b.point = true ∧ a.point = true) := by
      cases hbp : b.point with
      | false => exact .inl rfl
      | true =>
        cases hap : a.point with
        | false => exact absurd ⟨hbp, hap⟩ hp
        | true => exact .inr ⟨rfl, rfl⟩
    rcases ok with hbp | ⟨hbp, hap⟩
    all_goals
      rw [hbp]
      array_mem_dec
      first | (rw [hap]; array_mem_dec) | skip
      cases hda : a.digits with
      | none =>
        rw [hda] at hq
        array_mem_dec
        exact hq
      | some n =>
        rw [hda] at hq
        array_mem_dec
        cases hdb : b.digits with
        | none =>
          rw [hdb] at hq
          array_mem_dec
          exact hq
        | some m =>
          rw [hdb] at hq
          array_mem_dec
          rw [oS hdb, oS hda]
          array_mem_dec
          have : decide ((m : Int) ≤ (n : Int)) = decide (m ≤ n) := decide_eq_decide.mpr (by omega)
          rw [this]
          exact hq
end G
namespace G
open PySem PySem.Spec PyProof.Rows L2
local macro_rules | `(tactic| sizeOf_list_dec) => `(tactic| exact szl (by first | omega | (simp only [List.length_append, List.length_cons, List.length_nil, List.length_map, List.length_reverse, List.length_singleton, txts_lenG]; omega) | (simp only [List.length_append, List.length_cons, List.length_nil, List.length_map, List.length_reverse, txts_lenG]; omega)))
local macro_rules | `(tactic| array_get_dec) => `(tactic| first | with_reducible refine v_seq ?_ | with_reducible refine v_next ?_ | with_reducible refine v_asg ?_ | (with_reducible refine v_isvar ?_; first | with_reducible refine v_var0 ?_ | with_reducible refine v_var1 ?_ | with_reducible refine v_var2 ?_ | with_reducible refine v_var3 ?_ | with_reducible refine v_var4 ?_ | with_reducible refine v_var5 ?_ | with_reducible refine v_var6 ?_ | with_reducible refine v_var7 ?_ | with_reducible refine v_var8 ?_ | with_reducible refine v_var9 ?_ | with_reducible refine v_var10 ?_ | with_reducible refine v_var11 ?_ | with_reducible refine v_var12 ?_ | with_reducible refine v_var13 ?_ | with_reducible refine v_var14 ?_ | with_reducible refine v_var15 ?_ | with_reducible refine v_var16 ?_ | with_reducible refine v_var17 ?_ | with_reducible refine v_var18 ?_ | with_reducible refine v_var19 ?_ | with_reducible refine v_var20 ?_ | with_reducible refine v_var21 ?_ | with_reducible refine v_var22 ?_ | with_reducible refine v_var23 ?_ | with_reducible refine v_var24 ?_ | with_reducible refine v_var25 ?_) | (with_reducible refine v_isname ?_; first | with_reducible refine v_name0 ?_ | with_reducible refine v_wname0 ?_ | with_reducible refine v_name1 ?_ | with_reducible refine v_wname1 ?_ | with_reducible refine v_name2 ?_ | with_reducible refine v_wname2 ?_ | with_reducible refine v_name3 ?_ | with_reducible refine v_wname3 ?_ | with_reducible refine v_name4 ?_ | with_reducible refine v_wname4 ?_ | with_reducible refine v_name5 ?_ | with_reducible refine v_wname5 ?_ | with_reducible refine v_name6 ?_ | with_reducible refine v_wname6 ?_ | with_reducible refine v_name7 ?_ | with_reducible refine v_wname7 ?_ | with_reducible refine v_name8 ?_ | with_reducible refine v_wname8 ?_ | with_reducible refine v_name9 ?_ | with_reducible refine v_wname9 ?_ | with_reducible refine v_name10 ?_ | with_reducible refine v_wname10 ?_ | with_reducible refine v_name11 ?_ | with_reducible refine v_wname11 ?_ | with_reducible refine v_name12 ?_ | with_reducible refine v_wname12 ?_ | with_reducible refine v_name13 ?_ | with_reducible refine v_wname13 ?_ | with_reducible refine v_name14 ?_ | with_reducible refine v_wname14 ?_ | with_reducible refine v_name15 ?_ | with_reducible refine v_wname15 ?_ | with_reducible refine v_name16 ?_ | with_reducible refine v_wname16 ?_ | with_reducible refine v_name17 ?_ | with_reducible refine v_wname17 ?_ | with_reducible refine v_name18 ?_ | with_reducible refine v_wname18 ?_ | with_reducible refine v_name19 ?_ | with_reducible refine v_wname19 ?_ | with_reducible refine v_name20 ?_ | with_reducible refine v_wname20 ?_ | with_reducible refine v_name21 ?_ | with_reducible refine v_wname21 ?_ | with_reducible refine v_name22 ?_ | with_reducible refine v_wname22 ?_ | with_reducible refine v_name23 ?_ | with_reducible refine v_wname23 ?_ | with_reducible refine v_name24 ?_ | with_reducible refine v_wname24 ?_ | with_reducible refine v_name25 ?_ | with_reducible refine v_wname25 ?_) | with_reducible refine v_drop ?_ | with_reducible refine v_ret ?_ | with_reducible refine v_ifS ?_ | with_reducible refine v_test ?_ | with_reducible refine v_bl ?_ | with_reducible refine v_const ?_ | with_reducible refine v_op ?_ | with_reducible refine v_cb ?_ | with_reducible refine v_nil ?_ | with_reducible refine v_cons ?_ | with_reducible refine v_fld ?_ | with_reducible refine v_meth ?_ | with_reducible refine v_cal ?_ | with_reducible refine v_call0 ?_ | with_reducible refine v_pos2 ?_ | with_reducible refine v_tt ?_ | with_reducible refine v_ff ?_ | with_reducible refine v_ntt ?_ | with_reducible refine v_nff ?_ | with_reducible refine v_dnot ?_ | with_reducible refine v_dand ?_ | with_reducible refine v_dor ?_ | with_reducible refine v_andV ?_ | with_reducible refine v_orV ?_ | with_reducible refine v_notV ?_ | with_reducible refine v_ifE ?_ | with_reducible refine v_bm0 ?_ | with_reducible refine v_eqS ?_ | with_reducible refine v_eqI ?_ | with_reducible refine v_neS ?_ | with_reducible refine v_neI ?_ | with_reducible refine v_eqB ?_ | with_reducible refine v_neB ?_ | with_reducible refine v_isNn ?_ | with_reducible refine v_isNs ?_ | with_reducible refine v_isNi ?_ | with_reducible refine v_isNt ?_ | with_reducible refine v_notNn ?_ | with_reducible refine v_notNs ?_ | with_reducible refine v_notNi ?_ | with_reducible refine v_notNt ?_ | with_reducible refine v_isN ?_ | with_reducible refine v_notN ?_ | with_reducible refine v_lt ?_ | with_reducible refine v_le ?_ | with_reducible refine v_gt ?_ | with_reducible refine v_ge ?_ | with_reducible refine v_addI ?_ | with_reducible refine v_subI ?_ | with_reducible refine v_lenT ?_ | with_reducible refine v_lenL ?_ | with_reducible refine v_chain ?_ | with_reducible refine v_un ?_ | with_reducible refine v_tup ?_ | with_reducible refine v_lst ?_ | with_reducible refine v_lstC ?_ | with_reducible refine v_gsub ?_ | with_reducible refine v_rng1 ?_ | with_reducible refine v_rng2 ?_ | with_reducible refine v_slice ?_ | with_reducible refine v_nopart ?_ | with_reducible refine v_part ?_ | with_reducible refine v_partI ?_ | with_reducible refine v_slT ?_ | with_reducible refine v_slL ?_ | with_reducible refine v_rev ?_ | with_reducible refine v_revO ?_ | with_reducible refine v_enumS ?_ | with_reducible refine v_enumL ?_ | with_reducible refine v_enumT ?_ | with_reducible refine v_zipS ?_ | with_reducible refine v_revL ?_ | with_reducible refine v_revT ?_ | with_reducible refine v_putT ?_ | with_reducible refine v_putK ?_ | with_reducible refine v_inT ?_ | with_reducible refine v_getT ?_ | with_reducible refine v_get2T ?_ | with_reducible refine v_make ?_ | with_reducible refine v_fldSet ?_ | with_reducible refine v_forL ?_ | with_reducible refine v_forT ?_ | with_reducible refine v_forS ?_ | with_reducible refine v_lstO ?_ | with_reducible refine v_rolO ?_ | with_reducible refine v_tupO ?_ | with_reducible refine v_strO ?_ | with_reducible refine v_listT ?_ | with_reducible refine v_listL ?_ | with_reducible refine v_tupleL ?_ | with_reducible refine v_tupleT ?_ | with_reducible refine v_isiS ?_ | with_reducible refine v_isiT ?_ | with_reducible refine v_isiL ?_ | with_reducible refine v_allM ?_ | with_reducible refine v_anyM ?_ | with_reducible refine v_eqNS ?_ | with_reducible refine v_neNS ?_ | with_reducible refine v_gcons ?_ | with_reducible refine v_gnil ?_ | with_reducible refine v_par2 ?_ | with_reducible refine v_par33 ?_ | with_reducible refine v_retN ?_ | with_reducible refine v_sameS ?_ | with_reducible refine v_sameB ?_ | with_reducible refine v_sameI ?_ | with_reducible refine v_sameN ?_ | with_reducible refine v_sameT ?_ | with_reducible refine v_sameL ?_ | with_reducible refine v_endN ?_ | with_reducible refine v_bm ?_ | with_reducible refine v_tystr ?_ | with_reducible refine v_break ?_ | with_reducible refine v_cont ?_ | ((with_reducible refine v_slS ?_ ?_); sizeOf_list_dec) | ((with_reducible refine v_lenS ?_ ?_); sizeOf_list_dec) | ((with_reducible refine v_addS ?_ ?_); sizeOf_list_dec) | ((with_reducible refine v_addT ?_ ?_); sizeOf_list_dec) | ((with_reducible refine v_addL ?_ ?_); sizeOf_list_dec) | (with_reducible refine v_par _ _ ?_) | (with_reducible refine v_par3 _ _ _ ?_) | ((with_reducible refine v_gtup ?_ ?_); rfl) | with_reducible refine v_ixT (by with_unfolding_all rfl) ?_ | with_reducible refine v_ixL (by with_unfolding_all rfl) ?_ | with_reducible refine v_ixR (by with_unfolding_all rfl) ?_ | ((with_reducible refine v_ixS ?_ (by with_unfolding_all rfl) ?_); sizeOf_list_dec) | ((with_reducible refine And.intro ?_ ?_); sizeOf_list_dec) | with_reducible refine v_dt (by first | assumption | with_unfolding_all rfl | omega | (simp only [List.length_map, List.length_append, List.length_cons, List.length_nil, List.length_reverse, txts_lenG]; first | done | omega)) ?_ | with_reducible refine v_ndt (by first | assumption | with_unfolding_all rfl | omega | (simp only [List.length_map, List.length_append, List.length_cons, List.length_nil, List.length_reverse, txts_lenG]; first | done | omega)) ?_ | with_reducible refine v_df (by first | assumption | omega | (with_unfolding_all decide) | (simp only [List.length_map, List.length_append, List.length_cons, List.length_nil, List.length_reverse, txts_lenG]; first | done | omega)) ?_ | with_reducible refine v_ndf (by first | assumption | omega | (with_unfolding_all decide) | (simp only [List.length_map, List.length_append, List.length_cons, List.length_nil, List.length_reverse, txts_lenG]; first | done | omega)) ?_ | decreasing_trivial_pre_omega | ((with_reducible refine v_isname ?_); dsimp only [wipeD, List.set]) | ((with_reducible refine v_isvar ?_); dsimp only [wipeD, List.set]))
local macro_rules | `(tactic| array_mem_dec) => `(tactic| repeat array_get_dec)
local macro_rules | `(tactic| bv_omega) => `(tactic| repeat' (first | array_get_dec | with_reducible refine ite_d (fun _ => ?_) (fun _ => ?_) | with_reducible refine ite_nd (fun _ => ?_) (fun _ => ?_) | with_reducible refine ite_b (fun _ => ?_) (fun _ => ?_) | with_reducible refine ite_nb (fun _ => ?_) (fun _ => ?_)))
local macro_rules | `(tactic| decreasing_trivial_pre_omega) => `(tactic| with_reducible refine kz_name ?_)
local macro_rules | `(tactic| decreasing_trivial_pre_omega) => `(tactic| with_reducible refine kz_family ?_)
local macro_rules | `(tactic| decreasing_trivial_pre_omega) => `(tactic| with_reducible refine kz_marks ?_)
local macro_rules | `(tactic| decreasing_trivial_pre_omega) => `(tactic| with_reducible refine kz_yes ?_)
local macro_rules | `(tactic| decreasing_trivial_pre_omega) => `(tactic| with_reducible refine kz_no ?_)
local macro_rules | `(tactic| decreasing_trivial_pre_omega) => `(tactic| with_reducible refine kz_digits ?_)
local macro_rules | `(tactic| decreasing_trivial_pre_omega) => `(tactic| with_reducible refine kz_point ?_)
local macro_rules | `(tactic| decreasing_trivial_pre_omega) => `(tactic| with_reducible refine kz_keep ?_)
local macro_rules | `(tactic| decreasing_trivial_pre_omega) => `(tactic| with_reducible refine v_lenSet ?_)
local macro_rules | `(tactic| decreasing_trivial_pre_omega) => `(tactic| with_reducible refine kz_parts ?_)
local macro_rules | `(tactic| decreasing_trivial_pre_omega) => `(tactic| with_reducible refine bz_kinds ?_)
local macro_rules | `(tactic| decreasing_trivial_pre_omega) => `(tactic| with_reducible refine bz_spare ?_)
local macro_rules | `(tactic| decreasing_trivial_pre_omega) => `(tactic| with_reducible refine bz_joined ?_)
local macro_rules | `(tactic| decreasing_trivial_pre_omega) => `(tactic| with_reducible refine bz_mark ?_)
local macro_rules | `(tactic| decreasing_trivial_pre_omega) => `(tactic| with_reducible refine bz_meth (by decide) ?_)
local macro_rules | `(tactic| decreasing_trivial_pre_omega) => `(tactic| with_reducible refine lz_book ?_)
local macro_rules | `(tactic| decreasing_trivial_pre_omega) => `(tactic| with_reducible refine lz_name ?_)
local macro_rules | `(tactic| decreasing_trivial_pre_omega) => `(tactic| with_reducible refine lz_kind ?_)
local macro_rules | `(tactic| decreasing_trivial_pre_omega) => `(tactic| with_reducible refine v_intO ?_)
local macro_rules | `(tactic| decreasing_trivial_pre_omega) => `(tactic| with_reducible refine v_gh ?_)
local macro_rules | `(tactic| decreasing_trivial_pre_omega) => `(tactic| with_reducible refine v_sp0 ?_)
local macro_rules | `(tactic| decreasing_trivial_pre_omega) => `(tactic| with_reducible refine v_sp1 ?_)
local macro_rules | `(tactic| decreasing_trivial_pre_omega) => `(tactic| with_reducible refine v_sp2 ?_)
local macro_rules | `(tactic| decreasing_trivial_pre_omega) => `(tactic| with_reducible refine v_sp3 ?_)
local macro_rules | `(tactic| decreasing_trivial_pre_omega) => `(tactic| with_reducible refine v_sp4 ?_)
local macro_rules | `(tactic| decreasing_trivial_pre_omega) => `(tactic| with_reducible refine v_sp5 ?_)
local macro_rules | `(tactic| decreasing_trivial_pre_omega) => `(tactic| with_reducible refine v_op0 ?_)
local macro_rules | `(tactic| decreasing_trivial_pre_omega) => `(tactic| with_reducible refine v_op1 ?_)
local macro_rules | `(tactic| decreasing_trivial_pre_omega) => `(tactic| with_reducible refine v_op4 ?_)
local macro_rules | `(tactic| decreasing_trivial_pre_omega) => `(tactic| with_reducible refine v_op5 ?_)
local macro_rules | `(tactic| decreasing_trivial_pre_omega) => `(tactic| with_reducible refine v_onN ?_)
local macro_rules | `(tactic| decreasing_trivial_pre_omega) => `(tactic| with_reducible refine v_onS ?_)
local macro_rules | `(tactic| decreasing_trivial_pre_omega) => `(tactic| with_reducible refine v_nonN ?_)
local macro_rules | `(tactic| decreasing_trivial_pre_omega) => `(tactic| with_reducible refine v_nonS ?_)
/-! ### joins drawn -/
/-- the pairs of the triples stand ahead of (i, j) -/
def Ahead (ks : List KindR) (trs : List T3) (i j : Nat) : Prop := ∀ t ∈ trs, ∃ (i' j' : Nat) (a b : KindR), ks[i']? = some a ∧ ks[j']? = some b ∧ t.1 = a.name ∧ t.2.1 = b.name ∧ (i' < i ∨ (i' = i ∧ j' < j))
theorem Ahead.mono {ks : List KindR} {trs : List T3} {i j i2 j2 : Nat} (h : Ahead ks trs i j) (l : i < i2 ∨ (i = i2 ∧ j ≤ j2)) : Ahead ks trs i2 j2 := fun t ht => by
  obtain ⟨i', j', a, b, h1, h2, h3, h4, h5⟩ := h t ht
  exact ⟨i', j', a, b, h1, h2, h3, h4, by omega⟩
theorem name_ix {ks : List KindR} (nd : (namesK ks).Nodup) {i j : Nat} {a b : KindR} (h1 : ks[i]? = some a) (h2 : ks[j]? = some b) (e : a.name = b.name) : i = j :=
  nodup_get nd (a := a.name) (by unfold namesK; rw [List.getElem?_map, h1]; rfl) (by unfold namesK; rw [List.getElem?_map, h2, e]; rfl)
theorem okTs_add {ks : List KindR} {trs : List T3} {i j : Nat} {a b c : KindR} (nd : (namesK ks).Nodup) (h : OkTs ks trs) (hl : trs.length < 1000) (ah : Ahead ks trs i j) (ha : ks[i]? = some a) (hb : ks[j]? = some b) (ne : i ≠ j) (hc : c ∈ ks) (h1 : holdsK c a = true) (h2 : holdsK c b = true) :
    OkTs ks (trs ++ [(a.name, b.name, c.name)]) := by
  have ma := List.mem_of_getElem? ha
  have mb := List.mem_of_getElem? hb
  refine ⟨fun t ht => ?_, ?_, by rw [List.length_append]; simp; omega⟩
  · rcases List.mem_append.mp ht with ht | ht
    · exact h.ok t ht
    · cases List.mem_singleton.mp ht
      refine ⟨List.mem_map.mpr ⟨a, ma, rfl⟩, List.mem_map.mpr ⟨b, mb, rfl⟩, List.mem_map.mpr ⟨c, hc, rfl⟩, fun e => ne (name_ix nd ha hb e), fun c' a' e1 e2 => ?_, fun c' a' e1 e2 => ?_⟩
      · rw [find_nd nd hc] at e1; cases e1
        rw [find_nd nd ma] at e2; cases e2
        exact h1
      · rw [find_nd nd hc] at e1; cases e1
        rw [find_nd nd mb] at e2; cases e2
        exact h2
  · rw [List.map_append]
    refine List.nodup_append.mpr ⟨h.nd, by simp, fun x hx y hy => ?_⟩
    obtain ⟨t, ht, rfl⟩ := List.mem_map.mp hx
    simp only [List.map_cons, List.map_nil, List.mem_singleton] at hy
    subst hy
    intro e
    obtain ⟨i', j', a', b', q1, q2, q3, q4, q5⟩ := ah t ht
    injection e with e1 e2
    have := name_ix nd q1 ha (q3 ▸ e1)
    have := name_ix nd q2 hb (q4 ▸ e2)
    omega
def sp_l_triples : DSp := fun ds C Q _ => ∃ (b : Addr) (ks : List KindR) (L n : Nat) (loose : Bool), ds = [.ref b, .lst (ks.map specOf), .bl loose] ∧ OkS ks L ∧ 1 ≤ ks.length ∧ ks.length ≤ 7 ∧ BagAt C b n ∧ n < 40000000 ∧
  ∀ (trs : List T3) C', OkTs ks trs → trs.length ≤ 100 → Bagged C b C' (n + 1000) → Q (.lst (trs.map tripD)) C'
def td_l_triples : DS :=
  (dSeq (dAsg (dLstC dNil) (dName 3))
    (dSeq (dFor (diRng1 (dCons (dCB rLen (dCons (dVar 1) dNil)) dNil)) (dName 4)
    (dFor (diRng1 (dCons (dCB rLen (dCons (dVar 1) dNil)) dNil)) (dName 5)
    (dIfS (dOr (dTest (dOp rLtD (dVar 4) (dVar 5))) (dAnd (dTest (dVar 2)) (dAnd (dTest (dOp rNeD (dVar 4) (dVar 5))) (dTest (dOp rEqD (dCall sp_l_take [] (dCons (dVar 0) (dCons (dC (.int 3)) dNil))) (dC (.int 0))))))) (dSeq (dAsg (dTup (dCons (dOp rIx (dVar 1) (dVar 4)) (dCons (dOp rIx (dVar 1) (dVar 5)) dNil))) (dgTup 2 (dgCons (dName 6) (dgCons (dName 7) dgNil))))
    (dSeq (dAsg (dFz (dLc (diList (dVar 1)) (dName 9) (dAnd (dTest (dCall sp_l_holds [] (dCons (dVar 9) (dCons (dVar 6) dNil)))) (dTest (dCall sp_l_holds [] (dCons (dVar 9) (dCons (dVar 7) dNil))))) (dOp rIx (dVar 9) (dC (.int 0))) [9])) (dName 8))
    (dIfS (dTest (dOp rGtD (dCall sp_l_take [] (dCons (dVar 0) (dCons (dC (.int 4)) dNil))) (dC (.int 0)))) (dDrop (dBM "list" rAppend (dVar 3) (dCons (dTup (dCons (dOp rIx (dOp rIx (dVar 1) (dVar 4)) (dC (.int 0))) (dCons (dOp rIx (dOp rIx (dVar 1) (dVar 5)) (dC (.int 0))) (dCons (dCall sp_l_of [] (dCons (dVar 0) (dCons (dVar 8) dNil))) dNil)))) dNil))) dNext))) dNext)))
    (dRet (dVar 3))))
theorem len_l_triples (ds : List D) (C : Cl) (Q : DQ) (E : DX) (h : sp_l_triples ds C Q E) : ds.length = 3 := by repeat (first | (obtain ⟨rfl, _⟩ := h; exact rfl) | (obtain ⟨_, h⟩ := h))
theorem pure_l_triples (ds : List D) (C : Cl) (Q : DQ) (E : DX) (h : sp_l_triples ds C Q E) : td_l_triples (endsD Q) (startD ["_law_bag_here", "_law_specs_here", "_law_is_loose", "_law_found", "_law_one", "_law_other", "_law_low", "_law_top", "_law_high", "_law_spec_here"] ds) C := by
  obtain ⟨b, ks, L, n, loose, rfl, hs, k1, k7, hb, hn, hq⟩ := h
  unfold td_l_triples
  refine v_ends ?_
  simp only [startD, List.map_cons, List.map_nil, List.length_cons, List.length_nil, Nat.reduceAdd, Nat.reduceSub, List.reduceReplicate, List.cons_append, List.nil_append]
  array_mem_dec
  intro p hp
  have bp := hb.ne hp
  have nd := hs.nd
  array_mem_dec
  refine v_for ?_
  array_mem_dec
  rw [List.length_map]
  refine ⟨_, rfl, ⟨by omega, by omega⟩, ?_⟩
  refine ⟨fun i ρ' C' => ∃ y4 y5 y6 y7 y8, ρ' = [some (.ref b), some (.lst (ks.map specOf)), some (.bl loose), some (.ref p), y4, y5, y6, y7, y8, none] ∧ ∃ trs C2, C' = updC C2 p (.lst (trs.map tripD)) ∧ C2 p = none ∧ Bagged C b C2 (n + i * 50) ∧ OkTs ks trs ∧ trs.length ≤ i * 10 ∧ Ahead ks trs i 0, ⟨_, _, _, _, _, rfl, [], C, rfl, hp, hb.self.mono (by omega), okT0, by simp, nofun⟩, ?_, ?_⟩
  · rintro i d ρ' C' hx ⟨y4, y5, y6, y7, y8, rfl, trs, C2, rfl, hp2, B2, ht, tl, ah⟩
    obtain ⟨hi, rfl⟩ := ranged_get hx
    rw [show (0 : Int) + (i : Int) = (i : Int) by omega]
    have hi : i < ks.length := by omega
    obtain ⟨a, ha⟩ : ∃ a, ks[i]? = some a := ⟨_, List.getElem?_eq_getElem hi⟩
    have ma := List.mem_of_getElem? ha
    array_mem_dec
    refine v_for ?_
    array_mem_dec
    rw [List.length_map]
    refine ⟨_, rfl, ⟨by omega, by omega⟩, ?_⟩
    refine ⟨fun j ρ' C' => ∃ y5 y6 y7 y8, ρ' = [some (.ref b), some (.lst (ks.map specOf)), some (.bl loose), some (.ref p), some (.int (i : Nat)), y5, y6, y7, y8, none] ∧ ∃ trs C2, C' = updC C2 p (.lst (trs.map tripD)) ∧ C2 p = none ∧ Bagged C b C2 (n + i * 50 + j * 4) ∧ OkTs ks trs ∧ trs.length ≤ i * 10 + j ∧ Ahead ks trs i j, ⟨_, _, _, _, rfl, trs, C2, rfl, hp2, B2.mono (by omega), ht, by omega, ah⟩, ?_, ?_⟩
    · rintro j d ρ' C' hx ⟨y5, y6, y7, y8, rfl, trs, C2, rfl, hp2, B2, ht, tl, ah⟩
      obtain ⟨hj, rfl⟩ := ranged_get hx
      rw [show (0 : Int) + (j : Int) = (j : Int) by omega]
      have hj : j < ks.length := by omega
      obtain ⟨a2, ha2⟩ : ∃ a, ks[j]? = some a := ⟨_, List.getElem?_eq_getElem hj⟩
      have ma2 := List.mem_of_getElem? ha2
      have skip : ∀ C3 m, C3 p = none → Bagged C b C3 m → m ≤ n + i * 50 + (j + 1) * 4 → ∀ z6 z7 z8, ∃ y5 y6 y7 y8, [some (D.ref b), some (.lst (ks.map specOf)), some (.bl loose), some (.ref p), some (.int (i : Nat)), some (.int (j : Nat)), z6, z7, z8, none] = [some (.ref b), some (.lst (ks.map specOf)), some (.bl loose), some (.ref p), some (.int (i : Nat)), y5, y6, y7, y8, none] ∧
          ∃ trs2 C2, updC C3 p (.lst (trs.map tripD)) = updC C2 p (.lst (trs2.map tripD)) ∧ C2 p = none ∧ Bagged C b C2 (n + i * 50 + (j + 1) * 4) ∧ OkTs ks trs2 ∧ trs2.length ≤ i * 10 + (j + 1) ∧ Ahead ks trs2 i (j + 1) :=
        fun C3 m h3 B3 hm z6 z7 z8 => ⟨_, _, _, _, rfl, trs, C3, rfl, h3, B3.mono hm, ht, by omega, ah.mono (by omega)⟩
      have body : i ≠ j → ∀ C3 m, C3 p = none → Bagged C b C3 m → m ≤ n + i * 50 + j * 4 + 1 → ∀ (N : DEnv → Cl → Prop) (r : DQ) (bk ct : DEnv → Cl → Prop),
          (∀ ρ' C', (∃ y5 y6 y7 y8, ρ' = [some (D.ref b), some (.lst (ks.map specOf)), some (.bl loose), some (.ref p), some (.int (i : Nat)), y5, y6, y7, y8, none] ∧
            ∃ trs2 C2, C' = updC C2 p (.lst (trs2.map tripD)) ∧ C2 p = none ∧ Bagged C b C2 (n + i * 50 + (j + 1) * 4) ∧ OkTs ks trs2 ∧ trs2.length ≤ i * 10 + (j + 1) ∧ Ahead ks trs2 i (j + 1)) → N ρ' C') →
          dSeq (dAsg (dTup (dCons (dOp rIx (dVar 1) (dVar 4)) (dCons (dOp rIx (dVar 1) (dVar 5)) dNil))) (dgTup 2 (dgCons (dName 6) (dgCons (dName 7) dgNil))))
            (dSeq (dAsg (dFz (dLc (diList (dVar 1)) (dName 9) (dAnd (dTest (dCall sp_l_holds [] (dCons (dVar 9) (dCons (dVar 6) dNil)))) (dTest (dCall sp_l_holds [] (dCons (dVar 9) (dCons (dVar 7) dNil))))) (dOp rIx (dVar 9) (dC (.int 0))) [9])) (dName 8))
            (dIfS (dTest (dOp rGtD (dCall sp_l_take [] (dCons (dVar 0) (dCons (dC (.int 4)) dNil))) (dC (.int 0)))) (dDrop (dBM "list" rAppend (dVar 3) (dCons (dTup (dCons (dOp rIx (dOp rIx (dVar 1) (dVar 4)) (dC (.int 0))) (dCons (dOp rIx (dOp rIx (dVar 1) (dVar 5)) (dC (.int 0))) (dCons (dCall sp_l_of [] (dCons (dVar 0) (dCons (dVar 8) dNil))) dNil)))) dNil))) dNext))
            ⟨N, r, bk, ct⟩ [some (.ref b), some (.lst (ks.map specOf)), some (.bl loose), some (.ref p), some (.int (i : Nat)), some (.int (j : Nat)), y6, y7, y8, none] (updC C3 p (.lst (trs.map tripD))) := by
        intro ne C3 m hp3 B3 hm N r bk ct hN
        have e1 : atI (ks.map specOf) (i : Int) = some (specOf a) := atI_nat (by rw [List.getElem?_map, ha]; rfl)
        have e2 : atI (ks.map specOf) (j : Int) = some (specOf a2) := atI_nat (by rw [List.getElem?_map, ha2]; rfl)
        array_mem_dec
        refine v_ixL e1 ?_
        array_mem_dec
        refine v_ixL e2 ?_
        array_mem_dec
        refine v_lcfilF (as := ks) (e := specOf) (fun k => holdsK k a && holdsK k a2) (fun k => .str k.name) (fun R h => ?_) (szl (by omega)) (fun i' k C' N' S _ hk _ hy hnn => ?_) ?_
        · array_mem_dec
          exact h
        · array_mem_dec
          refine ⟨k, a, rfl, good_fam (hs.good k hk), good_fam (hs.good a ma), ?_⟩
          array_mem_dec
          cases q1 : holdsK k a with
          | false =>
            array_mem_dec
            exact hnn (by rw [q1]; rfl)
          | true =>
            array_mem_dec
            refine ⟨k, a2, rfl, good_fam (hs.good k hk), good_fam (hs.good a2 ma2), ?_⟩
            array_mem_dec
            cases q2 : holdsK k a2 with
            | false =>
              array_mem_dec
              exact hnn (by rw [q1, q2]; rfl)
            | true =>
              array_mem_dec
              exact hy (by rw [q1, q2]; rfl)
        array_mem_dec
        refine ⟨b, _, m, rfl, by decide, by decide, B3.at.upd bp, by omega, fun t C4 t0 t1 B4 => ?_⟩
        obtain ⟨C5, rfl, B5⟩ := bag_over B4 bp
        have hp5 : C5 p = none := by rw [B5.ne (Ne.symm bp)]; exact hp3
        array_mem_dec
        refine ite_d (fun _ => ?_) (fun _ => ?_)
        · array_mem_dec
          refine ⟨.inl ⟨rfl, _, updC_same⟩, ?_⟩
          array_mem_dec
          refine v_ixL e1 ?_
          array_mem_dec
          refine v_ixL e2 ?_
          array_mem_dec
          refine ⟨b, _, _, m + 1, rfl, rfl, nofun, ?_, ?_, B5.at.upd bp, by omega, fun d C6 hm B6 => ?_⟩
          · obtain ⟨k, hk, e⟩ := hs.has
            intro z
            have hx : k ∈ ks.filter fun k => holdsK k a && holdsK k a2 := by
              refine List.mem_filter.mpr ⟨hk, ?_⟩
              have : ∀ w, holdsK k w = true := fun w => by unfold holdsK; rw [if_pos (.inr (.inr e))]
              rw [this, this]; rfl
            rw [List.map_eq_nil_iff] at z
            rw [z] at hx; cases hx
          · rw [List.length_map]
            have := List.length_filter_le (fun k => holdsK k a && holdsK k a2) ks
            omega
          obtain ⟨c, hc, rfl⟩ := List.mem_map.mp hm
          obtain ⟨hc, hh⟩ := List.mem_filter.mp hc
          rw [Bool.and_eq_true] at hh
          obtain ⟨C7, rfl, B7⟩ := bag_over B6 bp
          array_mem_dec
          refine ⟨p, _, _, rfl, rfl, updC_same, by rw [List.length_map]; exact Nat.lt_of_lt_of_le (by omega : trs.length < 10000) (szl (by omega)), ?_⟩
          rw [updC_updC]
          refine hN _ _ ⟨_, _, _, _, rfl, trs ++ [(a.name, a2.name, c.name)], C7, by rw [List.map_append]; rfl, ?_, ((B3.trans B5).trans B7).mono (by omega), okTs_add nd ht (by omega) ah ha ha2 ne hc hh.1 hh.2, by rw [List.length_append]; simp; omega, ?_⟩
          · rw [B7.ne (Ne.symm bp)]; exact hp5
          · intro t ht
            rcases List.mem_append.mp ht with ht | ht
            · exact ah.mono (by omega) t ht
            · cases List.mem_singleton.mp ht
              exact ⟨i, j, a, a2, ha, ha2, rfl, rfl, by omega⟩
        · array_mem_dec
          exact hN _ _ ⟨_, _, _, _, rfl, trs, C5, rfl, hp5, (B3.trans B5).mono (by omega), ht, by omega, ah.mono (by omega)⟩
      array_mem_dec
      refine ite_d (fun lt => ?_) (fun lt => ?_)
      · exact body (by omega) C2 _ hp2 B2 (by omega) _ _ _ _ fun _ _ z => z
      array_mem_dec
      cases loose with
      | false =>
        array_mem_dec
        exact skip C2 _ hp2 B2 (by omega) _ _ _
      | true =>
        array_mem_dec
        refine ite_nd (fun ne => ?_) (fun ne => ?_)
        · array_mem_dec
          refine ⟨b, _, _, rfl, by decide, by decide, B2.at.upd bp, by omega, fun t C4 t0 t1 B4 => ?_⟩
          obtain ⟨C5, rfl, B5⟩ := bag_over B4 bp
          have hp5 : C5 p = none := by rw [B5.ne (Ne.symm bp)]; exact hp2
          array_mem_dec
          refine ite_d (fun _ => ?_) (fun _ => ?_)
          · exact body (fun z => ne (by rw [z])) C5 _ hp5 (B2.trans B5) (by omega) _ _ _ _ fun _ _ z => z
          · array_mem_dec
            exact skip C5 _ hp5 (B2.trans B5) (by omega) _ _ _
        · array_mem_dec
          exact skip C2 _ hp2 B2 (by omega) _ _ _
    · rintro ρ' C' ⟨y5, y6, y7, y8, rfl, trs, C2, rfl, hp2, B2, ht, tl, ah⟩
      rw [ranged_length] at B2 tl ah
      exact ⟨_, _, _, _, _, rfl, trs, C2, rfl, hp2, B2.mono (by omega), ht, by omega, ah.mono (by omega)⟩
  · rintro ρ' C' ⟨y4, y5, y6, y7, y8, rfl, trs, C2, rfl, hp2, B2, ht, tl, ah⟩
    rw [ranged_length] at B2 tl ah
    array_mem_dec
    refine ⟨_, _, .lst updC_same, ?_⟩
    rw [delC_new hp2]
    exact hq trs C2 ht (by omega) (B2.mono (by omega))
end G
namespace G
open PySem PySem.Spec PyProof.Rows L2
/-! ### x in a list of plain things of any depth -/
section
variable {X : Cx} {cl : NmB} {n : Nat}
end
end G
namespace G
open PySem PySem.Spec PyProof.Rows L2
local macro_rules | `(tactic| sizeOf_list_dec) => `(tactic| exact szl (by first | omega | (simp only [List.length_append, List.length_cons, List.length_nil, List.length_map, List.length_reverse, List.length_singleton, txts_lenG]; omega) | (simp only [List.length_append, List.length_cons, List.length_nil, List.length_map, List.length_reverse, txts_lenG]; omega)))
local macro_rules | `(tactic| array_get_dec) => `(tactic| first | with_reducible refine v_seq ?_ | with_reducible refine v_next ?_ | with_reducible refine v_asg ?_ | (with_reducible refine v_isvar ?_; first | with_reducible refine v_var0 ?_ | with_reducible refine v_var1 ?_ | with_reducible refine v_var2 ?_ | with_reducible refine v_var3 ?_ | with_reducible refine v_var4 ?_ | with_reducible refine v_var5 ?_ | with_reducible refine v_var6 ?_ | with_reducible refine v_var7 ?_ | with_reducible refine v_var8 ?_ | with_reducible refine v_var9 ?_ | with_reducible refine v_var10 ?_ | with_reducible refine v_var11 ?_ | with_reducible refine v_var12 ?_ | with_reducible refine v_var13 ?_ | with_reducible refine v_var14 ?_ | with_reducible refine v_var15 ?_ | with_reducible refine v_var16 ?_ | with_reducible refine v_var17 ?_ | with_reducible refine v_var18 ?_ | with_reducible refine v_var19 ?_ | with_reducible refine v_var20 ?_ | with_reducible refine v_var21 ?_ | with_reducible refine v_var22 ?_ | with_reducible refine v_var23 ?_ | with_reducible refine v_var24 ?_ | with_reducible refine v_var25 ?_) | (with_reducible refine v_isname ?_; first | with_reducible refine v_name0 ?_ | with_reducible refine v_wname0 ?_ | with_reducible refine v_name1 ?_ | with_reducible refine v_wname1 ?_ | with_reducible refine v_name2 ?_ | with_reducible refine v_wname2 ?_ | with_reducible refine v_name3 ?_ | with_reducible refine v_wname3 ?_ | with_reducible refine v_name4 ?_ | with_reducible refine v_wname4 ?_ | with_reducible refine v_name5 ?_ | with_reducible refine v_wname5 ?_ | with_reducible refine v_name6 ?_ | with_reducible refine v_wname6 ?_ | with_reducible refine v_name7 ?_ | with_reducible refine v_wname7 ?_ | with_reducible refine v_name8 ?_ | with_reducible refine v_wname8 ?_ | with_reducible refine v_name9 ?_ | with_reducible refine v_wname9 ?_ | with_reducible refine v_name10 ?_ | with_reducible refine v_wname10 ?_ | with_reducible refine v_name11 ?_ | with_reducible refine v_wname11 ?_ | with_reducible refine v_name12 ?_ | with_reducible refine v_wname12 ?_ | with_reducible refine v_name13 ?_ | with_reducible refine v_wname13 ?_ | with_reducible refine v_name14 ?_ | with_reducible refine v_wname14 ?_ | with_reducible refine v_name15 ?_ | with_reducible refine v_wname15 ?_ | with_reducible refine v_name16 ?_ | with_reducible refine v_wname16 ?_ | with_reducible refine v_name17 ?_ | with_reducible refine v_wname17 ?_ | with_reducible refine v_name18 ?_ | with_reducible refine v_wname18 ?_ | with_reducible refine v_name19 ?_ | with_reducible refine v_wname19 ?_ | with_reducible refine v_name20 ?_ | with_reducible refine v_wname20 ?_ | with_reducible refine v_name21 ?_ | with_reducible refine v_wname21 ?_ | with_reducible refine v_name22 ?_ | with_reducible refine v_wname22 ?_ | with_reducible refine v_name23 ?_ | with_reducible refine v_wname23 ?_ | with_reducible refine v_name24 ?_ | with_reducible refine v_wname24 ?_ | with_reducible refine v_name25 ?_ | with_reducible refine v_wname25 ?_) | with_reducible refine v_drop ?_ | with_reducible refine v_ret ?_ | with_reducible refine v_ifS ?_ | with_reducible refine v_test ?_ | with_reducible refine v_bl ?_ | with_reducible refine v_const ?_ | with_reducible refine v_op ?_ | with_reducible refine v_cb ?_ | with_reducible refine v_nil ?_ | with_reducible refine v_cons ?_ | with_reducible refine v_fld ?_ | with_reducible refine v_meth ?_ | with_reducible refine v_cal ?_ | with_reducible refine v_call0 ?_ | with_reducible refine v_pos2 ?_ | with_reducible refine v_tt ?_ | with_reducible refine v_ff ?_ | with_reducible refine v_ntt ?_ | with_reducible refine v_nff ?_ | with_reducible refine v_dnot ?_ | with_reducible refine v_dand ?_ | with_reducible refine v_dor ?_ | with_reducible refine v_andV ?_ | with_reducible refine v_orV ?_ | with_reducible refine v_notV ?_ | with_reducible refine v_ifE ?_ | with_reducible refine v_bm0 ?_ | with_reducible refine v_eqS ?_ | with_reducible refine v_eqI ?_ | with_reducible refine v_neS ?_ | with_reducible refine v_neI ?_ | with_reducible refine v_eqB ?_ | with_reducible refine v_neB ?_ | with_reducible refine v_isNn ?_ | with_reducible refine v_isNs ?_ | with_reducible refine v_isNi ?_ | with_reducible refine v_isNt ?_ | with_reducible refine v_notNn ?_ | with_reducible refine v_notNs ?_ | with_reducible refine v_notNi ?_ | with_reducible refine v_notNt ?_ | with_reducible refine v_isN ?_ | with_reducible refine v_notN ?_ | with_reducible refine v_lt ?_ | with_reducible refine v_le ?_ | with_reducible refine v_gt ?_ | with_reducible refine v_ge ?_ | with_reducible refine v_addI ?_ | with_reducible refine v_subI ?_ | with_reducible refine v_lenT ?_ | with_reducible refine v_lenL ?_ | with_reducible refine v_chain ?_ | with_reducible refine v_un ?_ | with_reducible refine v_tup ?_ | with_reducible refine v_lst ?_ | with_reducible refine v_lstC ?_ | with_reducible refine v_gsub ?_ | with_reducible refine v_rng1 ?_ | with_reducible refine v_rng2 ?_ | with_reducible refine v_slice ?_ | with_reducible refine v_nopart ?_ | with_reducible refine v_part ?_ | with_reducible refine v_partI ?_ | with_reducible refine v_slT ?_ | with_reducible refine v_slL ?_ | with_reducible refine v_rev ?_ | with_reducible refine v_revO ?_ | with_reducible refine v_enumS ?_ | with_reducible refine v_enumL ?_ | with_reducible refine v_enumT ?_ | with_reducible refine v_zipS ?_ | with_reducible refine v_revL ?_ | with_reducible refine v_revT ?_ | with_reducible refine v_putT ?_ | with_reducible refine v_putK ?_ | with_reducible refine v_inT ?_ | with_reducible refine v_getT ?_ | with_reducible refine v_get2T ?_ | with_reducible refine v_make ?_ | with_reducible refine v_fldSet ?_ | with_reducible refine v_forL ?_ | with_reducible refine v_forT ?_ | with_reducible refine v_forS ?_ | with_reducible refine v_lstO ?_ | with_reducible refine v_rolO ?_ | with_reducible refine v_tupO ?_ | with_reducible refine v_strO ?_ | with_reducible refine v_listT ?_ | with_reducible refine v_listL ?_ | with_reducible refine v_tupleL ?_ | with_reducible refine v_tupleT ?_ | with_reducible refine v_isiS ?_ | with_reducible refine v_isiT ?_ | with_reducible refine v_isiL ?_ | with_reducible refine v_allM ?_ | with_reducible refine v_anyM ?_ | with_reducible refine v_eqNS ?_ | with_reducible refine v_neNS ?_ | with_reducible refine v_gcons ?_ | with_reducible refine v_gnil ?_ | with_reducible refine v_par2 ?_ | with_reducible refine v_par33 ?_ | with_reducible refine v_retN ?_ | with_reducible refine v_sameS ?_ | with_reducible refine v_sameB ?_ | with_reducible refine v_sameI ?_ | with_reducible refine v_sameN ?_ | with_reducible refine v_sameT ?_ | with_reducible refine v_sameL ?_ | with_reducible refine v_endN ?_ | with_reducible refine v_bm ?_ | with_reducible refine v_tystr ?_ | with_reducible refine v_break ?_ | with_reducible refine v_cont ?_ | ((with_reducible refine v_slS ?_ ?_); sizeOf_list_dec) | ((with_reducible refine v_lenS ?_ ?_); sizeOf_list_dec) | ((with_reducible refine v_addS ?_ ?_); sizeOf_list_dec) | ((with_reducible refine v_addT ?_ ?_); sizeOf_list_dec) | ((with_reducible refine v_addL ?_ ?_); sizeOf_list_dec) | (with_reducible refine v_par _ _ ?_) | (with_reducible refine v_par3 _ _ _ ?_) | ((with_reducible refine v_gtup ?_ ?_); rfl) | with_reducible refine v_ixT (by with_unfolding_all rfl) ?_ | with_reducible refine v_ixL (by with_unfolding_all rfl) ?_ | with_reducible refine v_ixR (by with_unfolding_all rfl) ?_ | ((with_reducible refine v_ixS ?_ (by with_unfolding_all rfl) ?_); sizeOf_list_dec) | ((with_reducible refine And.intro ?_ ?_); sizeOf_list_dec) | with_reducible refine v_dt (by first | assumption | with_unfolding_all rfl | omega | (simp only [List.length_map, List.length_append, List.length_cons, List.length_nil, List.length_reverse, txts_lenG]; first | done | omega)) ?_ | with_reducible refine v_ndt (by first | assumption | with_unfolding_all rfl | omega | (simp only [List.length_map, List.length_append, List.length_cons, List.length_nil, List.length_reverse, txts_lenG]; first | done | omega)) ?_ | with_reducible refine v_df (by first | assumption | omega | (with_unfolding_all decide) | (simp only [List.length_map, List.length_append, List.length_cons, List.length_nil, List.length_reverse, txts_lenG]; first | done | omega)) ?_ | with_reducible refine v_ndf (by first | assumption | omega | (with_unfolding_all decide) | (simp only [List.length_map, List.length_append, List.length_cons, List.length_nil, List.length_reverse, txts_lenG]; first | done | omega)) ?_ | decreasing_trivial_pre_omega | ((with_reducible refine v_isname ?_); dsimp only [wipeD, List.set]) | ((with_reducible refine v_isvar ?_); dsimp only [wipeD, List.set]))
local macro_rules | `(tactic| array_mem_dec) => `(tactic| repeat array_get_dec)
local macro_rules | `(tactic| bv_omega) => `(tactic| repeat' (first | array_get_dec | with_reducible refine ite_d (fun _ => ?_) (fun _ => ?_) | with_reducible refine ite_nd (fun _ => ?_) (fun _ => ?_) | with_reducible refine ite_b (fun _ => ?_) (fun _ => ?_) | with_reducible refine ite_nb (fun _ => ?_) (fun _ => ?_)))
local macro_rules | `(tactic| decreasing_trivial_pre_omega) => `(tactic| with_reducible refine kz_name ?_)
local macro_rules | `(tactic| decreasing_trivial_pre_omega) => `(tactic| with_reducible refine kz_family ?_)
local macro_rules | `(tactic| decreasing_trivial_pre_omega) => `(tactic| with_reducible refine kz_marks ?_)
local macro_rules | `(tactic| decreasing_trivial_pre_omega) => `(tactic| with_reducible refine kz_yes ?_)
local macro_rules | `(tactic| decreasing_trivial_pre_omega) => `(tactic| with_reducible refine kz_no ?_)
local macro_rules | `(tactic| decreasing_trivial_pre_omega) => `(tactic| with_reducible refine kz_digits ?_)
local macro_rules | `(tactic| decreasing_trivial_pre_omega) => `(tactic| with_reducible refine kz_point ?_)
local macro_rules | `(tactic| decreasing_trivial_pre_omega) => `(tactic| with_reducible refine kz_keep ?_)
local macro_rules | `(tactic| decreasing_trivial_pre_omega) => `(tactic| with_reducible refine v_lenSet ?_)
local macro_rules | `(tactic| decreasing_trivial_pre_omega) => `(tactic| with_reducible refine kz_parts ?_)
local macro_rules | `(tactic| decreasing_trivial_pre_omega) => `(tactic| with_reducible refine bz_kinds ?_)
local macro_rules | `(tactic| decreasing_trivial_pre_omega) => `(tactic| with_reducible refine bz_spare ?_)
local macro_rules | `(tactic| decreasing_trivial_pre_omega) => `(tactic| with_reducible refine bz_joined ?_)
local macro_rules | `(tactic| decreasing_trivial_pre_omega) => `(tactic| with_reducible refine bz_mark ?_)
local macro_rules | `(tactic| decreasing_trivial_pre_omega) => `(tactic| with_reducible refine bz_meth (by decide) ?_)
local macro_rules | `(tactic| decreasing_trivial_pre_omega) => `(tactic| with_reducible refine lz_book ?_)
local macro_rules | `(tactic| decreasing_trivial_pre_omega) => `(tactic| with_reducible refine lz_name ?_)
local macro_rules | `(tactic| decreasing_trivial_pre_omega) => `(tactic| with_reducible refine lz_kind ?_)
local macro_rules | `(tactic| decreasing_trivial_pre_omega) => `(tactic| with_reducible refine v_intO ?_)
local macro_rules | `(tactic| decreasing_trivial_pre_omega) => `(tactic| with_reducible refine v_gh ?_)
local macro_rules | `(tactic| decreasing_trivial_pre_omega) => `(tactic| with_reducible refine v_sp0 ?_)
local macro_rules | `(tactic| decreasing_trivial_pre_omega) => `(tactic| with_reducible refine v_sp1 ?_)
local macro_rules | `(tactic| decreasing_trivial_pre_omega) => `(tactic| with_reducible refine v_sp2 ?_)
local macro_rules | `(tactic| decreasing_trivial_pre_omega) => `(tactic| with_reducible refine v_sp3 ?_)
local macro_rules | `(tactic| decreasing_trivial_pre_omega) => `(tactic| with_reducible refine v_sp4 ?_)
local macro_rules | `(tactic| decreasing_trivial_pre_omega) => `(tactic| with_reducible refine v_sp5 ?_)
local macro_rules | `(tactic| decreasing_trivial_pre_omega) => `(tactic| with_reducible refine v_op0 ?_)
local macro_rules | `(tactic| decreasing_trivial_pre_omega) => `(tactic| with_reducible refine v_op1 ?_)
local macro_rules | `(tactic| decreasing_trivial_pre_omega) => `(tactic| with_reducible refine v_op4 ?_)
local macro_rules | `(tactic| decreasing_trivial_pre_omega) => `(tactic| with_reducible refine v_op5 ?_)
local macro_rules | `(tactic| decreasing_trivial_pre_omega) => `(tactic| with_reducible refine v_onN ?_)
local macro_rules | `(tactic| decreasing_trivial_pre_omega) => `(tactic| with_reducible refine v_onS ?_)
local macro_rules | `(tactic| decreasing_trivial_pre_omega) => `(tactic| with_reducible refine v_nonN ?_)
local macro_rules | `(tactic| decreasing_trivial_pre_omega) => `(tactic| with_reducible refine v_nonS ?_)
/-! ### the table of joins, as the law makes it -/
theorem pair_in {trs : List T3} {t : T3} (h : t ∈ trs) : ∃ t', pairT trs t.1 t.2.1 = some t' := by
  cases e : pairT trs t.1 t.2.1 with
  | some t' => exact ⟨t', rfl⟩
  | none => unfold pairT at e; rw [List.find?_eq_none] at e; exact absurd (decide_eq_true ⟨rfl, rfl⟩) (e t h)
theorem v_trip0 {t : T3} {C : Cl} {Q : DQ} (h : Q (.str t.1) C) : rIx (tripD t) (.int 0) C Q := v_ixT (l := [.str t.1, .str t.2.1, .str t.2.2]) (by with_unfolding_all rfl) h
theorem v_trip1 {t : T3} {C : Cl} {Q : DQ} (h : Q (.str t.2.1) C) : rIx (tripD t) (.int 1) C Q := v_ixT (l := [.str t.1, .str t.2.1, .str t.2.2]) (by with_unfolding_all rfl) h
local macro_rules | `(tactic| decreasing_trivial_pre_omega) => `(tactic| with_reducible refine v_trip0 ?_)
local macro_rules | `(tactic| decreasing_trivial_pre_omega) => `(tactic| with_reducible refine v_trip1 ?_)
theorem OkS.okT {ks : List KindR} {L : Nat} {trs : List T3} (h : OkS ks L) (h1 : 1 ≤ ks.length) (h7 : ks.length ≤ 7) (hj : OkTs ks trs) : OkB ks trs :=
  let o := h.okb h1 h7 okT0
  ⟨h1, h7, h.nd, o.nm, h.has, o.mks, hj⟩
end G
namespace G
open PySem PySem.Spec PyProof.Rows L2
local macro_rules | `(tactic| sizeOf_list_dec) => `(tactic| exact szl (by first | omega | (simp only [List.length_append, List.length_cons, List.length_nil, List.length_map, List.length_reverse, List.length_singleton, txts_lenG]; omega) | (simp only [List.length_append, List.length_cons, List.length_nil, List.length_map, List.length_reverse, txts_lenG]; omega)))
local macro_rules | `(tactic| array_get_dec) => `(tactic| first | with_reducible refine v_seq ?_ | with_reducible refine v_next ?_ | with_reducible refine v_asg ?_ | (with_reducible refine v_isvar ?_; first | with_reducible refine v_var0 ?_ | with_reducible refine v_var1 ?_ | with_reducible refine v_var2 ?_ | with_reducible refine v_var3 ?_ | with_reducible refine v_var4 ?_ | with_reducible refine v_var5 ?_ | with_reducible refine v_var6 ?_ | with_reducible refine v_var7 ?_ | with_reducible refine v_var8 ?_ | with_reducible refine v_var9 ?_ | with_reducible refine v_var10 ?_ | with_reducible refine v_var11 ?_ | with_reducible refine v_var12 ?_ | with_reducible refine v_var13 ?_ | with_reducible refine v_var14 ?_ | with_reducible refine v_var15 ?_ | with_reducible refine v_var16 ?_ | with_reducible refine v_var17 ?_ | with_reducible refine v_var18 ?_ | with_reducible refine v_var19 ?_ | with_reducible refine v_var20 ?_ | with_reducible refine v_var21 ?_ | with_reducible refine v_var22 ?_ | with_reducible refine v_var23 ?_ | with_reducible refine v_var24 ?_ | with_reducible refine v_var25 ?_) | (with_reducible refine v_isname ?_; first | with_reducible refine v_name0 ?_ | with_reducible refine v_wname0 ?_ | with_reducible refine v_name1 ?_ | with_reducible refine v_wname1 ?_ | with_reducible refine v_name2 ?_ | with_reducible refine v_wname2 ?_ | with_reducible refine v_name3 ?_ | with_reducible refine v_wname3 ?_ | with_reducible refine v_name4 ?_ | with_reducible refine v_wname4 ?_ | with_reducible refine v_name5 ?_ | with_reducible refine v_wname5 ?_ | with_reducible refine v_name6 ?_ | with_reducible refine v_wname6 ?_ | with_reducible refine v_name7 ?_ | with_reducible refine v_wname7 ?_ | with_reducible refine v_name8 ?_ | with_reducible refine v_wname8 ?_ | with_reducible refine v_name9 ?_ | with_reducible refine v_wname9 ?_ | with_reducible refine v_name10 ?_ | with_reducible refine v_wname10 ?_ | with_reducible refine v_name11 ?_ | with_reducible refine v_wname11 ?_ | with_reducible refine v_name12 ?_ | with_reducible refine v_wname12 ?_ | with_reducible refine v_name13 ?_ | with_reducible refine v_wname13 ?_ | with_reducible refine v_name14 ?_ | with_reducible refine v_wname14 ?_ | with_reducible refine v_name15 ?_ | with_reducible refine v_wname15 ?_ | with_reducible refine v_name16 ?_ | with_reducible refine v_wname16 ?_ | with_reducible refine v_name17 ?_ | with_reducible refine v_wname17 ?_ | with_reducible refine v_name18 ?_ | with_reducible refine v_wname18 ?_ | with_reducible refine v_name19 ?_ | with_reducible refine v_wname19 ?_ | with_reducible refine v_name20 ?_ | with_reducible refine v_wname20 ?_ | with_reducible refine v_name21 ?_ | with_reducible refine v_wname21 ?_ | with_reducible refine v_name22 ?_ | with_reducible refine v_wname22 ?_ | with_reducible refine v_name23 ?_ | with_reducible refine v_wname23 ?_ | with_reducible refine v_name24 ?_ | with_reducible refine v_wname24 ?_ | with_reducible refine v_name25 ?_ | with_reducible refine v_wname25 ?_) | with_reducible refine v_drop ?_ | with_reducible refine v_ret ?_ | with_reducible refine v_ifS ?_ | with_reducible refine v_test ?_ | with_reducible refine v_bl ?_ | with_reducible refine v_const ?_ | with_reducible refine v_op ?_ | with_reducible refine v_cb ?_ | with_reducible refine v_nil ?_ | with_reducible refine v_cons ?_ | with_reducible refine v_fld ?_ | with_reducible refine v_meth ?_ | with_reducible refine v_cal ?_ | with_reducible refine v_call0 ?_ | with_reducible refine v_pos2 ?_ | with_reducible refine v_tt ?_ | with_reducible refine v_ff ?_ | with_reducible refine v_ntt ?_ | with_reducible refine v_nff ?_ | with_reducible refine v_dnot ?_ | with_reducible refine v_dand ?_ | with_reducible refine v_dor ?_ | with_reducible refine v_andV ?_ | with_reducible refine v_orV ?_ | with_reducible refine v_notV ?_ | with_reducible refine v_ifE ?_ | with_reducible refine v_bm0 ?_ | with_reducible refine v_eqS ?_ | with_reducible refine v_eqI ?_ | with_reducible refine v_neS ?_ | with_reducible refine v_neI ?_ | with_reducible refine v_eqB ?_ | with_reducible refine v_neB ?_ | with_reducible refine v_isNn ?_ | with_reducible refine v_isNs ?_ | with_reducible refine v_isNi ?_ | with_reducible refine v_isNt ?_ | with_reducible refine v_notNn ?_ | with_reducible refine v_notNs ?_ | with_reducible refine v_notNi ?_ | with_reducible refine v_notNt ?_ | with_reducible refine v_isN ?_ | with_reducible refine v_notN ?_ | with_reducible refine v_lt ?_ | with_reducible refine v_le ?_ | with_reducible refine v_gt ?_ | with_reducible refine v_ge ?_ | with_reducible refine v_addI ?_ | with_reducible refine v_subI ?_ | with_reducible refine v_lenT ?_ | with_reducible refine v_lenL ?_ | with_reducible refine v_chain ?_ | with_reducible refine v_un ?_ | with_reducible refine v_tup ?_ | with_reducible refine v_lst ?_ | with_reducible refine v_lstC ?_ | with_reducible refine v_gsub ?_ | with_reducible refine v_rng1 ?_ | with_reducible refine v_rng2 ?_ | with_reducible refine v_slice ?_ | with_reducible refine v_nopart ?_ | with_reducible refine v_part ?_ | with_reducible refine v_partI ?_ | with_reducible refine v_slT ?_ | with_reducible refine v_slL ?_ | with_reducible refine v_rev ?_ | with_reducible refine v_revO ?_ | with_reducible refine v_enumS ?_ | with_reducible refine v_enumL ?_ | with_reducible refine v_enumT ?_ | with_reducible refine v_zipS ?_ | with_reducible refine v_revL ?_ | with_reducible refine v_revT ?_ | with_reducible refine v_putT ?_ | with_reducible refine v_putK ?_ | with_reducible refine v_inT ?_ | with_reducible refine v_getT ?_ | with_reducible refine v_get2T ?_ | with_reducible refine v_make ?_ | with_reducible refine v_fldSet ?_ | with_reducible refine v_forL ?_ | with_reducible refine v_forT ?_ | with_reducible refine v_forS ?_ | with_reducible refine v_lstO ?_ | with_reducible refine v_rolO ?_ | with_reducible refine v_tupO ?_ | with_reducible refine v_strO ?_ | with_reducible refine v_listT ?_ | with_reducible refine v_listL ?_ | with_reducible refine v_tupleL ?_ | with_reducible refine v_tupleT ?_ | with_reducible refine v_isiS ?_ | with_reducible refine v_isiT ?_ | with_reducible refine v_isiL ?_ | with_reducible refine v_allM ?_ | with_reducible refine v_anyM ?_ | with_reducible refine v_eqNS ?_ | with_reducible refine v_neNS ?_ | with_reducible refine v_gcons ?_ | with_reducible refine v_gnil ?_ | with_reducible refine v_par2 ?_ | with_reducible refine v_par33 ?_ | with_reducible refine v_retN ?_ | with_reducible refine v_sameS ?_ | with_reducible refine v_sameB ?_ | with_reducible refine v_sameI ?_ | with_reducible refine v_sameN ?_ | with_reducible refine v_sameT ?_ | with_reducible refine v_sameL ?_ | with_reducible refine v_endN ?_ | with_reducible refine v_bm ?_ | with_reducible refine v_tystr ?_ | with_reducible refine v_break ?_ | with_reducible refine v_cont ?_ | ((with_reducible refine v_slS ?_ ?_); sizeOf_list_dec) | ((with_reducible refine v_lenS ?_ ?_); sizeOf_list_dec) | ((with_reducible refine v_addS ?_ ?_); sizeOf_list_dec) | ((with_reducible refine v_addT ?_ ?_); sizeOf_list_dec) | ((with_reducible refine v_addL ?_ ?_); sizeOf_list_dec) | (with_reducible refine v_par _ _ ?_) | (with_reducible refine v_par3 _ _ _ ?_) | ((with_reducible refine v_gtup ?_ ?_); rfl) | with_reducible refine v_ixT (by with_unfolding_all rfl) ?_ | with_reducible refine v_ixL (by with_unfolding_all rfl) ?_ | with_reducible refine v_ixR (by with_unfolding_all rfl) ?_ | ((with_reducible refine v_ixS ?_ (by with_unfolding_all rfl) ?_); sizeOf_list_dec) | ((with_reducible refine And.intro ?_ ?_); sizeOf_list_dec) | with_reducible refine v_dt (by first | assumption | with_unfolding_all rfl | omega | (simp only [List.length_map, List.length_append, List.length_cons, List.length_nil, List.length_reverse, txts_lenG]; first | done | omega)) ?_ | with_reducible refine v_ndt (by first | assumption | with_unfolding_all rfl | omega | (simp only [List.length_map, List.length_append, List.length_cons, List.length_nil, List.length_reverse, txts_lenG]; first | done | omega)) ?_ | with_reducible refine v_df (by first | assumption | omega | (with_unfolding_all decide) | (simp only [List.length_map, List.length_append, List.length_cons, List.length_nil, List.length_reverse, txts_lenG]; first | done | omega)) ?_ | with_reducible refine v_ndf (by first | assumption | omega | (with_unfolding_all decide) | (simp only [List.length_map, List.length_append, List.length_cons, List.length_nil, List.length_reverse, txts_lenG]; first | done | omega)) ?_ | decreasing_trivial_pre_omega | ((with_reducible refine v_isname ?_); dsimp only [wipeD, List.set]) | ((with_reducible refine v_isvar ?_); dsimp only [wipeD, List.set]))
local macro_rules | `(tactic| array_mem_dec) => `(tactic| repeat array_get_dec)
local macro_rules | `(tactic| bv_omega) => `(tactic| repeat' (first | array_get_dec | with_reducible refine ite_d (fun _ => ?_) (fun _ => ?_) | with_reducible refine ite_nd (fun _ => ?_) (fun _ => ?_) | with_reducible refine ite_b (fun _ => ?_) (fun _ => ?_) | with_reducible refine ite_nb (fun _ => ?_) (fun _ => ?_)))
local macro_rules | `(tactic| decreasing_trivial_pre_omega) => `(tactic| with_reducible refine kz_name ?_)
local macro_rules | `(tactic| decreasing_trivial_pre_omega) => `(tactic| with_reducible refine kz_family ?_)
local macro_rules | `(tactic| decreasing_trivial_pre_omega) => `(tactic| with_reducible refine kz_marks ?_)
local macro_rules | `(tactic| decreasing_trivial_pre_omega) => `(tactic| with_reducible refine kz_yes ?_)
local macro_rules | `(tactic| decreasing_trivial_pre_omega) => `(tactic| with_reducible refine kz_no ?_)
local macro_rules | `(tactic| decreasing_trivial_pre_omega) => `(tactic| with_reducible refine kz_digits ?_)
local macro_rules | `(tactic| decreasing_trivial_pre_omega) => `(tactic| with_reducible refine kz_point ?_)
local macro_rules | `(tactic| decreasing_trivial_pre_omega) => `(tactic| with_reducible refine kz_keep ?_)
local macro_rules | `(tactic| decreasing_trivial_pre_omega) => `(tactic| with_reducible refine v_lenSet ?_)
local macro_rules | `(tactic| decreasing_trivial_pre_omega) => `(tactic| with_reducible refine kz_parts ?_)
local macro_rules | `(tactic| decreasing_trivial_pre_omega) => `(tactic| with_reducible refine bz_kinds ?_)
local macro_rules | `(tactic| decreasing_trivial_pre_omega) => `(tactic| with_reducible refine bz_spare ?_)
local macro_rules | `(tactic| decreasing_trivial_pre_omega) => `(tactic| with_reducible refine bz_joined ?_)
local macro_rules | `(tactic| decreasing_trivial_pre_omega) => `(tactic| with_reducible refine bz_mark ?_)
local macro_rules | `(tactic| decreasing_trivial_pre_omega) => `(tactic| with_reducible refine bz_meth (by decide) ?_)
local macro_rules | `(tactic| decreasing_trivial_pre_omega) => `(tactic| with_reducible refine lz_book ?_)
local macro_rules | `(tactic| decreasing_trivial_pre_omega) => `(tactic| with_reducible refine lz_name ?_)
local macro_rules | `(tactic| decreasing_trivial_pre_omega) => `(tactic| with_reducible refine lz_kind ?_)
local macro_rules | `(tactic| decreasing_trivial_pre_omega) => `(tactic| with_reducible refine v_intO ?_)
local macro_rules | `(tactic| decreasing_trivial_pre_omega) => `(tactic| with_reducible refine v_gh ?_)
local macro_rules | `(tactic| decreasing_trivial_pre_omega) => `(tactic| with_reducible refine v_sp0 ?_)
local macro_rules | `(tactic| decreasing_trivial_pre_omega) => `(tactic| with_reducible refine v_sp1 ?_)
local macro_rules | `(tactic| decreasing_trivial_pre_omega) => `(tactic| with_reducible refine v_sp2 ?_)
local macro_rules | `(tactic| decreasing_trivial_pre_omega) => `(tactic| with_reducible refine v_sp3 ?_)
local macro_rules | `(tactic| decreasing_trivial_pre_omega) => `(tactic| with_reducible refine v_sp4 ?_)
local macro_rules | `(tactic| decreasing_trivial_pre_omega) => `(tactic| with_reducible refine v_sp5 ?_)
local macro_rules | `(tactic| decreasing_trivial_pre_omega) => `(tactic| with_reducible refine v_op0 ?_)
local macro_rules | `(tactic| decreasing_trivial_pre_omega) => `(tactic| with_reducible refine v_op1 ?_)
local macro_rules | `(tactic| decreasing_trivial_pre_omega) => `(tactic| with_reducible refine v_op4 ?_)
local macro_rules | `(tactic| decreasing_trivial_pre_omega) => `(tactic| with_reducible refine v_op5 ?_)
local macro_rules | `(tactic| decreasing_trivial_pre_omega) => `(tactic| with_reducible refine v_onN ?_)
local macro_rules | `(tactic| decreasing_trivial_pre_omega) => `(tactic| with_reducible refine v_onS ?_)
local macro_rules | `(tactic| decreasing_trivial_pre_omega) => `(tactic| with_reducible refine v_nonN ?_)
local macro_rules | `(tactic| decreasing_trivial_pre_omega) => `(tactic| with_reducible refine v_nonS ?_)
local macro_rules | `(tactic| decreasing_trivial_pre_omega) => `(tactic| with_reducible refine v_trip0 ?_)
local macro_rules | `(tactic| decreasing_trivial_pre_omega) => `(tactic| with_reducible refine v_trip1 ?_)
local macro_rules | `(tactic| decreasing_trivial_pre_omega) => `(tactic| with_reducible refine v_iList ?_)
local macro_rules | `(tactic| decreasing_trivial_pre_omega) => `(tactic| with_reducible refine v_iEnum ?_)
/-! ### kinds of columns -/
/-- all texts have a kind -/
def Owned (ks : List KindR) (ts : List (List Nat)) : Prop := ∀ t ∈ ts, t.length ≤ 1000000 ∧ ∃ k, ownK ks t = some k
local macro_rules | `(tactic| decreasing_trivial_pre_omega) => `(tactic| with_reducible refine v_prop ?_)
local macro_rules | `(tactic| decreasing_trivial_pre_omega) => `(tactic| with_reducible refine bk_prop ?_)
theorem Owned.of {ks : List KindR} {L : Nat} {ts : List (List Nat)} (h : OkS ks L) (ht : ∀ t ∈ ts, isText t = true ∧ t.length ≤ 1000000) : Owned ks ts := fun t hm => ⟨(ht t hm).2, h.own (ht t hm).1⟩
end G
namespace G
open PySem PySem.Spec PyProof.Rows L2
/-! ### numbers cut -/
def seenN (s d : Nat) : Nat := if 0 < s ∨ d ≠ 48 then s + 1 else s
/-- digits with zeros behind the first n significant ones; s: how many were seen -/
def cutG (n : Nat) : Nat → List Nat → List Nat
  | _, [] => []
  | s, d :: ds => (if seenN s d ≤ n then d else 48) :: cutG n (seenN s d) ds
theorem cutG_len (n : Nat) : ∀ (s : Nat) (l : List Nat), (cutG n s l).length = l.length
  | _, [] => rfl
  | s, d :: ds => congrArg (· + 1) (cutG_len n _ ds)
theorem cutG_dig (n : Nat) : ∀ (s : Nat) (l : List Nat), l.all isDig = true → (cutG n s l).all isDig = true
  | _, [], _ => rfl
  | s, d :: ds, h => by
    rw [List.all_cons, Bool.and_eq_true] at h
    unfold cutG
    rw [List.all_cons, cutG_dig n _ ds h.2, Bool.and_true]
    split
    · exact h.1
    · rfl
theorem cutG_app (n : Nat) : ∀ (s : Nat) (l r : List Nat), cutG n s (l ++ r) = cutG n s l ++ cutG n (l.foldl seenN s) r
  | _, [], _ => rfl
  | s, d :: ds, r => by
    show (if seenN s d ≤ n then d else 48) :: cutG n (seenN s d) (ds ++ r) = _
    rw [cutG_app n _ ds r]; rfl
theorem rdrop_zeros_ex : ∀ p : List Nat, ∃ k, p = rdrop isZ p ++ List.replicate k 48 := by
  intro p
  have : ∀ r : List Nat, ∃ k, r = List.replicate k 48 ++ r.dropWhile isZ := by
    intro r
    induction r with
    | nil => exact ⟨0, rfl⟩
    | cons c r ih =>
      by_cases hc : isZ c = true
      · obtain ⟨k, e⟩ := ih
        refine ⟨k + 1, ?_⟩
        rw [List.dropWhile_cons_of_pos hc, List.replicate_succ, List.cons_append, ← e, (isZ_iff c).mp hc]
      · exact ⟨0, by rw [List.dropWhile_cons_of_neg hc]; rfl⟩
  obtain ⟨k, e⟩ := this p.reverse
  refine ⟨k, ?_⟩
  have := congrArg List.reverse e
  rw [List.reverse_reverse, List.reverse_append, List.reverse_replicate] at this
  exact this
def cutA (n : Nat) (w p : List Nat) : List Nat := cutG n 0 (w ++ p)
def cutW (n : Nat) (w p : List Nat) : List Nat := (cutA n w p).take w.length
def cutP (n : Nat) (w p : List Nat) : List Nat := rdrop isZ ((cutA n w p).drop w.length)
theorem cutW_eq (n : Nat) (w p : List Nat) : cutW n w p = cutG n 0 w := by
  unfold cutW cutA
  rw [cutG_app, ← cutG_len n 0 w, List.take_left]
theorem whole_first {w : List Nat} (h : wholeN w = w) (hd : digs w = true) : ∃ c t, w = c :: t ∧ (c ≠ 48 ∨ t = []) := by
  obtain ⟨c, t, rfl, _⟩ := dig_head hd
  refine ⟨c, t, rfl, ?_⟩
  by_cases e : c = 48
  · right
    cases t with
    | nil => rfl
    | cons x y =>
      exfalso
      rw [wholeN_cons e (by simp)] at h
      have h2 : (wholeN (x :: y)).length ≤ (x :: y).length := by
        unfold wholeN
        split
        · exact dropWhile_le _ _
        · simp
      rw [h] at h2
      simp at h2
      omega
  · exact .inl e
theorem Canon.cut {s w p : List Nat} (h : Canon s w p) {n : Nat} (hn : 1 ≤ n) : Canon s (cutW n w p) (cutP n w p) := by
  obtain ⟨c, t, hw, hc⟩ := whole_first h.ww h.dw
  have dw := h.dw
  unfold digs at dw
  rw [Bool.and_eq_true] at dw
  have e1 : cutW n w p = c :: cutG n (seenN 0 c) t := by
    rw [cutW_eq, hw]
    have : (if seenN 0 c ≤ n then c else 48) = c := by
      by_cases e : c = 48
      · subst e; split <;> rfl
      · have sd : seenN 0 c = 1 := if_pos (.inr e)
        rw [sd, if_pos hn]
    show (if seenN 0 c ≤ n then c else 48) :: cutG n (seenN 0 c) t = _
    rw [this]
  refine ⟨h.sg, ?_, ?_, ?_, rdrop_idem _, ?_⟩
  · unfold digs
    rw [cutW_eq, cutG_dig _ _ _ dw.2, decide_eq_true]
    · rfl
    · intro z
      have := congrArg List.length z
      rw [cutG_len, hw] at this
      simp at this
  · rw [e1]
    rcases hc with hc | rfl
    · exact wholeN_same hc
    · exact wholeN_one
  · refine all_rdrop ?_
    have : (cutA n w p).all isDig = true := cutG_dig _ _ _ (by rw [List.all_append, dw.2, h.dp]; rfl)
    rw [List.all_eq_true] at this ⊢
    intro x hx
    exact this x (List.mem_of_mem_drop hx)
  · rintro ⟨z1, z2, z3⟩
    rw [e1] at z2
    injection z2 with c0 t0
    have ht : t = [] := by
      have := congrArg List.length t0
      rw [cutG_len] at this
      exact List.length_eq_zero_iff.mp this
    subst ht
    have hp : p ≠ [] := fun z => h.nz ⟨z1, by rw [hw, c0], z⟩
    have e2 : (cutA n w p).drop w.length = cutG n 0 p := by
      unfold cutA
      rw [hw, c0]
      rfl
    unfold cutP at z3
    rw [e2] at z3
    have all0 : ∀ (l : List Nat), rdrop isZ (cutG n 0 l) = [] → ∃ k, l = List.replicate k 48 := by
      intro l
      induction l with
      | nil => exact fun _ => ⟨0, rfl⟩
      | cons d ds ih =>
        intro z
        by_cases e : d = 48
        · subst e
          have e3 : cutG n 0 (48 :: ds) = 48 :: cutG n 0 ds := by
            show (if seenN 0 48 ≤ n then 48 else 48) :: cutG n (seenN 0 48) ds = _
            rw [show seenN 0 48 = 0 from rfl]
            split <;> rfl
          rw [e3] at z
          have z2 : rdrop isZ (cutG n 0 ds) = [] := by
            obtain ⟨k, e4⟩ := rdrop_zeros_ex (48 :: cutG n 0 ds)
            rw [z, List.nil_append] at e4
            cases k with
            | zero => cases e4
            | succ k =>
              rw [List.replicate_succ] at e4
              injection e4 with _ e4
              rw [e4]
              have := rdrop_zeros [] k
              rw [List.nil_append] at this
              rw [this]; rfl
          obtain ⟨k, e5⟩ := ih z2
          exact ⟨k + 1, by rw [List.replicate_succ, e5]⟩
        · exfalso
          obtain ⟨k, e4⟩ := rdrop_zeros_ex (cutG n 0 (d :: ds))
          rw [z, List.nil_append] at e4
          have : cutG n 0 (d :: ds) = d :: cutG n 1 ds := by
            have sd : seenN 0 d = 1 := if_pos (.inr e)
            show (if seenN 0 d ≤ n then d else 48) :: cutG n (seenN 0 d) ds = _
            rw [sd, if_pos hn]
          rw [this] at e4
          cases k with
          | zero => cases e4
          | succ k =>
            rw [List.replicate_succ] at e4
            injection e4 with e4 _
            exact e e4
    obtain ⟨k, e6⟩ := all0 p z3
    have := h.pp
    rw [e6] at this
    have e7 := rdrop_zeros [] k
    rw [List.nil_append] at e7
    rw [e7] at this
    have : ([] : List Nat) = List.replicate k 48 := this
    rw [← this] at e6
    exact hp e6
end G
namespace G
open PySem PySem.Spec PyProof.Rows L2
local macro_rules | `(tactic| sizeOf_list_dec) => `(tactic| exact szl (by first | omega | (simp only [List.length_append, List.length_cons, List.length_nil, List.length_map, List.length_reverse, List.length_singleton, txts_lenG]; omega) | (simp only [List.length_append, List.length_cons, List.length_nil, List.length_map, List.length_reverse, txts_lenG]; omega)))
local macro_rules | `(tactic| array_get_dec) => `(tactic| first | with_reducible refine v_seq ?_ | with_reducible refine v_next ?_ | with_reducible refine v_asg ?_ | (with_reducible refine v_isvar ?_; first | with_reducible refine v_var0 ?_ | with_reducible refine v_var1 ?_ | with_reducible refine v_var2 ?_ | with_reducible refine v_var3 ?_ | with_reducible refine v_var4 ?_ | with_reducible refine v_var5 ?_ | with_reducible refine v_var6 ?_ | with_reducible refine v_var7 ?_ | with_reducible refine v_var8 ?_ | with_reducible refine v_var9 ?_ | with_reducible refine v_var10 ?_ | with_reducible refine v_var11 ?_ | with_reducible refine v_var12 ?_ | with_reducible refine v_var13 ?_ | with_reducible refine v_var14 ?_ | with_reducible refine v_var15 ?_ | with_reducible refine v_var16 ?_ | with_reducible refine v_var17 ?_ | with_reducible refine v_var18 ?_ | with_reducible refine v_var19 ?_ | with_reducible refine v_var20 ?_ | with_reducible refine v_var21 ?_ | with_reducible refine v_var22 ?_ | with_reducible refine v_var23 ?_ | with_reducible refine v_var24 ?_ | with_reducible refine v_var25 ?_) | (with_reducible refine v_isname ?_; first | with_reducible refine v_name0 ?_ | with_reducible refine v_wname0 ?_ | with_reducible refine v_name1 ?_ | with_reducible refine v_wname1 ?_ | with_reducible refine v_name2 ?_ | with_reducible refine v_wname2 ?_ | with_reducible refine v_name3 ?_ | with_reducible refine v_wname3 ?_ | with_reducible refine v_name4 ?_ | with_reducible refine v_wname4 ?_ | with_reducible refine v_name5 ?_ | with_reducible refine v_wname5 ?_ | with_reducible refine v_name6 ?_ | with_reducible refine v_wname6 ?_ | with_reducible refine v_name7 ?_ | with_reducible refine v_wname7 ?_ | with_reducible refine v_name8 ?_ | with_reducible refine v_wname8 ?_ | with_reducible refine v_name9 ?_ | with_reducible refine v_wname9 ?_ | with_reducible refine v_name10 ?_ | with_reducible refine v_wname10 ?_ | with_reducible refine v_name11 ?_ | with_reducible refine v_wname11 ?_ | with_reducible refine v_name12 ?_ | with_reducible refine v_wname12 ?_ | with_reducible refine v_name13 ?_ | with_reducible refine v_wname13 ?_ | with_reducible refine v_name14 ?_ | with_reducible refine v_wname14 ?_ | with_reducible refine v_name15 ?_ | with_reducible refine v_wname15 ?_ | with_reducible refine v_name16 ?_ | with_reducible refine v_wname16 ?_ | with_reducible refine v_name17 ?_ | with_reducible refine v_wname17 ?_ | with_reducible refine v_name18 ?_ | with_reducible refine v_wname18 ?_ | with_reducible refine v_name19 ?_ | with_reducible refine v_wname19 ?_ | with_reducible refine v_name20 ?_ | with_reducible refine v_wname20 ?_ | with_reducible refine v_name21 ?_ | with_reducible refine v_wname21 ?_ | with_reducible refine v_name22 ?_ | with_reducible refine v_wname22 ?_ | with_reducible refine v_name23 ?_ | with_reducible refine v_wname23 ?_ | with_reducible refine v_name24 ?_ | with_reducible refine v_wname24 ?_ | with_reducible refine v_name25 ?_ | with_reducible refine v_wname25 ?_) | with_reducible refine v_drop ?_ | with_reducible refine v_ret ?_ | with_reducible refine v_ifS ?_ | with_reducible refine v_test ?_ | with_reducible refine v_bl ?_ | with_reducible refine v_const ?_ | with_reducible refine v_op ?_ | with_reducible refine v_cb ?_ | with_reducible refine v_nil ?_ | with_reducible refine v_cons ?_ | with_reducible refine v_fld ?_ | with_reducible refine v_meth ?_ | with_reducible refine v_cal ?_ | with_reducible refine v_call0 ?_ | with_reducible refine v_pos2 ?_ | with_reducible refine v_tt ?_ | with_reducible refine v_ff ?_ | with_reducible refine v_ntt ?_ | with_reducible refine v_nff ?_ | with_reducible refine v_dnot ?_ | with_reducible refine v_dand ?_ | with_reducible refine v_dor ?_ | with_reducible refine v_andV ?_ | with_reducible refine v_orV ?_ | with_reducible refine v_notV ?_ | with_reducible refine v_ifE ?_ | with_reducible refine v_bm0 ?_ | with_reducible refine v_eqS ?_ | with_reducible refine v_eqI ?_ | with_reducible refine v_neS ?_ | with_reducible refine v_neI ?_ | with_reducible refine v_eqB ?_ | with_reducible refine v_neB ?_ | with_reducible refine v_isNn ?_ | with_reducible refine v_isNs ?_ | with_reducible refine v_isNi ?_ | with_reducible refine v_isNt ?_ | with_reducible refine v_notNn ?_ | with_reducible refine v_notNs ?_ | with_reducible refine v_notNi ?_ | with_reducible refine v_notNt ?_ | with_reducible refine v_isN ?_ | with_reducible refine v_notN ?_ | with_reducible refine v_lt ?_ | with_reducible refine v_le ?_ | with_reducible refine v_gt ?_ | with_reducible refine v_ge ?_ | with_reducible refine v_addI ?_ | with_reducible refine v_subI ?_ | with_reducible refine v_lenT ?_ | with_reducible refine v_lenL ?_ | with_reducible refine v_chain ?_ | with_reducible refine v_un ?_ | with_reducible refine v_tup ?_ | with_reducible refine v_lst ?_ | with_reducible refine v_lstC ?_ | with_reducible refine v_gsub ?_ | with_reducible refine v_rng1 ?_ | with_reducible refine v_rng2 ?_ | with_reducible refine v_slice ?_ | with_reducible refine v_nopart ?_ | with_reducible refine v_part ?_ | with_reducible refine v_partI ?_ | with_reducible refine v_slT ?_ | with_reducible refine v_slL ?_ | with_reducible refine v_rev ?_ | with_reducible refine v_revO ?_ | with_reducible refine v_enumS ?_ | with_reducible refine v_enumL ?_ | with_reducible refine v_enumT ?_ | with_reducible refine v_zipS ?_ | with_reducible refine v_revL ?_ | with_reducible refine v_revT ?_ | with_reducible refine v_putT ?_ | with_reducible refine v_putK ?_ | with_reducible refine v_inT ?_ | with_reducible refine v_getT ?_ | with_reducible refine v_get2T ?_ | with_reducible refine v_make ?_ | with_reducible refine v_fldSet ?_ | with_reducible refine v_forL ?_ | with_reducible refine v_forT ?_ | with_reducible refine v_forS ?_ | with_reducible refine v_lstO ?_ | with_reducible refine v_rolO ?_ | with_reducible refine v_tupO ?_ | with_reducible refine v_strO ?_ | with_reducible refine v_listT ?_ | with_reducible refine v_listL ?_ | with_reducible refine v_tupleL ?_ | with_reducible refine v_tupleT ?_ | with_reducible refine v_isiS ?_ | with_reducible refine v_isiT ?_ | with_reducible refine v_isiL ?_ | with_reducible refine v_allM ?_ | with_reducible refine v_anyM ?_ | with_reducible refine v_eqNS ?_ | with_reducible refine v_neNS ?_ | with_reducible refine v_gcons ?_ | with_reducible refine v_gnil ?_ | with_reducible refine v_par2 ?_ | with_reducible refine v_par33 ?_ | with_reducible refine v_retN ?_ | with_reducible refine v_sameS ?_ | with_reducible refine v_sameB ?_ | with_reducible refine v_sameI ?_ | with_reducible refine v_sameN ?_ | with_reducible refine v_sameT ?_ | with_reducible refine v_sameL ?_ | with_reducible refine v_endN ?_ | with_reducible refine v_bm ?_ | with_reducible refine v_tystr ?_ | with_reducible refine v_break ?_ | with_reducible refine v_cont ?_ | ((with_reducible refine v_slS ?_ ?_); sizeOf_list_dec) | ((with_reducible refine v_lenS ?_ ?_); sizeOf_list_dec) | ((with_reducible refine v_addS ?_ ?_); sizeOf_list_dec) | ((with_reducible refine v_addT ?_ ?_); sizeOf_list_dec) | ((with_reducible refine v_addL ?_ ?_); sizeOf_list_dec) | (with_reducible refine v_par _ _ ?_) | (with_reducible refine v_par3 _ _ _ ?_) | ((with_reducible refine v_gtup ?_ ?_); rfl) | with_reducible refine v_ixT (by with_unfolding_all rfl) ?_ | with_reducible refine v_ixL (by with_unfolding_all rfl) ?_ | with_reducible refine v_ixR (by with_unfolding_all rfl) ?_ | ((with_reducible refine v_ixS ?_ (by with_unfolding_all rfl) ?_); sizeOf_list_dec) | ((with_reducible refine And.intro ?_ ?_); sizeOf_list_dec) | with_reducible refine v_dt (by first | assumption | with_unfolding_all rfl | omega | (simp only [List.length_map, List.length_append, List.length_cons, List.length_nil, List.length_reverse, txts_lenG]; first | done | omega)) ?_ | with_reducible refine v_ndt (by first | assumption | with_unfolding_all rfl | omega | (simp only [List.length_map, List.length_append, List.length_cons, List.length_nil, List.length_reverse, txts_lenG]; first | done | omega)) ?_ | with_reducible refine v_df (by first | assumption | omega | (with_unfolding_all decide) | (simp only [List.length_map, List.length_append, List.length_cons, List.length_nil, List.length_reverse, txts_lenG]; first | done | omega)) ?_ | with_reducible refine v_ndf (by first | assumption | omega | (with_unfolding_all decide) | (simp only [List.length_map, List.length_append, List.length_cons, List.length_nil, List.length_reverse, txts_lenG]; first | done | omega)) ?_ | decreasing_trivial_pre_omega | ((with_reducible refine v_isname ?_); dsimp only [wipeD, List.set]) | ((with_reducible refine v_isvar ?_); dsimp only [wipeD, List.set]))
local macro_rules | `(tactic| array_mem_dec) => `(tactic| repeat array_get_dec)
local macro_rules | `(tactic| bv_omega) => `(tactic| repeat' (first | array_get_dec | with_reducible refine ite_d (fun _ => ?_) (fun _ => ?_) | with_reducible refine ite_nd (fun _ => ?_) (fun _ => ?_) | with_reducible refine ite_b (fun _ => ?_) (fun _ => ?_) | with_reducible refine ite_nb (fun _ => ?_) (fun _ => ?_)))
/-! ### cut_number -/
end G
namespace G
open PySem PySem.Spec PyProof.Rows L2
local macro_rules | `(tactic| sizeOf_list_dec) => `(tactic| exact szl (by first | omega | (simp only [List.length_append, List.length_cons, List.length_nil, List.length_map, List.length_reverse, List.length_singleton, txts_lenG]; omega) | (simp only [List.length_append, List.length_cons, List.length_nil, List.length_map, List.length_reverse, txts_lenG]; omega)))
local macro_rules | `(tactic| array_get_dec) => `(tactic| first | with_reducible refine v_seq ?_ | with_reducible refine v_next ?_ | with_reducible refine v_asg ?_ | (with_reducible refine v_isvar ?_; first | with_reducible refine v_var0 ?_ | with_reducible refine v_var1 ?_ | with_reducible refine v_var2 ?_ | with_reducible refine v_var3 ?_ | with_reducible refine v_var4 ?_ | with_reducible refine v_var5 ?_ | with_reducible refine v_var6 ?_ | with_reducible refine v_var7 ?_ | with_reducible refine v_var8 ?_ | with_reducible refine v_var9 ?_ | with_reducible refine v_var10 ?_ | with_reducible refine v_var11 ?_ | with_reducible refine v_var12 ?_ | with_reducible refine v_var13 ?_ | with_reducible refine v_var14 ?_ | with_reducible refine v_var15 ?_ | with_reducible refine v_var16 ?_ | with_reducible refine v_var17 ?_ | with_reducible refine v_var18 ?_ | with_reducible refine v_var19 ?_ | with_reducible refine v_var20 ?_ | with_reducible refine v_var21 ?_ | with_reducible refine v_var22 ?_ | with_reducible refine v_var23 ?_ | with_reducible refine v_var24 ?_ | with_reducible refine v_var25 ?_) | (with_reducible refine v_isname ?_; first | with_reducible refine v_name0 ?_ | with_reducible refine v_wname0 ?_ | with_reducible refine v_name1 ?_ | with_reducible refine v_wname1 ?_ | with_reducible refine v_name2 ?_ | with_reducible refine v_wname2 ?_ | with_reducible refine v_name3 ?_ | with_reducible refine v_wname3 ?_ | with_reducible refine v_name4 ?_ | with_reducible refine v_wname4 ?_ | with_reducible refine v_name5 ?_ | with_reducible refine v_wname5 ?_ | with_reducible refine v_name6 ?_ | with_reducible refine v_wname6 ?_ | with_reducible refine v_name7 ?_ | with_reducible refine v_wname7 ?_ | with_reducible refine v_name8 ?_ | with_reducible refine v_wname8 ?_ | with_reducible refine v_name9 ?_ | with_reducible refine v_wname9 ?_ | with_reducible refine v_name10 ?_ | with_reducible refine v_wname10 ?_ | with_reducible refine v_name11 ?_ | with_reducible refine v_wname11 ?_ | with_reducible refine v_name12 ?_ | with_reducible refine v_wname12 ?_ | with_reducible refine v_name13 ?_ | with_reducible refine v_wname13 ?_ | with_reducible refine v_name14 ?_ | with_reducible refine v_wname14 ?_ | with_reducible refine v_name15 ?_ | with_reducible refine v_wname15 ?_ | with_reducible refine v_name16 ?_ | with_reducible refine v_wname16 ?_ | with_reducible refine v_name17 ?_ | with_reducible refine v_wname17 ?_ | with_reducible refine v_name18 ?_ | with_reducible refine v_wname18 ?_ | with_reducible refine v_name19 ?_ | with_reducible refine v_wname19 ?_ | with_reducible refine v_name20 ?_ | with_reducible refine v_wname20 ?_ | with_reducible refine v_name21 ?_ | with_reducible refine v_wname21 ?_ | with_reducible refine v_name22 ?_ | with_reducible refine v_wname22 ?_ | with_reducible refine v_name23 ?_ | with_reducible refine v_wname23 ?_ | with_reducible refine v_name24 ?_ | with_reducible refine v_wname24 ?_ | with_reducible refine v_name25 ?_ | with_reducible refine v_wname25 ?_) | with_reducible refine v_drop ?_ | with_reducible refine v_ret ?_ | with_reducible refine v_ifS ?_ | with_reducible refine v_test ?_ | with_reducible refine v_bl ?_ | with_reducible refine v_const ?_ | with_reducible refine v_op ?_ | with_reducible refine v_cb ?_ | with_reducible refine v_nil ?_ | with_reducible refine v_cons ?_ | with_reducible refine v_fld ?_ | with_reducible refine v_meth ?_ | with_reducible refine v_cal ?_ | with_reducible refine v_call0 ?_ | with_reducible refine v_pos2 ?_ | with_reducible refine v_tt ?_ | with_reducible refine v_ff ?_ | with_reducible refine v_ntt ?_ | with_reducible refine v_nff ?_ | with_reducible refine v_dnot ?_ | with_reducible refine v_dand ?_ | with_reducible refine v_dor ?_ | with_reducible refine v_andV ?_ | with_reducible refine v_orV ?_ | with_reducible refine v_notV ?_ | with_reducible refine v_ifE ?_ | with_reducible refine v_bm0 ?_ | with_reducible refine v_eqS ?_ | with_reducible refine v_eqI ?_ | with_reducible refine v_neS ?_ | with_reducible refine v_neI ?_ | with_reducible refine v_eqB ?_ | with_reducible refine v_neB ?_ | with_reducible refine v_isNn ?_ | with_reducible refine v_isNs ?_ | with_reducible refine v_isNi ?_ | with_reducible refine v_isNt ?_ | with_reducible refine v_notNn ?_ | with_reducible refine v_notNs ?_ | with_reducible refine v_notNi ?_ | with_reducible refine v_notNt ?_ | with_reducible refine v_isN ?_ | with_reducible refine v_notN ?_ | with_reducible refine v_lt ?_ | with_reducible refine v_le ?_ | with_reducible refine v_gt ?_ | with_reducible refine v_ge ?_ | with_reducible refine v_addI ?_ | with_reducible refine v_subI ?_ | with_reducible refine v_lenT ?_ | with_reducible refine v_lenL ?_ | with_reducible refine v_chain ?_ | with_reducible refine v_un ?_ | with_reducible refine v_tup ?_ | with_reducible refine v_lst ?_ | with_reducible refine v_lstC ?_ | with_reducible refine v_gsub ?_ | with_reducible refine v_rng1 ?_ | with_reducible refine v_rng2 ?_ | with_reducible refine v_slice ?_ | with_reducible refine v_nopart ?_ | with_reducible refine v_part ?_ | with_reducible refine v_partI ?_ | with_reducible refine v_slT ?_ | with_reducible refine v_slL ?_ | with_reducible refine v_rev ?_ | with_reducible refine v_revO ?_ | with_reducible refine v_enumS ?_ | with_reducible refine v_enumL ?_ | with_reducible refine v_enumT ?_ | with_reducible refine v_zipS ?_ | with_reducible refine v_revL ?_ | with_reducible refine v_revT ?_ | with_reducible refine v_putT ?_ | with_reducible refine v_putK ?_ | with_reducible refine v_inT ?_ | with_reducible refine v_getT ?_ | with_reducible refine v_get2T ?_ | with_reducible refine v_make ?_ | with_reducible refine v_fldSet ?_ | with_reducible refine v_forL ?_ | with_reducible refine v_forT ?_ | with_reducible refine v_forS ?_ | with_reducible refine v_lstO ?_ | with_reducible refine v_rolO ?_ | with_reducible refine v_tupO ?_ | with_reducible refine v_strO ?_ | with_reducible refine v_listT ?_ | with_reducible refine v_listL ?_ | with_reducible refine v_tupleL ?_ | with_reducible refine v_tupleT ?_ | with_reducible refine v_isiS ?_ | with_reducible refine v_isiT ?_ | with_reducible refine v_isiL ?_ | with_reducible refine v_allM ?_ | with_reducible refine v_anyM ?_ | with_reducible refine v_eqNS ?_ | with_reducible refine v_neNS ?_ | with_reducible refine v_gcons ?_ | with_reducible refine v_gnil ?_ | with_reducible refine v_par2 ?_ | with_reducible refine v_par33 ?_ | with_reducible refine v_retN ?_ | with_reducible refine v_sameS ?_ | with_reducible refine v_sameB ?_ | with_reducible refine v_sameI ?_ | with_reducible refine v_sameN ?_ | with_reducible refine v_sameT ?_ | with_reducible refine v_sameL ?_ | with_reducible refine v_endN ?_ | with_reducible refine v_bm ?_ | with_reducible refine v_tystr ?_ | with_reducible refine v_break ?_ | with_reducible refine v_cont ?_ | ((with_reducible refine v_slS ?_ ?_); sizeOf_list_dec) | ((with_reducible refine v_lenS ?_ ?_); sizeOf_list_dec) | ((with_reducible refine v_addS ?_ ?_); sizeOf_list_dec) | ((with_reducible refine v_addT ?_ ?_); sizeOf_list_dec) | ((with_reducible refine v_addL ?_ ?_); sizeOf_list_dec) | (with_reducible refine v_par _ _ ?_) | (with_reducible refine v_par3 _ _ _ ?_) | ((with_reducible refine v_gtup ?_ ?_); rfl) | with_reducible refine v_ixT (by with_unfolding_all rfl) ?_ | with_reducible refine v_ixL (by with_unfolding_all rfl) ?_ | with_reducible refine v_ixR (by with_unfolding_all rfl) ?_ | ((with_reducible refine v_ixS ?_ (by with_unfolding_all rfl) ?_); sizeOf_list_dec) | ((with_reducible refine And.intro ?_ ?_); sizeOf_list_dec) | with_reducible refine v_dt (by first | assumption | with_unfolding_all rfl | omega | (simp only [List.length_map, List.length_append, List.length_cons, List.length_nil, List.length_reverse, txts_lenG]; first | done | omega)) ?_ | with_reducible refine v_ndt (by first | assumption | with_unfolding_all rfl | omega | (simp only [List.length_map, List.length_append, List.length_cons, List.length_nil, List.length_reverse, txts_lenG]; first | done | omega)) ?_ | with_reducible refine v_df (by first | assumption | omega | (with_unfolding_all decide) | (simp only [List.length_map, List.length_append, List.length_cons, List.length_nil, List.length_reverse, txts_lenG]; first | done | omega)) ?_ | with_reducible refine v_ndf (by first | assumption | omega | (with_unfolding_all decide) | (simp only [List.length_map, List.length_append, List.length_cons, List.length_nil, List.length_reverse, txts_lenG]; first | done | omega)) ?_ | decreasing_trivial_pre_omega | ((with_reducible refine v_isname ?_); dsimp only [wipeD, List.set]) | ((with_reducible refine v_isvar ?_); dsimp only [wipeD, List.set]))
local macro_rules | `(tactic| array_mem_dec) => `(tactic| repeat array_get_dec)
local macro_rules | `(tactic| bv_omega) => `(tactic| repeat' (first | array_get_dec | with_reducible refine ite_d (fun _ => ?_) (fun _ => ?_) | with_reducible refine ite_nd (fun _ => ?_) (fun _ => ?_) | with_reducible refine ite_b (fun _ => ?_) (fun _ => ?_) | with_reducible refine ite_nb (fun _ => ?_) (fun _ => ?_)))
/-! ### values of texts -/
/-- the plain form of a number text, in its three parts -/
def canP (l : List Nat) : List Nat × List Nat × List Nat := match splitN l with
  | some (s, w, o) => (if rdrop isZ (o.getD []) = [] ∧ wholeN w = [48] then [] else if s = [45] then [45] else [], wholeN w, rdrop isZ (o.getD []))
  | none => ([], [48], [])
/-- the value of a text that a kind takes -/
def valV (k : KindR) (l : List Nat) : Va :=
  if k.fam = famMissing then .miss
  else if k.fam = famTruth then .truth (decide (l ∈ k.yes))
  else if k.fam = famText then .text l
  else match k.keep with
    | none => .num (canP l).1 (canP l).2.1 (canP l).2.2
    | some n => .num (canP l).1 (cutW n (canP l).2.1 (canP l).2.2) (cutP n (canP l).2.1 (canP l).2.2)
theorem kindD_fam {k : KindR} {C : Cl} {Q : D → Prop} (h : Q (.str k.fam)) : ∃ c fs v, c ∈ ["Kind"] ∧ insOf C (kindD k) = some (c, fs) ∧ fs.lookup ("family" : Str) = some v ∧ Q v := ⟨_, _, _, .head _, rfl, kf_family k, h⟩
local macro_rules | `(tactic| decreasing_trivial_pre_omega) => `(tactic| with_reducible refine kindD_fam ?_)
local macro_rules | `(tactic| decreasing_trivial_pre_omega) => `(tactic| with_reducible refine kindD_keep ?_)
local macro_rules | `(tactic| decreasing_trivial_pre_omega) => `(tactic| with_reducible refine kindD_yes ?_)
end G
namespace G
open PySem PySem.Spec PyProof.Rows L2
/-! ### kinds that hold others: the kind of a column holds the own kinds of its texts -/
end G
namespace G
open PySem PySem.Spec PyProof.Rows L2
local macro_rules | `(tactic| sizeOf_list_dec) => `(tactic| exact szl (by first | omega | (simp only [List.length_append, List.length_cons, List.length_nil, List.length_map, List.length_reverse, List.length_singleton, txts_lenG]; omega) | (simp only [List.length_append, List.length_cons, List.length_nil, List.length_map, List.length_reverse, txts_lenG]; omega)))
local macro_rules | `(tactic| array_get_dec) => `(tactic| first | with_reducible refine v_seq ?_ | with_reducible refine v_next ?_ | with_reducible refine v_asg ?_ | (with_reducible refine v_isvar ?_; first | with_reducible refine v_var0 ?_ | with_reducible refine v_var1 ?_ | with_reducible refine v_var2 ?_ | with_reducible refine v_var3 ?_ | with_reducible refine v_var4 ?_ | with_reducible refine v_var5 ?_ | with_reducible refine v_var6 ?_ | with_reducible refine v_var7 ?_ | with_reducible refine v_var8 ?_ | with_reducible refine v_var9 ?_ | with_reducible refine v_var10 ?_ | with_reducible refine v_var11 ?_ | with_reducible refine v_var12 ?_ | with_reducible refine v_var13 ?_ | with_reducible refine v_var14 ?_ | with_reducible refine v_var15 ?_ | with_reducible refine v_var16 ?_ | with_reducible refine v_var17 ?_ | with_reducible refine v_var18 ?_ | with_reducible refine v_var19 ?_ | with_reducible refine v_var20 ?_ | with_reducible refine v_var21 ?_ | with_reducible refine v_var22 ?_ | with_reducible refine v_var23 ?_ | with_reducible refine v_var24 ?_ | with_reducible refine v_var25 ?_) | (with_reducible refine v_isname ?_; first | with_reducible refine v_name0 ?_ | with_reducible refine v_wname0 ?_ | with_reducible refine v_name1 ?_ | with_reducible refine v_wname1 ?_ | with_reducible refine v_name2 ?_ | with_reducible refine v_wname2 ?_ | with_reducible refine v_name3 ?_ | with_reducible refine v_wname3 ?_ | with_reducible refine v_name4 ?_ | with_reducible refine v_wname4 ?_ | with_reducible refine v_name5 ?_ | with_reducible refine v_wname5 ?_ | with_reducible refine v_name6 ?_ | with_reducible refine v_wname6 ?_ | with_reducible refine v_name7 ?_ | with_reducible refine v_wname7 ?_ | with_reducible refine v_name8 ?_ | with_reducible refine v_wname8 ?_ | with_reducible refine v_name9 ?_ | with_reducible refine v_wname9 ?_ | with_reducible refine v_name10 ?_ | with_reducible refine v_wname10 ?_ | with_reducible refine v_name11 ?_ | with_reducible refine v_wname11 ?_ | with_reducible refine v_name12 ?_ | with_reducible refine v_wname12 ?_ | with_reducible refine v_name13 ?_ | with_reducible refine v_wname13 ?_ | with_reducible refine v_name14 ?_ | with_reducible refine v_wname14 ?_ | with_reducible refine v_name15 ?_ | with_reducible refine v_wname15 ?_ | with_reducible refine v_name16 ?_ | with_reducible refine v_wname16 ?_ | with_reducible refine v_name17 ?_ | with_reducible refine v_wname17 ?_ | with_reducible refine v_name18 ?_ | with_reducible refine v_wname18 ?_ | with_reducible refine v_name19 ?_ | with_reducible refine v_wname19 ?_ | with_reducible refine v_name20 ?_ | with_reducible refine v_wname20 ?_ | with_reducible refine v_name21 ?_ | with_reducible refine v_wname21 ?_ | with_reducible refine v_name22 ?_ | with_reducible refine v_wname22 ?_ | with_reducible refine v_name23 ?_ | with_reducible refine v_wname23 ?_ | with_reducible refine v_name24 ?_ | with_reducible refine v_wname24 ?_ | with_reducible refine v_name25 ?_ | with_reducible refine v_wname25 ?_) | with_reducible refine v_drop ?_ | with_reducible refine v_ret ?_ | with_reducible refine v_ifS ?_ | with_reducible refine v_test ?_ | with_reducible refine v_bl ?_ | with_reducible refine v_const ?_ | with_reducible refine v_op ?_ | with_reducible refine v_cb ?_ | with_reducible refine v_nil ?_ | with_reducible refine v_cons ?_ | with_reducible refine v_fld ?_ | with_reducible refine v_meth ?_ | with_reducible refine v_cal ?_ | with_reducible refine v_call0 ?_ | with_reducible refine v_pos2 ?_ | with_reducible refine v_tt ?_ | with_reducible refine v_ff ?_ | with_reducible refine v_ntt ?_ | with_reducible refine v_nff ?_ | with_reducible refine v_dnot ?_ | with_reducible refine v_dand ?_ | with_reducible refine v_dor ?_ | with_reducible refine v_andV ?_ | with_reducible refine v_orV ?_ | with_reducible refine v_notV ?_ | with_reducible refine v_ifE ?_ | with_reducible refine v_bm0 ?_ | with_reducible refine v_eqS ?_ | with_reducible refine v_eqI ?_ | with_reducible refine v_neS ?_ | with_reducible refine v_neI ?_ | with_reducible refine v_eqB ?_ | with_reducible refine v_neB ?_ | with_reducible refine v_isNn ?_ | with_reducible refine v_isNs ?_ | with_reducible refine v_isNi ?_ | with_reducible refine v_isNt ?_ | with_reducible refine v_notNn ?_ | with_reducible refine v_notNs ?_ | with_reducible refine v_notNi ?_ | with_reducible refine v_notNt ?_ | with_reducible refine v_isN ?_ | with_reducible refine v_notN ?_ | with_reducible refine v_lt ?_ | with_reducible refine v_le ?_ | with_reducible refine v_gt ?_ | with_reducible refine v_ge ?_ | with_reducible refine v_addI ?_ | with_reducible refine v_subI ?_ | with_reducible refine v_lenT ?_ | with_reducible refine v_lenL ?_ | with_reducible refine v_chain ?_ | with_reducible refine v_un ?_ | with_reducible refine v_tup ?_ | with_reducible refine v_lst ?_ | with_reducible refine v_lstC ?_ | with_reducible refine v_gsub ?_ | with_reducible refine v_rng1 ?_ | with_reducible refine v_rng2 ?_ | with_reducible refine v_slice ?_ | with_reducible refine v_nopart ?_ | with_reducible refine v_part ?_ | with_reducible refine v_partI ?_ | with_reducible refine v_slT ?_ | with_reducible refine v_slL ?_ | with_reducible refine v_rev ?_ | with_reducible refine v_revO ?_ | with_reducible refine v_enumS ?_ | with_reducible refine v_enumL ?_ | with_reducible refine v_enumT ?_ | with_reducible refine v_zipS ?_ | with_reducible refine v_revL ?_ | with_reducible refine v_revT ?_ | with_reducible refine v_putT ?_ | with_reducible refine v_putK ?_ | with_reducible refine v_inT ?_ | with_reducible refine v_getT ?_ | with_reducible refine v_get2T ?_ | with_reducible refine v_make ?_ | with_reducible refine v_fldSet ?_ | with_reducible refine v_forL ?_ | with_reducible refine v_forT ?_ | with_reducible refine v_forS ?_ | with_reducible refine v_lstO ?_ | with_reducible refine v_rolO ?_ | with_reducible refine v_tupO ?_ | with_reducible refine v_strO ?_ | with_reducible refine v_listT ?_ | with_reducible refine v_listL ?_ | with_reducible refine v_tupleL ?_ | with_reducible refine v_tupleT ?_ | with_reducible refine v_isiS ?_ | with_reducible refine v_isiT ?_ | with_reducible refine v_isiL ?_ | with_reducible refine v_allM ?_ | with_reducible refine v_anyM ?_ | with_reducible refine v_eqNS ?_ | with_reducible refine v_neNS ?_ | with_reducible refine v_gcons ?_ | with_reducible refine v_gnil ?_ | with_reducible refine v_par2 ?_ | with_reducible refine v_par33 ?_ | with_reducible refine v_retN ?_ | with_reducible refine v_sameS ?_ | with_reducible refine v_sameB ?_ | with_reducible refine v_sameI ?_ | with_reducible refine v_sameN ?_ | with_reducible refine v_sameT ?_ | with_reducible refine v_sameL ?_ | with_reducible refine v_endN ?_ | with_reducible refine v_bm ?_ | with_reducible refine v_tystr ?_ | with_reducible refine v_break ?_ | with_reducible refine v_cont ?_ | ((with_reducible refine v_slS ?_ ?_); sizeOf_list_dec) | ((with_reducible refine v_lenS ?_ ?_); sizeOf_list_dec) | ((with_reducible refine v_addS ?_ ?_); sizeOf_list_dec) | ((with_reducible refine v_addT ?_ ?_); sizeOf_list_dec) | ((with_reducible refine v_addL ?_ ?_); sizeOf_list_dec) | (with_reducible refine v_par _ _ ?_) | (with_reducible refine v_par3 _ _ _ ?_) | ((with_reducible refine v_gtup ?_ ?_); rfl) | with_reducible refine v_ixT (by with_unfolding_all rfl) ?_ | with_reducible refine v_ixL (by with_unfolding_all rfl) ?_ | with_reducible refine v_ixR (by with_unfolding_all rfl) ?_ | ((with_reducible refine v_ixS ?_ (by with_unfolding_all rfl) ?_); sizeOf_list_dec) | ((with_reducible refine And.intro ?_ ?_); sizeOf_list_dec) | with_reducible refine v_dt (by first | assumption | with_unfolding_all rfl | omega | (simp only [List.length_map, List.length_append, List.length_cons, List.length_nil, List.length_reverse, txts_lenG]; first | done | omega)) ?_ | with_reducible refine v_ndt (by first | assumption | with_unfolding_all rfl | omega | (simp only [List.length_map, List.length_append, List.length_cons, List.length_nil, List.length_reverse, txts_lenG]; first | done | omega)) ?_ | with_reducible refine v_df (by first | assumption | omega | (with_unfolding_all decide) | (simp only [List.length_map, List.length_append, List.length_cons, List.length_nil, List.length_reverse, txts_lenG]; first | done | omega)) ?_ | with_reducible refine v_ndf (by first | assumption | omega | (with_unfolding_all decide) | (simp only [List.length_map, List.length_append, List.length_cons, List.length_nil, List.length_reverse, txts_lenG]; first | done | omega)) ?_ | decreasing_trivial_pre_omega | ((with_reducible refine v_isname ?_); dsimp only [wipeD, List.set]) | ((with_reducible refine v_isvar ?_); dsimp only [wipeD, List.set]))
local macro_rules | `(tactic| array_mem_dec) => `(tactic| repeat array_get_dec)
local macro_rules | `(tactic| bv_omega) => `(tactic| repeat' (first | array_get_dec | with_reducible refine ite_d (fun _ => ?_) (fun _ => ?_) | with_reducible refine ite_nd (fun _ => ?_) (fun _ => ?_) | with_reducible refine ite_b (fun _ => ?_) (fun _ => ?_) | with_reducible refine ite_nb (fun _ => ?_) (fun _ => ?_)))
local macro_rules | `(tactic| decreasing_trivial_pre_omega) => `(tactic| with_reducible refine kz_name ?_)
local macro_rules | `(tactic| decreasing_trivial_pre_omega) => `(tactic| with_reducible refine kz_family ?_)
local macro_rules | `(tactic| decreasing_trivial_pre_omega) => `(tactic| with_reducible refine kz_marks ?_)
local macro_rules | `(tactic| decreasing_trivial_pre_omega) => `(tactic| with_reducible refine kz_yes ?_)
local macro_rules | `(tactic| decreasing_trivial_pre_omega) => `(tactic| with_reducible refine kz_no ?_)
local macro_rules | `(tactic| decreasing_trivial_pre_omega) => `(tactic| with_reducible refine kz_digits ?_)
local macro_rules | `(tactic| decreasing_trivial_pre_omega) => `(tactic| with_reducible refine kz_point ?_)
local macro_rules | `(tactic| decreasing_trivial_pre_omega) => `(tactic| with_reducible refine kz_keep ?_)
local macro_rules | `(tactic| decreasing_trivial_pre_omega) => `(tactic| with_reducible refine v_try ?_)
local macro_rules | `(tactic| decreasing_trivial_pre_omega) => `(tactic| with_reducible refine v_methX ?_)
local macro_rules | `(tactic| decreasing_trivial_pre_omega) => `(tactic| with_reducible refine v_makeX ?_)
local macro_rules | `(tactic| decreasing_trivial_pre_omega) => `(tactic| with_reducible refine v_calX ?_)
local macro_rules | `(tactic| decreasing_trivial_pre_omega) => `(tactic| with_reducible refine v_xfV (by with_unfolding_all rfl) (by with_unfolding_all rfl) ?_)
local macro_rules | `(tactic| decreasing_trivial_pre_omega) => `(tactic| with_reducible refine v_xisV (by with_unfolding_all rfl) ?_)
local macro_rules | `(tactic| decreasing_trivial_pre_omega) => `(tactic| with_reducible refine v_raise ?_)
local macro_rules | `(tactic| decreasing_trivial_pre_omega) => `(tactic| with_reducible refine v_lenSet ?_)
local macro_rules | `(tactic| decreasing_trivial_pre_omega) => `(tactic| with_reducible refine kz_parts ?_)
local macro_rules | `(tactic| decreasing_trivial_pre_omega) => `(tactic| with_reducible refine bz_kinds ?_)
local macro_rules | `(tactic| decreasing_trivial_pre_omega) => `(tactic| with_reducible refine bz_spare ?_)
local macro_rules | `(tactic| decreasing_trivial_pre_omega) => `(tactic| with_reducible refine bz_joined ?_)
local macro_rules | `(tactic| decreasing_trivial_pre_omega) => `(tactic| with_reducible refine bz_mark ?_)
local macro_rules | `(tactic| decreasing_trivial_pre_omega) => `(tactic| with_reducible refine bz_meth (by decide) ?_)
local macro_rules | `(tactic| decreasing_trivial_pre_omega) => `(tactic| with_reducible refine lz_book ?_)
local macro_rules | `(tactic| decreasing_trivial_pre_omega) => `(tactic| with_reducible refine lz_name ?_)
local macro_rules | `(tactic| decreasing_trivial_pre_omega) => `(tactic| with_reducible refine lz_kind ?_)
local macro_rules | `(tactic| decreasing_trivial_pre_omega) => `(tactic| with_reducible refine v_intO ?_)
local macro_rules | `(tactic| decreasing_trivial_pre_omega) => `(tactic| with_reducible refine v_gh ?_)
local macro_rules | `(tactic| decreasing_trivial_pre_omega) => `(tactic| with_reducible refine v_sp0 ?_)
local macro_rules | `(tactic| decreasing_trivial_pre_omega) => `(tactic| with_reducible refine v_sp1 ?_)
local macro_rules | `(tactic| decreasing_trivial_pre_omega) => `(tactic| with_reducible refine v_sp2 ?_)
local macro_rules | `(tactic| decreasing_trivial_pre_omega) => `(tactic| with_reducible refine v_sp3 ?_)
local macro_rules | `(tactic| decreasing_trivial_pre_omega) => `(tactic| with_reducible refine v_sp4 ?_)
local macro_rules | `(tactic| decreasing_trivial_pre_omega) => `(tactic| with_reducible refine v_sp5 ?_)
local macro_rules | `(tactic| decreasing_trivial_pre_omega) => `(tactic| with_reducible refine v_op0 ?_)
local macro_rules | `(tactic| decreasing_trivial_pre_omega) => `(tactic| with_reducible refine v_op1 ?_)
local macro_rules | `(tactic| decreasing_trivial_pre_omega) => `(tactic| with_reducible refine v_op4 ?_)
local macro_rules | `(tactic| decreasing_trivial_pre_omega) => `(tactic| with_reducible refine v_op5 ?_)
local macro_rules | `(tactic| decreasing_trivial_pre_omega) => `(tactic| with_reducible refine v_onN ?_)
local macro_rules | `(tactic| decreasing_trivial_pre_omega) => `(tactic| with_reducible refine v_onS ?_)
local macro_rules | `(tactic| decreasing_trivial_pre_omega) => `(tactic| with_reducible refine v_nonN ?_)
local macro_rules | `(tactic| decreasing_trivial_pre_omega) => `(tactic| with_reducible refine v_nonS ?_)
local macro_rules | `(tactic| decreasing_trivial_pre_omega) => `(tactic| with_reducible refine v_trip0 ?_)
local macro_rules | `(tactic| decreasing_trivial_pre_omega) => `(tactic| with_reducible refine v_trip1 ?_)
local macro_rules | `(tactic| decreasing_trivial_pre_omega) => `(tactic| with_reducible refine v_iList ?_)
local macro_rules | `(tactic| decreasing_trivial_pre_omega) => `(tactic| with_reducible refine v_iEnum ?_)
local macro_rules | `(tactic| decreasing_trivial_pre_omega) => `(tactic| with_reducible refine v_prop ?_)
local macro_rules | `(tactic| decreasing_trivial_pre_omega) => `(tactic| with_reducible refine bk_prop ?_)
local macro_rules | `(tactic| decreasing_trivial_pre_omega) => `(tactic| with_reducible refine kindD_fam ?_)
local macro_rules | `(tactic| decreasing_trivial_pre_omega) => `(tactic| with_reducible refine kindD_keep ?_)
local macro_rules | `(tactic| decreasing_trivial_pre_omega) => `(tactic| with_reducible refine kindD_yes ?_)
/-! ### the law of books refused -/
def wRight : List Nat := [114, 105, 103, 104, 116]
/-- what becomes of kinds and joins -/
inductive Fate (ks : List KindR) (js : D) : D → Prop
  | kinds : ¬ (1 ≤ ks.length ∧ ks.length ≤ 7) → Fate ks js (.str wKinds)
  | names : 1 ≤ ks.length → ks.length ≤ 7 → ¬ (namesK ks).Nodup → Fate ks js (.str wNames)
  | text : 1 ≤ ks.length → ks.length ≤ 7 → (namesK ks).Nodup → (∀ k ∈ ks, k.fam ≠ famText) → Fate ks js (.str wText)
  | bad {trs : List T3} {d : D} {rest : List D} : OkB ks trs → srcOf js = some (trs.map tripD ++ d :: rest) → BadJ ks trs d → Fate ks js (.int (trs.length : Nat))
  | right {trs : List T3} : OkB ks trs → srcOf js = some (trs.map tripD) → Fate ks js (.str wRight)
def sp_l_part : DSp := fun ds C Q _ => ∃ ks js v, ds = [.lst (ks.map kindD), js] ∧ ks.length ≤ 1000 ∧ (∀ k ∈ ks, k.name.length ≤ 100) ∧ Fate ks js v ∧ Q v C
def td_l_part : DS :=
  (dSeq (dAsg (dC (.str [114, 105, 103, 104, 116])) (dName 2))
    (dSeq (dTry [("BadBook", true)] 3 (fun Ex => (dDrop (dMakeX Ex "Book" (pos2 sp_Book_initX []) (dCons (dVar 0) (dCons (dVar 1) dNil)) dNil)))
      (fun a c ds => (dSeq (dIfS (dOr (dNot (dTest (dXis a true (dVar 3)))) (dOr (dNot (dTest (dXis a true (dVar 3)))) (dTest (dXis a false (dVar 3))))) (dRet (dC (.str [119, 114, 111, 110, 103, 32, 99, 108, 97, 115, 115]))) dNext)
    (dAsg (dXf a ds "part" (dVar 3)) (dName 2)))) (fun _ => noX))
    (dRet (dVar 2))))
theorem len_l_part (ds : List D) (C : Cl) (Q : DQ) (E : DX) (h : sp_l_part ds C Q E) : ds.length = 2 := by repeat (first | (obtain ⟨rfl, _⟩ := h; exact rfl) | (obtain ⟨_, h⟩ := h))
theorem pure_l_part (ds : List D) (C : Cl) (Q : DQ) (E : DX) (h : sp_l_part ds C Q E) : td_l_part (endsD Q) (startD ["_law_kinds", "_law_joins", "_law_found", "e"] ds) C := by
  obtain ⟨ks, js, v, rfl, lk, nm, ft, hq⟩ := h
  unfold td_l_part
  refine v_ends ?_
  simp only [startD, List.map_cons, List.map_nil, List.length_cons, List.length_nil, Nat.reduceAdd, Nat.reduceSub, List.reduceReplicate, List.cons_append, List.nil_append]
  array_mem_dec
  intro p hp
  have sx : ∀ {C' c}, SubX (updC C p c) p C' → SubC C C' := fun {C' c} h a x e => h a x (fun z => by rw [z, hp] at e; cases e) (by rw [updC_ne (fun z => by rw [z, hp] at e; cases e)]; exact e)
  have ca : ∀ {w C'}, SubX (updC C p (.ins "Book" [])) p C' → Q w C → dCatch [("BadBook", true)] 3
      (fun a c ds =>
        dSeq
          (dIfS
            (dOr (dNot (dTest (dXis a true (dVar 3))))
              (dOr (dNot (dTest (dXis a true (dVar 3)))) (dTest (dXis a false (dVar 3)))))
            (dRet (dC (D.str [119, 114, 111, 110, 103, 32, 99, 108, 97, 115, 115]))) dNext)
          (dAsg (dXf a ds "part" (dVar 3)) (dName 2)))
      (fun _ => noX)
      {
        nx :=
          dRet (dVar 2)
            { nx := fun x C => ∃ C', SubC C' C ∧ Q D.non C', rt := fun d C => ∃ d' C', Gh d C d' C' ∧ Q d' C', bk := fun _ _ => False, ct := fun _ _ => False },
        rt := fun d C => ∃ d' C', Gh d C d' C' ∧ Q d' C', bk := fun _ _ => False, ct := fun _ _ => False }
      [some (D.lst (List.map kindD ks)), some js, some (D.str [114, 105, 103, 104, 116]), none] "BadBook" [("part", w)] C' := fun {w C'} sc q => by
    refine v_catch rfl fun a _ => ?_
    dsimp only
    array_mem_dec
    exact ⟨_, _, .drop (sx sc), q⟩
  refine ⟨rfl, p, ks, js, rfl, updC_same, lk, nm, ?_⟩
  cases ft with
  | kinds h => exact .inl ⟨h, fun C' s => ca s hq⟩
  | names h1 h2 h3 => exact .inr (.inl ⟨h1, h2, h3, fun C' s => ca s hq⟩)
  | text h1 h2 h3 h4 => exact .inr (.inr (.inl ⟨h1, h2, h3, h4, fun C' s => ca s hq⟩))
  | bad ok hj bad => exact .inr (.inr (.inr ⟨_, _, hj, ok, .inr ⟨_, _, rfl, bad, fun C' s => ca s hq⟩⟩))
  | right ok hj =>
    refine .inr (.inr (.inr ⟨_, _, hj, ok, .inl ⟨rfl, rfl, ?_⟩⟩))
    have hq' : Q (.str [114, 105, 103, 104, 116]) C := hq
    revert hq'
    generalize D.str [114, 105, 103, 104, 116] = w
    intro hq'
    array_mem_dec
    exact ⟨_, _, .drop (sx (c := .ins "Book" []) (fun a x ne e => by rw [updC_ne ne] at e; rw [updC_updC, updC_ne ne]; exact e)), hq'⟩
theorem GoodK.nameW {k : KindR} {o : D} (gk : GoodK o k) : isWord k.name = true := by
  cases gk with
  | missing h => exact h
  | truth h => exact h
  | text h => exact h
  | number h => exact h
theorem no_key {ks : List KindR} {L : Nat} (hs : OkS ks L) {l : List Nat} (h : ¬ keyed l) : l ∉ namesK ks := fun z => by
  obtain ⟨k, hk, rfl⟩ := List.mem_map.mp z
  exact h (hs.key k hk)
section
variable {ks : List KindR} {trs : List T3}
theorem bad_other {d : D} {n : String} (h : ∀ C, tyNm d C = some n) (e : isSub n "tuple" = false) : BadJ ks trs d := .inl fun C => .other n (h C) e
theorem bad_len {es : List D} (h : es.length ≠ 3) (l : es.length ≤ 100) : BadJ ks trs (.tup es) := .inl fun _ => .len h l
theorem bad_name {a b c : D} (ha : ∀ C', Known a C') (hb : ∀ C', Known b C') (hc : ∀ C', Known c C') (h : [a, b, c].all (inB ks) = false) : BadJ ks trs (.tup [a, b, c]) := .inl fun _ => .name (fun d hd => by
  simp only [List.mem_cons, List.not_mem_nil, or_false] at hd
  rcases hd with rfl | rfl | rfl
  · exact ha
  · exact hb
  · exact hc) h
end
def sp_l_wrong : DSp := fun ds C Q _ => ∃ (b : Addr) (ks : List KindR) (trs : List T3) (L n : Nat), ds = [.ref b, .lst (ks.map specOf), .lst (trs.map tripD)] ∧ OkS ks L ∧ 2 ≤ ks.length ∧ ks.length ≤ 7 ∧ OkTs ks trs ∧ trs.length ≤ 100 ∧ BagAt C b n ∧ n < 40000000 ∧
  ∀ d C', BadJ ks trs d → Bagged C b C' (n + 1) → Q d C'
def td_l_wrong : DS :=
  (dSeq (dPar 3 4 (dCons (dOp rIx (dOp rIx (dVar 1) (dC (.int 0))) (dC (.int 0))) (dCons (dOp rIx (dOp rIx (dVar 1) (dUn rNeg (dC (.int 1)))) (dC (.int 0))) dNil)))
    (dSeq (dAsg (dLst (dCons (dC .non) (dCons (dC (.int 7)) (dCons (dC (.str [97, 98, 99])) (dCons (dTup dNil) (dCons (dTup (dCons (dVar 3) (dCons (dVar 4) dNil))) (dCons (dTup (dCons (dVar 3) (dCons (dVar 3) (dCons (dVar 3) dNil)))) (dCons (dTup (dCons (dVar 3) (dCons (dC (.str [122, 122])) (dCons (dVar 3) dNil)))) (dCons (dTup (dCons (dC (.str [122, 122])) (dCons (dVar 4) (dCons (dVar 4) dNil)))) dNil))))))))) (dName 5))
    (dSeq (dAsg (dAdd (dVar 5) (dLst (dCons (dTup (dCons (dVar 3) (dCons (dVar 4) (dCons (dC (.str [122, 122])) dNil)))) (dCons (dLst (dCons (dVar 3) (dCons (dVar 4) (dCons (dVar 3) dNil)))) (dCons (dTup (dCons (dVar 3) (dCons (dVar 4) (dCons (dVar 3) (dCons (dVar 3) dNil))))) (dCons (dTup (dCons (dC .non) (dCons (dVar 4) (dCons (dVar 3) dNil)))) (dCons (dTup (dCons (dVar 4) (dCons (dC (.int 5)) (dCons (dVar 4) dNil)))) dNil))))))) (dName 5))
    (dSeq (dFor (diList (dVar 1)) (dName 6)
    (dFor (diList (dVar 1)) (dName 7)
    (dIfS (dAnd (dNot (dTest (dCall sp_l_holds [] (dCons (dVar 7) (dCons (dVar 6) dNil))))) (dTest (dOp rNeD (dOp rIx (dVar 6) (dC (.int 0))) (dOp rIx (dVar 7) (dC (.int 0)))))) (dAsg (dAdd (dVar 5) (dLst (dCons (dTup (dCons (dOp rIx (dVar 6) (dC (.int 0))) (dCons (dOp rIx (dVar 7) (dC (.int 0))) (dCons (dOp rIx (dVar 7) (dC (.int 0))) dNil)))) (dCons (dTup (dCons (dOp rIx (dVar 7) (dC (.int 0))) (dCons (dOp rIx (dVar 6) (dC (.int 0))) (dCons (dOp rIx (dVar 7) (dC (.int 0))) dNil)))) dNil)))) (dName 5)) dNext)))
    (dSeq (dFor (diList (dVar 2)) (dName 8)
    (dAsg (dAdd (dVar 5) (dLst (dCons (dVar 8) (dCons (dTup (dCons (dOp rIx (dVar 8) (dC (.int 0))) (dCons (dOp rIx (dVar 8) (dC (.int 1))) (dCons (dOp rIx (dCall sp_l_spare [] (dCons (dVar 1) dNil)) (dC (.int 0))) dNil)))) dNil)))) (dName 5)))
    (dRet (dCall sp_l_of [] (dCons (dVar 0) (dCons (dVar 5) dNil)))))))))
theorem len_l_wrong (ds : List D) (C : Cl) (Q : DQ) (E : DX) (h : sp_l_wrong ds C Q E) : ds.length = 3 := by repeat (first | (obtain ⟨rfl, _⟩ := h; exact rfl) | (obtain ⟨_, h⟩ := h))
theorem pure_l_wrong (ds : List D) (C : Cl) (Q : DQ) (E : DX) (h : sp_l_wrong ds C Q E) : td_l_wrong (endsD Q) (startD ["_law_bag_here", "_law_specs_here", "_law_before", "_law_one", "_law_other", "_law_some", "_law_low", "_law_high", "_law_triple"] ds) C := by
  obtain ⟨b, ks, trs, L, n, rfl, hs, k2, k7, ht, tl, hb, hn, hq⟩ := h
  obtain ⟨k0, e0⟩ : ∃ k, ks[0]? = some k := ⟨_, List.getElem?_eq_getElem (by omega)⟩
  obtain ⟨k1, e1⟩ : ∃ k, ks[ks.length - 1]? = some k := ⟨_, List.getElem?_eq_getElem (by omega)⟩
  unfold td_l_wrong
  refine v_ends ?_
  simp only [startD, List.map_cons, List.map_nil, List.length_cons, List.length_nil, Nat.reduceAdd, Nat.reduceSub, List.reduceReplicate, List.cons_append, List.nil_append]
  array_mem_dec
  refine v_ixL (d := specOf k0) (atI_nat (j := 0) (by rw [List.getElem?_map, e0]; rfl)) ?_
  array_mem_dec
  refine ⟨1, rfl, ?_⟩
  refine v_ixL (d := specOf k1) ?_ ?_
  · unfold atI
    have e : ixN (ks.map specOf).length (-1) = some (ks.length - 1) := by
      unfold ixN
      rw [List.length_map, if_neg (by omega), if_pos (by omega)]
      exact congrArg some (by omega)
    rw [e, Option.bind_some, List.getElem?_map, e1]; rfl
  array_mem_dec
  have hk0 : k0 ∈ ks := List.mem_of_getElem? e0
  have hk1 : k1 ∈ ks := List.mem_of_getElem? e1
  have n0 : k0.name ∈ namesK ks := List.mem_map.mpr ⟨k0, hk0, rfl⟩
  have n1 : k1.name ∈ namesK ks := List.mem_map.mpr ⟨k1, hk1, rfl⟩
  have nl : ∀ k ∈ ks, k.name.length ≤ 8 := fun k hk => by
    have := (hs.good k hk).nameW
    unfold isWord at this
    rw [Bool.and_eq_true] at this
    exact (of_decide_eq_true this.1).2
  have kn : ∀ {k : KindR}, k ∈ ks → ∀ C', Known (.str k.name) C' := fun hk C' => known_str (by have := nl _ hk; omega)
  have nz : ([122, 122] : List Nat) ∉ namesK ks := no_key hs (by unfold keyed; decide)
  have kz : ∀ C', Known (.str [122, 122]) C' := fun C' => known_str (by decide)
  have ib0 : inB ks (.str k0.name) = true := decide_eq_true n0
  have ib1 : inB ks (.str k1.name) = true := decide_eq_true n1
  have ibz : inB ks (.str [122, 122]) = false := decide_eq_false nz
  have kno : ∀ C', Known .non C' := fun _ => ⟨⟨_, rfl⟩, nofun⟩
  have kin : ∀ C', Known (.int 5) C' := fun _ => ⟨⟨_, rfl⟩, nofun⟩
  have ne01 : k0.name ≠ k1.name := fun z => by
    have := name_ix hs.nd e0 e1 z
    omega
  refine v_loopF (as := ks) (e := specOf) (fun i ρ' C' => C' = C ∧ ∃ es y6 y7, ρ' = [some (.ref b), some (.lst (ks.map specOf)), some (.lst (trs.map tripD)), some (.str k0.name), some (.str k1.name), some (.lst es), y6, y7, none] ∧ (∀ d ∈ es, BadJ ks trs d) ∧ 1 ≤ es.length ∧ es.length ≤ 13 + i * 14) (fun R h => ?_) ⟨rfl, _, _, _, rfl, fun d hd => ?_, by simp, by simp⟩ (fun i lo ρ' C' hi hlo hP => ?_) fun ρ' C' hP => ?_
  · array_mem_dec
    exact h
  · simp only [List.cons_append, List.nil_append, List.mem_cons, List.not_mem_nil, or_false] at hd
    rcases hd with rfl | rfl | rfl | rfl | rfl | rfl | rfl | rfl | rfl | rfl | rfl | rfl | rfl
    · exact bad_other (n := "NoneType") (fun _ => rfl) rfl
    · exact bad_other (n := "int") (fun _ => rfl) rfl
    · exact bad_other (n := "str") (fun _ => rfl) rfl
    · exact bad_len (by decide) (by decide)
    · exact bad_len (by simp) (by simp)
    · exact .inl fun _ => .same (t := (k0.name, k0.name, k0.name)) n0 n0 n0 rfl
    · exact bad_name (kn hk0) kz (kn hk0) (by simp [ibz])
    · exact bad_name kz (kn hk1) (kn hk1) (by simp [ibz])
    · exact bad_name (kn hk0) (kn hk1) kz (by simp [ibz])
    · exact bad_other (n := "list") (fun _ => rfl) rfl
    · exact bad_len (by simp) (by simp)
    · exact bad_name kno (kn hk1) (kn hk0) (by rw [List.all_cons]; rfl)
    · exact bad_name (kn hk1) kin (kn hk1) (by rw [List.all_cons, List.all_cons, show inB ks (.int 5) = false from rfl, Bool.false_and, Bool.and_false])
  · obtain ⟨rfl, es, y6, y7, rfl, hbad, l1, lm⟩ := hP
    have i7 : i < ks.length := (List.getElem?_eq_some_iff.mp hi).1
    array_mem_dec
    refine v_loopF (as := ks) (e := specOf) (fun j ρ' C'' => C'' = C' ∧ ∃ es y7, ρ' = [some (.ref b), some (.lst (ks.map specOf)), some (.lst (trs.map tripD)), some (.str k0.name), some (.str k1.name), some (.lst es), some (specOf lo), y7, none] ∧ (∀ d ∈ es, BadJ ks trs d) ∧ 1 ≤ es.length ∧ es.length ≤ 13 + i * 14 + j * 2) (fun R h => ?_) ⟨rfl, _, _, rfl, hbad, l1, by omega⟩ (fun j hi2 ρ' C'' hj hhi hP => ?_) fun ρ' C'' hP => ?_
    · array_mem_dec
      exact h
    · obtain ⟨rfl, es, y7, rfl, hbad, l1, lm⟩ := hP
      have j7 : j < ks.length := (List.getElem?_eq_some_iff.mp hj).1
      array_mem_dec
      refine ⟨hi2, lo, rfl, good_fam (hs.good _ hhi), good_fam (hs.good _ hlo), ?_⟩
      have nlo : lo.name ∈ namesK ks := List.mem_map.mpr ⟨lo, hlo, rfl⟩
      have nhi : hi2.name ∈ namesK ks := List.mem_map.mpr ⟨hi2, hhi, rfl⟩
      have flo : findK ks lo.name = some lo := find_nd hs.nd hlo
      have fhi : findK ks hi2.name = some hi2 := find_nd hs.nd hhi
      cases hh : holdsK hi2 lo with
      | true =>
        array_mem_dec
        exact ⟨rfl, _, _, rfl, hbad, l1, by omega⟩
      | false =>
        array_mem_dec
        refine ite_nd (fun e => ?_) (fun e => ?_)
        · have e : lo.name ≠ hi2.name := e
          have es2 : es.length + 2 ≤ 1000 := by omega
          array_mem_dec
          refine ⟨rfl, _, _, rfl, fun d hd => ?_, by rw [List.length_append]; omega, by rw [List.length_append]; simp only [List.length_cons, List.length_nil]; omega⟩
          rcases List.mem_append.mp hd with hd | hd
          · exact hbad d hd
          · simp only [List.mem_cons, List.not_mem_nil, or_false] at hd
            rcases hd with rfl | rfl
            · refine .inr ⟨(lo.name, hi2.name, hi2.name), rfl, nlo, nhi, nhi, e, .inr fun c a b' e1 e2 e3 => ?_⟩
              rw [fhi] at e1; rw [flo] at e2; cases e1; cases e2
              rw [hh]; rfl
            · refine .inr ⟨(hi2.name, lo.name, hi2.name), rfl, nhi, nlo, nhi, Ne.symm e, .inr fun c a b' e1 e2 e3 => ?_⟩
              rw [fhi] at e1; rw [flo] at e3; cases e1; cases e3
              rw [hh]; exact Bool.and_false _
        · array_mem_dec
          exact ⟨rfl, _, _, rfl, hbad, l1, by omega⟩
    · obtain ⟨rfl, es, y7, rfl, hbad, l1, lm⟩ := hP
      exact ⟨rfl, _, _, _, rfl, hbad, l1, by omega⟩
  · obtain ⟨rfl, es, y6, y7, rfl, hbad, l1, lm⟩ := hP
    array_mem_dec
    refine v_loopF (as := trs) (e := tripD) (fun i ρ' C'' => C'' = C' ∧ ∃ es y8, ρ' = [some (.ref b), some (.lst (ks.map specOf)), some (.lst (trs.map tripD)), some (.str k0.name), some (.str k1.name), some (.lst es), y6, y7, y8] ∧ (∀ d ∈ es, BadJ ks trs d) ∧ 1 ≤ es.length ∧ es.length ≤ 200 + i * 2) (fun R h => ?_) ⟨rfl, _, _, rfl, hbad, l1, by omega⟩ (fun j t ρ' C'' hj ht2 hP => ?_) fun ρ' C'' hP => ?_
    · array_mem_dec
      exact h
    · obtain ⟨rfl, es, y8, rfl, hbad, l1, lm⟩ := hP
      have j7 : j < trs.length := (List.getElem?_eq_some_iff.mp hj).1
      have es2 : es.length + 2 ≤ 1000 := by omega
      array_mem_dec
      refine ⟨ks, rfl, by omega, hs.has, fun s hsm hsn => ?_⟩
      array_mem_dec
      have ok := ht.ok t ht2
      refine ⟨rfl, _, _, rfl, fun d hd => ?_, by rw [List.length_append]; omega, by rw [List.length_append]; simp only [List.length_cons, List.length_nil]; omega⟩
      have pi : (pairT trs t.1 t.2.1).isSome = true := by
        obtain ⟨t', h⟩ := pair_in ht2
        rw [h]; rfl
      rcases List.mem_append.mp hd with hd | hd
      · exact hbad d hd
      · simp only [List.mem_cons, List.not_mem_nil, or_false] at hd
        rcases hd with rfl | rfl
        · exact .inr ⟨t, rfl, ok.n1, ok.n2, ok.n3, ok.ne, .inl pi⟩
        · exact .inr ⟨(t.1, t.2.1, s.name), rfl, ok.n1, ok.n2, List.mem_map.mpr ⟨s, hsm, rfl⟩, ok.ne, .inl pi⟩
    · obtain ⟨rfl, es, y8, rfl, hbad, l1, lm⟩ := hP
      array_mem_dec
      refine ⟨b, _, es, n, rfl, rfl, nofun, fun z => by rw [z] at l1; simp at l1, by omega, hb, by omega, fun d C3 hm B3 => ?_⟩
      array_mem_dec
      exact ⟨_, _, .same, hq d C3 (hbad d hm) B3⟩
theorem OkTs.take {ks : List KindR} {trs : List T3} {j : Nat} (h : OkTs ks trs) : OkTs ks (trs.take j) :=
  ⟨fun t ht => h.ok t (List.mem_of_mem_take ht), by rw [List.map_take]; exact h.nd.sublist (List.take_sublist _ _), by rw [List.length_take]; have := h.len; omega⟩
theorem find_left {ks ms : List KindR} {l : List Nat} (h : l ∈ namesK ks) : findK (ks ++ ms) l = findK ks l := by
  obtain ⟨k, e⟩ := find_name h
  unfold findK at *
  rw [List.find?_append, e]; rfl
theorem okb_more {ks ms : List KindR} {trs : List T3} (o : OkB ks trs) (hm : ∀ k ∈ ms, k.fam = famText ∧ k.name ∉ namesK ks ∧ k.name.length ≤ 100) (nd : (namesK ms).Nodup) (l : ks.length + ms.length ≤ 7) : OkB (ks ++ ms) trs := by
  have na : namesK (ks ++ ms) = namesK ks ++ namesK ms := by unfold namesK; rw [List.map_append]
  have sub : ∀ {x}, x ∈ namesK ks → x ∈ namesK (ks ++ ms) := fun h => by rw [na]; exact List.mem_append_left _ h
  have l1 := o.len1
  refine ⟨by rw [List.length_append]; omega, by rw [List.length_append]; omega, ?_, fun k hk => ?_, ?_, fun k hk e => ?_, ⟨fun t ht => ?_, o.js.nd, o.js.len⟩⟩
  · rw [na, List.nodup_append]
    refine ⟨o.nd, nd, fun a ha b hb e => ?_⟩
    obtain ⟨k, hk, rfl⟩ := List.mem_map.mp hb
    subst e
    exact (hm k hk).2.1 ha
  · rcases List.mem_append.mp hk with hk | hk
    · exact o.nm k hk
    · exact (hm k hk).2.2
  · obtain ⟨k, hk, e⟩ := o.txt
    exact ⟨k, List.mem_append_left _ hk, e⟩
  · rcases List.mem_append.mp hk with hk | hk
    · exact o.mks k hk e
    · rw [(hm k hk).1] at e; exact absurd e (by decide)
  · have ok := o.js.ok t ht
    exact ⟨sub ok.n1, sub ok.n2, sub ok.n3, ok.ne, fun c a e1 e2 => ok.h1 c a (by rw [← find_left ok.n3]; exact e1) (by rw [← find_left ok.n1]; exact e2), fun c a e1 e2 => ok.h2 c a (by rw [← find_left ok.n3]; exact e1) (by rw [← find_left ok.n2]; exact e2)⟩
theorem dup_names {ks : List KindR} {k : KindR} (h : k ∈ ks) : ¬ (namesK (ks ++ [k])).Nodup := fun z => by
  unfold namesK at z
  rw [List.map_append, List.nodup_append] at z
  exact z.2.2 k.name (List.mem_map.mpr ⟨k, h, rfl⟩) k.name (.head _) rfl
def zNames : List (List Nat) := [[122, 122], [122, 122, 122], [122, 122, 122, 122], [122, 122, 122, 122, 122], [122, 122, 122, 122, 122, 122], [122, 122, 122, 122, 122, 122, 122], [122, 122, 122, 122, 122, 122, 122, 122]]
theorem zN_ok : ∀ l ∈ zNames, isWord l = true ∧ l.length ≤ 8 ∧ ¬ keyed l := by unfold keyed; decide
def tail27 : DS := (dView 5 (dSeq (dIfS (dTest (dOp rNeD (dCall sp_l_part [] (dCons (dVar 2) (dCons (dVar 5) dNil))) (dVar 4))) (dRet (dC (.bl false))) dNext)
    (dSeq (dAsg (dFz (dLc (diTup (dTup (dCons (dC (.str [122, 122])) (dCons (dC (.str [122, 122, 122])) (dCons (dC (.str [122, 122, 122, 122])) (dCons (dC (.str [122, 122, 122, 122, 122])) (dCons (dC (.str [122, 122, 122, 122, 122, 122])) (dCons (dC (.str [122, 122, 122, 122, 122, 122, 122])) (dCons (dC (.str [122, 122, 122, 122, 122, 122, 122, 122])) dNil))))))))) (dName 10) dYes (dCal (pos2 sp_Kind_of_texts []) (dCons (dVar 10) dNil) dNil) [10])) (dName 6))
    (dSeq (dIfS (dOr (dTest (dOp rNeD (dCall sp_l_part [] (dCons (dLst dNil) (dCons (dVar 5) dNil))) (dC (.str [107, 105, 110, 100, 115])))) (dTest (dOp rNeD (dCall sp_l_part [] (dCons (dSl rSl (dAdd (dVar 2) (dVar 6)) dNoPart (dPart (dC (.int 7)))) (dCons (dVar 3) dNil))) (dC (.str [114, 105, 103, 104, 116]))))) (dRet (dC (.bl false))) dNext)
    (dSeq (dIfS (dTest (dOp rNeD (dCall sp_l_part [] (dCons (dSl rSl (dAdd (dAdd (dLst (dCons (dOp rIx (dVar 2) (dC (.int 0))) (dCons (dOp rIx (dVar 2) (dC (.int 0))) dNil))) (dVar 2)) (dVar 6)) dNoPart (dPart (dC (.int 8)))) (dCons (dVar 5) dNil))) (dC (.str [107, 105, 110, 100, 115])))) (dRet (dC (.bl false))) dNext)
    (dSeq (dAsg (dFz (dLc (diList (dVar 2)) (dName 11) (dTest (dOp rNeD (dFld ["Kind"] (dVar 11) "family") (dC (.str [116, 101, 120, 116])))) (dVar 11) [11])) (dName 7))
    (dSeq (dAsg (dCall sp_l_take [] (dCons (dVar 0) (dCons (dCB rLen (dCons (dVar 2) dNil)) dNil))) (dName 8))
    (dSeq (dIfS (dTest (dOp rNeD (dCall sp_l_part [] (dCons (dAdd (dVar 2) (dLst (dCons (dOp rIx (dVar 2) (dVar 8)) dNil))) (dCons (dVar 5) dNil))) (dC (.str [110, 97, 109, 101, 115])))) (dRet (dC (.bl false))) dNext)
    (dSeq (dIfS (dAnd (dTest (dOp rGtD (dCB rLen (dCons (dVar 7) dNil)) (dC (.int 0)))) (dTest (dOp rNeD (dCall sp_l_part [] (dCons (dAdd (dVar 7) (dLst (dCons (dOp rIx (dVar 7) (dC (.int 0))) dNil))) (dCons (dVar 5) dNil))) (dC (.str [110, 97, 109, 101, 115]))))) (dRet (dC (.bl false))) dNext)
    (dRet (dOrV (dOp rEqD (dCB rLen (dCons (dVar 7) dNil)) (dC (.int 0))) (dOp rEqD (dCall sp_l_part [] (dCons (dVar 7) (dCons (dVar 5) dNil))) (dC (.str [116, 101, 120, 116]))))))))))))))
def sp_l_right : DSp := fun ds C Q _ => ∃ b, ds = [.ref b] ∧ BagAt C b 0 ∧ ∀ C', Q (.bl true) C'
def td_l_right : DS :=
  (dSeq (dAsg (dCall sp_l_specs [] (dCons (dVar 0) (dCons (dAdd (dC (.int 2)) (dCall sp_l_take [] (dCons (dVar 0) (dCons (dC (.int 4)) dNil)))) (dCons (dC (.int 3)) dNil)))) (dName 1))
    (dSeq (dPar 2 3 (dCons (dFz (dLc (diList (dVar 1)) (dName 9) dYes (dCall sp_l_made [] (dCons (dVar 9) dNil)) [9])) (dCons (dCall sp_l_triples [] (dCons (dVar 0) (dCons (dVar 1) (dCons (dC (.bl true)) dNil)))) dNil)))
    (dSeq (dIfS (dOr (dTest (dOp rNeD (dCall sp_l_part [] (dCons (dVar 2) (dCons (dVar 3) dNil))) (dC (.str [114, 105, 103, 104, 116])))) (dTest (dOp rNeD (dCall sp_l_part [] (dCons (dVar 2) (dCons (dCB rTuple (dCons (dVar 3) dNil)) dNil))) (dC (.str [114, 105, 103, 104, 116]))))) (dRet (dC (.bl false))) dNext)
    (dSeq (dAsg (dCall sp_l_take [] (dCons (dVar 0) (dCons (dAdd (dCB rLen (dCons (dVar 3) dNil)) (dC (.int 1))) dNil))) (dName 4))
    (dSeq (dAsg (dOp rAddC (dAdd (dSl rSl (dVar 3) dNoPart (dPart (dVar 4))) (dLst (dCons (dCall sp_l_wrong [] (dCons (dVar 0) (dCons (dVar 1) (dCons (dSl rSl (dVar 3) dNoPart (dPart (dVar 4))) dNil)))) dNil))) (dSl rSl (dVar 3) (dPart (dVar 4)) dNoPart)) (dName 5))
    (dSeq (dIfS (dTest (dOp rEqD (dCall sp_l_take [] (dCons (dVar 0) (dCons (dC (.int 2)) dNil))) (dC (.int 0)))) (dDrop (dBM "list" rAppend (dVar 5) (dCons (dC .non) dNil))) dNext)
    (dView 5 (dSeq (dIfS (dTest (dOp rNeD (dCall sp_l_part [] (dCons (dVar 2) (dCons (dVar 5) dNil))) (dVar 4))) (dRet (dC (.bl false))) dNext)
    (dSeq (dAsg (dFz (dLc (diTup (dTup (dCons (dC (.str [122, 122])) (dCons (dC (.str [122, 122, 122])) (dCons (dC (.str [122, 122, 122, 122])) (dCons (dC (.str [122, 122, 122, 122, 122])) (dCons (dC (.str [122, 122, 122, 122, 122, 122])) (dCons (dC (.str [122, 122, 122, 122, 122, 122, 122])) (dCons (dC (.str [122, 122, 122, 122, 122, 122, 122, 122])) dNil))))))))) (dName 10) dYes (dCal (pos2 sp_Kind_of_texts []) (dCons (dVar 10) dNil) dNil) [10])) (dName 6))
    (dSeq (dIfS (dOr (dTest (dOp rNeD (dCall sp_l_part [] (dCons (dLst dNil) (dCons (dVar 5) dNil))) (dC (.str [107, 105, 110, 100, 115])))) (dTest (dOp rNeD (dCall sp_l_part [] (dCons (dSl rSl (dAdd (dVar 2) (dVar 6)) dNoPart (dPart (dC (.int 7)))) (dCons (dVar 3) dNil))) (dC (.str [114, 105, 103, 104, 116]))))) (dRet (dC (.bl false))) dNext)
    (dSeq (dIfS (dTest (dOp rNeD (dCall sp_l_part [] (dCons (dSl rSl (dAdd (dAdd (dLst (dCons (dOp rIx (dVar 2) (dC (.int 0))) (dCons (dOp rIx (dVar 2) (dC (.int 0))) dNil))) (dVar 2)) (dVar 6)) dNoPart (dPart (dC (.int 8)))) (dCons (dVar 5) dNil))) (dC (.str [107, 105, 110, 100, 115])))) (dRet (dC (.bl false))) dNext)
    (dSeq (dAsg (dFz (dLc (diList (dVar 2)) (dName 11) (dTest (dOp rNeD (dFld ["Kind"] (dVar 11) "family") (dC (.str [116, 101, 120, 116])))) (dVar 11) [11])) (dName 7))
    (dSeq (dAsg (dCall sp_l_take [] (dCons (dVar 0) (dCons (dCB rLen (dCons (dVar 2) dNil)) dNil))) (dName 8))
    (dSeq (dIfS (dTest (dOp rNeD (dCall sp_l_part [] (dCons (dAdd (dVar 2) (dLst (dCons (dOp rIx (dVar 2) (dVar 8)) dNil))) (dCons (dVar 5) dNil))) (dC (.str [110, 97, 109, 101, 115])))) (dRet (dC (.bl false))) dNext)
    (dSeq (dIfS (dAnd (dTest (dOp rGtD (dCB rLen (dCons (dVar 7) dNil)) (dC (.int 0)))) (dTest (dOp rNeD (dCall sp_l_part [] (dCons (dAdd (dVar 7) (dLst (dCons (dOp rIx (dVar 7) (dC (.int 0))) dNil))) (dCons (dVar 5) dNil))) (dC (.str [110, 97, 109, 101, 115]))))) (dRet (dC (.bl false))) dNext)
    (dRet (dOrV (dOp rEqD (dCB rLen (dCons (dVar 7) dNil)) (dC (.int 0))) (dOp rEqD (dCall sp_l_part [] (dCons (dVar 7) (dCons (dVar 5) dNil))) (dC (.str [116, 101, 120, 116]))))))))))))))))))))
theorem len_l_right (ds : List D) (C : Cl) (Q : DQ) (E : DX) (h : sp_l_right ds C Q E) : ds.length = 1 := by repeat (first | (obtain ⟨rfl, _⟩ := h; exact rfl) | (obtain ⟨_, h⟩ := h))
theorem pure_l_right (ds : List D) (C : Cl) (Q : DQ) (E : DX) (h : sp_l_right ds C Q E) : td_l_right (endsD Q) (startD ["_law_bag_here", "_law_specs_here", "_law_kinds", "_law_triples_here", "_law_at", "_law_wrong_here", "_law_more", "_law_bare", "_law_place", "_law_spec_here", "_law_label", "_law_kind"] ds) C := by
  obtain ⟨b, rfl, hb, hq⟩ := h
  unfold td_l_right
  refine v_ends ?_
  simp only [startD, List.map_cons, List.map_nil, List.length_cons, List.length_nil, Nat.reduceAdd, Nat.reduceSub, List.reduceReplicate, List.cons_append, List.nil_append]
  array_mem_dec
  refine ⟨b, 4, 0, rfl, by decide, by decide, hb, by omega, fun i C1 i0 i1 B1 => ?_⟩
  array_mem_dec
  refine ⟨b, (2 + i).toNat, 3, _, by rw [show (((2 + i).toNat : Nat) : Int) = 2 + i by omega]; rfl, by omega, by omega, by decide, by decide, B1.at, by decide, fun ks C3 kl hs B3 => ?_⟩
  have k2 : 2 ≤ ks.length := by omega
  have k7 : ks.length ≤ 5 := by omega
  have nd := hs.nd
  array_mem_dec
  refine v_lcmapF (as := ks) (e := specOf) kindD (fun R h => ?_) (szl (by omega)) (fun i a C' N _ ha _ hN => ?_) ?_
  · array_mem_dec
    exact h
  · array_mem_dec
    exact ⟨a, optD a, rfl, hs.good a ha, hN⟩
  array_mem_dec
  refine ⟨b, ks, 3, _, true, rfl, hs, by omega, by omega, B3.at, by decide, fun trs C4 ht tl B4 => ?_⟩
  have okb : OkB ks trs := hs.okT (by omega) (by omega) ht
  have nm := okb.nm
  array_mem_dec
  refine ⟨ks, _, .str wRight, rfl, by omega, nm, .right okb rfl, ?_⟩
  unfold wRight
  array_mem_dec
  refine ⟨ks, .tup (trs.map tripD), .str wRight, rfl, by omega, nm, .right okb rfl, ?_⟩
  unfold wRight
  array_mem_dec
  refine ⟨b, _, _, rfl, by omega, by rw [List.length_map]; omega, B4.at, by decide, fun i C5 j0 j1 B5 => ?_⟩
  obtain ⟨j, rfl⟩ := Int.eq_ofNat_of_zero_le j0
  rw [List.length_map] at j1
  have jl : j ≤ trs.length := by omega
  array_mem_dec
  rw [cutL_to _ (by omega), Int.toNat_natCast, ← List.map_take]
  have ltk : (trs.take j).length = j := by rw [List.length_take]; omega
  refine ⟨b, ks, trs.take j, 3, _, rfl, hs, by omega, by omega, ht.take, by omega, B5.at, by decide, fun d C6 bad B6 => ?_⟩
  array_mem_dec
  rw [cutL_from _ (by omega), Int.toNat_natCast, ← List.map_drop]
  have ldr : (trs.drop j).length ≤ 100 := by rw [List.length_drop]; omega
  refine ⟨_, _, rfl, rfl, szl (by simp only [List.length_append, List.length_map, List.length_cons, List.length_nil]; omega), fun p hp => ?_⟩
  have B7 := ((((B1.trans B3).trans B4).trans B5).trans B6)
  have bp := B7.at.ne hp
  array_mem_dec
  refine ⟨b, _, _, rfl, by decide, by decide, B7.at.upd bp, by omega, fun i2 C7 _ _ B8 => ?_⟩
  obtain ⟨C8, rfl, B9⟩ := bag_over B8 bp
  have hp8 : C8 p = none := by rw [B9.ne (Ne.symm bp)]; exact hp
  have B10 := B7.trans B9
  have okj : OkB ks (trs.take j) := hs.okT (by omega) (by omega) ht.take
  have nk : (namesK ks).length = ks.length := by unfold namesK; rw [List.length_map]
  have body : ∀ W rest : List D, W = (trs.take j).map tripD ++ d :: rest → tail27 (endsD Q) [some (.ref b), some (.lst (ks.map specOf)), some (.lst (ks.map kindD)), some (.lst (trs.map tripD)), some (.int (j : Nat)), some (.ref p), none, none, none, none, none, none] (updC C8 p (.lst W)) := by
    rintro W rest hW
    unfold tail27
    refine ⟨_, _, _, rfl, .lst updC_same, ?_⟩
    rw [delC_new hp8]
    dsimp only [List.set]
    array_mem_dec
    refine ⟨ks, .lst W, _, rfl, by omega, nm, .bad okj (by rw [hW]; rfl) bad, ?_⟩
    rw [ltk]
    array_mem_dec
    refine v_lcmapF (as := zNames) (e := D.str) (fun l => kindD (txtK l)) (fun R h => ?_) (szl (by decide)) (fun i l C' N _ hm _ hN => ?_) ?_
    · array_mem_dec
      exact h
    · have hz := zN_ok l hm
      array_mem_dec
      exact ⟨l, rfl, hz.1, by omega, hN⟩
    have lz : zNames.length = 7 := rfl
    have ez : List.map (fun l => kindD (txtK l)) zNames = (zNames.map txtK).map kindD := by rw [List.map_map]; rfl
    rw [ez]
    generalize hzs : zNames.map txtK = zs
    have lzs : zs.length = 7 := by rw [← hzs]; rfl
    have zok : ∀ k ∈ zs, k.fam = famText ∧ k.name ∉ namesK ks ∧ k.name.length ≤ 100 := fun k hk => by
      rw [← hzs] at hk
      obtain ⟨l, hl, rfl⟩ := List.mem_map.mp hk
      have := zN_ok l hl
      exact ⟨rfl, no_key hs this.2.2, by show l.length ≤ 100; omega⟩
    have znd : (namesK zs).Nodup := by rw [← hzs]; unfold namesK; rw [List.map_map]; decide
    obtain ⟨k0, e0⟩ : ∃ k, ks[0]? = some k := ⟨_, List.getElem?_eq_getElem (by omega)⟩
    have hk0 : k0 ∈ ks := List.mem_of_getElem? e0
    have x0 : atI (ks.map kindD) 0 = some (kindD k0) := atI_nat (j := 0) (by rw [List.getElem?_map, e0]; rfl)
    array_mem_dec
    refine ⟨[], .lst W, .str wKinds, rfl, Nat.zero_le _, nofun, .kinds (by simp), ?_⟩
    unfold wKinds
    array_mem_dec
    refine ⟨ks ++ zs.take (7 - ks.length), .lst (trs.map tripD), .str wRight, ?_, by rw [List.length_append, List.length_take]; omega, fun k hk => ?_, .right (okb_more okb (fun k hk => zok k (List.mem_of_mem_take hk)) (by unfold namesK; rw [List.map_take]; exact List.Nodup.sublist (List.take_sublist _ _) znd) (by rw [List.length_take]; omega)) rfl, ?_⟩
    · rw [cutL_to _ (by decide), ← List.map_append, ← List.map_take, List.take_append, List.take_of_length_le (by show ks.length ≤ 7; omega)]; rfl
    · rcases List.mem_append.mp hk with hk | hk
      · exact nm k hk
      · exact (zok k (List.mem_of_mem_take hk)).2.2
    unfold wRight
    array_mem_dec
    refine v_ixL x0 ?_
    array_mem_dec
    refine v_ixL x0 ?_
    array_mem_dec
    refine ⟨([k0, k0] ++ ks ++ zs).take 8, .lst W, .str wKinds, ?_, by rw [List.length_take]; omega, fun k hk => ?_, .kinds (by rw [List.length_take]; simp only [List.length_append, List.length_cons, List.length_nil]; omega), ?_⟩
    · rw [cutL_to _ (by decide), List.map_take, List.map_append, List.map_append]; rfl
    · rcases List.mem_append.mp (List.mem_of_mem_take hk) with hk | hk
      · rcases List.mem_append.mp hk with hk | hk
        · simp only [List.mem_cons, List.not_mem_nil, or_false, or_self] at hk
          subst hk; exact nm _ hk0
        · exact nm k hk
      · exact (zok k hk).2.2
    unfold wKinds
    array_mem_dec
    refine v_lcfilF (as := ks) (e := kindD) (fun k => !isFam famText k) kindD (fun R h => ?_) (szl (by omega)) (fun i k C1 N S _ _ hs hy hn => ?_) ?_
    · array_mem_dec
      exact h
    · array_mem_dec
      refine ite_nd (fun e => ?_) (fun e => ?_)
      · array_mem_dec
        exact hy (by show (!decide (k.fam = famText)) = true; rw [decide_eq_false e]; rfl)
      · exact hn (by show (!decide (k.fam = famText)) = false; rw [decide_eq_true e]; rfl)
    generalize hbs : ks.filter (fun k => !isFam famText k) = bs
    have bsub : bs.Sublist ks := by rw [← hbs]; exact List.filter_sublist
    have bl := bsub.length_le
    have bnd : (namesK bs).Nodup := List.Nodup.sublist (bsub.map _) nd
    have bnt : ∀ k ∈ bs, k.fam ≠ famText := fun k hk e => by
      rw [← hbs] at hk
      have := (List.mem_filter.mp hk).2
      unfold isFam at this
      rw [decide_eq_true e] at this; cases this
    have bnm : ∀ k ∈ bs, k.name.length ≤ 100 := fun k hk => nm k (bsub.subset hk)
    array_mem_dec
    refine ⟨b, _, _, rfl, by rw [List.length_map]; omega, by rw [List.length_map]; omega, B10.at, by decide, fun i3 C9 r0 r1 B11 => ?_⟩
    rw [List.length_map] at r1
    obtain ⟨r, rfl⟩ := Int.eq_ofNat_of_zero_le r0
    obtain ⟨kr, er⟩ : ∃ k, ks[r]? = some k := ⟨_, List.getElem?_eq_getElem (by omega)⟩
    have hkr : kr ∈ ks := List.mem_of_getElem? er
    have xr : atI (ks.map kindD) (r : Int) = some (kindD kr) := atI_nat (by rw [List.getElem?_map, er]; rfl)
    array_mem_dec
    refine v_ixL xr ?_
    array_mem_dec
    refine ⟨ks ++ [kr], .lst W, .str wNames, by rw [List.map_append]; rfl, by rw [List.length_append]; simp only [List.length_cons, List.length_nil]; omega, fun k hk => ?_, .names (by rw [List.length_append]; omega) (by rw [List.length_append]; simp only [List.length_cons, List.length_nil]; omega) (dup_names hkr), ?_⟩
    · rcases List.mem_append.mp hk with hk | hk
      · exact nm k hk
      · cases List.mem_singleton.mp hk; exact nm _ hkr
    unfold wNames
    array_mem_dec
    cases bs with
    | nil =>
      array_mem_dec
      exact ⟨_, _, .same, hq _⟩
    | cons b0 bs =>
      array_mem_dec
      have bl2 : bs.length + 1 ≤ 5 := by simp only [List.length_cons] at bl; omega
      refine v_ixL (d := kindD b0) (atI_nat (j := 0) rfl) ?_
      array_mem_dec
      refine ⟨b0 :: bs ++ [b0], .lst W, .str wNames, by rw [List.map_append]; rfl, by rw [List.length_append]; simp only [List.length_cons, List.length_nil] at bl ⊢; omega, fun k hk => ?_, .names (by rw [List.length_append]; simp only [List.length_cons]; omega) (by rw [List.length_append]; simp only [List.length_cons, List.length_nil] at bl ⊢; omega) (dup_names (.head _)), ?_⟩
      · rcases List.mem_append.mp hk with hk | hk
        · exact bnm k hk
        · cases List.mem_singleton.mp hk; exact bnm _ (.head _)
      unfold wNames
      array_mem_dec
      refine ⟨b0 :: bs, .lst W, .str wText, rfl, by omega, bnm, .text (by simp) (by omega) bnd bnt, ?_⟩
      unfold wText
      array_mem_dec
      exact ⟨_, _, .same, hq _⟩
  array_mem_dec
  refine ite_d (fun e => ?_) (fun e => ?_)
  · array_mem_dec
    refine ⟨.inl ⟨rfl, _, updC_same⟩, ?_⟩
    array_mem_dec
    refine ⟨p, _, _, rfl, rfl, updC_same, szl (by simp only [List.length_append, List.length_map, List.length_cons, List.length_nil]; omega), ?_⟩
    rw [updC_updC]
    exact body _ _ (by rw [List.append_assoc, List.append_assoc]; rfl)
  · array_mem_dec
    exact body _ _ (by rw [List.append_assoc]; rfl)
def td_law : DS :=
  (dSeq (dFor (diRng1 (dCons (dCB rMax2 (dCons (dC (.int 1)) (dCons (dCB rMin2 (dCons (dC (.int 5)) (dCons (dCB rLen (dCons (dVar 0) dNil)) dNil))) dNil))) dNil)) (dName 1)
    (dIfS (dNot (dTest (dCall sp_l_right [] (dCons (dCall sp_l_bag [] (dCons (dVar 0) (dCons (dVar 1) dNil))) dNil)))) (dRet (dC (.bl false))) dNext))
    (dRet (dC (.bl true))))
theorem pure_law (ds : List D) (C : Cl) (Q : DQ) (E : DX) (h : sp_law ds C Q E) : td_law (endsD Q) (startD ["_law_script", "_law_at"] ds) C := by
  obtain ⟨ns, rfl, hl, hq⟩ := h
  dsimp only [td_law, dSeq, dFor]
  refine law_rng (ns := ns) (m := 5) (ρ := [some (.rol (ns.map D.int)), none]) rfl hl fun n hn => ?_
  refine ⟨fun i ρ C' => ∃ x, ρ = [some (.rol (ns.map D.int)), x], ⟨_, rfl⟩, ?_, ?_⟩
  · rintro i d ρ C' hx ⟨x, rfl⟩
    obtain ⟨hi, rfl⟩ := ranged_get hx
    rw [show (0 : Int) + (i : Int) = (i : Int) by omega]
    refine ⟨_, rfl, _, rfl, ns, i, rfl, by omega, fun b C1 hb B1 => ?_⟩
    exact ⟨b, rfl, B1.at, fun C3 => ⟨_, rfl, iteF ⟨_, rfl⟩⟩⟩
  · rintro ρ C' ⟨x, rfl⟩
    exact ⟨_, _, .same, hq _⟩
end G
namespace Lw
open PySem PySem.Spec PyProof.Rows L2 G
theorem sc_Book_names : FnScope ["self", "kind"] ["self"] (defScope s_Book_names) := ⟨rfl, rfl, rfl, by decide +kernel, rfl, by decide +kernel, by decide +kernel⟩
theorem sc_Book_all_joins : FnScope ["self", "given", "table", "one", "other"] ["self", "given"] (defScope s_Book_all_joins) := ⟨rfl, rfl, rfl, by decide +kernel, rfl, by decide +kernel, by decide +kernel⟩
theorem sc_holds_kind : FnScope ["high", "low"] ["high", "low"] (defScope s_holds_kind) := ⟨rfl, rfl, rfl, by decide +kernel, rfl, by decide +kernel, by decide +kernel⟩
theorem sc_Book_kind_named : FnScope ["self", "name", "kind"] ["self", "name"] (defScope s_Book_kind_named) := ⟨rfl, rfl, rfl, by decide +kernel, rfl, by decide +kernel, by decide +kernel⟩
theorem sc_Book_holds : FnScope ["self", "c", "a", "high"] ["self", "c", "a"] (defScope s_Book_holds) := ⟨rfl, rfl, rfl, by decide +kernel, rfl, by decide +kernel, by decide +kernel⟩
theorem sc_Book_contains : FnScope ["self", "thing"] ["self", "thing"] (defScope s_Book_contains) := ⟨rfl, rfl, rfl, by decide +kernel, rfl, by decide +kernel, by decide +kernel⟩
theorem sc_Book_is_triple : FnScope ["self", "join", "name"] ["self", "join"] (defScope s_Book_is_triple) := ⟨rfl, rfl, rfl, by decide +kernel, rfl, by decide +kernel, by decide +kernel⟩
theorem sc_Book_given_joinsX : FnScope ["self", "joins", "given", "at", "join"] ["self", "joins"] (defScope s_Book_given_joinsX) := ⟨rfl, rfl, rfl, by decide +kernel, rfl, by decide +kernel, by decide +kernel⟩
theorem sc_Book_initX : FnScope ["self", "kinds", "joins", "labels", "texts", "marks", "kind"] ["self", "kinds", "joins"] (defScope s_Book_initX) := ⟨rfl, rfl, rfl, by decide +kernel, rfl, by decide +kernel, by decide +kernel⟩
theorem sc_l_part : FnScope ["_law_kinds", "_law_joins", "_law_found", "e"] ["_law_kinds", "_law_joins"] (defScope s_l_part) := ⟨rfl, rfl, rfl, by decide +kernel, rfl, by decide +kernel, by decide +kernel⟩
theorem sc_l_take : FnScope ["_law_bag_here", "_law_many", "_law_digit", "_law_mixed"] ["_law_bag_here", "_law_many"] (defScope s_l_take) := ⟨rfl, rfl, rfl, by decide +kernel, rfl, by decide +kernel, by decide +kernel⟩
theorem sc_Kind_init : FnScope ["self", "name", "family", "marks", "yes", "no", "digits", "point", "signs", "zeros", "keep", "shown"] ["self", "name", "family", "marks", "yes", "no", "digits", "point", "signs", "zeros", "keep", "shown"] (defScope s_Kind_init) := ⟨rfl, rfl, rfl, by decide +kernel, rfl, by decide +kernel, by decide +kernel⟩
theorem sc_is_word : FnScope ["thing", "sign"] ["thing"] (defScope s_is_word) := ⟨rfl, rfl, rfl, by decide +kernel, rfl, by decide +kernel, by decide +kernel⟩
theorem sc_Kind_of_texts : FnScope ["name"] ["name"] (defScope s_Kind_of_texts) := ⟨rfl, rfl, rfl, by decide +kernel, rfl, by decide +kernel, by decide +kernel⟩
theorem sc_l_of : FnScope ["_law_bag_here", "_law_some"] ["_law_bag_here", "_law_some"] (defScope s_l_of) := ⟨rfl, rfl, rfl, by decide +kernel, rfl, by decide +kernel, by decide +kernel⟩
theorem sc_l_spare : FnScope ["_law_specs_here", "_law_spec_here"] ["_law_specs_here"] (defScope s_l_spare) := ⟨rfl, rfl, rfl, by decide +kernel, rfl, by decide +kernel, by decide +kernel⟩
theorem sc_l_holds : FnScope ["_law_high", "_law_low"] ["_law_high", "_law_low"] (defScope s_l_holds) := ⟨rfl, rfl, rfl, by decide +kernel, rfl, by decide +kernel, by decide +kernel⟩
theorem sc_l_wrong : FnScope ["_law_bag_here", "_law_specs_here", "_law_before", "_law_one", "_law_other", "_law_some", "_law_low", "_law_high", "_law_triple"] ["_law_bag_here", "_law_specs_here", "_law_before"] (defScope s_l_wrong) := ⟨rfl, rfl, rfl, by decide +kernel, rfl, by decide +kernel, by decide +kernel⟩
theorem sc_l_triples : FnScope ["_law_bag_here", "_law_specs_here", "_law_is_loose", "_law_found", "_law_one", "_law_other", "_law_low", "_law_top", "_law_high", "_law_spec_here"] ["_law_bag_here", "_law_specs_here", "_law_is_loose"] (defScope s_l_triples) := ⟨rfl, rfl, rfl, by decide +kernel, rfl, by decide +kernel, by decide +kernel⟩
theorem sc_is_between : FnScope ["thing", "least", "most"] ["thing", "least", "most"] (defScope s_is_between) := ⟨rfl, rfl, rfl, by decide +kernel, rfl, by decide +kernel, by decide +kernel⟩
theorem sc_Kind_of_numbers : FnScope ["name", "digits", "point", "signs", "zeros", "keep", "shown"] ["name", "digits", "point", "signs", "zeros", "keep", "shown"] (defScope s_Kind_of_numbers) := ⟨rfl, rfl, rfl, by decide +kernel, rfl, by decide +kernel, by decide +kernel⟩
theorem sc_is_text : FnScope ["thing", "sign"] ["thing"] (defScope s_is_text) := ⟨rfl, rfl, rfl, by decide +kernel, rfl, by decide +kernel, by decide +kernel⟩
theorem sc_are_texts : FnScope ["things", "most", "thing"] ["things", "most"] (defScope s_are_texts) := ⟨rfl, rfl, rfl, by decide +kernel, rfl, by decide +kernel, by decide +kernel⟩
theorem sc_Kind_of_words : FnScope ["name", "yes", "no", "word"] ["name", "yes", "no"] (defScope s_Kind_of_words) := ⟨rfl, rfl, rfl, by decide +kernel, rfl, by decide +kernel, by decide +kernel⟩
theorem sc_Kind_of_marks : FnScope ["name", "marks"] ["name", "marks"] (defScope s_Kind_of_marks) := ⟨rfl, rfl, rfl, by decide +kernel, rfl, by decide +kernel, by decide +kernel⟩
theorem sc_l_marked : FnScope ["_law_label", "_law_marks"] ["_law_label", "_law_marks"] (defScope s_l_marked) := ⟨rfl, rfl, rfl, by decide +kernel, rfl, by decide +kernel, by decide +kernel⟩
theorem sc_l_made : FnScope ["_law_spec_here", "_law_label", "_law_family", "_law_marks", "_law_yes", "_law_no", "_law_options_here", "_law_bound", "_law_pointed", "_law_some", "_law_leads", "_law_kept", "_law_places"] ["_law_spec_here"] (defScope s_l_made) := ⟨rfl, rfl, rfl, by decide +kernel, rfl, by decide +kernel, by decide +kernel⟩
theorem sc_l_options : FnScope ["_law_bag_here", "_law_most", "_law_bound", "_law_pointed", "_law_kept", "_law_places", "_law_some"] ["_law_bag_here", "_law_most"] (defScope s_l_options) := ⟨rfl, rfl, rfl, by decide +kernel, rfl, by decide +kernel, by decide +kernel⟩
theorem sc_l_digits : FnScope ["_law_bag_here", "_law_least", "_law_most", "_law_found", "_law_turn"] ["_law_bag_here", "_law_least", "_law_most"] (defScope s_l_digits) := ⟨rfl, rfl, rfl, by decide +kernel, rfl, by decide +kernel, by decide +kernel⟩
theorem sc_l_number : FnScope ["_law_bag_here", "_law_most", "_law_sign", "_law_before"] ["_law_bag_here", "_law_most"] (defScope s_l_number) := ⟨rfl, rfl, rfl, by decide +kernel, rfl, by decide +kernel, by decide +kernel⟩
theorem sc_l_signs : FnScope ["_law_some"] [] (defScope s_l_signs) := ⟨rfl, rfl, rfl, by decide +kernel, rfl, by decide +kernel, by decide +kernel⟩
theorem sc_l_text : FnScope ["_law_bag_here", "_law_road", "_law_turn"] ["_law_bag_here"] (defScope s_l_text) := ⟨rfl, rfl, rfl, by decide +kernel, rfl, by decide +kernel, by decide +kernel⟩
theorem sc_l_other_texts : FnScope ["_law_bag_here", "_law_many", "_law_taken", "_law_found", "_law_turn", "_law_text_here"] ["_law_bag_here", "_law_many", "_law_taken"] (defScope s_l_other_texts) := ⟨rfl, rfl, rfl, by decide +kernel, rfl, by decide +kernel, by decide +kernel⟩
theorem sc_l_spec : FnScope ["_law_bag_here", "_law_name", "_law_family", "_law_most", "_law_taken", "_law_marks", "_law_yes", "_law_no", "_law_options_here"] ["_law_bag_here", "_law_name", "_law_family", "_law_most", "_law_taken"] (defScope s_l_spec) := ⟨rfl, rfl, rfl, by decide +kernel, rfl, by decide +kernel, by decide +kernel⟩
theorem sc_l_word : FnScope ["_law_bag_here", "_law_at", "_law_most", "_law_letters", "_law_some", "_law_turn"] ["_law_bag_here", "_law_at", "_law_most"] (defScope s_l_word) := ⟨rfl, rfl, rfl, by decide +kernel, rfl, by decide +kernel, by decide +kernel⟩
theorem sc_l_words : FnScope ["_law_bag_here", "_law_many", "_law_side", "_law_at"] ["_law_bag_here", "_law_many"] (defScope s_l_words) := ⟨rfl, rfl, rfl, by decide +kernel, rfl, by decide +kernel, by decide +kernel⟩
theorem sc_l_specs : FnScope ["_law_bag_here", "_law_many", "_law_most", "_law_labels", "_law_specs_here", "_law_at", "_law_family", "_law_spec_here"] ["_law_bag_here", "_law_many", "_law_most"] (defScope s_l_specs) := ⟨rfl, rfl, rfl, by decide +kernel, rfl, by decide +kernel, by decide +kernel⟩
theorem sc_l_right : FnScope ["_law_bag_here", "_law_specs_here", "_law_kinds", "_law_triples_here", "_law_at", "_law_wrong_here", "_law_more", "_law_bare", "_law_place", "_law_spec_here", "_law_label", "_law_kind"] ["_law_bag_here"] (defScope s_l_right) := ⟨rfl, rfl, rfl, by decide +kernel, rfl, by decide +kernel, by decide +kernel⟩
theorem sc_l_bag : FnScope ["_law_script", "_law_at", "_law_cell", "_law_row"] ["_law_script", "_law_at"] (defScope s_l_bag) := ⟨rfl, rfl, rfl, by decide +kernel, rfl, by decide +kernel, by decide +kernel⟩
theorem sc_law : FnScope ["_law_script", "_law_at"] ["_law_script"] (defScope s_law) := ⟨rfl, rfl, rfl, by decide +kernel, rfl, by decide +kernel, by decide +kernel⟩
theorem sc_BadBook_init : FnScope ["self", "part"] ["self", "part"] (defScope s_BadBook_init) := ⟨rfl, rfl, rfl, by decide +kernel, rfl, by decide +kernel, by decide +kernel⟩
structure Ad where
  cl : Nm
  a_Book_names : Addr
  d_Book_names : FuncData
  a_Book_all_joins : Addr
  d_Book_all_joins : FuncData
  a_holds_kind : Addr
  d_holds_kind : FuncData
  a_Book_kind_named : Addr
  d_Book_kind_named : FuncData
  a_Book_holds : Addr
  d_Book_holds : FuncData
  a_Book_contains : Addr
  d_Book_contains : FuncData
  a_Book_is_triple : Addr
  d_Book_is_triple : FuncData
  a_Book_given_joinsX : Addr
  d_Book_given_joinsX : FuncData
  a_Book_initX : Addr
  d_Book_initX : FuncData
  t_Book_initX_joins : Addr
  a_l_part : Addr
  d_l_part : FuncData
  a_l_take : Addr
  d_l_take : FuncData
  a_Kind_init : Addr
  d_Kind_init : FuncData
  t_Kind_init_marks : Addr
  t_Kind_init_yes : Addr
  t_Kind_init_no : Addr
  a_is_word : Addr
  d_is_word : FuncData
  a_Kind_of_texts : Addr
  d_Kind_of_texts : FuncData
  p_Kind_of_texts : Addr
  a_l_of : Addr
  d_l_of : FuncData
  a_l_spare : Addr
  d_l_spare : FuncData
  a_l_holds : Addr
  d_l_holds : FuncData
  a_l_wrong : Addr
  d_l_wrong : FuncData
  a_l_triples : Addr
  d_l_triples : FuncData
  a_is_between : Addr
  d_is_between : FuncData
  a_Kind_of_numbers : Addr
  d_Kind_of_numbers : FuncData
  p_Kind_of_numbers : Addr
  a_is_text : Addr
  d_is_text : FuncData
  a_are_texts : Addr
  d_are_texts : FuncData
  a_Kind_of_words : Addr
  d_Kind_of_words : FuncData
  p_Kind_of_words : Addr
  a_Kind_of_marks : Addr
  d_Kind_of_marks : FuncData
  p_Kind_of_marks : Addr
  a_l_marked : Addr
  d_l_marked : FuncData
  a_l_made : Addr
  d_l_made : FuncData
  a_l_options : Addr
  d_l_options : FuncData
  a_l_digits : Addr
  d_l_digits : FuncData
  a_l_number : Addr
  d_l_number : FuncData
  a_l_signs : Addr
  d_l_signs : FuncData
  a_l_text : Addr
  d_l_text : FuncData
  a_l_other_texts : Addr
  d_l_other_texts : FuncData
  a_l_spec : Addr
  d_l_spec : FuncData
  a_l_word : Addr
  d_l_word : FuncData
  a_l_words : Addr
  d_l_words : FuncData
  a_l_specs : Addr
  d_l_specs : FuncData
  a_l_right : Addr
  d_l_right : FuncData
  a_l_bag : Addr
  d_l_bag : FuncData
  a_law : Addr
  d_law : FuncData
  a_BadBook_init : Addr
  d_BadBook_init : FuncData
structure Txt (K : PySem.W.Frag) (mg : Str → Option Value) (A : Ad) : Prop where
  f_Book_names : Fun K "names" "Book.names" s_Book_names A.a_Book_names A.d_Book_names
  b_Book_names : Binds K A.d_Book_names ["self"] []
  h_Book_names : Meth K (A.cl "Book") "names" A.a_Book_names
  f_Book_all_joins : Fun K "all_joins" "Book.all_joins" s_Book_all_joins A.a_Book_all_joins A.d_Book_all_joins
  b_Book_all_joins : Binds K A.d_Book_all_joins ["self", "given"] []
  h_Book_all_joins : Meth K (A.cl "Book") "all_joins" A.a_Book_all_joins
  f_holds_kind : Fun K "holds_kind" "holds_kind" s_holds_kind A.a_holds_kind A.d_holds_kind
  b_holds_kind : Binds K A.d_holds_kind ["high", "low"] []
  m_holds_kind : mg "holds_kind" = some (.ref A.a_holds_kind)
  kp_holds_kind : PySem.W.keepIn K (.ref A.a_holds_kind) = true
  f_Book_kind_named : Fun K "kind_named" "Book.kind_named" s_Book_kind_named A.a_Book_kind_named A.d_Book_kind_named
  b_Book_kind_named : Binds K A.d_Book_kind_named ["self", "name"] []
  h_Book_kind_named : Meth K (A.cl "Book") "kind_named" A.a_Book_kind_named
  f_Book_holds : Fun K "holds" "Book.holds" s_Book_holds A.a_Book_holds A.d_Book_holds
  b_Book_holds : Binds K A.d_Book_holds ["self", "c", "a"] []
  h_Book_holds : Meth K (A.cl "Book") "holds" A.a_Book_holds
  f_Book_contains : Fun K "__contains__" "Book.__contains__" s_Book_contains A.a_Book_contains A.d_Book_contains
  b_Book_contains : Binds K A.d_Book_contains ["self", "thing"] []
  h_Book_contains : Spc K A.cl "Book" "__contains__" A.a_Book_contains
  f_Book_is_triple : Fun K "is_triple" "Book.is_triple" s_Book_is_triple A.a_Book_is_triple A.d_Book_is_triple
  b_Book_is_triple : Binds K A.d_Book_is_triple ["self", "join"] []
  h_Book_is_triple : Meth K (A.cl "Book") "is_triple" A.a_Book_is_triple
  f_Book_given_joinsX : Fun K "given_joins" "Book.given_joins" s_Book_given_joinsX A.a_Book_given_joinsX A.d_Book_given_joinsX
  b_Book_given_joinsX : Binds K A.d_Book_given_joinsX ["self", "joins"] []
  h_Book_given_joinsX : Meth K (A.cl "Book") "given_joins" A.a_Book_given_joinsX
  f_Book_initX : FunD K "__init__" "Book.__init__" (defArgs s_Book_initX) (defBody s_Book_initX) (defScope s_Book_initX) [(.ref A.t_Book_initX_joins)] [] A.a_Book_initX A.d_Book_initX
  t_Book_initX_joins : KTup K A.t_Book_initX_joins []
  h_Book_initX : Mk K (A.cl "Book") A.a_Book_initX
  f_l_part : Fun K "_law_part" "_law_part" s_l_part A.a_l_part A.d_l_part
  b_l_part : Binds K A.d_l_part ["_law_kinds", "_law_joins"] []
  m_l_part : mg "_law_part" = some (.ref A.a_l_part)
  kp_l_part : PySem.W.keepIn K (.ref A.a_l_part) = true
  f_l_take : Fun K "_law_take" "_law_take" s_l_take A.a_l_take A.d_l_take
  b_l_take : Binds K A.d_l_take ["_law_bag_here", "_law_many"] []
  m_l_take : mg "_law_take" = some (.ref A.a_l_take)
  kp_l_take : PySem.W.keepIn K (.ref A.a_l_take) = true
  f_Kind_init : FunD K "__init__" "Kind.__init__" (defArgs s_Kind_init) (defBody s_Kind_init) (defScope s_Kind_init) [] [("marks", (.ref A.t_Kind_init_marks)), ("yes", (.ref A.t_Kind_init_yes)), ("no", (.ref A.t_Kind_init_no)), ("digits", .non), ("point", (.bl false)), ("signs", (.str ⟨[45].toArray⟩)), ("zeros", (.bl true)), ("keep", .non), ("shown", (.int 0))] A.a_Kind_init A.d_Kind_init
  t_Kind_init_marks : KTup K A.t_Kind_init_marks []
  t_Kind_init_yes : KTup K A.t_Kind_init_yes []
  t_Kind_init_no : KTup K A.t_Kind_init_no []
  h_Kind_init : Mk K (A.cl "Kind") A.a_Kind_init
  f_is_word : Fun K "is_word" "is_word" s_is_word A.a_is_word A.d_is_word
  b_is_word : Binds K A.d_is_word ["thing"] []
  m_is_word : mg "is_word" = some (.ref A.a_is_word)
  kp_is_word : PySem.W.keepIn K (.ref A.a_is_word) = true
  f_Kind_of_texts : Fun K "of_texts" "Kind.of_texts" s_Kind_of_texts A.a_Kind_of_texts A.d_Kind_of_texts
  b_Kind_of_texts : Binds K A.d_Kind_of_texts ["name"] []
  h_Kind_of_texts : SMet K (A.cl "Kind") (.type "type") "of_texts" A.p_Kind_of_texts A.a_Kind_of_texts
  f_l_of : Fun K "_law_of" "_law_of" s_l_of A.a_l_of A.d_l_of
  b_l_of : Binds K A.d_l_of ["_law_bag_here", "_law_some"] []
  m_l_of : mg "_law_of" = some (.ref A.a_l_of)
  kp_l_of : PySem.W.keepIn K (.ref A.a_l_of) = true
  f_l_spare : Fun K "_law_spare" "_law_spare" s_l_spare A.a_l_spare A.d_l_spare
  b_l_spare : Binds K A.d_l_spare ["_law_specs_here"] []
  m_l_spare : mg "_law_spare" = some (.ref A.a_l_spare)
  kp_l_spare : PySem.W.keepIn K (.ref A.a_l_spare) = true
  f_l_holds : Fun K "_law_holds" "_law_holds" s_l_holds A.a_l_holds A.d_l_holds
  b_l_holds : Binds K A.d_l_holds ["_law_high", "_law_low"] []
  m_l_holds : mg "_law_holds" = some (.ref A.a_l_holds)
  kp_l_holds : PySem.W.keepIn K (.ref A.a_l_holds) = true
  f_l_wrong : Fun K "_law_wrong" "_law_wrong" s_l_wrong A.a_l_wrong A.d_l_wrong
  b_l_wrong : Binds K A.d_l_wrong ["_law_bag_here", "_law_specs_here", "_law_before"] []
  m_l_wrong : mg "_law_wrong" = some (.ref A.a_l_wrong)
  kp_l_wrong : PySem.W.keepIn K (.ref A.a_l_wrong) = true
  f_l_triples : Fun K "_law_triples" "_law_triples" s_l_triples A.a_l_triples A.d_l_triples
  b_l_triples : Binds K A.d_l_triples ["_law_bag_here", "_law_specs_here", "_law_is_loose"] []
  m_l_triples : mg "_law_triples" = some (.ref A.a_l_triples)
  kp_l_triples : PySem.W.keepIn K (.ref A.a_l_triples) = true
  f_is_between : Fun K "is_between" "is_between" s_is_between A.a_is_between A.d_is_between
  b_is_between : Binds K A.d_is_between ["thing", "least", "most"] []
  m_is_between : mg "is_between" = some (.ref A.a_is_between)
  kp_is_between : PySem.W.keepIn K (.ref A.a_is_between) = true
  f_Kind_of_numbers : FunD K "of_numbers" "Kind.of_numbers" (defArgs s_Kind_of_numbers) (defBody s_Kind_of_numbers) (defScope s_Kind_of_numbers) [] [("digits", .non), ("point", (.bl false)), ("signs", (.str ⟨[45].toArray⟩)), ("zeros", (.bl true)), ("keep", .non), ("shown", (.int 0))] A.a_Kind_of_numbers A.d_Kind_of_numbers
  h_Kind_of_numbers : SMet K (A.cl "Kind") (.type "type") "of_numbers" A.p_Kind_of_numbers A.a_Kind_of_numbers
  f_is_text : Fun K "is_text" "is_text" s_is_text A.a_is_text A.d_is_text
  b_is_text : Binds K A.d_is_text ["thing"] []
  m_is_text : mg "is_text" = some (.ref A.a_is_text)
  kp_is_text : PySem.W.keepIn K (.ref A.a_is_text) = true
  f_are_texts : Fun K "are_texts" "are_texts" s_are_texts A.a_are_texts A.d_are_texts
  b_are_texts : Binds K A.d_are_texts ["things", "most"] []
  m_are_texts : mg "are_texts" = some (.ref A.a_are_texts)
  kp_are_texts : PySem.W.keepIn K (.ref A.a_are_texts) = true
  f_Kind_of_words : Fun K "of_words" "Kind.of_words" s_Kind_of_words A.a_Kind_of_words A.d_Kind_of_words
  b_Kind_of_words : Binds K A.d_Kind_of_words ["name", "yes", "no"] []
  h_Kind_of_words : SMet K (A.cl "Kind") (.type "type") "of_words" A.p_Kind_of_words A.a_Kind_of_words
  f_Kind_of_marks : Fun K "of_marks" "Kind.of_marks" s_Kind_of_marks A.a_Kind_of_marks A.d_Kind_of_marks
  b_Kind_of_marks : ∀ (kV doc pm : Value) (an : Option Addr) (cdv ct : Value) (us rest : List Value), us.length = 1 → bindArgs (PySem.W.fnOf "of_marks" "Kind.of_marks" (defArgs s_Kind_of_marks) (defBody s_Kind_of_marks) (defScope s_Kind_of_marks) .none kV doc pm an cdv ct) ⟨us ++ rest, []⟩ = (newTuple rest >>= fun t => pure ((["name"] : List Str).zip us ++ [(("marks" : Str), t)]))
  h_Kind_of_marks : SMet K (A.cl "Kind") (.type "type") "of_marks" A.p_Kind_of_marks A.a_Kind_of_marks
  f_l_marked : Fun K "_law_marked" "_law_marked" s_l_marked A.a_l_marked A.d_l_marked
  b_l_marked : Binds K A.d_l_marked ["_law_label", "_law_marks"] []
  m_l_marked : mg "_law_marked" = some (.ref A.a_l_marked)
  kp_l_marked : PySem.W.keepIn K (.ref A.a_l_marked) = true
  f_l_made : Fun K "_law_made" "_law_made" s_l_made A.a_l_made A.d_l_made
  b_l_made : Binds K A.d_l_made ["_law_spec_here"] []
  m_l_made : mg "_law_made" = some (.ref A.a_l_made)
  kp_l_made : PySem.W.keepIn K (.ref A.a_l_made) = true
  f_l_options : Fun K "_law_options" "_law_options" s_l_options A.a_l_options A.d_l_options
  b_l_options : Binds K A.d_l_options ["_law_bag_here", "_law_most"] []
  m_l_options : mg "_law_options" = some (.ref A.a_l_options)
  kp_l_options : PySem.W.keepIn K (.ref A.a_l_options) = true
  f_l_digits : Fun K "_law_digits" "_law_digits" s_l_digits A.a_l_digits A.d_l_digits
  b_l_digits : Binds K A.d_l_digits ["_law_bag_here", "_law_least", "_law_most"] []
  m_l_digits : mg "_law_digits" = some (.ref A.a_l_digits)
  kp_l_digits : PySem.W.keepIn K (.ref A.a_l_digits) = true
  f_l_number : Fun K "_law_number" "_law_number" s_l_number A.a_l_number A.d_l_number
  b_l_number : Binds K A.d_l_number ["_law_bag_here", "_law_most"] []
  m_l_number : mg "_law_number" = some (.ref A.a_l_number)
  kp_l_number : PySem.W.keepIn K (.ref A.a_l_number) = true
  f_l_signs : Fun K "_law_signs" "_law_signs" s_l_signs A.a_l_signs A.d_l_signs
  b_l_signs : Binds K A.d_l_signs [] []
  m_l_signs : mg "_law_signs" = some (.ref A.a_l_signs)
  kp_l_signs : PySem.W.keepIn K (.ref A.a_l_signs) = true
  f_l_text : Fun K "_law_text" "_law_text" s_l_text A.a_l_text A.d_l_text
  b_l_text : Binds K A.d_l_text ["_law_bag_here"] []
  m_l_text : mg "_law_text" = some (.ref A.a_l_text)
  kp_l_text : PySem.W.keepIn K (.ref A.a_l_text) = true
  f_l_other_texts : Fun K "_law_other_texts" "_law_other_texts" s_l_other_texts A.a_l_other_texts A.d_l_other_texts
  b_l_other_texts : Binds K A.d_l_other_texts ["_law_bag_here", "_law_many", "_law_taken"] []
  m_l_other_texts : mg "_law_other_texts" = some (.ref A.a_l_other_texts)
  kp_l_other_texts : PySem.W.keepIn K (.ref A.a_l_other_texts) = true
  f_l_spec : Fun K "_law_spec" "_law_spec" s_l_spec A.a_l_spec A.d_l_spec
  b_l_spec : Binds K A.d_l_spec ["_law_bag_here", "_law_name", "_law_family", "_law_most", "_law_taken"] []
  m_l_spec : mg "_law_spec" = some (.ref A.a_l_spec)
  kp_l_spec : PySem.W.keepIn K (.ref A.a_l_spec) = true
  f_l_word : Fun K "_law_word" "_law_word" s_l_word A.a_l_word A.d_l_word
  b_l_word : Binds K A.d_l_word ["_law_bag_here", "_law_at", "_law_most"] []
  m_l_word : mg "_law_word" = some (.ref A.a_l_word)
  kp_l_word : PySem.W.keepIn K (.ref A.a_l_word) = true
  f_l_words : Fun K "_law_words" "_law_words" s_l_words A.a_l_words A.d_l_words
  b_l_words : Binds K A.d_l_words ["_law_bag_here", "_law_many"] []
  m_l_words : mg "_law_words" = some (.ref A.a_l_words)
  kp_l_words : PySem.W.keepIn K (.ref A.a_l_words) = true
  f_l_specs : Fun K "_law_specs" "_law_specs" s_l_specs A.a_l_specs A.d_l_specs
  b_l_specs : Binds K A.d_l_specs ["_law_bag_here", "_law_many", "_law_most"] []
  m_l_specs : mg "_law_specs" = some (.ref A.a_l_specs)
  kp_l_specs : PySem.W.keepIn K (.ref A.a_l_specs) = true
  f_l_right : Fun K "_law_right" "_law_right" s_l_right A.a_l_right A.d_l_right
  b_l_right : Binds K A.d_l_right ["_law_bag_here"] []
  m_l_right : mg "_law_right" = some (.ref A.a_l_right)
  kp_l_right : PySem.W.keepIn K (.ref A.a_l_right) = true
  f_l_bag : Fun K "_law_bag" "_law_bag" s_l_bag A.a_l_bag A.d_l_bag
  b_l_bag : Binds K A.d_l_bag ["_law_script", "_law_at"] []
  m_l_bag : mg "_law_bag" = some (.ref A.a_l_bag)
  kp_l_bag : PySem.W.keepIn K (.ref A.a_l_bag) = true
  f_law : Fun K "law" "law" s_law A.a_law A.d_law
  b_law : Binds K A.d_law ["_law_script"] []
  m_law : mg "law" = some (.ref A.a_law)
  kp_law : PySem.W.keepIn K (.ref A.a_law) = true
  c_Kind : Cls K (A.cl "Kind")
  m_Kind : mg "Kind" = some (.ref (A.cl "Kind"))
  r_Kind : ClX.CRead K (A.cl "Kind") (.type "type")
  c_Book : Cls K (A.cl "Book")
  m_Book : mg "Book" = some (.ref (A.cl "Book"))
  r_Book : ClX.CRead K (A.cl "Book") (.type "type")
  n_Book_joined : NoAttr K (A.cl "Book") "joined"
  n_Book_kinds : NoAttr K (A.cl "Book") "kinds"
  n_Book_mark : NoAttr K (A.cl "Book") "mark"
  n_Book_spare : NoAttr K (A.cl "Book") "spare"
  n_Kind_digits : NoAttr K (A.cl "Kind") "digits"
  n_Kind_family : NoAttr K (A.cl "Kind") "family"
  n_Kind_keep : NoAttr K (A.cl "Kind") "keep"
  n_Kind_marks : NoAttr K (A.cl "Kind") "marks"
  n_Kind_name : NoAttr K (A.cl "Kind") "name"
  n_Kind_no : NoAttr K (A.cl "Kind") "no"
  n_Kind_point : NoAttr K (A.cl "Kind") "point"
  n_Kind_shown : NoAttr K (A.cl "Kind") "shown"
  n_Kind_signs : NoAttr K (A.cl "Kind") "signs"
  n_Kind_yes : NoAttr K (A.cl "Kind") "yes"
  n_Kind_zeros : NoAttr K (A.cl "Kind") "zeros"
  f_BadBook_init : Fun K "__init__" "BadBook.__init__" s_BadBook_init A.a_BadBook_init A.d_BadBook_init
  b_BadBook_init : Binds K A.d_BadBook_init ["self", "part"] []
  xo_BadBook : OexC K (A.cl "BadBook")
  xi_BadBook : PySem.W.findIn K (.ref (A.cl "BadBook")) "__init__" = some (some (.ref A.a_BadBook_init))
  xt_BadBook : PySem.W.typeIn K (.ref A.a_BadBook_init) = some (.type "function")
  xn_BadBook : ∀ f ∈ (["part"] : List Str), PySem.W.findIn K (.ref (A.cl "BadBook")) f = some none
  xr_GuessError : ClX.CRead K (A.cl "GuessError") (.type "type")
  xb_GuessError : PySem.W.findCls K (.ref (A.cl "GuessError")) (.type "type") "__init__" = some (.val (.builtin "ValueError.__init__"))
  xc_BadBook : XfC K (A.cl "BadBook")
  ex_BadBook : ExcC K (A.cl "BadBook")
  em_BadBook_GuessError : PySem.W.exmOne K (.ref (A.cl "BadBook")) (.ref (A.cl "GuessError")) = some true
  kx_BadBook_BadBook : PySem.W.kitOne K (.ref (A.cl "BadBook")) (.ref (A.cl "BadBook")) = some true
  kx_BadBook_BadKind : PySem.W.kitOne K (.ref (A.cl "BadBook")) (.ref (A.cl "BadKind")) = some false
  kx_BadBook_ValueError : PySem.W.kitOne K (.ref (A.cl "BadBook")) (.type "ValueError") = some true
  m_GuessError : mg "GuessError" = some (.ref (A.cl "GuessError"))
  m_BadKind : mg "BadKind" = some (.ref (A.cl "BadKind"))
  m_BadBook : mg "BadBook" = some (.ref (A.cl "BadBook"))
  z_ValueError : mg "ValueError" = none
  z_abs : mg "abs" = none
  z_all : mg "all" = none
  z_any : mg "any" = none
  z_bool : mg "bool" = none
  z_enumerate : mg "enumerate" = none
  z_int : mg "int" = none
  z_isinstance : mg "isinstance" = none
  z_len : mg "len" = none
  z_list : mg "list" = none
  z_max : mg "max" = none
  z_min : mg "min" = none
  z_ord : mg "ord" = none
  z_range : mg "range" = none
  z_set : mg "set" = none
  z_str : mg "str" = none
  z_tuple : mg "tuple" = none
  g_LETTERS : ∃ t, mg "LETTERS" = some (.str ⟨[97, 98, 99, 100, 101, 102, 103, 104, 105, 106, 107, 108, 109, 110, 111, 112, 113, 114, 115, 116, 117, 118, 119, 120, 121, 122].toArray⟩ t)
  g_MOST_DIGITS : ∃ t, mg "MOST_DIGITS" = some (.int 20 t)
  g_MOST_KINDS : ∃ t, mg "MOST_KINDS" = some (.int 7 t)
  g_MOST_MARKS : ∃ t, mg "MOST_MARKS" = some (.int 6 t)
  g_MOST_SHOWN : ∃ t, mg "MOST_SHOWN" = some (.int 3 t)
  g_MOST_WORDS : ∃ t, mg "MOST_WORDS" = some (.int 4 t)
section
variable {P : Program} {w : World} {K : PySem.W.Frag} {mg : Str → Option Value} {base : Heap} {A : Ad}
theorem Txt.fl_digits_Kind (T : Txt K mg A) : FldOk K A.cl "digits" ["Kind"] := (fld_cons T.c_Kind T.n_Kind_digits fld_nil)
theorem Txt.fl_family_Kind (T : Txt K mg A) : FldOk K A.cl "family" ["Kind"] := (fld_cons T.c_Kind T.n_Kind_family fld_nil)
theorem Txt.fl_joined_Book (T : Txt K mg A) : FldOk K A.cl "joined" ["Book"] := (fld_cons T.c_Book T.n_Book_joined fld_nil)
theorem Txt.fl_keep_Kind (T : Txt K mg A) : FldOk K A.cl "keep" ["Kind"] := (fld_cons T.c_Kind T.n_Kind_keep fld_nil)
theorem Txt.fl_kinds_Book (T : Txt K mg A) : FldOk K A.cl "kinds" ["Book"] := (fld_cons T.c_Book T.n_Book_kinds fld_nil)
theorem Txt.fl_mark_Book (T : Txt K mg A) : FldOk K A.cl "mark" ["Book"] := (fld_cons T.c_Book T.n_Book_mark fld_nil)
theorem Txt.fl_marks_Kind (T : Txt K mg A) : FldOk K A.cl "marks" ["Kind"] := (fld_cons T.c_Kind T.n_Kind_marks fld_nil)
theorem Txt.fl_name_Kind (T : Txt K mg A) : FldOk K A.cl "name" ["Kind"] := (fld_cons T.c_Kind T.n_Kind_name fld_nil)
theorem Txt.fl_no_Kind (T : Txt K mg A) : FldOk K A.cl "no" ["Kind"] := (fld_cons T.c_Kind T.n_Kind_no fld_nil)
theorem Txt.fl_point_Kind (T : Txt K mg A) : FldOk K A.cl "point" ["Kind"] := (fld_cons T.c_Kind T.n_Kind_point fld_nil)
theorem Txt.fl_shown_Kind (T : Txt K mg A) : FldOk K A.cl "shown" ["Kind"] := (fld_cons T.c_Kind T.n_Kind_shown fld_nil)
theorem Txt.fl_signs_Kind (T : Txt K mg A) : FldOk K A.cl "signs" ["Kind"] := (fld_cons T.c_Kind T.n_Kind_signs fld_nil)
theorem Txt.fl_spare_Book (T : Txt K mg A) : FldOk K A.cl "spare" ["Book"] := (fld_cons T.c_Book T.n_Book_spare fld_nil)
theorem Txt.fl_yes_Kind (T : Txt K mg A) : FldOk K A.cl "yes" ["Kind"] := (fld_cons T.c_Kind T.n_Kind_yes fld_nil)
theorem Txt.fl_zeros_Kind (T : Txt K mg A) : FldOk K A.cl "zeros" ["Kind"] := (fld_cons T.c_Kind T.n_Kind_zeros fld_nil)
theorem xk_BadBook (T : Txt K mg A) : FnOk P w K mg base CX0 1 A.a_BadBook_init A.d_BadBook_init ["self", "part"] (spXi K (A.cl "BadBook") ["part"]) := by
  have nd := sc_BadBook_init.nd
  refine xi_1 (k := 0) (ts := [tC (.str "not a book: "), tFmt (tVar 1)]) T.f_BadBook_init sc_BadBook_init rfl (fun σ H y1 e1 p1 t ht => ?_) (by decide) fun cdv A' outer s H E => ?_
  · simp only [List.mem_cons, List.not_mem_nil, or_false] at ht
    rcases ht with rfl | rfl
    · exact pl_c (by decide)
    · exact pl_fmt e1 p1
  · exact (pss_cons (ps_expr (pe_ginit T.m_GuessError T.xr_GuessError T.xb_GuessError (pa_cons (pv 0) (pa_cons (pe_joined (.cons pe_str (.cons (pe_fmt (pv 1)) .nil))) pa_nil)))) (pss_cons (ps_ost (pv 0) (pv 1)) pss_nil))
theorem ok_Book_names (T : Txt K mg A) : FnD P w K A.cl mg base 1 A.a_Book_names A.d_Book_names ["self"] sp_Book_names := by
  have nd := sc_Book_names.nd
  refine fn_d (k := 0) (td := td_Book_names) T.f_Book_names sc_Book_names len_Book_names pure_Book_names fun cdv A' outer s H E hr => ?_
  exact (dss_one (ds_ret (de_fz (de_lc nd (di_tup (de_fld (dv 0) T.fl_kinds_Book)) (blkOk_by (own := [("kind", 1)]) (N := ["self", "kind"]) (sc := defScope s_Book_names) (by decide +kernel)) (fun _ _ _ _ _ => (do_name 1 nd)) (fun _ _ _ _ _ => dts_nil) (fun _ _ _ _ _ => (de_fld (dv 1) T.fl_name_Kind))))))
theorem ce_Book_names_1 (T : Txt K mg A) : Cee P w K A.cl mg base CX0 1 A.a_Book_names [] (pos2 sp_Book_names []) := Cee.posD (ok_Book_names T) T.b_Book_names .nil fun _ => .nil
theorem ok_Book_all_joins (T : Txt K mg A) : FnD P w K A.cl mg base 2 A.a_Book_all_joins A.d_Book_all_joins ["self", "given"] sp_Book_all_joins := by
  have nd := sc_Book_all_joins.nd
  refine fn_d (k := 1) (td := td_Book_all_joins) T.f_Book_all_joins sc_Book_all_joins len_Book_all_joins pure_Book_all_joins fun cdv A' outer s H E hr => ?_
  exact (dss_cons (ds_set 2 nd de_newT)
      (dss_cons (ds_for PassesOwn.never (di_list (de_meth0 (ce_Book_names_1 T) (hr.mono (by decide)) pass0 T.c_Book T.h_Book_names (dv 0) dk_nil)) (dg_name 3 nd) (dss_one (ds_for PassesOwn.never (di_list (de_meth0 (ce_Book_names_1 T) (hr.mono (by decide)) pass0 T.c_Book T.h_Book_names (dv 0) dk_nil)) (dg_name 4 nd) (dss_one (ds_if (dt_cmp (od_eq hr) (dv 3) (dv 4) (nomark _)) (dss_one (ds_putT hr (dv 2) (da_cons (dv 3) (da_cons (dv 4) da_nil)) (dv 3))) (dss_one (ds_if (dt_inT hr (da_cons (dv 3) (da_cons (dv 4) da_nil)) (dv 1) rfl) (dss_one (ds_putT hr (dv 2) (da_cons (dv 3) (da_cons (dv 4) da_nil)) (de_getT hr (dv 1) (da_cons (dv 3) (da_cons (dv 4) da_nil))))) (dss_one (ds_putT hr (dv 2) (da_cons (dv 3) (da_cons (dv 4) da_nil)) (de_get2T hr (dv 1) (da_cons (dv 4) (da_cons (dv 3) da_nil)) (de_fld (dv 0) T.fl_spare_Book)))))))))))
      (dss_one (ds_ret (dv 2)))))
theorem ce_Book_all_joins_2 (T : Txt K mg A) : Cee P w K A.cl mg base CX0 2 A.a_Book_all_joins [] (pos2 sp_Book_all_joins []) := Cee.posD (ok_Book_all_joins T) T.b_Book_all_joins .nil fun _ => .nil
theorem ok_holds_kind (T : Txt K mg A) : FnD P w K A.cl mg base 1 A.a_holds_kind A.d_holds_kind ["high", "low"] sp_holds_kind := by
  have nd := sc_holds_kind.nd
  refine fn_d (k := 0) (td := td_holds_kind) T.f_holds_kind sc_holds_kind len_holds_kind pure_holds_kind fun cdv A' outer s H E hr => ?_
  exact (dss_cons (ds_if (PW.pt (dw_or (dt_cmp (od_eq hr) (de_fld (dv 0) T.fl_name_Kind) (de_fld (dv 1) T.fl_name_Kind) (nomark _)) (dw_or (dt_cmp (od_eq hr) (de_fld (dv 1) T.fl_family_Kind) (de_str (l := [109, 105, 115, 115, 105, 110, 103])) (nomark _)) (dw_or1 (dt_cmp (od_eq hr) (de_fld (dv 0) T.fl_family_Kind) (de_str (l := [116, 101, 120, 116])) (nomark _)))))) (dss_one (ds_ret de_bl)) dss_nil)
      (dss_cons (ds_if (PW.pt (dw_or (dt_cmp (od_eq hr) (de_fld (dv 0) T.fl_family_Kind) (de_str (l := [109, 105, 115, 115, 105, 110, 103])) (nomark _)) (dw_or1 (dt_cmp (od_eq hr) (de_fld (dv 1) T.fl_family_Kind) (de_str (l := [116, 101, 120, 116])) (nomark _))))) (dss_one (ds_ret de_bl)) dss_nil)
      (dss_cons (ds_if (dt_cmp (od_eq hr) (de_fld (dv 1) T.fl_family_Kind) (de_str (l := [116, 114, 117, 116, 104])) (nomark _)) (dss_one (ds_ret de_bl)) dss_nil)
      (dss_cons (ds_if (PW.pt (dw_or (dt_cmp (od_eq hr) (de_fld (dv 0) T.fl_family_Kind) (de_str (l := [116, 114, 117, 116, 104])) (nomark _)) (dw_or1 (PW.pt (dw_and (dt_val (de_fld (dv 1) T.fl_point_Kind)) (dw_and1 (dt_not (dt_val (de_fld (dv 0) T.fl_point_Kind))))))))) (dss_one (ds_ret de_bl)) dss_nil)
      (dss_one (ds_ret (de_or (de_cmp od_isN (de_fld (dv 0) T.fl_digits_Kind) de_non (nomark _)) (de_one (de_and (de_cmp od_notN (de_fld (dv 1) T.fl_digits_Kind) de_non (nomark _)) (de_one (de_cmp od_le (de_fld (dv 1) T.fl_digits_Kind) (de_fld (dv 0) T.fl_digits_Kind) (nomark _))))))))))))
theorem ok_Book_kind_named (T : Txt K mg A) : FnD P w K A.cl mg base 1 A.a_Book_kind_named A.d_Book_kind_named ["self", "name"] sp_Book_kind_named := by
  have nd := sc_Book_kind_named.nd
  refine fn_d (k := 0) (td := td_Book_kind_named) T.f_Book_kind_named sc_Book_kind_named len_Book_kind_named pure_Book_kind_named fun cdv A' outer s H E hr => ?_
  exact (dss_cons (ds_for PassesOwn.never (di_tup (de_fld (dv 0) T.fl_kinds_Book)) (dg_name 2 nd) (dss_one (ds_if (PW.pt (dw_and (dt_val (de_callB (cd_isi isi_str) T.z_isinstance boot_isinstance_ (da_cons (dv 1) (da_cons (de_bltn T.z_str boot_str_ (v := .ty "str") rfl (fun _ => .ty "str")) da_nil)))) (dw_and1 (dt_cmp (od_eq hr) (de_fld (dv 2) T.fl_name_Kind) (dv 1) (nomark _))))) (dss_one (ds_ret (dv 2))) dss_nil)))
      (dss_one ds_never))
theorem ce_Book_kind_named_2 (T : Txt K mg A) : Cee P w K A.cl mg base CX0 1 A.a_Book_kind_named [] (pos2 sp_Book_kind_named []) := Cee.posD (ok_Book_kind_named T) T.b_Book_kind_named .nil fun _ => .nil
theorem ok_Book_holds (T : Txt K mg A) : FnD P w K A.cl mg base 2 A.a_Book_holds A.d_Book_holds ["self", "c", "a"] sp_Book_holds := by
  have nd := sc_Book_holds.nd
  refine fn_d (k := 1) (td := td_Book_holds) T.f_Book_holds sc_Book_holds len_Book_holds pure_Book_holds fun cdv A' outer s H E hr => ?_
  exact (dss_cons (ds_set 3 nd (de_meth (ce_Book_kind_named_2 T) (hr.mono (by decide)) pass0 T.c_Book T.h_Book_kind_named (dv 0) (da_cons (dv 1) da_nil) dk_nil))
      (dss_one (ds_ret (de_call (ok_holds_kind T) (hr.mono (by decide)) T.m_holds_kind T.f_holds_kind.kp T.b_holds_kind .nil (fun _ => .nil) (da_cons (dv 3) (da_cons (de_meth (ce_Book_kind_named_2 T) (hr.mono (by decide)) pass0 T.c_Book T.h_Book_kind_named (dv 0) (da_cons (dv 2) da_nil) dk_nil) da_nil))))))
theorem ce_Book_holds_3 (T : Txt K mg A) : Cee P w K A.cl mg base CX0 2 A.a_Book_holds [] (pos2 sp_Book_holds []) := Cee.posD (ok_Book_holds T) T.b_Book_holds .nil fun _ => .nil
theorem ok_Book_contains (T : Txt K mg A) : FnD P w K A.cl mg base 2 A.a_Book_contains A.d_Book_contains ["self", "thing"] sp_Book_contains := by
  have nd := sc_Book_contains.nd
  refine fn_d (k := 1) (td := td_Book_contains) T.f_Book_contains sc_Book_contains len_Book_contains pure_Book_contains fun cdv A' outer s H E hr => ?_
  exact (dss_one (ds_ret (de_and (de_callB (cd_isi isi_str) T.z_isinstance boot_isinstance_ (da_cons (dv 1) (da_cons (de_bltn T.z_str boot_str_ (v := .ty "str") rfl (fun _ => .ty "str")) da_nil))) (de_one (de_cmp od_in (dv 1) (de_meth0 (ce_Book_names_1 T) (hr.mono (by decide)) pass0 T.c_Book T.h_Book_names (dv 0) dk_nil) rfl)))))
theorem ce_Book_contains_2 (T : Txt K mg A) : Cee P w K A.cl mg base CX0 2 A.a_Book_contains [] (pos2 sp_Book_contains []) := Cee.posD (ok_Book_contains T) T.b_Book_contains .nil fun _ => .nil
theorem ok_Book_is_triple (T : Txt K mg A) : FnD P w K A.cl mg base 3 A.a_Book_is_triple A.d_Book_is_triple ["self", "join"] sp_Book_is_triple := by
  have nd := sc_Book_is_triple.nd
  refine fn_d (k := 2) (td := td_Book_is_triple) T.f_Book_is_triple sc_Book_is_triple len_Book_is_triple pure_Book_is_triple fun cdv A' outer s H E hr => ?_
  exact (dss_cons (ds_if (PW.pt (dw_or (dt_not (dt_val (de_callB (cd_isi isi_tuple) T.z_isinstance boot_isinstance_ (da_cons (dv 1) (da_cons (de_bltn T.z_tuple boot_tuple_ (v := .ty "tuple") rfl (fun _ => .ty "tuple")) da_nil))))) (dw_or1 (dt_cmp (od_ne hr) (de_callB cd_len T.z_len boot_len_ (da_cons (dv 1) da_nil)) de_int (nomark _))))) (dss_one (ds_ret de_bl)) dss_nil)
      (dss_one (ds_ret (de_and (de_callB cd_all T.z_all boot_all_ (da_cons (de_fz (de_lc nd (di_tup (dv 1)) (blkOk_by (own := [("name", 2)]) (N := ["self", "join", "name"]) (sc := defScope s_Book_is_triple) (by decide +kernel)) (fun _ _ _ _ _ => (do_name 2 nd)) (fun _ _ _ _ _ => dts_nil) (fun _ _ _ _ _ => (de_cmp (od_inO (ce_Book_contains_2 T) (hr.mono (by decide)) pass0 T.h_Book_contains) (dv 2) (dv 0) rfl)))) da_nil)) (de_one (de_cmp (od_ne hr) (de_ix (dv 1) de_int) (de_ix (dv 1) de_int) (nomark _)))))))
theorem ce_Book_is_triple_2 (T : Txt K mg A) : Cee P w K A.cl mg base CX0 3 A.a_Book_is_triple [] (pos2 sp_Book_is_triple []) := Cee.posD (ok_Book_is_triple T) T.b_Book_is_triple .nil fun _ => .nil
theorem ok_Book_given_joinsX (T : Txt K mg A) : FnOk P w K mg base (L2.CX P w) 4 A.a_Book_given_joinsX A.d_Book_given_joinsX ["self", "joins"] (lowSp K A.cl sp_Book_given_joinsX) := by
  have nd := sc_Book_given_joinsX.nd
  refine fn_dX (k := 3) (td := td_Book_given_joinsX) T.f_Book_given_joinsX sc_Book_given_joinsX len_Book_given_joinsX pure_Book_given_joinsX fun cdv A' outer s H E F0 Ex W hr tkX fw => ?_
  exact (dss_cons (ds_set 2 nd de_newT)
      (dss_cons (ds_for (passes_of rfl) (di_enumS T.z_enumerate (da_cons (dv 1) da_nil)) (dg_tup (dgs_cons (dg_name 3 nd) (dgs_cons (dg_name 4 nd) dgs_nil))) (dss_cons (ds_if (PW.pt (dw_or (dt_not (dt_val (de_meth (ce_Book_is_triple_2 T) (hr.mono (by decide)) pass0 T.c_Book T.h_Book_is_triple (dv 0) (da_cons (dv 4) da_nil) dk_nil))) (dw_or1 (dt_inT hr (da_cons (de_ix (dv 4) de_int) (da_cons (de_ix (dv 4) de_int) da_nil)) (dv 2) rfl)))) (dss_one (ds_raise tkX fw T.xo_BadBook T.xi_BadBook T.xt_BadBook T.xn_BadBook (xk_BadBook T) (hr.mono (by decide)) T.b_BadBook_init T.m_BadBook (da_cons (dv 3) da_nil))) dss_nil)
      (dss_cons (ds_if (PW.pt (dw_or (dt_not (dt_val (de_meth (ce_Book_holds_3 T) (hr.mono (by decide)) pass0 T.c_Book T.h_Book_holds (dv 0) (da_cons (de_ix (dv 4) de_int) (da_cons (de_ix (dv 4) de_int) da_nil)) dk_nil))) (dw_or1 (dt_not (dt_val (de_meth (ce_Book_holds_3 T) (hr.mono (by decide)) pass0 T.c_Book T.h_Book_holds (dv 0) (da_cons (de_ix (dv 4) de_int) (da_cons (de_ix (dv 4) de_int) da_nil)) dk_nil)))))) (dss_one (ds_raise tkX fw T.xo_BadBook T.xi_BadBook T.xt_BadBook T.xn_BadBook (xk_BadBook T) (hr.mono (by decide)) T.b_BadBook_init T.m_BadBook (da_cons (dv 3) da_nil))) dss_nil)
      (dss_one (ds_putT hr (dv 2) (da_cons (de_ix (dv 4) de_int) (da_cons (de_ix (dv 4) de_int) da_nil)) (de_ix (dv 4) de_int))))))
      (dss_one (ds_ret (dv 2)))))
theorem ce_Book_given_joinsX_2 (T : Txt K mg A) : Cee P w K A.cl mg base (L2.CX P w) 4 A.a_Book_given_joinsX [] (pos2 sp_Book_given_joinsX []) := Cee.posD (ok_Book_given_joinsX T) T.b_Book_given_joinsX .nil fun _ => .nil
theorem ok_Book_initX (T : Txt K mg A) : FnOk P w K mg base (L2.CX P w) 5 A.a_Book_initX A.d_Book_initX ["self", "kinds", "joins"] (lowSp K A.cl sp_Book_initX) := by
  have nd := sc_Book_initX.nd
  refine fn_dDX (k := 4) (td := td_Book_initX) T.f_Book_initX sc_Book_initX len_Book_initX pure_Book_initX fun cdv A' outer s H E F0 Ex W hr tkX fw => ?_
  exact (dss_cons (ds_if (dt_not (dt_chain od_le od_le de_int (de_callB cd_len T.z_len boot_len_ (da_cons (dv 1) da_nil)) (de_gint T.g_MOST_KINDS))) (dss_one (ds_raise tkX fw T.xo_BadBook T.xi_BadBook T.xt_BadBook T.xn_BadBook (xk_BadBook T) (hr.mono (by decide)) T.b_BadBook_init T.m_BadBook (da_cons (de_str (l := [107, 105, 110, 100, 115])) da_nil))) dss_nil)
      (dss_cons (ds_fld (dv 0) (de_callTy cd_tuple T.z_tuple boot_tuple_ (da_cons (dv 1) da_nil)) T.fl_kinds_Book)
      (dss_cons (ds_set 3 nd (de_meth0 (ce_Book_names_1 T) (hr.mono (by decide)) pass0 T.c_Book T.h_Book_names (dv 0) dk_nil))
      (dss_cons (ds_if (dt_cmp (od_ne hr) (de_lenSet T.z_len T.z_set (dv 3)) (de_callB cd_len T.z_len boot_len_ (da_cons (dv 3) da_nil)) (nomark _)) (dss_one (ds_raise tkX fw T.xo_BadBook T.xi_BadBook T.xt_BadBook T.xn_BadBook (xk_BadBook T) (hr.mono (by decide)) T.b_BadBook_init T.m_BadBook (da_cons (de_str (l := [110, 97, 109, 101, 115])) da_nil))) dss_nil)
      (dss_cons (ds_setLcF 4 nd (di_list (dv 1)) (blkOk_by (own := [("kind", 6)]) (N := ["self", "kinds", "joins", "labels", "texts", "marks", "kind"]) (sc := defScope s_Book_initX) (by decide +kernel)) (fun _ _ _ _ _ => (do_name 6 nd)) (fun _ _ _ _ _ => (dts_one (dt_cmp (od_eq hr) (de_fld (dv 6) T.fl_family_Kind) (de_str (l := [116, 101, 120, 116])) (nomark _)))) (fun _ _ _ _ _ => (de_fld (dv 6) T.fl_name_Kind)) (sw_true rfl rfl rfl (by decide +kernel)))
      (dss_cons (ds_if (dt_cmp (od_eq hr) (de_callB cd_len T.z_len boot_len_ (da_cons (dv 4) da_nil)) de_int (nomark _)) (dss_one (ds_raise tkX fw T.xo_BadBook T.xi_BadBook T.xt_BadBook T.xn_BadBook (xk_BadBook T) (hr.mono (by decide)) T.b_BadBook_init T.m_BadBook (da_cons (de_str (l := [116, 101, 120, 116])) da_nil))) dss_nil)
      (dss_cons (ds_fld (dv 0) (de_ix (dv 4) de_int) T.fl_spare_Book)
      (dss_cons (ds_fld (dv 0) (de_meth (ce_Book_all_joins_2 T) (hr.mono (by decide)) pass0 T.c_Book T.h_Book_all_joins (dv 0) (da_cons (de_methX tkX fw (ce_Book_given_joinsX_2 T) (hr.mono (by decide)) T.c_Book T.h_Book_given_joinsX (dv 0) (da_cons (dv 2) da_nil) dk_nil) da_nil) dk_nil) T.fl_joined_Book)
      (dss_cons (ds_setLcF 5 nd (di_list (dv 1)) (blkOk_by (own := [("kind", 6)]) (N := ["self", "kinds", "joins", "labels", "texts", "marks", "kind"]) (sc := defScope s_Book_initX) (by decide +kernel)) (fun _ _ _ _ _ => (do_name 6 nd)) (fun _ _ _ _ _ => (dts_one (dt_cmp (od_eq hr) (de_fld (dv 6) T.fl_family_Kind) (de_str (l := [109, 105, 115, 115, 105, 110, 103])) (nomark _)))) (fun _ _ _ _ _ => (de_ix (de_fld (dv 6) T.fl_marks_Kind) de_int)) (sw_true rfl rfl rfl (by decide +kernel)))
      (dss_one (ds_fld (dv 0) (de_ifExp (dt_cmp od_gt (de_callB cd_len T.z_len boot_len_ (da_cons (dv 5) da_nil)) de_int (nomark _)) (de_ix (dv 5) de_int) (de_str (l := []))) T.fl_mark_Book)))))))))))
theorem ce_Book_initX_3 (T : Txt K mg A) : Cee P w K A.cl mg base (L2.CX P w) 5 A.a_Book_initX [] (pos2 sp_Book_initX []) := by
  obtain ⟨ds, hv, hb⟩ := T.f_Book_initX.binds1 (ps := ["self", "kinds", "joins"]) 3 1 (by simp) (by simp) (fun TT kV doc pm an cdv ct us its h1 h2 => match us, its, h1, h2 with | [_, _, _], [_], _, _ => ⟨_, rfl, rfl⟩)
  exact Cee.posD (ok_Book_initX T) hb hv fun _ => .nil
theorem ok_l_part (T : Txt K mg A) : FnD P w K A.cl mg base 7 A.a_l_part A.d_l_part ["_law_kinds", "_law_joins"] sp_l_part := by
  have nd := sc_l_part.nd
  refine fn_d (k := 6) (td := td_l_part) T.f_l_part sc_l_part len_l_part pure_l_part fun cdv A' outer s H E hr => ?_
  exact (dss_cons (ds_set 2 nd (de_str (l := [114, 105, 103, 104, 116])))
      (dss_cons (ds_try (i := 3) (hN := nd) takes0 finw_none ⟨rfl, by decide, .inl T.m_GuessError⟩ (exs_cons T.em_BadBook_GuessError exs_nil) (fun W pn xe F0 Ex tkX po fw => (dss_one (ds_expr (de_makeX tkX fw (ce_Book_initX_3 T) T.h_Book_initX (hr.mono (by decide)) T.m_Book (da_cons (dv 0) (da_cons (dv 1) da_nil)) dk_nil))))
      (fun a dd oe c fs ds pn F0 hz hv hd rf lk => by
        obtain rfl := caught1 lk (by decide)
        exact (dss_cons (ds_if (PW.pt (dw_or (dt_not (dt_val (de_xis hz hv hd T.ex_BadBook (ck_of T.ex_BadBook.hd) T.z_isinstance (dv 3) (xis_own T.m_BadBook) rel_ref T.kx_BadBook_BadBook))) (dw_or (dt_not (dt_val (de_xis hz hv hd T.ex_BadBook (ck_of T.ex_BadBook.hd) T.z_isinstance (dv 3) (xis_blt T.z_ValueError PyProof.Rows.Boot.«ValueError») rel_ty T.kx_BadBook_ValueError))) (dw_or1 (dt_val (de_xis hz hv hd T.ex_BadBook (ck_of T.ex_BadBook.hd) T.z_isinstance (dv 3) (xis_own T.m_BadKind) rel_ref T.kx_BadBook_BadKind)))))) (dss_one (ds_ret (de_str (l := [119, 114, 111, 110, 103, 32, 99, 108, 97, 115, 115])))) dss_nil)
      (dss_one (ds_set 2 nd (de_xf hz hv hd rf T.xc_BadBook (T.xn_BadBook "part" (by decide)) (dv 3)))))))
      (dss_one (ds_ret (dv 2)))))
theorem ok_l_take (T : Txt K mg A) : FnD P w K A.cl mg base 1 A.a_l_take A.d_l_take ["_law_bag_here", "_law_many"] sp_l_take := by
  have nd := sc_l_take.nd
  refine fn_d (k := 0) (td := td_l_take) T.f_l_take sc_l_take len_l_take pure_l_take fun cdv A' outer s H E hr => ?_
  exact (dss_cons (ds_if (dt_cmp od_gt (de_ix (dv 0) de_int) de_int (nomark _)) (dss_cons (ds_set 2 nd (de_op od_mod (de_callTy cd_int T.z_int boot_int_ (da_cons (de_ix (dv 0) de_int) da_nil)) (dv 1)))
      (dss_cons (ds_asg (de_op od_fdiv (de_ix (dv 0) de_int) (dv 1)) (dg_sub (dv 0) de_int st_list))
      (dss_one (ds_ret (dv 2))))) dss_nil)
      (dss_cons (ds_asg (de_op od_add (de_ix (dv 0) de_int) de_int) (dg_sub (dv 0) de_int st_list))
      (dss_cons (ds_set 3 nd (de_op od_mod (de_callTy cd_int T.z_int boot_int_ (da_cons (de_op od_pow (de_op od_add (de_ix (dv 0) de_int) (de_op od_mul de_int (de_ix (dv 0) de_int))) de_int) da_nil)) de_int))
      (dss_cons (ds_set 3 nd (de_op od_mod (de_callTy cd_int T.z_int boot_int_ (da_cons (de_op od_pow (de_op od_add (dv 3) (de_op od_mul de_int (de_ix (dv 0) de_int))) de_int) da_nil)) de_int))
      (dss_one (ds_ret (de_op od_mod (de_callTy cd_int T.z_int boot_int_ (da_cons (de_op od_fdiv (dv 3) de_int) da_nil)) (dv 1))))))))
theorem ok_Kind_init (T : Txt K mg A) : FnD P w K A.cl mg base 1 A.a_Kind_init A.d_Kind_init ["self", "name", "family", "marks", "yes", "no", "digits", "point", "signs", "zeros", "keep", "shown"] sp_Kind_init := by
  have nd := sc_Kind_init.nd
  refine fn_dD (k := 0) (td := td_Kind_init) T.f_Kind_init sc_Kind_init len_Kind_init pure_Kind_init fun cdv A' outer s H E hr => ?_
  exact (dss_cons (ds_fld (dv 0) (dv 1) T.fl_name_Kind)
      (dss_cons (ds_fld (dv 0) (dv 2) T.fl_family_Kind)
      (dss_cons (ds_fld (dv 0) (dv 3) T.fl_marks_Kind)
      (dss_cons (ds_fld (dv 0) (dv 4) T.fl_yes_Kind)
      (dss_cons (ds_fld (dv 0) (dv 5) T.fl_no_Kind)
      (dss_cons (ds_fld (dv 0) (dv 6) T.fl_digits_Kind)
      (dss_cons (ds_fld (dv 0) (dv 7) T.fl_point_Kind)
      (dss_cons (ds_fld (dv 0) (dv 8) T.fl_signs_Kind)
      (dss_cons (ds_fld (dv 0) (dv 9) T.fl_zeros_Kind)
      (dss_cons (ds_fld (dv 0) (dv 10) T.fl_keep_Kind)
      (dss_one (ds_fld (dv 0) (dv 11) T.fl_shown_Kind))))))))))))
theorem ce_Kind_init_3 (T : Txt K mg A) : Cee P w K A.cl mg base CX0 1 A.a_Kind_init [] (kw2 3 0 sp_Kind_init [(false, 0), (false, 1), (false, 2), (false, 3), (false, 4), (false, 5), (false, 6), (false, 7), (false, 8)] [(.tup []), (.tup []), (.tup []), .non, (.bl false), (.str [45]), (.bl true), .non, (.int 0)]) := by
  obtain ⟨mv, hb⟩ := T.f_Kind_init.kbinds0 (ps := ["self", "name", "family", "marks", "yes", "no", "digits", "point", "signs", "zeros", "keep", "shown"]) 3 [] [("marks", (.ref A.t_Kind_init_marks)), ("yes", (.ref A.t_Kind_init_yes)), ("no", (.ref A.t_Kind_init_no)), ("digits", .non), ("point", (.bl false)), ("signs", (.str ⟨[45].toArray⟩)), ("zeros", (.bl true)), ("keep", .non), ("shown", (.int 0))] (fun us mv ws => gOf [(false, 0), (false, 1), (false, 2), (false, 3), (false, 4), (false, 5), (false, 6), (false, 7), (false, 8)] us mv ws) (by simp) (by simp) (fun r m z => gOf_vals r m z [(false, 0), (false, 1), (false, 2), (false, 3), (false, 4), (false, 5), (false, 6), (false, 7), (false, 8)]) (fun D doc pm an cdv ct us mv ws h1 h2 h3 => match us, mv, ws, h1, h2, h3 with | [_, _, _], [_, _, _, _, _, _, _, _, _], [], _, _, _ => ⟨_, _, _, _, _, _, rfl, rfl, ⟨_, _, _, _, _, _, rfl, rfl, ⟨_, _, _, _, _, _, rfl, rfl, ⟨_, _, _, _, _, _, rfl, rfl, ⟨_, _, _, _, _, _, rfl, rfl, ⟨_, _, _, _, _, _, rfl, rfl, ⟨_, _, _, _, _, _, rfl, rfl, ⟨_, _, _, _, _, _, rfl, rfl, ⟨_, _, _, _, _, _, rfl, rfl, rfl⟩⟩⟩⟩⟩⟩⟩⟩⟩)
  exact Cee.kwD (ok_Kind_init T) hb fun _ => (.cons ((T.t_Kind_init_marks.rep .nil)) (.cons ((T.t_Kind_init_yes.rep .nil)) (.cons ((T.t_Kind_init_no.rep .nil)) (.cons (.non) (.cons (.bl _) (.cons (.str _) (.cons (.bl _) (.cons (.non) (.cons (.int _) .nil)))))))))
theorem ce_Kind_init_3_digits_point_signs_zeros_keep_shown (T : Txt K mg A) : Cee P w K A.cl mg base CX0 1 A.a_Kind_init ["digits", "point", "signs", "zeros", "keep", "shown"] (kw2 3 6 sp_Kind_init [(false, 0), (false, 1), (false, 2), (true, 0), (true, 1), (true, 2), (true, 3), (true, 4), (true, 5)] [(.tup []), (.tup []), (.tup [])]) := by
  obtain ⟨mv, hb⟩ := T.f_Kind_init.kbinds0 (ps := ["self", "name", "family", "marks", "yes", "no", "digits", "point", "signs", "zeros", "keep", "shown"]) 3 ["digits", "point", "signs", "zeros", "keep", "shown"] [("marks", (.ref A.t_Kind_init_marks)), ("yes", (.ref A.t_Kind_init_yes)), ("no", (.ref A.t_Kind_init_no))] (fun us mv ws => gOf [(false, 0), (false, 1), (false, 2), (true, 0), (true, 1), (true, 2), (true, 3), (true, 4), (true, 5)] us mv ws) (by simp) (by simp) (fun r m z => gOf_vals r m z [(false, 0), (false, 1), (false, 2), (true, 0), (true, 1), (true, 2), (true, 3), (true, 4), (true, 5)]) (fun D doc pm an cdv ct us mv ws h1 h2 h3 => match us, mv, ws, h1, h2, h3 with | [_, _, _], [_, _, _], [_, _, _, _, _, _], _, _, _ => ⟨_, _, _, _, _, _, rfl, rfl, ⟨_, _, _, _, _, _, rfl, rfl, ⟨_, _, _, _, _, _, rfl, rfl, rfl⟩⟩⟩)
  exact Cee.kwD (ok_Kind_init T) hb fun _ => (.cons ((T.t_Kind_init_marks.rep .nil)) (.cons ((T.t_Kind_init_yes.rep .nil)) (.cons ((T.t_Kind_init_no.rep .nil)) .nil)))
theorem ce_Kind_init_3_yes_no (T : Txt K mg A) : Cee P w K A.cl mg base CX0 1 A.a_Kind_init ["yes", "no"] (kw2 3 2 sp_Kind_init [(false, 0), (true, 0), (true, 1), (false, 1), (false, 2), (false, 3), (false, 4), (false, 5), (false, 6)] [(.tup []), .non, (.bl false), (.str [45]), (.bl true), .non, (.int 0)]) := by
  obtain ⟨mv, hb⟩ := T.f_Kind_init.kbinds0 (ps := ["self", "name", "family", "marks", "yes", "no", "digits", "point", "signs", "zeros", "keep", "shown"]) 3 ["yes", "no"] [("marks", (.ref A.t_Kind_init_marks)), ("digits", .non), ("point", (.bl false)), ("signs", (.str ⟨[45].toArray⟩)), ("zeros", (.bl true)), ("keep", .non), ("shown", (.int 0))] (fun us mv ws => gOf [(false, 0), (true, 0), (true, 1), (false, 1), (false, 2), (false, 3), (false, 4), (false, 5), (false, 6)] us mv ws) (by simp) (by simp) (fun r m z => gOf_vals r m z [(false, 0), (true, 0), (true, 1), (false, 1), (false, 2), (false, 3), (false, 4), (false, 5), (false, 6)]) (fun D doc pm an cdv ct us mv ws h1 h2 h3 => match us, mv, ws, h1, h2, h3 with | [_, _, _], [_, _, _, _, _, _, _], [_, _], _, _, _ => ⟨_, _, _, _, _, _, rfl, rfl, ⟨_, _, _, _, _, _, rfl, rfl, ⟨_, _, _, _, _, _, rfl, rfl, ⟨_, _, _, _, _, _, rfl, rfl, ⟨_, _, _, _, _, _, rfl, rfl, ⟨_, _, _, _, _, _, rfl, rfl, ⟨_, _, _, _, _, _, rfl, rfl, rfl⟩⟩⟩⟩⟩⟩⟩)
  exact Cee.kwD (ok_Kind_init T) hb fun _ => (.cons ((T.t_Kind_init_marks.rep .nil)) (.cons (.non) (.cons (.bl _) (.cons (.str _) (.cons (.bl _) (.cons (.non) (.cons (.int _) .nil)))))))
theorem ce_Kind_init_3_marks (T : Txt K mg A) : Cee P w K A.cl mg base CX0 1 A.a_Kind_init ["marks"] (kw2 3 1 sp_Kind_init [(true, 0), (false, 0), (false, 1), (false, 2), (false, 3), (false, 4), (false, 5), (false, 6), (false, 7)] [(.tup []), (.tup []), .non, (.bl false), (.str [45]), (.bl true), .non, (.int 0)]) := by
  obtain ⟨mv, hb⟩ := T.f_Kind_init.kbinds0 (ps := ["self", "name", "family", "marks", "yes", "no", "digits", "point", "signs", "zeros", "keep", "shown"]) 3 ["marks"] [("yes", (.ref A.t_Kind_init_yes)), ("no", (.ref A.t_Kind_init_no)), ("digits", .non), ("point", (.bl false)), ("signs", (.str ⟨[45].toArray⟩)), ("zeros", (.bl true)), ("keep", .non), ("shown", (.int 0))] (fun us mv ws => gOf [(true, 0), (false, 0), (false, 1), (false, 2), (false, 3), (false, 4), (false, 5), (false, 6), (false, 7)] us mv ws) (by simp) (by simp) (fun r m z => gOf_vals r m z [(true, 0), (false, 0), (false, 1), (false, 2), (false, 3), (false, 4), (false, 5), (false, 6), (false, 7)]) (fun D doc pm an cdv ct us mv ws h1 h2 h3 => match us, mv, ws, h1, h2, h3 with | [_, _, _], [_, _, _, _, _, _, _, _], [_], _, _, _ => ⟨_, _, _, _, _, _, rfl, rfl, ⟨_, _, _, _, _, _, rfl, rfl, ⟨_, _, _, _, _, _, rfl, rfl, ⟨_, _, _, _, _, _, rfl, rfl, ⟨_, _, _, _, _, _, rfl, rfl, ⟨_, _, _, _, _, _, rfl, rfl, ⟨_, _, _, _, _, _, rfl, rfl, ⟨_, _, _, _, _, _, rfl, rfl, rfl⟩⟩⟩⟩⟩⟩⟩⟩)
  exact Cee.kwD (ok_Kind_init T) hb fun _ => (.cons ((T.t_Kind_init_yes.rep .nil)) (.cons ((T.t_Kind_init_no.rep .nil)) (.cons (.non) (.cons (.bl _) (.cons (.str _) (.cons (.bl _) (.cons (.non) (.cons (.int _) .nil))))))))
theorem ok_is_word (T : Txt K mg A) : FnD P w K A.cl mg base 1 A.a_is_word A.d_is_word ["thing"] sp_is_word := by
  have nd := sc_is_word.nd
  refine fn_d (k := 0) (td := td_is_word) T.f_is_word sc_is_word len_is_word pure_is_word fun cdv A' outer s H E hr => ?_
  exact (dss_cons (ds_if (PW.pt (dw_or (dt_not (dt_val (de_callB (cd_isi isi_str) T.z_isinstance boot_isinstance_ (da_cons (dv 0) (da_cons (de_bltn T.z_str boot_str_ (v := .ty "str") rfl (fun _ => .ty "str")) da_nil))))) (dw_or1 (dt_not (dt_chain od_le od_le de_int (de_callB cd_len T.z_len boot_len_ (da_cons (dv 0) da_nil)) de_int))))) (dss_one (ds_ret de_bl)) dss_nil)
      (dss_one (ds_ret (de_callB cd_all T.z_all boot_all_ (da_cons (de_fz (de_lc nd (di_str (dv 0)) (blkOk_by (own := [("sign", 1)]) (N := ["thing", "sign"]) (sc := defScope s_is_word) (by decide +kernel)) (fun _ _ _ _ _ => (do_name 1 nd)) (fun _ _ _ _ _ => dts_nil) (fun _ _ _ _ _ => (de_cmp od_in (dv 1) (de_gstr T.g_LETTERS) rfl)))) da_nil)))))
theorem ok_Kind_of_texts (T : Txt K mg A) : FnD P w K A.cl mg base 3 A.a_Kind_of_texts A.d_Kind_of_texts ["name"] sp_Kind_of_texts := by
  have nd := sc_Kind_of_texts.nd
  refine fn_d (k := 2) (td := td_Kind_of_texts) T.f_Kind_of_texts sc_Kind_of_texts len_Kind_of_texts pure_Kind_of_texts fun cdv A' outer s H E hr => ?_
  exact (dss_cons (ds_if (dt_not (dt_val (de_call (ok_is_word T) (hr.mono (by decide)) T.m_is_word T.f_is_word.kp T.b_is_word .nil (fun _ => .nil) (da_cons (dv 0) da_nil)))) (dss_one ds_never) dss_nil)
      (dss_one (ds_ret (de_make (ce_Kind_init_3 T) T.h_Kind_init (hr.mono (by decide)) pass0 T.m_Kind (da_cons (dv 0) (da_cons (de_str (l := [116, 101, 120, 116])) da_nil)) dk_nil))))
theorem ce_Kind_of_texts_1 (T : Txt K mg A) : Cee P w K A.cl mg base CX0 3 A.a_Kind_of_texts [] (pos2 sp_Kind_of_texts []) := Cee.posD (ok_Kind_of_texts T) T.b_Kind_of_texts .nil fun _ => .nil
theorem ok_l_of (T : Txt K mg A) : FnD P w K A.cl mg base 2 A.a_l_of A.d_l_of ["_law_bag_here", "_law_some"] sp_l_of := by
  have nd := sc_l_of.nd
  refine fn_d (k := 1) (td := td_l_of) T.f_l_of sc_l_of len_l_of pure_l_of fun cdv A' outer s H E hr => ?_
  exact (dss_one (ds_ret (de_ix (dv 1) (de_call (ok_l_take T) (hr.mono (by decide)) T.m_l_take T.f_l_take.kp T.b_l_take .nil (fun _ => .nil) (da_cons (dv 0) (da_cons (de_callB cd_len T.z_len boot_len_ (da_cons (dv 1) da_nil)) da_nil))))))
theorem ok_l_spare (T : Txt K mg A) : FnD P w K A.cl mg base 1 A.a_l_spare A.d_l_spare ["_law_specs_here"] sp_l_spare := by
  have nd := sc_l_spare.nd
  refine fn_d (k := 0) (td := td_l_spare) T.f_l_spare sc_l_spare len_l_spare pure_l_spare fun cdv A' outer s H E hr => ?_
  exact (dss_one (ds_ret (de_ix (de_fz (de_lc nd (di_list (dv 0)) (blkOk_by (own := [("_law_spec_here", 1)]) (N := ["_law_specs_here", "_law_spec_here"]) (sc := defScope s_l_spare) (by decide +kernel)) (fun _ _ _ _ _ => (do_name 1 nd)) (fun _ _ _ _ _ => (dts_one (dt_cmp (od_eq hr) (de_ix (dv 1) de_int) (de_str (l := [116, 101, 120, 116])) (nomark _)))) (fun _ _ _ _ _ => (dv 1)))) de_int)))
theorem ok_l_holds (T : Txt K mg A) : FnD P w K A.cl mg base 1 A.a_l_holds A.d_l_holds ["_law_high", "_law_low"] sp_l_holds := by
  have nd := sc_l_holds.nd
  refine fn_d (k := 0) (td := td_l_holds) T.f_l_holds sc_l_holds len_l_holds pure_l_holds fun cdv A' outer s H E hr => ?_
  exact (dss_cons (ds_if (PW.pt (dw_or (dt_cmp (od_eq hr) (de_ix (dv 0) de_int) (de_ix (dv 1) de_int) (nomark _)) (dw_or (dt_cmp (od_eq hr) (de_ix (dv 1) de_int) (de_str (l := [109, 105, 115, 115, 105, 110, 103])) (nomark _)) (dw_or1 (dt_cmp (od_eq hr) (de_ix (dv 0) de_int) (de_str (l := [116, 101, 120, 116])) (nomark _)))))) (dss_one (ds_ret de_bl)) dss_nil)
      (dss_cons (ds_if (dt_cmp (od_eq hr) (de_ix (dv 0) de_int) (de_str (l := [116, 114, 117, 116, 104])) (nomark _)) (dss_one (ds_ret (de_cmp (od_eq hr) (de_ix (dv 1) de_int) (de_str (l := [116, 114, 117, 116, 104])) (nomark _)))) dss_nil)
      (dss_cons (ds_if (PW.pt (dw_or (dt_cmp (od_ne hr) (de_ix (dv 0) de_int) (de_str (l := [110, 117, 109, 98, 101, 114])) (nomark _)) (dw_or1 (dt_cmp (od_eq hr) (de_ix (dv 1) de_int) (de_str (l := [116, 101, 120, 116])) (nomark _))))) (dss_one (ds_ret de_bl)) dss_nil)
      (dss_cons (ds_if (dt_cmp (od_eq hr) (de_ix (dv 1) de_int) (de_str (l := [116, 114, 117, 116, 104])) (nomark _)) (dss_one (ds_ret de_bl)) dss_nil)
      (dss_cons (ds_if (PW.pt (dw_and (dt_val (de_ix (de_ix (dv 1) de_int) de_int)) (dw_and1 (dt_not (dt_val (de_ix (de_ix (dv 0) de_int) de_int)))))) (dss_one (ds_ret de_bl)) dss_nil)
      (dss_one (ds_ret (de_or (de_cmp od_isN (de_ix (de_ix (dv 0) de_int) de_int) de_non (nomark _)) (de_one (de_and (de_cmp od_notN (de_ix (de_ix (dv 1) de_int) de_int) de_non (nomark _)) (de_one (de_cmp od_le (de_ix (de_ix (dv 1) de_int) de_int) (de_ix (de_ix (dv 0) de_int) de_int) (nomark _)))))))))))))
theorem ok_l_wrong (T : Txt K mg A) : FnD P w K A.cl mg base 3 A.a_l_wrong A.d_l_wrong ["_law_bag_here", "_law_specs_here", "_law_before"] sp_l_wrong := by
  have nd := sc_l_wrong.nd
  refine fn_d (k := 2) (td := td_l_wrong) T.f_l_wrong sc_l_wrong len_l_wrong pure_l_wrong fun cdv A' outer s H E hr => ?_
  exact (dss_cons (ds_par 3 4 nd (da_cons (de_ix (de_ix (dv 1) de_int) de_int) (da_cons (de_ix (de_ix (dv 1) (de_un ud_neg de_int)) de_int) da_nil)))
      (dss_cons (ds_set 5 nd (de_lst (da_cons de_non (da_cons de_int (da_cons (de_str (l := [97, 98, 99])) (da_cons (de_tup da_nil) (da_cons (de_tup (da_cons (dv 3) (da_cons (dv 4) da_nil))) (da_cons (de_tup (da_cons (dv 3) (da_cons (dv 3) (da_cons (dv 3) da_nil)))) (da_cons (de_tup (da_cons (dv 3) (da_cons (de_str (l := [122, 122])) (da_cons (dv 3) da_nil)))) (da_cons (de_tup (da_cons (de_str (l := [122, 122])) (da_cons (dv 4) (da_cons (dv 4) da_nil)))) da_nil))))))))))
      (dss_cons (ds_set 5 nd (de_op od_add (dv 5) (de_lst (da_cons (de_tup (da_cons (dv 3) (da_cons (dv 4) (da_cons (de_str (l := [122, 122])) da_nil)))) (da_cons (de_lst (da_cons (dv 3) (da_cons (dv 4) (da_cons (dv 3) da_nil)))) (da_cons (de_tup (da_cons (dv 3) (da_cons (dv 4) (da_cons (dv 3) (da_cons (dv 3) da_nil))))) (da_cons (de_tup (da_cons de_non (da_cons (dv 4) (da_cons (dv 3) da_nil)))) (da_cons (de_tup (da_cons (dv 4) (da_cons de_int (da_cons (dv 4) da_nil)))) da_nil))))))))
      (dss_cons (ds_for PassesOwn.never (di_list (dv 1)) (dg_name 6 nd) (dss_one (ds_for PassesOwn.never (di_list (dv 1)) (dg_name 7 nd) (dss_one (ds_if (PW.pt (dw_and (dt_not (dt_val (de_call (ok_l_holds T) (hr.mono (by decide)) T.m_l_holds T.f_l_holds.kp T.b_l_holds .nil (fun _ => .nil) (da_cons (dv 7) (da_cons (dv 6) da_nil))))) (dw_and1 (dt_cmp (od_ne hr) (de_ix (dv 6) de_int) (de_ix (dv 7) de_int) (nomark _))))) (dss_one (ds_set 5 nd (de_op od_add (dv 5) (de_lst (da_cons (de_tup (da_cons (de_ix (dv 6) de_int) (da_cons (de_ix (dv 7) de_int) (da_cons (de_ix (dv 7) de_int) da_nil)))) (da_cons (de_tup (da_cons (de_ix (dv 7) de_int) (da_cons (de_ix (dv 6) de_int) (da_cons (de_ix (dv 7) de_int) da_nil)))) da_nil)))))) dss_nil)))))
      (dss_cons (ds_for PassesOwn.never (di_list (dv 2)) (dg_name 8 nd) (dss_one (ds_set 5 nd (de_op od_add (dv 5) (de_lst (da_cons (dv 8) (da_cons (de_tup (da_cons (de_ix (dv 8) de_int) (da_cons (de_ix (dv 8) de_int) (da_cons (de_ix (de_call (ok_l_spare T) (hr.mono (by decide)) T.m_l_spare T.f_l_spare.kp T.b_l_spare .nil (fun _ => .nil) (da_cons (dv 1) da_nil)) de_int) da_nil)))) da_nil)))))))
      (dss_one (ds_ret (de_call (ok_l_of T) (hr.mono (by decide)) T.m_l_of T.f_l_of.kp T.b_l_of .nil (fun _ => .nil) (da_cons (dv 0) (da_cons (dv 5) da_nil))))))))))
theorem ok_l_triples (T : Txt K mg A) : FnD P w K A.cl mg base 3 A.a_l_triples A.d_l_triples ["_law_bag_here", "_law_specs_here", "_law_is_loose"] sp_l_triples := by
  have nd := sc_l_triples.nd
  refine fn_d (k := 2) (td := td_l_triples) T.f_l_triples sc_l_triples len_l_triples pure_l_triples fun cdv A' outer s H E hr => ?_
  exact (dss_cons (ds_set 3 nd (de_lstC da_nil))
      (dss_cons (ds_for PassesOwn.never (di_rng1 T.z_range (da_cons (de_callB cd_len T.z_len boot_len_ (da_cons (dv 1) da_nil)) da_nil)) (dg_name 4 nd) (dss_one (ds_for PassesOwn.never (di_rng1 T.z_range (da_cons (de_callB cd_len T.z_len boot_len_ (da_cons (dv 1) da_nil)) da_nil)) (dg_name 5 nd) (dss_one (ds_if (PW.pt (dw_or (dt_cmp od_lt (dv 4) (dv 5) (nomark _)) (dw_or1 (PW.pt (dw_and (dt_val (dv 2)) (dw_and (dt_cmp (od_ne hr) (dv 4) (dv 5) (nomark _)) (dw_and1 (dt_cmp (od_eq hr) (de_call (ok_l_take T) (hr.mono (by decide)) T.m_l_take T.f_l_take.kp T.b_l_take .nil (fun _ => .nil) (da_cons (dv 0) (da_cons de_int da_nil))) de_int (nomark _))))))))) (dss_cons (ds_asg (de_tup (da_cons (de_ix (dv 1) (dv 4)) (da_cons (de_ix (dv 1) (dv 5)) da_nil))) (dg_tup (dgs_cons (dg_name 6 nd) (dgs_cons (dg_name 7 nd) dgs_nil))))
      (dss_cons (ds_setLcF 8 nd (di_list (dv 1)) (blkOk_by (own := [("_law_spec_here", 9)]) (N := ["_law_bag_here", "_law_specs_here", "_law_is_loose", "_law_found", "_law_one", "_law_other", "_law_low", "_law_top", "_law_high", "_law_spec_here"]) (sc := defScope s_l_triples) (by decide +kernel)) (fun _ _ _ _ _ => (do_name 9 nd)) (fun _ _ _ _ _ => (dts_one (PW.pt (dw_and (dt_val (de_call (ok_l_holds T) (hr.mono (by decide)) T.m_l_holds T.f_l_holds.kp T.b_l_holds .nil (fun _ => .nil) (da_cons (dv 9) (da_cons (dv 6) da_nil)))) (dw_and1 (dt_val (de_call (ok_l_holds T) (hr.mono (by decide)) T.m_l_holds T.f_l_holds.kp T.b_l_holds .nil (fun _ => .nil) (da_cons (dv 9) (da_cons (dv 7) da_nil))))))))) (fun _ _ _ _ _ => (de_ix (dv 9) de_int)) (sw_true rfl rfl rfl (by decide +kernel)))
      (dss_one (ds_if (dt_cmp od_gt (de_call (ok_l_take T) (hr.mono (by decide)) T.m_l_take T.f_l_take.kp T.b_l_take .nil (fun _ => .nil) (da_cons (dv 0) (da_cons de_int da_nil))) de_int (nomark _)) (dss_one (ds_expr (de_bm PySem.F.plainAttrs_list PySem.F.slot_list_append PySem.F.type_list_append md_append (dv 3) (da_cons (de_tup (da_cons (de_ix (de_ix (dv 1) (dv 4)) de_int) (da_cons (de_ix (de_ix (dv 1) (dv 5)) de_int) (da_cons (de_call (ok_l_of T) (hr.mono (by decide)) T.m_l_of T.f_l_of.kp T.b_l_of .nil (fun _ => .nil) (da_cons (dv 0) (da_cons (dv 8) da_nil))) da_nil)))) da_nil)))) dss_nil)))) dss_nil)))))
      (dss_one (ds_ret (dv 3)))))
theorem ok_is_between (T : Txt K mg A) : FnD P w K A.cl mg base 1 A.a_is_between A.d_is_between ["thing", "least", "most"] sp_is_between := by
  have nd := sc_is_between.nd
  refine fn_d (k := 0) (td := td_is_between) T.f_is_between sc_is_between len_is_between pure_is_between fun cdv A' outer s H E hr => ?_
  exact (dss_one (ds_ret (de_and (de_callB (cd_isi isi_int) T.z_isinstance boot_isinstance_ (da_cons (dv 0) (da_cons (de_bltn T.z_int boot_int_ (v := .ty "int") rfl (fun _ => .ty "int")) da_nil))) (de_and (de_not (de_callB (cd_isi isi_bool) T.z_isinstance boot_isinstance_ (da_cons (dv 0) (da_cons (de_bltn T.z_bool boot_bool_ (v := .ty "bool") rfl (fun _ => .ty "bool")) da_nil)))) (de_one (de_chain od_le od_le (dv 1) (dv 0) (dv 2)))))))
theorem ok_Kind_of_numbers (T : Txt K mg A) : FnD P w K A.cl mg base 3 A.a_Kind_of_numbers A.d_Kind_of_numbers ["name", "digits", "point", "signs", "zeros", "keep", "shown"] sp_Kind_of_numbers := by
  have nd := sc_Kind_of_numbers.nd
  refine fn_dD (k := 2) (td := td_Kind_of_numbers) T.f_Kind_of_numbers sc_Kind_of_numbers len_Kind_of_numbers pure_Kind_of_numbers fun cdv A' outer s H E hr => ?_
  exact (dss_cons (ds_if (dt_not (dt_val (de_call (ok_is_word T) (hr.mono (by decide)) T.m_is_word T.f_is_word.kp T.b_is_word .nil (fun _ => .nil) (da_cons (dv 0) da_nil)))) (dss_one ds_never) dss_nil)
      (dss_cons (ds_if (PW.pt (dw_and (dt_cmp od_notN (dv 1) de_non (nomark _)) (dw_and1 (dt_not (dt_val (de_call (ok_is_between T) (hr.mono (by decide)) T.m_is_between T.f_is_between.kp T.b_is_between .nil (fun _ => .nil) (da_cons (dv 1) (da_cons de_int (da_cons (de_gint T.g_MOST_DIGITS) da_nil))))))))) (dss_one ds_never) dss_nil)
      (dss_cons (ds_if (dt_not (dt_val (de_callB (cd_isi isi_bool) T.z_isinstance boot_isinstance_ (da_cons (dv 2) (da_cons (de_bltn T.z_bool boot_bool_ (v := .ty "bool") rfl (fun _ => .ty "bool")) da_nil))))) (dss_one ds_never) dss_nil)
      (dss_cons (ds_if (PW.pt (dw_or (dt_not (dt_val (de_callB (cd_isi isi_str) T.z_isinstance boot_isinstance_ (da_cons (dv 3) (da_cons (de_bltn T.z_str boot_str_ (v := .ty "str") rfl (fun _ => .ty "str")) da_nil))))) (dw_or1 (dt_cmp od_notin (dv 3) (de_tup (da_cons (de_str (l := [])) (da_cons (de_str (l := [45])) (da_cons (de_str (l := [43, 45])) da_nil)))) rfl)))) (dss_one ds_never) dss_nil)
      (dss_cons (ds_if (dt_not (dt_val (de_callB (cd_isi isi_bool) T.z_isinstance boot_isinstance_ (da_cons (dv 4) (da_cons (de_bltn T.z_bool boot_bool_ (v := .ty "bool") rfl (fun _ => .ty "bool")) da_nil))))) (dss_one ds_never) dss_nil)
      (dss_cons (ds_if (PW.pt (dw_and (dt_cmp od_notN (dv 5) de_non (nomark _)) (dw_and1 (dt_not (dt_val (de_call (ok_is_between T) (hr.mono (by decide)) T.m_is_between T.f_is_between.kp T.b_is_between .nil (fun _ => .nil) (da_cons (dv 5) (da_cons de_int (da_cons (de_gint T.g_MOST_DIGITS) da_nil))))))))) (dss_one ds_never) dss_nil)
      (dss_cons (ds_if (PW.pt (dw_or (dt_not (dt_val (de_call (ok_is_between T) (hr.mono (by decide)) T.m_is_between T.f_is_between.kp T.b_is_between .nil (fun _ => .nil) (da_cons (dv 6) (da_cons de_int (da_cons (de_gint T.g_MOST_SHOWN) da_nil)))))) (dw_or1 (PW.pt (dw_and (dt_cmp od_gt (dv 6) de_int (nomark _)) (dw_and1 (dt_not (dt_val (dv 2))))))))) (dss_one ds_never) dss_nil)
      (dss_one (ds_ret (de_make (ce_Kind_init_3_digits_point_signs_zeros_keep_shown T) T.h_Kind_init (hr.mono (by decide)) pass0 T.m_Kind (da_cons (dv 0) (da_cons (de_str (l := [110, 117, 109, 98, 101, 114])) da_nil)) (dk_cons (dv 1) (dk_cons (dv 2) (dk_cons (dv 3) (dk_cons (dv 4) (dk_cons (dv 5) (dk_cons (dv 6) dk_nil))))))))))))))))
theorem ce_Kind_of_numbers_1_digits_point_signs_zeros_keep_shown (T : Txt K mg A) : Cee P w K A.cl mg base CX0 3 A.a_Kind_of_numbers ["digits", "point", "signs", "zeros", "keep", "shown"] (kw2 1 6 sp_Kind_of_numbers [(true, 0), (true, 1), (true, 2), (true, 3), (true, 4), (true, 5)] []) := by
  obtain ⟨mv, hb⟩ := T.f_Kind_of_numbers.kbinds0 (ps := ["name", "digits", "point", "signs", "zeros", "keep", "shown"]) 1 ["digits", "point", "signs", "zeros", "keep", "shown"] [] (fun us mv ws => gOf [(true, 0), (true, 1), (true, 2), (true, 3), (true, 4), (true, 5)] us mv ws) (by simp) (by simp) (fun r m z => gOf_vals r m z [(true, 0), (true, 1), (true, 2), (true, 3), (true, 4), (true, 5)]) (fun D doc pm an cdv ct us mv ws h1 h2 h3 => match us, mv, ws, h1, h2, h3 with | [_], [], [_, _, _, _, _, _], _, _, _ => rfl)
  exact Cee.kwD (ok_Kind_of_numbers T) hb fun _ => .nil
theorem ok_is_text (T : Txt K mg A) : FnD P w K A.cl mg base 1 A.a_is_text A.d_is_text ["thing"] sp_is_text := by
  have nd := sc_is_text.nd
  refine fn_d (k := 0) (td := td_is_text) T.f_is_text sc_is_text len_is_text pure_is_text fun cdv A' outer s H E hr => ?_
  exact (dss_cons (ds_if (dt_not (dt_val (de_callB (cd_isi isi_str) T.z_isinstance boot_isinstance_ (da_cons (dv 0) (da_cons (de_bltn T.z_str boot_str_ (v := .ty "str") rfl (fun _ => .ty "str")) da_nil))))) (dss_one (ds_ret de_bl)) dss_nil)
      (dss_one (ds_ret (de_callB cd_all T.z_all boot_all_ (da_cons (de_fz (de_lc nd (di_str (dv 0)) (blkOk_by (own := [("sign", 1)]) (N := ["thing", "sign"]) (sc := defScope s_is_text) (by decide +kernel)) (fun _ _ _ _ _ => (do_name 1 nd)) (fun _ _ _ _ _ => dts_nil) (fun _ _ _ _ _ => (de_and (de_chain od_le od_le de_int (de_callB cd_ord T.z_ord boot_ord_ (da_cons (dv 1) da_nil)) de_int) (de_one (de_cmp (od_ne hr) (de_callB cd_ord T.z_ord boot_ord_ (da_cons (dv 1) da_nil)) de_int (nomark _))))))) da_nil)))))
theorem ok_are_texts (T : Txt K mg A) : FnD P w K A.cl mg base 2 A.a_are_texts A.d_are_texts ["things", "most"] sp_are_texts := by
  have nd := sc_are_texts.nd
  refine fn_d (k := 1) (td := td_are_texts) T.f_are_texts sc_are_texts len_are_texts pure_are_texts fun cdv A' outer s H E hr => ?_
  exact (dss_cons (ds_if (PW.pt (dw_or (dt_not (dt_val (de_callB (cd_isi isi_tuple) T.z_isinstance boot_isinstance_ (da_cons (dv 0) (da_cons (de_bltn T.z_tuple boot_tuple_ (v := .ty "tuple") rfl (fun _ => .ty "tuple")) da_nil))))) (dw_or1 (dt_not (dt_chain od_le od_le de_int (de_callB cd_len T.z_len boot_len_ (da_cons (dv 0) da_nil)) (dv 1)))))) (dss_one (ds_ret de_bl)) dss_nil)
      (dss_one (ds_ret (de_and (de_callB cd_all T.z_all boot_all_ (da_cons (de_fz (de_lc nd (di_tup (dv 0)) (blkOk_by (own := [("thing", 2)]) (N := ["things", "most", "thing"]) (sc := defScope s_are_texts) (by decide +kernel)) (fun _ _ _ _ _ => (do_name 2 nd)) (fun _ _ _ _ _ => dts_nil) (fun _ _ _ _ _ => (de_call (ok_is_text T) (hr.mono (by decide)) T.m_is_text T.f_is_text.kp T.b_is_text .nil (fun _ => .nil) (da_cons (dv 2) da_nil))))) da_nil)) (de_one (de_cmp (od_eq hr) (de_lenSet T.z_len T.z_set (dv 0)) (de_callB cd_len T.z_len boot_len_ (da_cons (dv 0) da_nil)) (nomark _)))))))
theorem ok_Kind_of_words (T : Txt K mg A) : FnD P w K A.cl mg base 3 A.a_Kind_of_words A.d_Kind_of_words ["name", "yes", "no"] sp_Kind_of_words := by
  have nd := sc_Kind_of_words.nd
  refine fn_d (k := 2) (td := td_Kind_of_words) T.f_Kind_of_words sc_Kind_of_words len_Kind_of_words pure_Kind_of_words fun cdv A' outer s H E hr => ?_
  exact (dss_cons (ds_if (dt_not (dt_val (de_call (ok_is_word T) (hr.mono (by decide)) T.m_is_word T.f_is_word.kp T.b_is_word .nil (fun _ => .nil) (da_cons (dv 0) da_nil)))) (dss_one ds_never) dss_nil)
      (dss_cons (ds_if (dt_not (dt_val (de_call (ok_are_texts T) (hr.mono (by decide)) T.m_are_texts T.f_are_texts.kp T.b_are_texts .nil (fun _ => .nil) (da_cons (dv 1) (da_cons (de_gint T.g_MOST_WORDS) da_nil))))) (dss_one ds_never) dss_nil)
      (dss_cons (ds_if (PW.pt (dw_or (dt_not (dt_val (de_call (ok_are_texts T) (hr.mono (by decide)) T.m_are_texts T.f_are_texts.kp T.b_are_texts .nil (fun _ => .nil) (da_cons (dv 2) (da_cons (de_gint T.g_MOST_WORDS) da_nil))))) (dw_or1 (dt_val (de_callB cd_any T.z_any boot_any_ (da_cons (de_fz (de_lc nd (di_tup (dv 2)) (blkOk_by (own := [("word", 3)]) (N := ["name", "yes", "no", "word"]) (sc := defScope s_Kind_of_words) (by decide +kernel)) (fun _ _ _ _ _ => (do_name 3 nd)) (fun _ _ _ _ _ => dts_nil) (fun _ _ _ _ _ => (de_cmp od_in (dv 3) (dv 1) rfl)))) da_nil)))))) (dss_one ds_never) dss_nil)
      (dss_one (ds_ret (de_make (ce_Kind_init_3_yes_no T) T.h_Kind_init (hr.mono (by decide)) pass0 T.m_Kind (da_cons (dv 0) (da_cons (de_str (l := [116, 114, 117, 116, 104])) da_nil)) (dk_cons (dv 1) (dk_cons (dv 2) dk_nil))))))))
theorem ce_Kind_of_words_3 (T : Txt K mg A) : Cee P w K A.cl mg base CX0 3 A.a_Kind_of_words [] (pos2 sp_Kind_of_words []) := Cee.posD (ok_Kind_of_words T) T.b_Kind_of_words .nil fun _ => .nil
theorem ce_Kind_of_marks_star (T : Txt K mg A) : Cee P w K A.cl mg base CX0 3 A.a_Kind_of_marks [] (star2 1 sp_Kind_of_marks) := by
  have nd := sc_Kind_of_marks.nd
  refine Cee.starD (k := 2) (td := td_Kind_of_marks) (ps := ["name"]) T.f_Kind_of_marks sc_Kind_of_marks T.b_Kind_of_marks len_Kind_of_marks pure_Kind_of_marks fun cdv A' outer s H E hr => ?_
  exact (dss_cons (ds_if (dt_not (dt_val (de_call (ok_is_word T) (hr.mono (by decide)) T.m_is_word T.f_is_word.kp T.b_is_word .nil (fun _ => .nil) (da_cons (dv 0) da_nil)))) (dss_one ds_never) dss_nil)
      (dss_cons (ds_if (dt_not (dt_val (de_call (ok_are_texts T) (hr.mono (by decide)) T.m_are_texts T.f_are_texts.kp T.b_are_texts .nil (fun _ => .nil) (da_cons (dv 1) (da_cons (de_gint T.g_MOST_MARKS) da_nil))))) (dss_one ds_never) dss_nil)
      (dss_one (ds_ret (de_make (ce_Kind_init_3_marks T) T.h_Kind_init (hr.mono (by decide)) pass0 T.m_Kind (da_cons (dv 0) (da_cons (de_str (l := [109, 105, 115, 115, 105, 110, 103])) da_nil)) (dk_cons (dv 1) dk_nil))))))
theorem ce_Kind_of_marks_5 (T : Txt K mg A) : Cee P w K A.cl mg base CX0 3 A.a_Kind_of_marks [] (star2 1 sp_Kind_of_marks) := ce_Kind_of_marks_star T
theorem ce_Kind_of_marks_4 (T : Txt K mg A) : Cee P w K A.cl mg base CX0 3 A.a_Kind_of_marks [] (star2 1 sp_Kind_of_marks) := ce_Kind_of_marks_star T
theorem ce_Kind_of_marks_3 (T : Txt K mg A) : Cee P w K A.cl mg base CX0 3 A.a_Kind_of_marks [] (star2 1 sp_Kind_of_marks) := ce_Kind_of_marks_star T
theorem ce_Kind_of_marks_2 (T : Txt K mg A) : Cee P w K A.cl mg base CX0 3 A.a_Kind_of_marks [] (star2 1 sp_Kind_of_marks) := ce_Kind_of_marks_star T
theorem ok_l_marked (T : Txt K mg A) : FnD P w K A.cl mg base 4 A.a_l_marked A.d_l_marked ["_law_label", "_law_marks"] sp_l_marked := by
  have nd := sc_l_marked.nd
  refine fn_d (k := 3) (td := td_l_marked) T.f_l_marked sc_l_marked len_l_marked pure_l_marked fun cdv A' outer s H E hr => ?_
  exact (dss_cons (ds_if (dt_cmp (od_eq hr) (de_callB cd_len T.z_len boot_len_ (da_cons (dv 1) da_nil)) de_int (nomark _)) (dss_one (ds_ret (de_smeth (ce_Kind_of_marks_2 T) (hr.mono (by decide)) pass0 T.m_Kind T.r_Kind T.h_Kind_of_marks (da_cons (dv 0) (da_cons (de_ix (dv 1) de_int) da_nil)) dk_nil))) dss_nil)
      (dss_cons (ds_if (dt_cmp (od_eq hr) (de_callB cd_len T.z_len boot_len_ (da_cons (dv 1) da_nil)) de_int (nomark _)) (dss_one (ds_ret (de_smeth (ce_Kind_of_marks_3 T) (hr.mono (by decide)) pass0 T.m_Kind T.r_Kind T.h_Kind_of_marks (da_cons (dv 0) (da_cons (de_ix (dv 1) de_int) (da_cons (de_ix (dv 1) de_int) da_nil))) dk_nil))) dss_nil)
      (dss_cons (ds_if (dt_cmp (od_eq hr) (de_callB cd_len T.z_len boot_len_ (da_cons (dv 1) da_nil)) de_int (nomark _)) (dss_one (ds_ret (de_smeth (ce_Kind_of_marks_4 T) (hr.mono (by decide)) pass0 T.m_Kind T.r_Kind T.h_Kind_of_marks (da_cons (dv 0) (da_cons (de_ix (dv 1) de_int) (da_cons (de_ix (dv 1) de_int) (da_cons (de_ix (dv 1) de_int) da_nil)))) dk_nil))) dss_nil)
      (dss_one (ds_ret (de_smeth (ce_Kind_of_marks_5 T) (hr.mono (by decide)) pass0 T.m_Kind T.r_Kind T.h_Kind_of_marks (da_cons (dv 0) (da_cons (de_ix (dv 1) de_int) (da_cons (de_ix (dv 1) de_int) (da_cons (de_ix (dv 1) de_int) (da_cons (de_ix (dv 1) de_int) da_nil))))) dk_nil))))))
theorem ok_l_made (T : Txt K mg A) : FnD P w K A.cl mg base 5 A.a_l_made A.d_l_made ["_law_spec_here"] sp_l_made := by
  have nd := sc_l_made.nd
  refine fn_d (k := 4) (td := td_l_made) T.f_l_made sc_l_made len_l_made pure_l_made fun cdv A' outer s H E hr => ?_
  exact (dss_cons (ds_asg (dv 0) (dg_tup (dgs_cons (dg_name 1 nd) (dgs_cons (dg_name 2 nd) (dgs_cons (dg_name 3 nd) (dgs_cons (dg_name 4 nd) (dgs_cons (dg_name 5 nd) (dgs_cons (dg_name 6 nd) dgs_nil))))))))
      (dss_cons (ds_if (dt_cmp (od_eq hr) (dv 2) (de_str (l := [109, 105, 115, 115, 105, 110, 103])) (nomark _)) (dss_one (ds_ret (de_call (ok_l_marked T) (hr.mono (by decide)) T.m_l_marked T.f_l_marked.kp T.b_l_marked .nil (fun _ => .nil) (da_cons (dv 1) (da_cons (dv 3) da_nil))))) dss_nil)
      (dss_cons (ds_if (dt_cmp (od_eq hr) (dv 2) (de_str (l := [116, 114, 117, 116, 104])) (nomark _)) (dss_one (ds_ret (de_smeth (ce_Kind_of_words_3 T) (hr.mono (by decide)) pass0 T.m_Kind T.r_Kind T.h_Kind_of_words (da_cons (dv 1) (da_cons (dv 4) (da_cons (dv 5) da_nil))) dk_nil))) dss_nil)
      (dss_cons (ds_if (dt_cmp (od_eq hr) (dv 2) (de_str (l := [116, 101, 120, 116])) (nomark _)) (dss_one (ds_ret (de_smeth (ce_Kind_of_texts_1 T) (hr.mono (by decide)) pass0 T.m_Kind T.r_Kind T.h_Kind_of_texts (da_cons (dv 1) da_nil) dk_nil))) dss_nil)
      (dss_cons (ds_asg (dv 6) (dg_tup (dgs_cons (dg_name 7 nd) (dgs_cons (dg_name 8 nd) (dgs_cons (dg_name 9 nd) (dgs_cons (dg_name 10 nd) (dgs_cons (dg_name 11 nd) (dgs_cons (dg_name 12 nd) dgs_nil))))))))
      (dss_one (ds_ret (de_smeth (ce_Kind_of_numbers_1_digits_point_signs_zeros_keep_shown T) (hr.mono (by decide)) pass0 T.m_Kind T.r_Kind T.h_Kind_of_numbers (da_cons (dv 1) da_nil) (dk_cons (dv 7) (dk_cons (dv 8) (dk_cons (dv 9) (dk_cons (dv 10) (dk_cons (dv 11) (dk_cons (dv 12) dk_nil))))))))))))))
theorem ok_l_options (T : Txt K mg A) : FnD P w K A.cl mg base 3 A.a_l_options A.d_l_options ["_law_bag_here", "_law_most"] sp_l_options := by
  have nd := sc_l_options.nd
  refine fn_d (k := 2) (td := td_l_options) T.f_l_options sc_l_options len_l_options pure_l_options fun cdv A' outer s H E hr => ?_
  exact (dss_cons (ds_set 2 nd (de_ifExp (dt_cmp (od_eq hr) (de_call (ok_l_take T) (hr.mono (by decide)) T.m_l_take T.f_l_take.kp T.b_l_take .nil (fun _ => .nil) (da_cons (dv 0) (da_cons de_int da_nil))) de_int (nomark _)) de_non (de_op od_add de_int (de_call (ok_l_take T) (hr.mono (by decide)) T.m_l_take T.f_l_take.kp T.b_l_take .nil (fun _ => .nil) (da_cons (dv 0) (da_cons (dv 1) da_nil))))))
      (dss_cons (ds_set 3 nd (de_cmp (od_eq hr) (de_call (ok_l_take T) (hr.mono (by decide)) T.m_l_take T.f_l_take.kp T.b_l_take .nil (fun _ => .nil) (da_cons (dv 0) (da_cons de_int da_nil))) de_int (nomark _)))
      (dss_cons (ds_set 4 nd (de_ifExp (dt_cmp (od_eq hr) (de_call (ok_l_take T) (hr.mono (by decide)) T.m_l_take T.f_l_take.kp T.b_l_take .nil (fun _ => .nil) (da_cons (dv 0) (da_cons de_int da_nil))) de_int (nomark _)) de_non (de_op od_add de_int (de_call (ok_l_take T) (hr.mono (by decide)) T.m_l_take T.f_l_take.kp T.b_l_take .nil (fun _ => .nil) (da_cons (dv 0) (da_cons (dv 1) da_nil))))))
      (dss_cons (ds_set 5 nd (de_ifExp (dt_val (dv 3)) (de_call (ok_l_of T) (hr.mono (by decide)) T.m_l_of T.f_l_of.kp T.b_l_of .nil (fun _ => .nil) (da_cons (dv 0) (da_cons (de_lst (da_cons de_int (da_cons de_int (da_cons de_int (da_cons de_int da_nil))))) da_nil))) de_int))
      (dss_cons (ds_set 6 nd (de_call (ok_l_of T) (hr.mono (by decide)) T.m_l_of T.f_l_of.kp T.b_l_of .nil (fun _ => .nil) (da_cons (dv 0) (da_cons (de_lst (da_cons (de_str (l := [])) (da_cons (de_str (l := [45])) (da_cons (de_str (l := [43, 45])) da_nil)))) da_nil))))
      (dss_one (ds_ret (de_tup (da_cons (dv 2) (da_cons (dv 3) (da_cons (dv 6) (da_cons (de_cmp od_gt (de_call (ok_l_take T) (hr.mono (by decide)) T.m_l_take T.f_l_take.kp T.b_l_take .nil (fun _ => .nil) (da_cons (dv 0) (da_cons de_int da_nil))) de_int (nomark _)) (da_cons (dv 4) (da_cons (dv 5) da_nil))))))))))))))
theorem ok_l_digits (T : Txt K mg A) : FnD P w K A.cl mg base 3 A.a_l_digits A.d_l_digits ["_law_bag_here", "_law_least", "_law_most"] sp_l_digits := by
  have nd := sc_l_digits.nd
  refine fn_d (k := 2) (td := td_l_digits) T.f_l_digits sc_l_digits len_l_digits pure_l_digits fun cdv A' outer s H E hr => ?_
  exact (dss_cons (ds_set 3 nd (de_str (l := [])))
      (dss_cons (ds_for PassesOwn.never (di_rng1 T.z_range (da_cons (de_op od_add (dv 1) (de_call (ok_l_take T) (hr.mono (by decide)) T.m_l_take T.f_l_take.kp T.b_l_take .nil (fun _ => .nil) (da_cons (dv 0) (da_cons (de_op od_add (de_op od_sub (dv 2) (dv 1)) de_int) da_nil)))) da_nil)) (dg_name 4 nd) (dss_one (ds_set 3 nd (de_op od_add (dv 3) (de_call (ok_l_of T) (hr.mono (by decide)) T.m_l_of T.f_l_of.kp T.b_l_of .nil (fun _ => .nil) (da_cons (dv 0) (da_cons (de_str (l := [48, 48, 48, 49, 50, 51, 52, 53, 54, 55, 56, 57])) da_nil)))))))
      (dss_one (ds_ret (dv 3)))))
theorem ok_l_number (T : Txt K mg A) : FnD P w K A.cl mg base 4 A.a_l_number A.d_l_number ["_law_bag_here", "_law_most"] sp_l_number := by
  have nd := sc_l_number.nd
  refine fn_d (k := 3) (td := td_l_number) T.f_l_number sc_l_number len_l_number pure_l_number fun cdv A' outer s H E hr => ?_
  exact (dss_cons (ds_set 2 nd (de_call (ok_l_of T) (hr.mono (by decide)) T.m_l_of T.f_l_of.kp T.b_l_of .nil (fun _ => .nil) (da_cons (dv 0) (da_cons (de_lst (da_cons (de_str (l := [])) (da_cons (de_str (l := [])) (da_cons (de_str (l := [])) (da_cons (de_str (l := [45])) (da_cons (de_str (l := [43])) da_nil)))))) da_nil))))
      (dss_cons (ds_set 3 nd (de_call (ok_l_digits T) (hr.mono (by decide)) T.m_l_digits T.f_l_digits.kp T.b_l_digits .nil (fun _ => .nil) (da_cons (dv 0) (da_cons de_int (da_cons (dv 1) da_nil)))))
      (dss_cons (ds_if (dt_cmp (od_eq hr) (de_call (ok_l_take T) (hr.mono (by decide)) T.m_l_take T.f_l_take.kp T.b_l_take .nil (fun _ => .nil) (da_cons (dv 0) (da_cons de_int da_nil))) de_int (nomark _)) (dss_one (ds_ret (de_op od_add (dv 2) (dv 3)))) dss_nil)
      (dss_one (ds_ret (de_op od_add (de_op od_add (de_op od_add (dv 2) (dv 3)) (de_str (l := [46]))) (de_call (ok_l_digits T) (hr.mono (by decide)) T.m_l_digits T.f_l_digits.kp T.b_l_digits .nil (fun _ => .nil) (da_cons (dv 0) (da_cons de_int (da_cons (dv 1) da_nil))))))))))
theorem ok_l_signs (T : Txt K mg A) : FnD P w K A.cl mg base 1 A.a_l_signs A.d_l_signs [] sp_l_signs := by
  have nd := sc_l_signs.nd
  refine fn_d (k := 0) (td := td_l_signs) T.f_l_signs sc_l_signs len_l_signs pure_l_signs fun cdv A' outer s H E hr => ?_
  exact (dss_cons (ds_set 0 nd (de_str (l := [32, 33, 34, 35, 36, 38, 39, 40, 41, 42, 43, 44, 45, 46, 47, 48, 49, 50, 51, 52, 53, 54, 55, 56, 57, 58, 59, 60, 61, 62, 63, 64, 65, 66, 67, 68, 69, 70, 71, 72, 73, 74, 75, 76, 77, 78, 79, 80, 81, 82, 83, 84, 85, 86, 87, 88, 89, 90, 91, 92, 93, 94, 95])))
      (dss_one (ds_ret (de_op od_add (dv 0) (de_str (l := [96, 97, 98, 99, 100, 101, 102, 103, 104, 105, 106, 107, 108, 109, 110, 111, 112, 113, 114, 115, 116, 117, 118, 119, 120, 121, 122, 123, 124, 125, 126]))))))
theorem ok_l_text (T : Txt K mg A) : FnD P w K A.cl mg base 5 A.a_l_text A.d_l_text ["_law_bag_here"] sp_l_text := by
  have nd := sc_l_text.nd
  refine fn_d (k := 4) (td := td_l_text) T.f_l_text sc_l_text len_l_text pure_l_text fun cdv A' outer s H E hr => ?_
  exact (dss_cons (ds_set 1 nd (de_call (ok_l_take T) (hr.mono (by decide)) T.m_l_take T.f_l_take.kp T.b_l_take .nil (fun _ => .nil) (da_cons (dv 0) (da_cons de_int da_nil))))
      (dss_cons (ds_if (dt_cmp (od_eq hr) (dv 1) de_int (nomark _)) (dss_one (ds_ret (de_bm PySem.F.plainAttrs_str PySem.F.slot_str_join PySem.F.type_str_join md_join (de_str (l := [])) (da_cons (de_fz (de_lc nd (di_rng1 T.z_range (da_cons (de_call (ok_l_take T) (hr.mono (by decide)) T.m_l_take T.f_l_take.kp T.b_l_take .nil (fun _ => .nil) (da_cons (dv 0) (da_cons de_int da_nil))) da_nil)) (blkOk_by (own := [("_law_turn", 2)]) (N := ["_law_bag_here", "_law_road", "_law_turn"]) (sc := defScope s_l_text) (by decide +kernel)) (fun _ _ _ _ _ => (do_name 2 nd)) (fun _ _ _ _ _ => dts_nil) (fun _ _ _ _ _ => (de_call (ok_l_of T) (hr.mono (by decide)) T.m_l_of T.f_l_of.kp T.b_l_of .nil (fun _ => .nil) (da_cons (dv 0) (da_cons (de_call0 (ok_l_signs T) (hr.mono (by decide)) T.m_l_signs T.f_l_signs.kp T.b_l_signs .nil (fun _ => .nil)) da_nil)))))) da_nil)))) dss_nil)
      (dss_cons (ds_if (dt_cmp (od_eq hr) (dv 1) de_int (nomark _)) (dss_one (ds_ret (de_bm PySem.F.plainAttrs_str PySem.F.slot_str_join PySem.F.type_str_join md_join (de_str (l := [])) (da_cons (de_fz (de_lc nd (di_rng1 T.z_range (da_cons (de_call (ok_l_take T) (hr.mono (by decide)) T.m_l_take T.f_l_take.kp T.b_l_take .nil (fun _ => .nil) (da_cons (dv 0) (da_cons de_int da_nil))) da_nil)) (blkOk_by (own := [("_law_turn", 2)]) (N := ["_law_bag_here", "_law_road", "_law_turn"]) (sc := defScope s_l_text) (by decide +kernel)) (fun _ _ _ _ _ => (do_name 2 nd)) (fun _ _ _ _ _ => dts_nil) (fun _ _ _ _ _ => (de_call (ok_l_of T) (hr.mono (by decide)) T.m_l_of T.f_l_of.kp T.b_l_of .nil (fun _ => .nil) (da_cons (dv 0) (da_cons (de_str (l := [48, 48, 49, 57, 43, 45, 46, 32])) da_nil)))))) da_nil)))) dss_nil)
      (dss_cons (ds_if (dt_cmp (od_eq hr) (dv 1) de_int (nomark _)) (dss_one (ds_ret (de_call (ok_l_of T) (hr.mono (by decide)) T.m_l_of T.f_l_of.kp T.b_l_of .nil (fun _ => .nil) (da_cons (dv 0) (da_cons (de_lst (da_cons (de_str (l := [])) (da_cons (de_str (l := [78, 65])) (da_cons (de_str (l := [121, 101, 115])) (da_cons (de_str (l := [110, 111])) (da_cons (de_str (l := [120])) (da_cons (de_str (l := [116, 114, 117, 101])) (da_cons (de_str (l := [45])) (da_cons (de_str (l := [49])) (da_cons (de_str (l := [48])) (da_cons (de_str (l := [48, 48])) (da_cons (de_str (l := [48, 49])) (da_cons (de_str (l := [49, 46, 48])) (da_cons (de_str (l := [45, 48])) (da_cons (de_str (l := [43, 49])) da_nil))))))))))))))) da_nil))))) dss_nil)
      (dss_one (ds_ret (de_call (ok_l_number T) (hr.mono (by decide)) T.m_l_number T.f_l_number.kp T.b_l_number .nil (fun _ => .nil) (da_cons (dv 0) (da_cons de_int da_nil)))))))))
theorem ok_l_other_texts (T : Txt K mg A) : FnD P w K A.cl mg base 6 A.a_l_other_texts A.d_l_other_texts ["_law_bag_here", "_law_many", "_law_taken"] sp_l_other_texts := by
  have nd := sc_l_other_texts.nd
  refine fn_d (k := 5) (td := td_l_other_texts) T.f_l_other_texts sc_l_other_texts len_l_other_texts pure_l_other_texts fun cdv A' outer s H E hr => ?_
  exact (dss_cons (ds_set 3 nd (de_lstC da_nil))
      (dss_cons (ds_for PassesOwn.never (di_rng1 T.z_range (da_cons (dv 1) da_nil)) (dg_name 4 nd) (dss_cons (ds_set 5 nd (de_call (ok_l_text T) (hr.mono (by decide)) T.m_l_text T.f_l_text.kp T.b_l_text .nil (fun _ => .nil) (da_cons (dv 0) da_nil)))
      (dss_cons (ds_while PassesOwn.never (PW.pt (dw_or (dt_cmp od_in (dv 5) (dv 3) rfl) (dw_or1 (dt_cmp od_in (dv 5) (dv 2) rfl)))) (dss_one (ds_set 5 nd (de_op od_add (dv 5) (de_str (l := [122]))))))
      (dss_one (ds_expr (de_bm PySem.F.plainAttrs_list PySem.F.slot_list_append PySem.F.type_list_append md_append (dv 3) (da_cons (dv 5) da_nil)))))))
      (dss_one (ds_ret (dv 3)))))
theorem ok_l_spec (T : Txt K mg A) : FnD P w K A.cl mg base 7 A.a_l_spec A.d_l_spec ["_law_bag_here", "_law_name", "_law_family", "_law_most", "_law_taken"] sp_l_spec := by
  have nd := sc_l_spec.nd
  refine fn_d (k := 6) (td := td_l_spec) T.f_l_spec sc_l_spec len_l_spec pure_l_spec fun cdv A' outer s H E hr => ?_
  exact (dss_cons (ds_asg (de_tup (da_cons (de_tup da_nil) (da_cons (de_tup da_nil) (da_cons (de_tup da_nil) (da_cons (de_tup (da_cons de_non (da_cons de_bl (da_cons (de_str (l := [45])) (da_cons de_bl (da_cons de_non (da_cons de_int da_nil))))))) da_nil))))) (dg_tup (dgs_cons (dg_name 5 nd) (dgs_cons (dg_name 6 nd) (dgs_cons (dg_name 7 nd) (dgs_cons (dg_name 8 nd) dgs_nil))))))
      (dss_cons (ds_if (dt_cmp (od_eq hr) (dv 2) (de_str (l := [109, 105, 115, 115, 105, 110, 103])) (nomark _)) (dss_one (ds_set 5 nd (de_callTy cd_tuple T.z_tuple boot_tuple_ (da_cons (de_call (ok_l_other_texts T) (hr.mono (by decide)) T.m_l_other_texts T.f_l_other_texts.kp T.b_l_other_texts .nil (fun _ => .nil) (da_cons (dv 0) (da_cons (de_op od_add de_int (de_call (ok_l_take T) (hr.mono (by decide)) T.m_l_take T.f_l_take.kp T.b_l_take .nil (fun _ => .nil) (da_cons (dv 0) (da_cons de_int da_nil)))) (da_cons (dv 4) da_nil)))) da_nil)))) dss_nil)
      (dss_cons (ds_if (dt_cmp (od_eq hr) (dv 2) (de_str (l := [116, 114, 117, 116, 104])) (nomark _)) (dss_cons (ds_set 6 nd (de_callTy cd_tuple T.z_tuple boot_tuple_ (da_cons (de_call (ok_l_other_texts T) (hr.mono (by decide)) T.m_l_other_texts T.f_l_other_texts.kp T.b_l_other_texts .nil (fun _ => .nil) (da_cons (dv 0) (da_cons (de_op od_add de_int (de_call (ok_l_take T) (hr.mono (by decide)) T.m_l_take T.f_l_take.kp T.b_l_take .nil (fun _ => .nil) (da_cons (dv 0) (da_cons de_int da_nil)))) (da_cons (dv 4) da_nil)))) da_nil)))
      (dss_one (ds_set 7 nd (de_callTy cd_tuple T.z_tuple boot_tuple_ (da_cons (de_call (ok_l_other_texts T) (hr.mono (by decide)) T.m_l_other_texts T.f_l_other_texts.kp T.b_l_other_texts .nil (fun _ => .nil) (da_cons (dv 0) (da_cons (de_op od_add de_int (de_call (ok_l_take T) (hr.mono (by decide)) T.m_l_take T.f_l_take.kp T.b_l_take .nil (fun _ => .nil) (da_cons (dv 0) (da_cons de_int da_nil)))) (da_cons (de_op od_add (de_callTy cd_list T.z_list boot_list_ (da_cons (dv 6) da_nil)) (dv 4)) da_nil)))) da_nil))))) dss_nil)
      (dss_cons (ds_if (dt_cmp (od_eq hr) (dv 2) (de_str (l := [110, 117, 109, 98, 101, 114])) (nomark _)) (dss_one (ds_set 8 nd (de_call (ok_l_options T) (hr.mono (by decide)) T.m_l_options T.f_l_options.kp T.b_l_options .nil (fun _ => .nil) (da_cons (dv 0) (da_cons (dv 3) da_nil))))) dss_nil)
      (dss_one (ds_ret (de_tup (da_cons (dv 1) (da_cons (dv 2) (da_cons (dv 5) (da_cons (dv 6) (da_cons (dv 7) (da_cons (dv 8) da_nil)))))))))))))
theorem ok_l_word (T : Txt K mg A) : FnD P w K A.cl mg base 3 A.a_l_word A.d_l_word ["_law_bag_here", "_law_at", "_law_most"] sp_l_word := by
  have nd := sc_l_word.nd
  refine fn_d (k := 2) (td := td_l_word) T.f_l_word sc_l_word len_l_word pure_l_word fun cdv A' outer s H E hr => ?_
  exact (dss_cons (ds_set 3 nd (de_str (l := [97, 98, 99, 100, 101, 102, 103, 104, 105, 106, 107, 108, 109, 110, 111, 112, 113, 114, 115, 116, 117, 118, 119, 120, 121, 122])))
      (dss_cons (ds_set 4 nd (de_bm PySem.F.plainAttrs_str PySem.F.slot_str_join PySem.F.type_str_join md_join (de_str (l := [])) (da_cons (de_fz (de_lc nd (di_rng1 T.z_range (da_cons (de_call (ok_l_take T) (hr.mono (by decide)) T.m_l_take T.f_l_take.kp T.b_l_take .nil (fun _ => .nil) (da_cons (dv 0) (da_cons de_int da_nil))) da_nil)) (blkOk_by (own := [("_law_turn", 5)]) (N := ["_law_bag_here", "_law_at", "_law_most", "_law_letters", "_law_some", "_law_turn"]) (sc := defScope s_l_word) (by decide +kernel)) (fun _ _ _ _ _ => (do_name 5 nd)) (fun _ _ _ _ _ => dts_nil) (fun _ _ _ _ _ => (de_call (ok_l_of T) (hr.mono (by decide)) T.m_l_of T.f_l_of.kp T.b_l_of .nil (fun _ => .nil) (da_cons (dv 0) (da_cons (dv 3) da_nil)))))) da_nil)))
      (dss_one (ds_ret (de_ifExp (dt_cmp (od_eq hr) (dv 2) de_int (nomark _)) (de_op od_add (de_ix (de_str (l := [99, 103, 104, 105, 106, 108, 110])) (dv 1)) (dv 4)) (de_op od_add (dv 4) (de_ix (de_str (l := [99, 103, 104, 105, 106, 108, 110])) (dv 1))))))))
theorem ok_l_words (T : Txt K mg A) : FnD P w K A.cl mg base 4 A.a_l_words A.d_l_words ["_law_bag_here", "_law_many"] sp_l_words := by
  have nd := sc_l_words.nd
  refine fn_d (k := 3) (td := td_l_words) T.f_l_words sc_l_words len_l_words pure_l_words fun cdv A' outer s H E hr => ?_
  exact (dss_cons (ds_set 2 nd (de_call (ok_l_take T) (hr.mono (by decide)) T.m_l_take T.f_l_take.kp T.b_l_take .nil (fun _ => .nil) (da_cons (dv 0) (da_cons de_int da_nil))))
      (dss_one (ds_ret (de_fz (de_lc nd (di_rng1 T.z_range (da_cons (dv 1) da_nil)) (blkOk_by (own := [("_law_at", 3)]) (N := ["_law_bag_here", "_law_many", "_law_side", "_law_at"]) (sc := defScope s_l_words) (by decide +kernel)) (fun _ _ _ _ _ => (do_name 3 nd)) (fun _ _ _ _ _ => dts_nil) (fun _ _ _ _ _ => (de_call (ok_l_word T) (hr.mono (by decide)) T.m_l_word T.f_l_word.kp T.b_l_word .nil (fun _ => .nil) (da_cons (dv 0) (da_cons (dv 3) (da_cons (dv 2) da_nil))))))))))
theorem ok_l_specs (T : Txt K mg A) : FnD P w K A.cl mg base 8 A.a_l_specs A.d_l_specs ["_law_bag_here", "_law_many", "_law_most"] sp_l_specs := by
  have nd := sc_l_specs.nd
  refine fn_d (k := 7) (td := td_l_specs) T.f_l_specs sc_l_specs len_l_specs pure_l_specs fun cdv A' outer s H E hr => ?_
  exact (dss_cons (ds_par 3 4 nd (da_cons (de_call (ok_l_words T) (hr.mono (by decide)) T.m_l_words T.f_l_words.kp T.b_l_words .nil (fun _ => .nil) (da_cons (dv 0) (da_cons (dv 1) da_nil))) (da_cons (de_lstC da_nil) da_nil)))
      (dss_cons (ds_for PassesOwn.never (di_rng1 T.z_range (da_cons (dv 1) da_nil)) (dg_name 5 nd) (dss_cons (ds_set 6 nd (de_call (ok_l_of T) (hr.mono (by decide)) T.m_l_of T.f_l_of.kp T.b_l_of .nil (fun _ => .nil) (da_cons (dv 0) (da_cons (de_lst (da_cons (de_str (l := [109, 105, 115, 115, 105, 110, 103])) (da_cons (de_str (l := [116, 114, 117, 116, 104])) (da_cons (de_str (l := [110, 117, 109, 98, 101, 114])) (da_cons (de_str (l := [110, 117, 109, 98, 101, 114])) (da_cons (de_str (l := [116, 101, 120, 116])) da_nil)))))) da_nil))))
      (dss_one (ds_expr (de_bm PySem.F.plainAttrs_list PySem.F.slot_list_append PySem.F.type_list_append md_append (dv 4) (da_cons (de_call (ok_l_spec T) (hr.mono (by decide)) T.m_l_spec T.f_l_spec.kp T.b_l_spec .nil (fun _ => .nil) (da_cons (dv 0) (da_cons (de_ix (dv 3) (dv 5)) (da_cons (dv 6) (da_cons (dv 2) (da_cons (de_lst da_nil) da_nil)))))) da_nil))))))
      (dss_cons (ds_if (dt_val (de_callB cd_all T.z_all boot_all_ (da_cons (de_fz (de_lcC nd (dv 4) (blkOk_by (own := [("_law_spec_here", 7)]) (N := ["_law_bag_here", "_law_many", "_law_most", "_law_labels", "_law_specs_here", "_law_at", "_law_family", "_law_spec_here"]) (sc := defScope s_l_specs) (by decide +kernel)) (fun _ _ _ _ _ => (do_name 7 nd)) (fun _ _ _ _ _ => dts_nil) (fun _ _ _ _ _ => (de_cmp (od_ne hr) (de_ix (dv 7) de_int) (de_str (l := [116, 101, 120, 116])) (nomark _))))) da_nil))) (dss_cons (ds_set 5 nd (de_call (ok_l_take T) (hr.mono (by decide)) T.m_l_take T.f_l_take.kp T.b_l_take .nil (fun _ => .nil) (da_cons (dv 0) (da_cons (de_callB cd_len T.z_len boot_len_ (da_cons (dv 4) da_nil)) da_nil))))
      (dss_one (ds_asg (de_tup (da_cons (de_ix (dv 3) (dv 5)) (da_cons (de_str (l := [116, 101, 120, 116])) (da_cons (de_tup da_nil) (da_cons (de_tup da_nil) (da_cons (de_tup da_nil) (da_cons (de_tup (da_cons de_non (da_cons de_bl (da_cons (de_str (l := [45])) (da_cons de_bl (da_cons de_non (da_cons de_int da_nil))))))) da_nil))))))) (dg_sub (dv 4) (dv 5) st_list)))) dss_nil)
      (dss_one (ds_ret (dv 4))))))
theorem ok_l_right (T : Txt K mg A) : FnD P w K A.cl mg base 9 A.a_l_right A.d_l_right ["_law_bag_here"] sp_l_right := by
  have nd := sc_l_right.nd
  refine fn_d (k := 8) (td := td_l_right) T.f_l_right sc_l_right len_l_right pure_l_right fun cdv A' outer s H E hr => ?_
  exact (dss_cons (ds_set 1 nd (de_call (ok_l_specs T) (hr.mono (by decide)) T.m_l_specs T.f_l_specs.kp T.b_l_specs .nil (fun _ => .nil) (da_cons (dv 0) (da_cons (de_op od_add de_int (de_call (ok_l_take T) (hr.mono (by decide)) T.m_l_take T.f_l_take.kp T.b_l_take .nil (fun _ => .nil) (da_cons (dv 0) (da_cons de_int da_nil)))) (da_cons de_int da_nil)))))
      (dss_cons (ds_par 2 3 nd (da_cons (de_fz (de_lc nd (di_list (dv 1)) (blkOk_by (own := [("_law_spec_here", 9)]) (N := ["_law_bag_here", "_law_specs_here", "_law_kinds", "_law_triples_here", "_law_at", "_law_wrong_here", "_law_more", "_law_bare", "_law_place", "_law_spec_here", "_law_label", "_law_kind"]) (sc := defScope s_l_right) (by decide +kernel)) (fun _ _ _ _ _ => (do_name 9 nd)) (fun _ _ _ _ _ => dts_nil) (fun _ _ _ _ _ => (de_call (ok_l_made T) (hr.mono (by decide)) T.m_l_made T.f_l_made.kp T.b_l_made .nil (fun _ => .nil) (da_cons (dv 9) da_nil))))) (da_cons (de_call (ok_l_triples T) (hr.mono (by decide)) T.m_l_triples T.f_l_triples.kp T.b_l_triples .nil (fun _ => .nil) (da_cons (dv 0) (da_cons (dv 1) (da_cons de_bl da_nil)))) da_nil)))
      (dss_cons (ds_if (PW.pt (dw_or (dt_cmp (od_ne hr) (de_call (ok_l_part T) (hr.mono (by decide)) T.m_l_part T.f_l_part.kp T.b_l_part .nil (fun _ => .nil) (da_cons (dv 2) (da_cons (dv 3) da_nil))) (de_str (l := [114, 105, 103, 104, 116])) (nomark _)) (dw_or1 (dt_cmp (od_ne hr) (de_call (ok_l_part T) (hr.mono (by decide)) T.m_l_part T.f_l_part.kp T.b_l_part .nil (fun _ => .nil) (da_cons (dv 2) (da_cons (de_callTy cd_tuple T.z_tuple boot_tuple_ (da_cons (dv 3) da_nil)) da_nil))) (de_str (l := [114, 105, 103, 104, 116])) (nomark _))))) (dss_one (ds_ret de_bl)) dss_nil)
      (dss_cons (ds_set 4 nd (de_call (ok_l_take T) (hr.mono (by decide)) T.m_l_take T.f_l_take.kp T.b_l_take .nil (fun _ => .nil) (da_cons (dv 0) (da_cons (de_op od_add (de_callB cd_len T.z_len boot_len_ (da_cons (dv 3) da_nil)) de_int) da_nil))))
      (dss_cons (ds_set 5 nd (de_op od_addC (de_op od_add (de_slice (dv 3) dp_none (dp_some (dv 4))) (de_lst (da_cons (de_call (ok_l_wrong T) (hr.mono (by decide)) T.m_l_wrong T.f_l_wrong.kp T.b_l_wrong .nil (fun _ => .nil) (da_cons (dv 0) (da_cons (dv 1) (da_cons (de_slice (dv 3) dp_none (dp_some (dv 4))) da_nil)))) da_nil))) (de_slice (dv 3) (dp_some (dv 4)) dp_none)))
      (dss_cons (ds_if (dt_cmp (od_eq hr) (de_call (ok_l_take T) (hr.mono (by decide)) T.m_l_take T.f_l_take.kp T.b_l_take .nil (fun _ => .nil) (da_cons (dv 0) (da_cons de_int da_nil))) de_int (nomark _)) (dss_one (ds_expr (de_bm PySem.F.plainAttrs_list PySem.F.slot_list_append PySem.F.type_list_append md_append (dv 5) (da_cons de_non da_nil)))) dss_nil)
      (dss_view 5 (dss_cons (ds_if (dt_cmp (od_ne hr) (de_call (ok_l_part T) (hr.mono (by decide)) T.m_l_part T.f_l_part.kp T.b_l_part .nil (fun _ => .nil) (da_cons (dv 2) (da_cons (dv 5) da_nil))) (dv 4) (nomark _)) (dss_one (ds_ret de_bl)) dss_nil)
      (dss_cons (ds_setLcF 6 nd (di_tup (de_tup (da_cons (de_str (l := [122, 122])) (da_cons (de_str (l := [122, 122, 122])) (da_cons (de_str (l := [122, 122, 122, 122])) (da_cons (de_str (l := [122, 122, 122, 122, 122])) (da_cons (de_str (l := [122, 122, 122, 122, 122, 122])) (da_cons (de_str (l := [122, 122, 122, 122, 122, 122, 122])) (da_cons (de_str (l := [122, 122, 122, 122, 122, 122, 122, 122])) da_nil))))))))) (blkOk_by (own := [("_law_label", 10)]) (N := ["_law_bag_here", "_law_specs_here", "_law_kinds", "_law_triples_here", "_law_at", "_law_wrong_here", "_law_more", "_law_bare", "_law_place", "_law_spec_here", "_law_label", "_law_kind"]) (sc := defScope s_l_right) (by decide +kernel)) (fun _ _ _ _ _ => (do_name 10 nd)) (fun _ _ _ _ _ => dts_nil) (fun _ _ _ _ _ => (de_smeth (ce_Kind_of_texts_1 T) (hr.mono (by decide)) pass0 T.m_Kind T.r_Kind T.h_Kind_of_texts (da_cons (dv 10) da_nil) dk_nil)) (sw_true rfl rfl rfl (by decide +kernel)))
      (dss_cons (ds_if (PW.pt (dw_or (dt_cmp (od_ne hr) (de_call (ok_l_part T) (hr.mono (by decide)) T.m_l_part T.f_l_part.kp T.b_l_part .nil (fun _ => .nil) (da_cons (de_lst da_nil) (da_cons (dv 5) da_nil))) (de_str (l := [107, 105, 110, 100, 115])) (nomark _)) (dw_or1 (dt_cmp (od_ne hr) (de_call (ok_l_part T) (hr.mono (by decide)) T.m_l_part T.f_l_part.kp T.b_l_part .nil (fun _ => .nil) (da_cons (de_slice (de_op od_add (dv 2) (dv 6)) dp_none (dp_some de_int)) (da_cons (dv 3) da_nil))) (de_str (l := [114, 105, 103, 104, 116])) (nomark _))))) (dss_one (ds_ret de_bl)) dss_nil)
      (dss_cons (ds_if (dt_cmp (od_ne hr) (de_call (ok_l_part T) (hr.mono (by decide)) T.m_l_part T.f_l_part.kp T.b_l_part .nil (fun _ => .nil) (da_cons (de_slice (de_op od_add (de_op od_add (de_lst (da_cons (de_ix (dv 2) de_int) (da_cons (de_ix (dv 2) de_int) da_nil))) (dv 2)) (dv 6)) dp_none (dp_some de_int)) (da_cons (dv 5) da_nil))) (de_str (l := [107, 105, 110, 100, 115])) (nomark _)) (dss_one (ds_ret de_bl)) dss_nil)
      (dss_cons (ds_setLcF 7 nd (di_list (dv 2)) (blkOk_by (own := [("_law_kind", 11)]) (N := ["_law_bag_here", "_law_specs_here", "_law_kinds", "_law_triples_here", "_law_at", "_law_wrong_here", "_law_more", "_law_bare", "_law_place", "_law_spec_here", "_law_label", "_law_kind"]) (sc := defScope s_l_right) (by decide +kernel)) (fun _ _ _ _ _ => (do_name 11 nd)) (fun _ _ _ _ _ => (dts_one (dt_cmp (od_ne hr) (de_fld (dv 11) T.fl_family_Kind) (de_str (l := [116, 101, 120, 116])) (nomark _)))) (fun _ _ _ _ _ => (dv 11)) (sw_true rfl rfl rfl (by decide +kernel)))
      (dss_cons (ds_set 8 nd (de_call (ok_l_take T) (hr.mono (by decide)) T.m_l_take T.f_l_take.kp T.b_l_take .nil (fun _ => .nil) (da_cons (dv 0) (da_cons (de_callB cd_len T.z_len boot_len_ (da_cons (dv 2) da_nil)) da_nil))))
      (dss_cons (ds_if (dt_cmp (od_ne hr) (de_call (ok_l_part T) (hr.mono (by decide)) T.m_l_part T.f_l_part.kp T.b_l_part .nil (fun _ => .nil) (da_cons (de_op od_add (dv 2) (de_lst (da_cons (de_ix (dv 2) (dv 8)) da_nil))) (da_cons (dv 5) da_nil))) (de_str (l := [110, 97, 109, 101, 115])) (nomark _)) (dss_one (ds_ret de_bl)) dss_nil)
      (dss_cons (ds_if (PW.pt (dw_and (dt_cmp od_gt (de_callB cd_len T.z_len boot_len_ (da_cons (dv 7) da_nil)) de_int (nomark _)) (dw_and1 (dt_cmp (od_ne hr) (de_call (ok_l_part T) (hr.mono (by decide)) T.m_l_part T.f_l_part.kp T.b_l_part .nil (fun _ => .nil) (da_cons (de_op od_add (dv 7) (de_lst (da_cons (de_ix (dv 7) de_int) da_nil))) (da_cons (dv 5) da_nil))) (de_str (l := [110, 97, 109, 101, 115])) (nomark _))))) (dss_one (ds_ret de_bl)) dss_nil)
      (dss_one (ds_ret (de_or (de_cmp (od_eq hr) (de_callB cd_len T.z_len boot_len_ (da_cons (dv 7) da_nil)) de_int (nomark _)) (de_one (de_cmp (od_eq hr) (de_call (ok_l_part T) (hr.mono (by decide)) T.m_l_part T.f_l_part.kp T.b_l_part .nil (fun _ => .nil) (da_cons (dv 7) (da_cons (dv 5) da_nil))) (de_str (l := [116, 101, 120, 116])) (nomark _)))))))))))))))))))))
theorem ok_l_bag (T : Txt K mg A) : FnD P w K A.cl mg base 1 A.a_l_bag A.d_l_bag ["_law_script", "_law_at"] sp_l_bag := by
  have nd := sc_l_bag.nd
  refine fn_d (k := 0) (td := td_l_bag) T.f_l_bag sc_l_bag len_l_bag pure_l_bag fun cdv A' outer s H E hr => ?_
  exact (dss_cons (ds_set 2 nd (de_ifExp (dt_cmp od_lt (dv 1) (de_callB cd_len T.z_len boot_len_ (da_cons (dv 0) da_nil)) (nomark _)) (de_ix (dv 0) (dv 1)) de_int))
      (dss_cons (ds_set 3 nd (de_ifExp (dt_cmp od_ge (de_callB cd_abs T.z_abs boot_abs_ (da_cons (dv 2) da_nil)) (de_op od_pow de_int de_int) (nomark _)) (de_callB cd_abs T.z_abs boot_abs_ (da_cons (dv 2) da_nil)) de_int))
      (dss_one (ds_ret (de_lstC (da_cons (dv 3) (da_cons (de_op od_add (de_op od_add (de_op od_mul (de_op od_mod (de_callTy cd_int T.z_int boot_int_ (da_cons (dv 2) da_nil)) de_int) de_int) (de_op od_mul de_int (dv 1))) de_int) (da_cons de_int da_nil))))))))
theorem ok_law (T : Txt K mg A) : FnD P w K A.cl mg base 10 A.a_law A.d_law ["_law_script"] sp_law := by
  have nd := sc_law.nd
  refine fn_d (k := 9) (td := td_law) T.f_law sc_law len_law pure_law fun cdv A' outer s H E hr => ?_
  exact (dss_cons (ds_for PassesOwn.never (di_rng1 T.z_range (da_cons (de_callB cd_max T.z_max boot_max_ (da_cons de_int (da_cons (de_callB cd_min T.z_min boot_min_ (da_cons de_int (da_cons (de_callB cd_len T.z_len boot_len_ (da_cons (dv 0) da_nil)) da_nil))) da_nil))) da_nil)) (dg_name 1 nd) (dss_one (ds_if (dt_not (dt_val (de_call (ok_l_right T) (hr.mono (by decide)) T.m_l_right T.f_l_right.kp T.b_l_right .nil (fun _ => .nil) (da_cons (de_call (ok_l_bag T) (hr.mono (by decide)) T.m_l_bag T.f_l_bag.kp T.b_l_bag .nil (fun _ => .nil) (da_cons (dv 0) (da_cons (dv 1) da_nil))) da_nil)))) (dss_one (ds_ret de_bl)) dss_nil)))
      (dss_one (ds_ret de_bl)))
end
theorem all_mk {l : PySem.W.OpenLaw} {w : World} {K : PySem.W.Frag} {h : Heap} {mg : Str → Option Value} {fa : Addr} (X : K.In h) (G : h.Ns mainGlobals mg) (hfa : mg "law" = some (.ref fa))
    {C_Kind : Addr}
    {C_Book : Addr}
    {f_Book_names : Addr} {d_Book_names : FuncData}
    {f_Book_all_joins : Addr} {d_Book_all_joins : FuncData}
    {f_holds_kind : Addr} {d_holds_kind : FuncData}
    {f_Book_kind_named : Addr} {d_Book_kind_named : FuncData}
    {f_Book_holds : Addr} {d_Book_holds : FuncData}
    {f_Book_contains : Addr} {d_Book_contains : FuncData}
    {f_Book_is_triple : Addr} {d_Book_is_triple : FuncData}
    {f_Book_given_joinsX : Addr} {d_Book_given_joinsX : FuncData}
    {f_Book_initX : Addr} {d_Book_initX : FuncData}
    {t_Book_initX_joins : Addr}
    {f_l_part : Addr} {d_l_part : FuncData}
    {f_l_take : Addr} {d_l_take : FuncData}
    {f_Kind_init : Addr} {d_Kind_init : FuncData}
    {t_Kind_init_marks : Addr}
    {t_Kind_init_yes : Addr}
    {t_Kind_init_no : Addr}
    {f_is_word : Addr} {d_is_word : FuncData}
    {p_Kind_of_texts : Addr}
    {f_Kind_of_texts : Addr} {d_Kind_of_texts : FuncData}
    {f_l_of : Addr} {d_l_of : FuncData}
    {f_l_spare : Addr} {d_l_spare : FuncData}
    {f_l_holds : Addr} {d_l_holds : FuncData}
    {f_l_wrong : Addr} {d_l_wrong : FuncData}
    {f_l_triples : Addr} {d_l_triples : FuncData}
    {f_is_between : Addr} {d_is_between : FuncData}
    {p_Kind_of_numbers : Addr}
    {f_Kind_of_numbers : Addr} {d_Kind_of_numbers : FuncData}
    {f_is_text : Addr} {d_is_text : FuncData}
    {f_are_texts : Addr} {d_are_texts : FuncData}
    {p_Kind_of_words : Addr}
    {f_Kind_of_words : Addr} {d_Kind_of_words : FuncData}
    {p_Kind_of_marks : Addr}
    {f_Kind_of_marks : Addr} {d_Kind_of_marks : FuncData}
    {f_l_marked : Addr} {d_l_marked : FuncData}
    {f_l_made : Addr} {d_l_made : FuncData}
    {f_l_options : Addr} {d_l_options : FuncData}
    {f_l_digits : Addr} {d_l_digits : FuncData}
    {f_l_number : Addr} {d_l_number : FuncData}
    {f_l_signs : Addr} {d_l_signs : FuncData}
    {f_l_text : Addr} {d_l_text : FuncData}
    {f_l_other_texts : Addr} {d_l_other_texts : FuncData}
    {f_l_spec : Addr} {d_l_spec : FuncData}
    {f_l_word : Addr} {d_l_word : FuncData}
    {f_l_words : Addr} {d_l_words : FuncData}
    {f_l_specs : Addr} {d_l_specs : FuncData}
    {f_l_right : Addr} {d_l_right : FuncData}
    {f_l_bag : Addr} {d_l_bag : FuncData}
    {f_law : Addr} {d_law : FuncData}
    {C_GuessError : Addr}
    {C_BadKind : Addr}
    {C_BadBook : Addr}
    {f_BadBook_init : Addr} {d_BadBook_init : FuncData}
    (a_Kind : PySem.W.nsIn K mainGlobals "Kind" = some (some (.ref C_Kind)))
    (pg_Kind : PySem.W.plainGet K C_Kind Str.empty = true)
    (hd_Kind : PySem.W.hasDictIn K C_Kind = true)
    (po_Kind : PySem.W.plainOver K C_Kind = true)
    (sa_Kind : PySem.W.findIn K (.ref C_Kind) "__setattr__" = some (some (.builtin "object.__setattr__")))
    (rd_Kind : PySem.W.readsIn K C_Kind (.type "type") = true)
    (ga_Kind : PySem.W.specialIn K (.ref C_Kind) "__getattribute__" = some (some (.builtin "type.__getattribute__")))
    (a_Book : PySem.W.nsIn K mainGlobals "Book" = some (some (.ref C_Book)))
    (pg_Book : PySem.W.plainGet K C_Book Str.empty = true)
    (hd_Book : PySem.W.hasDictIn K C_Book = true)
    (po_Book : PySem.W.plainOver K C_Book = true)
    (sa_Book : PySem.W.findIn K (.ref C_Book) "__setattr__" = some (some (.builtin "object.__setattr__")))
    (rd_Book : PySem.W.readsIn K C_Book (.type "type") = true)
    (ga_Book : PySem.W.specialIn K (.ref C_Book) "__getattribute__" = some (some (.builtin "type.__getattribute__")))
    (n_Book_joined : PySem.W.findIn K (.ref C_Book) "joined" = some none)
    (n_Book_kinds : PySem.W.findIn K (.ref C_Book) "kinds" = some none)
    (n_Book_mark : PySem.W.findIn K (.ref C_Book) "mark" = some none)
    (n_Book_spare : PySem.W.findIn K (.ref C_Book) "spare" = some none)
    (n_Kind_digits : PySem.W.findIn K (.ref C_Kind) "digits" = some none)
    (n_Kind_family : PySem.W.findIn K (.ref C_Kind) "family" = some none)
    (n_Kind_keep : PySem.W.findIn K (.ref C_Kind) "keep" = some none)
    (n_Kind_marks : PySem.W.findIn K (.ref C_Kind) "marks" = some none)
    (n_Kind_name : PySem.W.findIn K (.ref C_Kind) "name" = some none)
    (n_Kind_no : PySem.W.findIn K (.ref C_Kind) "no" = some none)
    (n_Kind_point : PySem.W.findIn K (.ref C_Kind) "point" = some none)
    (n_Kind_shown : PySem.W.findIn K (.ref C_Kind) "shown" = some none)
    (n_Kind_signs : PySem.W.findIn K (.ref C_Kind) "signs" = some none)
    (n_Kind_yes : PySem.W.findIn K (.ref C_Kind) "yes" = some none)
    (n_Kind_zeros : PySem.W.findIn K (.ref C_Kind) "zeros" = some none)
    (a_Book_names : PySem.W.findIn K (.ref C_Book) "names" = some (some (.ref f_Book_names)))
    (fn_Book_names : PySem.W.isFn K (.ref f_Book_names) = true)
    (F_Book_names : FunD K "names" "Book.names" (defArgs s_Book_names) (defBody s_Book_names) (defScope s_Book_names) [] [] f_Book_names d_Book_names)
    (a_Book_all_joins : PySem.W.findIn K (.ref C_Book) "all_joins" = some (some (.ref f_Book_all_joins)))
    (fn_Book_all_joins : PySem.W.isFn K (.ref f_Book_all_joins) = true)
    (F_Book_all_joins : FunD K "all_joins" "Book.all_joins" (defArgs s_Book_all_joins) (defBody s_Book_all_joins) (defScope s_Book_all_joins) [] [] f_Book_all_joins d_Book_all_joins)
    (a_holds_kind : PySem.W.nsIn K mainGlobals "holds_kind" = some (some (.ref f_holds_kind)))
    (F_holds_kind : FunD K "holds_kind" "holds_kind" (defArgs s_holds_kind) (defBody s_holds_kind) (defScope s_holds_kind) [] [] f_holds_kind d_holds_kind)
    (a_Book_kind_named : PySem.W.findIn K (.ref C_Book) "kind_named" = some (some (.ref f_Book_kind_named)))
    (fn_Book_kind_named : PySem.W.isFn K (.ref f_Book_kind_named) = true)
    (F_Book_kind_named : FunD K "kind_named" "Book.kind_named" (defArgs s_Book_kind_named) (defBody s_Book_kind_named) (defScope s_Book_kind_named) [] [] f_Book_kind_named d_Book_kind_named)
    (a_Book_holds : PySem.W.findIn K (.ref C_Book) "holds" = some (some (.ref f_Book_holds)))
    (fn_Book_holds : PySem.W.isFn K (.ref f_Book_holds) = true)
    (F_Book_holds : FunD K "holds" "Book.holds" (defArgs s_Book_holds) (defBody s_Book_holds) (defScope s_Book_holds) [] [] f_Book_holds d_Book_holds)
    (a_Book_contains : PySem.W.findIn K (.ref C_Book) "__contains__" = some (some (.ref f_Book_contains)))
    (fn_Book_contains : PySem.W.isFn K (.ref f_Book_contains) = true)
    (F_Book_contains : FunD K "__contains__" "Book.__contains__" (defArgs s_Book_contains) (defBody s_Book_contains) (defScope s_Book_contains) [] [] f_Book_contains d_Book_contains)
    (a_Book_is_triple : PySem.W.findIn K (.ref C_Book) "is_triple" = some (some (.ref f_Book_is_triple)))
    (fn_Book_is_triple : PySem.W.isFn K (.ref f_Book_is_triple) = true)
    (F_Book_is_triple : FunD K "is_triple" "Book.is_triple" (defArgs s_Book_is_triple) (defBody s_Book_is_triple) (defScope s_Book_is_triple) [] [] f_Book_is_triple d_Book_is_triple)
    (a_Book_given_joinsX : PySem.W.findIn K (.ref C_Book) "given_joins" = some (some (.ref f_Book_given_joinsX)))
    (fn_Book_given_joinsX : PySem.W.isFn K (.ref f_Book_given_joinsX) = true)
    (F_Book_given_joinsX : FunD K "given_joins" "Book.given_joins" (defArgs s_Book_given_joinsX) (defBody s_Book_given_joinsX) (defScope s_Book_given_joinsX) [] [] f_Book_given_joinsX d_Book_given_joinsX)
    (a_Book_initX : PySem.W.findIn K (.ref C_Book) "__init__" = some (some (.ref f_Book_initX)))
    (fn_Book_initX : PySem.W.isFn K (.ref f_Book_initX) = true)
    (mk_Book_initX : PySem.W.makesIn K C_Book = true)
    (kc_Book_initX : PySem.W.keepIn K (.ref C_Book) = true)
    (kt_Book_initX_joins : KTup K t_Book_initX_joins [])
    (F_Book_initX : FunD K "__init__" "Book.__init__" (defArgs s_Book_initX) (defBody s_Book_initX) (defScope s_Book_initX) [(.ref t_Book_initX_joins)] [] f_Book_initX d_Book_initX)
    (a_l_part : PySem.W.nsIn K mainGlobals "_law_part" = some (some (.ref f_l_part)))
    (F_l_part : FunD K "_law_part" "_law_part" (defArgs s_l_part) (defBody s_l_part) (defScope s_l_part) [] [] f_l_part d_l_part)
    (a_l_take : PySem.W.nsIn K mainGlobals "_law_take" = some (some (.ref f_l_take)))
    (F_l_take : FunD K "_law_take" "_law_take" (defArgs s_l_take) (defBody s_l_take) (defScope s_l_take) [] [] f_l_take d_l_take)
    (a_Kind_init : PySem.W.findIn K (.ref C_Kind) "__init__" = some (some (.ref f_Kind_init)))
    (fn_Kind_init : PySem.W.isFn K (.ref f_Kind_init) = true)
    (mk_Kind_init : PySem.W.makesIn K C_Kind = true)
    (kc_Kind_init : PySem.W.keepIn K (.ref C_Kind) = true)
    (kt_Kind_init_marks : KTup K t_Kind_init_marks [])
    (kt_Kind_init_yes : KTup K t_Kind_init_yes [])
    (kt_Kind_init_no : KTup K t_Kind_init_no [])
    (F_Kind_init : FunD K "__init__" "Kind.__init__" (defArgs s_Kind_init) (defBody s_Kind_init) (defScope s_Kind_init) [] [("marks", (.ref t_Kind_init_marks)), ("yes", (.ref t_Kind_init_yes)), ("no", (.ref t_Kind_init_no)), ("digits", .non), ("point", (.bl false)), ("signs", (.str ⟨[45].toArray⟩)), ("zeros", (.bl true)), ("keep", .non), ("shown", (.int 0))] f_Kind_init d_Kind_init)
    (a_is_word : PySem.W.nsIn K mainGlobals "is_word" = some (some (.ref f_is_word)))
    (F_is_word : FunD K "is_word" "is_word" (defArgs s_is_word) (defBody s_is_word) (defScope s_is_word) [] [] f_is_word d_is_word)
    (a_Kind_of_texts : PySem.W.findCls K (.ref C_Kind) (.type "type") "of_texts" = some (.get (.builtin "staticmethod.__get__") (.ref p_Kind_of_texts) .none (.ref C_Kind)))
    (rc_Kind_of_texts : ∃ rest, PySem.W.recIn K p_Kind_of_texts "staticmethod" = some (.ref f_Kind_of_texts :: rest))
    (F_Kind_of_texts : FunD K "of_texts" "Kind.of_texts" (defArgs s_Kind_of_texts) (defBody s_Kind_of_texts) (defScope s_Kind_of_texts) [] [] f_Kind_of_texts d_Kind_of_texts)
    (a_l_of : PySem.W.nsIn K mainGlobals "_law_of" = some (some (.ref f_l_of)))
    (F_l_of : FunD K "_law_of" "_law_of" (defArgs s_l_of) (defBody s_l_of) (defScope s_l_of) [] [] f_l_of d_l_of)
    (a_l_spare : PySem.W.nsIn K mainGlobals "_law_spare" = some (some (.ref f_l_spare)))
    (F_l_spare : FunD K "_law_spare" "_law_spare" (defArgs s_l_spare) (defBody s_l_spare) (defScope s_l_spare) [] [] f_l_spare d_l_spare)
    (a_l_holds : PySem.W.nsIn K mainGlobals "_law_holds" = some (some (.ref f_l_holds)))
    (F_l_holds : FunD K "_law_holds" "_law_holds" (defArgs s_l_holds) (defBody s_l_holds) (defScope s_l_holds) [] [] f_l_holds d_l_holds)
    (a_l_wrong : PySem.W.nsIn K mainGlobals "_law_wrong" = some (some (.ref f_l_wrong)))
    (F_l_wrong : FunD K "_law_wrong" "_law_wrong" (defArgs s_l_wrong) (defBody s_l_wrong) (defScope s_l_wrong) [] [] f_l_wrong d_l_wrong)
    (a_l_triples : PySem.W.nsIn K mainGlobals "_law_triples" = some (some (.ref f_l_triples)))
    (F_l_triples : FunD K "_law_triples" "_law_triples" (defArgs s_l_triples) (defBody s_l_triples) (defScope s_l_triples) [] [] f_l_triples d_l_triples)
    (a_is_between : PySem.W.nsIn K mainGlobals "is_between" = some (some (.ref f_is_between)))
    (F_is_between : FunD K "is_between" "is_between" (defArgs s_is_between) (defBody s_is_between) (defScope s_is_between) [] [] f_is_between d_is_between)
    (a_Kind_of_numbers : PySem.W.findCls K (.ref C_Kind) (.type "type") "of_numbers" = some (.get (.builtin "staticmethod.__get__") (.ref p_Kind_of_numbers) .none (.ref C_Kind)))
    (rc_Kind_of_numbers : ∃ rest, PySem.W.recIn K p_Kind_of_numbers "staticmethod" = some (.ref f_Kind_of_numbers :: rest))
    (F_Kind_of_numbers : FunD K "of_numbers" "Kind.of_numbers" (defArgs s_Kind_of_numbers) (defBody s_Kind_of_numbers) (defScope s_Kind_of_numbers) [] [("digits", .non), ("point", (.bl false)), ("signs", (.str ⟨[45].toArray⟩)), ("zeros", (.bl true)), ("keep", .non), ("shown", (.int 0))] f_Kind_of_numbers d_Kind_of_numbers)
    (a_is_text : PySem.W.nsIn K mainGlobals "is_text" = some (some (.ref f_is_text)))
    (F_is_text : FunD K "is_text" "is_text" (defArgs s_is_text) (defBody s_is_text) (defScope s_is_text) [] [] f_is_text d_is_text)
    (a_are_texts : PySem.W.nsIn K mainGlobals "are_texts" = some (some (.ref f_are_texts)))
    (F_are_texts : FunD K "are_texts" "are_texts" (defArgs s_are_texts) (defBody s_are_texts) (defScope s_are_texts) [] [] f_are_texts d_are_texts)
    (a_Kind_of_words : PySem.W.findCls K (.ref C_Kind) (.type "type") "of_words" = some (.get (.builtin "staticmethod.__get__") (.ref p_Kind_of_words) .none (.ref C_Kind)))
    (rc_Kind_of_words : ∃ rest, PySem.W.recIn K p_Kind_of_words "staticmethod" = some (.ref f_Kind_of_words :: rest))
    (F_Kind_of_words : FunD K "of_words" "Kind.of_words" (defArgs s_Kind_of_words) (defBody s_Kind_of_words) (defScope s_Kind_of_words) [] [] f_Kind_of_words d_Kind_of_words)
    (a_Kind_of_marks : PySem.W.findCls K (.ref C_Kind) (.type "type") "of_marks" = some (.get (.builtin "staticmethod.__get__") (.ref p_Kind_of_marks) .none (.ref C_Kind)))
    (rc_Kind_of_marks : ∃ rest, PySem.W.recIn K p_Kind_of_marks "staticmethod" = some (.ref f_Kind_of_marks :: rest))
    (F_Kind_of_marks : FunD K "of_marks" "Kind.of_marks" (defArgs s_Kind_of_marks) (defBody s_Kind_of_marks) (defScope s_Kind_of_marks) [] [] f_Kind_of_marks d_Kind_of_marks)
    (a_l_marked : PySem.W.nsIn K mainGlobals "_law_marked" = some (some (.ref f_l_marked)))
    (F_l_marked : FunD K "_law_marked" "_law_marked" (defArgs s_l_marked) (defBody s_l_marked) (defScope s_l_marked) [] [] f_l_marked d_l_marked)
    (a_l_made : PySem.W.nsIn K mainGlobals "_law_made" = some (some (.ref f_l_made)))
    (F_l_made : FunD K "_law_made" "_law_made" (defArgs s_l_made) (defBody s_l_made) (defScope s_l_made) [] [] f_l_made d_l_made)
    (a_l_options : PySem.W.nsIn K mainGlobals "_law_options" = some (some (.ref f_l_options)))
    (F_l_options : FunD K "_law_options" "_law_options" (defArgs s_l_options) (defBody s_l_options) (defScope s_l_options) [] [] f_l_options d_l_options)
    (a_l_digits : PySem.W.nsIn K mainGlobals "_law_digits" = some (some (.ref f_l_digits)))
    (F_l_digits : FunD K "_law_digits" "_law_digits" (defArgs s_l_digits) (defBody s_l_digits) (defScope s_l_digits) [] [] f_l_digits d_l_digits)
    (a_l_number : PySem.W.nsIn K mainGlobals "_law_number" = some (some (.ref f_l_number)))
    (F_l_number : FunD K "_law_number" "_law_number" (defArgs s_l_number) (defBody s_l_number) (defScope s_l_number) [] [] f_l_number d_l_number)
    (a_l_signs : PySem.W.nsIn K mainGlobals "_law_signs" = some (some (.ref f_l_signs)))
    (F_l_signs : FunD K "_law_signs" "_law_signs" (defArgs s_l_signs) (defBody s_l_signs) (defScope s_l_signs) [] [] f_l_signs d_l_signs)
    (a_l_text : PySem.W.nsIn K mainGlobals "_law_text" = some (some (.ref f_l_text)))
    (F_l_text : FunD K "_law_text" "_law_text" (defArgs s_l_text) (defBody s_l_text) (defScope s_l_text) [] [] f_l_text d_l_text)
    (a_l_other_texts : PySem.W.nsIn K mainGlobals "_law_other_texts" = some (some (.ref f_l_other_texts)))
    (F_l_other_texts : FunD K "_law_other_texts" "_law_other_texts" (defArgs s_l_other_texts) (defBody s_l_other_texts) (defScope s_l_other_texts) [] [] f_l_other_texts d_l_other_texts)
    (a_l_spec : PySem.W.nsIn K mainGlobals "_law_spec" = some (some (.ref f_l_spec)))
    (F_l_spec : FunD K "_law_spec" "_law_spec" (defArgs s_l_spec) (defBody s_l_spec) (defScope s_l_spec) [] [] f_l_spec d_l_spec)
    (a_l_word : PySem.W.nsIn K mainGlobals "_law_word" = some (some (.ref f_l_word)))
    (F_l_word : FunD K "_law_word" "_law_word" (defArgs s_l_word) (defBody s_l_word) (defScope s_l_word) [] [] f_l_word d_l_word)
    (a_l_words : PySem.W.nsIn K mainGlobals "_law_words" = some (some (.ref f_l_words)))
    (F_l_words : FunD K "_law_words" "_law_words" (defArgs s_l_words) (defBody s_l_words) (defScope s_l_words) [] [] f_l_words d_l_words)
    (a_l_specs : PySem.W.nsIn K mainGlobals "_law_specs" = some (some (.ref f_l_specs)))
    (F_l_specs : FunD K "_law_specs" "_law_specs" (defArgs s_l_specs) (defBody s_l_specs) (defScope s_l_specs) [] [] f_l_specs d_l_specs)
    (a_l_right : PySem.W.nsIn K mainGlobals "_law_right" = some (some (.ref f_l_right)))
    (F_l_right : FunD K "_law_right" "_law_right" (defArgs s_l_right) (defBody s_l_right) (defScope s_l_right) [] [] f_l_right d_l_right)
    (a_l_bag : PySem.W.nsIn K mainGlobals "_law_bag" = some (some (.ref f_l_bag)))
    (F_l_bag : FunD K "_law_bag" "_law_bag" (defArgs s_l_bag) (defBody s_l_bag) (defScope s_l_bag) [] [] f_l_bag d_l_bag)
    (a_law : PySem.W.nsIn K mainGlobals "law" = some (some (.ref f_law)))
    (F_law : FunD K "law" "law" (defArgs s_law) (defBody s_law) (defScope s_law) [] [] f_law d_law)
    (a_GuessError : PySem.W.nsIn K mainGlobals "GuessError" = some (some (.ref C_GuessError)))
    (a_BadKind : PySem.W.nsIn K mainGlobals "BadKind" = some (some (.ref C_BadKind)))
    (a_BadBook : PySem.W.nsIn K mainGlobals "BadBook" = some (some (.ref C_BadBook)))
    (xi_BadBook : PySem.W.findIn K (.ref C_BadBook) "__init__" = some (some (.ref f_BadBook_init)))
    (xt_BadBook : PySem.W.typeIn K (.ref f_BadBook_init) = some (.type "function"))
    (F_BadBook_init : FunD K "__init__" "BadBook.__init__" (defArgs s_BadBook_init) (defBody s_BadBook_init) (defScope s_BadBook_init) [] [] f_BadBook_init d_BadBook_init)
    (xq_BadBook : PySem.W.excInitIn K C_BadBook [.type "ValueError", .type "Exception", .type "BaseException", .type "object"] "ValueError.__new__" = true)
    (xh_BadBook : PySem.W.hasDictIn K C_BadBook = true)
    (xsa_BadBook : PySem.W.findIn K (.ref C_BadBook) "__setattr__" = some (some (.builtin "object.__setattr__")))
    (xex_BadBook : PySem.W.subIn K (.ref C_BadBook) (.type "BaseException") = some true)
    (xty_BadBook : PySem.W.typeIn K (.ref C_BadBook) = some (.type "type"))
    (xkp_BadBook : PySem.W.keepIn K (.ref C_BadBook) = true)
    (xn_BadBook_part : PySem.W.findIn K (.ref C_BadBook) "part" = some none)
    (xrd_GuessError : PySem.W.readsIn K C_GuessError (.type "type") = true)
    (xga_GuessError : PySem.W.specialIn K (.ref C_GuessError) "__getattribute__" = some (some (.builtin "type.__getattribute__")))
    (xb_GuessError : PySem.W.findCls K (.ref C_GuessError) (.type "type") "__init__" = some (.val (.builtin "ValueError.__init__")))
    (eg_BadBook : PySem.W.findIn K (.ref C_BadBook) "__getattribute__" = some (some (.builtin "BaseException.__getattribute__")))
    (ek_BadBook : PySem.W.findIn K (.ref C_BadBook) "__getattr__" = some none)
    (es_BadBook : PySem.W.subIn K (.ref C_BadBook) (.type "BaseException") = some true)
    (ed_BadBook : PySem.W.hasDictIn K C_BadBook = true)
    (ea_BadBook : PySem.W.findIn K (.ref C_BadBook) "__class__" = some (some (.builtin "object.__class__")))
    (en_BadBook : PySem.W.specialIn K (.builtin "object.__class__") "__get__" = some (some (.builtin "getset_descriptor.__get__")))
    (et_BadBook : PySem.W.takesIn K (.builtin "object.__class__") = some true)
    (em_BadBook : PySem.W.mroIn K C_BadBook (.type "object") = some true)
    (hs_GuessError : PySem.W.subIn K (.ref C_GuessError) (.type "BaseException") = some true)
    (hh_GuessError : PySem.W.hasDictIn K C_GuessError = true)
    (ht_GuessError : PySem.W.typeIn K (.ref C_GuessError) = some (.type "type"))
    (es_BadBook_GuessError : PySem.W.subIn K (.ref C_BadBook) (.ref C_GuessError) = some true)
    (kx_BadBook_BadBook : PySem.W.kitOne K (.ref C_BadBook) (.ref C_BadBook) = some true)
    (kx_BadBook_BadKind : PySem.W.kitOne K (.ref C_BadBook) (.ref C_BadKind) = some false)
    (kx_BadBook_ValueError : PySem.W.kitOne K (.ref C_BadBook) (.type "ValueError") = some true)
    (z_ValueError : PySem.W.nsIn K mainGlobals "ValueError" = some none)
    (z_abs : PySem.W.nsIn K mainGlobals "abs" = some none)
    (z_all : PySem.W.nsIn K mainGlobals "all" = some none)
    (z_any : PySem.W.nsIn K mainGlobals "any" = some none)
    (z_bool : PySem.W.nsIn K mainGlobals "bool" = some none)
    (z_enumerate : PySem.W.nsIn K mainGlobals "enumerate" = some none)
    (z_int : PySem.W.nsIn K mainGlobals "int" = some none)
    (z_isinstance : PySem.W.nsIn K mainGlobals "isinstance" = some none)
    (z_len : PySem.W.nsIn K mainGlobals "len" = some none)
    (z_list : PySem.W.nsIn K mainGlobals "list" = some none)
    (z_max : PySem.W.nsIn K mainGlobals "max" = some none)
    (z_min : PySem.W.nsIn K mainGlobals "min" = some none)
    (z_ord : PySem.W.nsIn K mainGlobals "ord" = some none)
    (z_range : PySem.W.nsIn K mainGlobals "range" = some none)
    (z_set : PySem.W.nsIn K mainGlobals "set" = some none)
    (z_str : PySem.W.nsIn K mainGlobals "str" = some none)
    (z_tuple : PySem.W.nsIn K mainGlobals "tuple" = some none)
    (g_LETTERS : ∃ t, PySem.W.nsIn K mainGlobals "LETTERS" = some (some (.str ⟨[97, 98, 99, 100, 101, 102, 103, 104, 105, 106, 107, 108, 109, 110, 111, 112, 113, 114, 115, 116, 117, 118, 119, 120, 121, 122].toArray⟩ t)))
    (g_MOST_DIGITS : ∃ t, PySem.W.nsIn K mainGlobals "MOST_DIGITS" = some (some (.int 20 t)))
    (g_MOST_KINDS : ∃ t, PySem.W.nsIn K mainGlobals "MOST_KINDS" = some (some (.int 7 t)))
    (g_MOST_MARKS : ∃ t, PySem.W.nsIn K mainGlobals "MOST_MARKS" = some (some (.int 6 t)))
    (g_MOST_SHOWN : ∃ t, PySem.W.nsIn K mainGlobals "MOST_SHOWN" = some (some (.int 3 t)))
    (g_MOST_WORDS : ∃ t, PySem.W.nsIn K mainGlobals "MOST_WORDS" = some (some (.int 4 t))) :
    ∃ fd : FuncData, (∀ (s : Shared) (v : Value), BindsTo s fd ⟨[v], []⟩ [("_law_script", v)]) ∧ ∀ base : Heap, K.In base → base.Ns mainGlobals mg → FnOk l.prog w K mg base CX0 10 fa fd ["_law_script"] (lowSp K (fun _ => 0) sp_law) := by
  have e := hfa.symm.trans (PySem.W.mg_of X G a_law)
  cases e
  obtain ⟨cl, e_Kind, e_Book, e_GuessError, e_BadKind, e_BadBook⟩ : ∃ cl : Nm, cl "Kind" = C_Kind ∧ cl "Book" = C_Book ∧ cl "GuessError" = C_GuessError ∧ cl "BadKind" = C_BadKind ∧ cl "BadBook" = C_BadBook := ⟨nm1 "Kind" C_Kind (nm1 "Book" C_Book (nm1 "GuessError" C_GuessError (nm1 "BadKind" C_BadKind (nm1 "BadBook" C_BadBook (fun _ => 0))))), by simp [nm1], by simp [nm1], by simp [nm1], by simp [nm1], by simp [nm1]⟩
  subst e_Kind
  subst e_Book
  subst e_GuessError
  subst e_BadKind
  subst e_BadBook
  have F_BadBook_init := fun_ofD F_BadBook_init
  have b_BadBook_init := F_BadBook_init.binds (ps := ["self", "part"]) fun _ _ _ _ _ _ us hl => match us, hl with | [_, _], _ => rfl
  have B_law := FunD.bindsA (ps := ["_law_script"]) F_law fun _ _ _ _ _ _ us hl => match us, hl with | [_], _ => rfl
  have k_Book_names := F_Book_names.kp
  have F_Book_names := fun_ofD F_Book_names
  have b_Book_names := F_Book_names.binds (ps := ["self"]) fun _ _ _ _ _ _ us hl => match us, hl with | [_], _ => rfl
  have k_Book_all_joins := F_Book_all_joins.kp
  have F_Book_all_joins := fun_ofD F_Book_all_joins
  have b_Book_all_joins := F_Book_all_joins.binds (ps := ["self", "given"]) fun _ _ _ _ _ _ us hl => match us, hl with | [_, _], _ => rfl
  have k_holds_kind := F_holds_kind.kp
  have F_holds_kind := fun_ofD F_holds_kind
  have b_holds_kind := F_holds_kind.binds (ps := ["high", "low"]) fun _ _ _ _ _ _ us hl => match us, hl with | [_, _], _ => rfl
  have k_Book_kind_named := F_Book_kind_named.kp
  have F_Book_kind_named := fun_ofD F_Book_kind_named
  have b_Book_kind_named := F_Book_kind_named.binds (ps := ["self", "name"]) fun _ _ _ _ _ _ us hl => match us, hl with | [_, _], _ => rfl
  have k_Book_holds := F_Book_holds.kp
  have F_Book_holds := fun_ofD F_Book_holds
  have b_Book_holds := F_Book_holds.binds (ps := ["self", "c", "a"]) fun _ _ _ _ _ _ us hl => match us, hl with | [_, _, _], _ => rfl
  have k_Book_contains := F_Book_contains.kp
  have F_Book_contains := fun_ofD F_Book_contains
  have b_Book_contains := F_Book_contains.binds (ps := ["self", "thing"]) fun _ _ _ _ _ _ us hl => match us, hl with | [_, _], _ => rfl
  have k_Book_is_triple := F_Book_is_triple.kp
  have F_Book_is_triple := fun_ofD F_Book_is_triple
  have b_Book_is_triple := F_Book_is_triple.binds (ps := ["self", "join"]) fun _ _ _ _ _ _ us hl => match us, hl with | [_, _], _ => rfl
  have k_Book_given_joinsX := F_Book_given_joinsX.kp
  have F_Book_given_joinsX := fun_ofD F_Book_given_joinsX
  have b_Book_given_joinsX := F_Book_given_joinsX.binds (ps := ["self", "joins"]) fun _ _ _ _ _ _ us hl => match us, hl with | [_, _], _ => rfl
  have k_Book_initX := F_Book_initX.kp
  have k_l_part := F_l_part.kp
  have F_l_part := fun_ofD F_l_part
  have b_l_part := F_l_part.binds (ps := ["_law_kinds", "_law_joins"]) fun _ _ _ _ _ _ us hl => match us, hl with | [_, _], _ => rfl
  have k_l_take := F_l_take.kp
  have F_l_take := fun_ofD F_l_take
  have b_l_take := F_l_take.binds (ps := ["_law_bag_here", "_law_many"]) fun _ _ _ _ _ _ us hl => match us, hl with | [_, _], _ => rfl
  have k_Kind_init := F_Kind_init.kp
  have k_is_word := F_is_word.kp
  have F_is_word := fun_ofD F_is_word
  have b_is_word := F_is_word.binds (ps := ["thing"]) fun _ _ _ _ _ _ us hl => match us, hl with | [_], _ => rfl
  have k_Kind_of_texts := F_Kind_of_texts.kp
  have F_Kind_of_texts := fun_ofD F_Kind_of_texts
  have b_Kind_of_texts := F_Kind_of_texts.binds (ps := ["name"]) fun _ _ _ _ _ _ us hl => match us, hl with | [_], _ => rfl
  have k_l_of := F_l_of.kp
  have F_l_of := fun_ofD F_l_of
  have b_l_of := F_l_of.binds (ps := ["_law_bag_here", "_law_some"]) fun _ _ _ _ _ _ us hl => match us, hl with | [_, _], _ => rfl
  have k_l_spare := F_l_spare.kp
  have F_l_spare := fun_ofD F_l_spare
  have b_l_spare := F_l_spare.binds (ps := ["_law_specs_here"]) fun _ _ _ _ _ _ us hl => match us, hl with | [_], _ => rfl
  have k_l_holds := F_l_holds.kp
  have F_l_holds := fun_ofD F_l_holds
  have b_l_holds := F_l_holds.binds (ps := ["_law_high", "_law_low"]) fun _ _ _ _ _ _ us hl => match us, hl with | [_, _], _ => rfl
  have k_l_wrong := F_l_wrong.kp
  have F_l_wrong := fun_ofD F_l_wrong
  have b_l_wrong := F_l_wrong.binds (ps := ["_law_bag_here", "_law_specs_here", "_law_before"]) fun _ _ _ _ _ _ us hl => match us, hl with | [_, _, _], _ => rfl
  have k_l_triples := F_l_triples.kp
  have F_l_triples := fun_ofD F_l_triples
  have b_l_triples := F_l_triples.binds (ps := ["_law_bag_here", "_law_specs_here", "_law_is_loose"]) fun _ _ _ _ _ _ us hl => match us, hl with | [_, _, _], _ => rfl
  have k_is_between := F_is_between.kp
  have F_is_between := fun_ofD F_is_between
  have b_is_between := F_is_between.binds (ps := ["thing", "least", "most"]) fun _ _ _ _ _ _ us hl => match us, hl with | [_, _, _], _ => rfl
  have k_Kind_of_numbers := F_Kind_of_numbers.kp
  have k_is_text := F_is_text.kp
  have F_is_text := fun_ofD F_is_text
  have b_is_text := F_is_text.binds (ps := ["thing"]) fun _ _ _ _ _ _ us hl => match us, hl with | [_], _ => rfl
  have k_are_texts := F_are_texts.kp
  have F_are_texts := fun_ofD F_are_texts
  have b_are_texts := F_are_texts.binds (ps := ["things", "most"]) fun _ _ _ _ _ _ us hl => match us, hl with | [_, _], _ => rfl
  have k_Kind_of_words := F_Kind_of_words.kp
  have F_Kind_of_words := fun_ofD F_Kind_of_words
  have b_Kind_of_words := F_Kind_of_words.binds (ps := ["name", "yes", "no"]) fun _ _ _ _ _ _ us hl => match us, hl with | [_, _, _], _ => rfl
  have k_Kind_of_marks := F_Kind_of_marks.kp
  have F_Kind_of_marks := fun_ofD F_Kind_of_marks
  have k_l_marked := F_l_marked.kp
  have F_l_marked := fun_ofD F_l_marked
  have b_l_marked := F_l_marked.binds (ps := ["_law_label", "_law_marks"]) fun _ _ _ _ _ _ us hl => match us, hl with | [_, _], _ => rfl
  have k_l_made := F_l_made.kp
  have F_l_made := fun_ofD F_l_made
  have b_l_made := F_l_made.binds (ps := ["_law_spec_here"]) fun _ _ _ _ _ _ us hl => match us, hl with | [_], _ => rfl
  have k_l_options := F_l_options.kp
  have F_l_options := fun_ofD F_l_options
  have b_l_options := F_l_options.binds (ps := ["_law_bag_here", "_law_most"]) fun _ _ _ _ _ _ us hl => match us, hl with | [_, _], _ => rfl
  have k_l_digits := F_l_digits.kp
  have F_l_digits := fun_ofD F_l_digits
  have b_l_digits := F_l_digits.binds (ps := ["_law_bag_here", "_law_least", "_law_most"]) fun _ _ _ _ _ _ us hl => match us, hl with | [_, _, _], _ => rfl
  have k_l_number := F_l_number.kp
  have F_l_number := fun_ofD F_l_number
  have b_l_number := F_l_number.binds (ps := ["_law_bag_here", "_law_most"]) fun _ _ _ _ _ _ us hl => match us, hl with | [_, _], _ => rfl
  have k_l_signs := F_l_signs.kp
  have F_l_signs := fun_ofD F_l_signs
  have b_l_signs := F_l_signs.binds (ps := []) fun _ _ _ _ _ _ us hl => match us, hl with | [], _ => rfl
  have k_l_text := F_l_text.kp
  have F_l_text := fun_ofD F_l_text
  have b_l_text := F_l_text.binds (ps := ["_law_bag_here"]) fun _ _ _ _ _ _ us hl => match us, hl with | [_], _ => rfl
  have k_l_other_texts := F_l_other_texts.kp
  have F_l_other_texts := fun_ofD F_l_other_texts
  have b_l_other_texts := F_l_other_texts.binds (ps := ["_law_bag_here", "_law_many", "_law_taken"]) fun _ _ _ _ _ _ us hl => match us, hl with | [_, _, _], _ => rfl
  have k_l_spec := F_l_spec.kp
  have F_l_spec := fun_ofD F_l_spec
  have b_l_spec := F_l_spec.binds (ps := ["_law_bag_here", "_law_name", "_law_family", "_law_most", "_law_taken"]) fun _ _ _ _ _ _ us hl => match us, hl with | [_, _, _, _, _], _ => rfl
  have k_l_word := F_l_word.kp
  have F_l_word := fun_ofD F_l_word
  have b_l_word := F_l_word.binds (ps := ["_law_bag_here", "_law_at", "_law_most"]) fun _ _ _ _ _ _ us hl => match us, hl with | [_, _, _], _ => rfl
  have k_l_words := F_l_words.kp
  have F_l_words := fun_ofD F_l_words
  have b_l_words := F_l_words.binds (ps := ["_law_bag_here", "_law_many"]) fun _ _ _ _ _ _ us hl => match us, hl with | [_, _], _ => rfl
  have k_l_specs := F_l_specs.kp
  have F_l_specs := fun_ofD F_l_specs
  have b_l_specs := F_l_specs.binds (ps := ["_law_bag_here", "_law_many", "_law_most"]) fun _ _ _ _ _ _ us hl => match us, hl with | [_, _, _], _ => rfl
  have k_l_right := F_l_right.kp
  have F_l_right := fun_ofD F_l_right
  have b_l_right := F_l_right.binds (ps := ["_law_bag_here"]) fun _ _ _ _ _ _ us hl => match us, hl with | [_], _ => rfl
  have k_l_bag := F_l_bag.kp
  have F_l_bag := fun_ofD F_l_bag
  have b_l_bag := F_l_bag.binds (ps := ["_law_script", "_law_at"]) fun _ _ _ _ _ _ us hl => match us, hl with | [_, _], _ => rfl
  have k_law := F_law.kp
  have F_law := fun_ofD F_law
  have b_law := F_law.binds (ps := ["_law_script"]) fun _ _ _ _ _ _ us hl => match us, hl with | [_], _ => rfl
  have T : Txt K mg ⟨cl, f_Book_names, d_Book_names, f_Book_all_joins, d_Book_all_joins, f_holds_kind, d_holds_kind, f_Book_kind_named, d_Book_kind_named, f_Book_holds, d_Book_holds, f_Book_contains, d_Book_contains, f_Book_is_triple, d_Book_is_triple, f_Book_given_joinsX, d_Book_given_joinsX, f_Book_initX, d_Book_initX, t_Book_initX_joins, f_l_part, d_l_part, f_l_take, d_l_take, f_Kind_init, d_Kind_init, t_Kind_init_marks, t_Kind_init_yes, t_Kind_init_no, f_is_word, d_is_word, f_Kind_of_texts, d_Kind_of_texts, p_Kind_of_texts, f_l_of, d_l_of, f_l_spare, d_l_spare, f_l_holds, d_l_holds, f_l_wrong, d_l_wrong, f_l_triples, d_l_triples, f_is_between, d_is_between, f_Kind_of_numbers, d_Kind_of_numbers, p_Kind_of_numbers, f_is_text, d_is_text, f_are_texts, d_are_texts, f_Kind_of_words, d_Kind_of_words, p_Kind_of_words, f_Kind_of_marks, d_Kind_of_marks, p_Kind_of_marks, f_l_marked, d_l_marked, f_l_made, d_l_made, f_l_options, d_l_options, f_l_digits, d_l_digits, f_l_number, d_l_number, f_l_signs, d_l_signs, f_l_text, d_l_text, f_l_other_texts, d_l_other_texts, f_l_spec, d_l_spec, f_l_word, d_l_word, f_l_words, d_l_words, f_l_specs, d_l_specs, f_l_right, d_l_right, f_l_bag, d_l_bag, fa, d_law, f_BadBook_init, d_BadBook_init⟩ := {
    f_Book_names := F_Book_names
    b_Book_names := b_Book_names
    h_Book_names := ⟨a_Book_names, fn_Book_names, k_Book_names⟩
    f_Book_all_joins := F_Book_all_joins
    b_Book_all_joins := b_Book_all_joins
    h_Book_all_joins := ⟨a_Book_all_joins, fn_Book_all_joins, k_Book_all_joins⟩
    f_holds_kind := F_holds_kind
    b_holds_kind := b_holds_kind
    m_holds_kind := PySem.W.mg_of X G a_holds_kind
    kp_holds_kind := k_holds_kind
    f_Book_kind_named := F_Book_kind_named
    b_Book_kind_named := b_Book_kind_named
    h_Book_kind_named := ⟨a_Book_kind_named, fn_Book_kind_named, k_Book_kind_named⟩
    f_Book_holds := F_Book_holds
    b_Book_holds := b_Book_holds
    h_Book_holds := ⟨a_Book_holds, fn_Book_holds, k_Book_holds⟩
    f_Book_contains := F_Book_contains
    b_Book_contains := b_Book_contains
    h_Book_contains := ⟨a_Book_contains, fn_Book_contains⟩
    f_Book_is_triple := F_Book_is_triple
    b_Book_is_triple := b_Book_is_triple
    h_Book_is_triple := ⟨a_Book_is_triple, fn_Book_is_triple, k_Book_is_triple⟩
    f_Book_given_joinsX := F_Book_given_joinsX
    b_Book_given_joinsX := b_Book_given_joinsX
    h_Book_given_joinsX := ⟨a_Book_given_joinsX, fn_Book_given_joinsX, k_Book_given_joinsX⟩
    f_Book_initX := F_Book_initX
    t_Book_initX_joins := kt_Book_initX_joins
    h_Book_initX := ⟨mk_Book_initX, a_Book_initX, fn_Book_initX, kc_Book_initX⟩
    f_l_part := F_l_part
    b_l_part := b_l_part
    m_l_part := PySem.W.mg_of X G a_l_part
    kp_l_part := k_l_part
    f_l_take := F_l_take
    b_l_take := b_l_take
    m_l_take := PySem.W.mg_of X G a_l_take
    kp_l_take := k_l_take
    f_Kind_init := F_Kind_init
    t_Kind_init_marks := kt_Kind_init_marks
    t_Kind_init_yes := kt_Kind_init_yes
    t_Kind_init_no := kt_Kind_init_no
    h_Kind_init := ⟨mk_Kind_init, a_Kind_init, fn_Kind_init, kc_Kind_init⟩
    f_is_word := F_is_word
    b_is_word := b_is_word
    m_is_word := PySem.W.mg_of X G a_is_word
    kp_is_word := k_is_word
    f_Kind_of_texts := F_Kind_of_texts
    b_Kind_of_texts := b_Kind_of_texts
    h_Kind_of_texts := ⟨a_Kind_of_texts, rc_Kind_of_texts, k_Kind_of_texts⟩
    f_l_of := F_l_of
    b_l_of := b_l_of
    m_l_of := PySem.W.mg_of X G a_l_of
    kp_l_of := k_l_of
    f_l_spare := F_l_spare
    b_l_spare := b_l_spare
    m_l_spare := PySem.W.mg_of X G a_l_spare
    kp_l_spare := k_l_spare
    f_l_holds := F_l_holds
    b_l_holds := b_l_holds
    m_l_holds := PySem.W.mg_of X G a_l_holds
    kp_l_holds := k_l_holds
    f_l_wrong := F_l_wrong
    b_l_wrong := b_l_wrong
    m_l_wrong := PySem.W.mg_of X G a_l_wrong
    kp_l_wrong := k_l_wrong
    f_l_triples := F_l_triples
    b_l_triples := b_l_triples
    m_l_triples := PySem.W.mg_of X G a_l_triples
    kp_l_triples := k_l_triples
    f_is_between := F_is_between
    b_is_between := b_is_between
    m_is_between := PySem.W.mg_of X G a_is_between
    kp_is_between := k_is_between
    f_Kind_of_numbers := F_Kind_of_numbers
    h_Kind_of_numbers := ⟨a_Kind_of_numbers, rc_Kind_of_numbers, k_Kind_of_numbers⟩
    f_is_text := F_is_text
    b_is_text := b_is_text
    m_is_text := PySem.W.mg_of X G a_is_text
    kp_is_text := k_is_text
    f_are_texts := F_are_texts
    b_are_texts := b_are_texts
    m_are_texts := PySem.W.mg_of X G a_are_texts
    kp_are_texts := k_are_texts
    f_Kind_of_words := F_Kind_of_words
    b_Kind_of_words := b_Kind_of_words
    h_Kind_of_words := ⟨a_Kind_of_words, rc_Kind_of_words, k_Kind_of_words⟩
    f_Kind_of_marks := F_Kind_of_marks
    b_Kind_of_marks := fun _ _ _ _ _ _ us rest hl => match us, rest, hl with | [_], [], _ => rfl | [_], _ :: _, _ => rfl
    h_Kind_of_marks := ⟨a_Kind_of_marks, rc_Kind_of_marks, k_Kind_of_marks⟩
    f_l_marked := F_l_marked
    b_l_marked := b_l_marked
    m_l_marked := PySem.W.mg_of X G a_l_marked
    kp_l_marked := k_l_marked
    f_l_made := F_l_made
    b_l_made := b_l_made
    m_l_made := PySem.W.mg_of X G a_l_made
    kp_l_made := k_l_made
    f_l_options := F_l_options
    b_l_options := b_l_options
    m_l_options := PySem.W.mg_of X G a_l_options
    kp_l_options := k_l_options
    f_l_digits := F_l_digits
    b_l_digits := b_l_digits
    m_l_digits := PySem.W.mg_of X G a_l_digits
    kp_l_digits := k_l_digits
    f_l_number := F_l_number
    b_l_number := b_l_number
    m_l_number := PySem.W.mg_of X G a_l_number
    kp_l_number := k_l_number
    f_l_signs := F_l_signs
    b_l_signs := b_l_signs
    m_l_signs := PySem.W.mg_of X G a_l_signs
    kp_l_signs := k_l_signs
    f_l_text := F_l_text
    b_l_text := b_l_text
    m_l_text := PySem.W.mg_of X G a_l_text
    kp_l_text := k_l_text
    f_l_other_texts := F_l_other_texts
    b_l_other_texts := b_l_other_texts
    m_l_other_texts := PySem.W.mg_of X G a_l_other_texts
    kp_l_other_texts := k_l_other_texts
    f_l_spec := F_l_spec
    b_l_spec := b_l_spec
    m_l_spec := PySem.W.mg_of X G a_l_spec
    kp_l_spec := k_l_spec
    f_l_word := F_l_word
    b_l_word := b_l_word
    m_l_word := PySem.W.mg_of X G a_l_word
    kp_l_word := k_l_word
    f_l_words := F_l_words
    b_l_words := b_l_words
    m_l_words := PySem.W.mg_of X G a_l_words
    kp_l_words := k_l_words
    f_l_specs := F_l_specs
    b_l_specs := b_l_specs
    m_l_specs := PySem.W.mg_of X G a_l_specs
    kp_l_specs := k_l_specs
    f_l_right := F_l_right
    b_l_right := b_l_right
    m_l_right := PySem.W.mg_of X G a_l_right
    kp_l_right := k_l_right
    f_l_bag := F_l_bag
    b_l_bag := b_l_bag
    m_l_bag := PySem.W.mg_of X G a_l_bag
    kp_l_bag := k_l_bag
    f_law := F_law
    b_law := b_law
    m_law := PySem.W.mg_of X G a_law
    kp_law := k_law
    c_Kind := ⟨pg_Kind, hd_Kind, po_Kind, sa_Kind⟩
    m_Kind := PySem.W.mg_of X G a_Kind
    r_Kind := ⟨rd_Kind, ga_Kind⟩
    c_Book := ⟨pg_Book, hd_Book, po_Book, sa_Book⟩
    m_Book := PySem.W.mg_of X G a_Book
    r_Book := ⟨rd_Book, ga_Book⟩
    n_Book_joined := n_Book_joined
    n_Book_kinds := n_Book_kinds
    n_Book_mark := n_Book_mark
    n_Book_spare := n_Book_spare
    n_Kind_digits := n_Kind_digits
    n_Kind_family := n_Kind_family
    n_Kind_keep := n_Kind_keep
    n_Kind_marks := n_Kind_marks
    n_Kind_name := n_Kind_name
    n_Kind_no := n_Kind_no
    n_Kind_point := n_Kind_point
    n_Kind_shown := n_Kind_shown
    n_Kind_signs := n_Kind_signs
    n_Kind_yes := n_Kind_yes
    n_Kind_zeros := n_Kind_zeros
    f_BadBook_init := F_BadBook_init
    b_BadBook_init := b_BadBook_init
    xo_BadBook := oexC_of xq_BadBook xh_BadBook xsa_BadBook xex_BadBook xty_BadBook xkp_BadBook
    xi_BadBook := xi_BadBook
    xt_BadBook := xt_BadBook
    xn_BadBook := (nf_cons xn_BadBook_part nf_nil)
    xr_GuessError := ⟨xrd_GuessError, xga_GuessError⟩
    xb_GuessError := xb_GuessError
    xc_BadBook := ⟨eg_BadBook, ek_BadBook, es_BadBook, ed_BadBook⟩
    ex_BadBook := ⟨eg_BadBook, ek_BadBook, es_BadBook, ed_BadBook, ea_BadBook, en_BadBook, et_BadBook, em_BadBook⟩
    em_BadBook_GuessError := PySem.W.exm_ref hs_GuessError hh_GuessError ht_GuessError es_BadBook_GuessError
    kx_BadBook_BadBook := kx_BadBook_BadBook
    kx_BadBook_BadKind := kx_BadBook_BadKind
    kx_BadBook_ValueError := kx_BadBook_ValueError
    m_GuessError := PySem.W.mg_of X G a_GuessError
    m_BadKind := PySem.W.mg_of X G a_BadKind
    m_BadBook := PySem.W.mg_of X G a_BadBook
    z_ValueError := PySem.W.mg_none_of X G z_ValueError
    z_abs := PySem.W.mg_none_of X G z_abs
    z_all := PySem.W.mg_none_of X G z_all
    z_any := PySem.W.mg_none_of X G z_any
    z_bool := PySem.W.mg_none_of X G z_bool
    z_enumerate := PySem.W.mg_none_of X G z_enumerate
    z_int := PySem.W.mg_none_of X G z_int
    z_isinstance := PySem.W.mg_none_of X G z_isinstance
    z_len := PySem.W.mg_none_of X G z_len
    z_list := PySem.W.mg_none_of X G z_list
    z_max := PySem.W.mg_none_of X G z_max
    z_min := PySem.W.mg_none_of X G z_min
    z_ord := PySem.W.mg_none_of X G z_ord
    z_range := PySem.W.mg_none_of X G z_range
    z_set := PySem.W.mg_none_of X G z_set
    z_str := PySem.W.mg_none_of X G z_str
    z_tuple := PySem.W.mg_none_of X G z_tuple
    g_LETTERS := ⟨g_LETTERS.choose, PySem.W.mg_of X G g_LETTERS.choose_spec⟩
    g_MOST_DIGITS := ⟨g_MOST_DIGITS.choose, PySem.W.mg_of X G g_MOST_DIGITS.choose_spec⟩
    g_MOST_KINDS := ⟨g_MOST_KINDS.choose, PySem.W.mg_of X G g_MOST_KINDS.choose_spec⟩
    g_MOST_MARKS := ⟨g_MOST_MARKS.choose, PySem.W.mg_of X G g_MOST_MARKS.choose_spec⟩
    g_MOST_SHOWN := ⟨g_MOST_SHOWN.choose, PySem.W.mg_of X G g_MOST_SHOWN.choose_spec⟩
    g_MOST_WORDS := ⟨g_MOST_WORDS.choose, PySem.W.mg_of X G g_MOST_WORDS.choose_spec⟩
  }
  exact ⟨d_law, fun s v => B_law s [v] rfl, fun base _ _ => (ok_law T).imp fun _ _ _ _ => law_cl⟩
theorem facts {l : PySem.W.OpenLaw} {w : World} {K : PySem.W.Frag} {h : Heap} {mg : Str → Option Value} {f : Addr} (X : K.In h) (G : h.Ns mainGlobals mg) (hfa : mg ("law" : Str) = some (.ref f)) (c : SaysX fa fn K) :
    ∃ fd : FuncData, (∀ (s : Shared) (v : Value), BindsTo s fd ⟨[v], []⟩ [("_law_script", v)]) ∧ ∀ base : Heap, K.In base → base.Ns mainGlobals mg → FnOk l.prog w K mg base CX0 10 f fd ["_law_script"] (lowSp K (fun _ => 0) sp_law) := by
  have a_Kind : PySem.W.nsIn K mainGlobals "Kind" = some (some (.ref 296)) := of_decide_eq_true (c.fact 0 0 (l := fa0) rfl rfl)
  have pg_Kind : PySem.W.plainGet K 296 Str.empty = true := of_decide_eq_true (c.fact 0 1 (l := fa0) rfl rfl)
  have hd_Kind : PySem.W.hasDictIn K 296 = true := of_decide_eq_true (c.fact 0 2 (l := fa0) rfl rfl)
  have po_Kind : PySem.W.plainOver K 296 = true := of_decide_eq_true (c.fact 0 3 (l := fa0) rfl rfl)
  have sa_Kind : PySem.W.findIn K (.ref 296) "__setattr__" = some (some (.builtin "object.__setattr__")) := of_decide_eq_true (c.fact 0 4 (l := fa0) rfl rfl)
  have rd_Kind : PySem.W.readsIn K 296 (.type "type") = true := of_decide_eq_true (c.fact 0 5 (l := fa0) rfl rfl)
  have ga_Kind : PySem.W.specialIn K (.ref 296) "__getattribute__" = some (some (.builtin "type.__getattribute__")) := of_decide_eq_true (c.fact 0 6 (l := fa0) rfl rfl)
  have a_Book : PySem.W.nsIn K mainGlobals "Book" = some (some (.ref 566)) := of_decide_eq_true (c.fact 0 7 (l := fa0) rfl rfl)
  have pg_Book : PySem.W.plainGet K 566 Str.empty = true := of_decide_eq_true (c.fact 0 8 (l := fa0) rfl rfl)
  have hd_Book : PySem.W.hasDictIn K 566 = true := of_decide_eq_true (c.fact 0 9 (l := fa0) rfl rfl)
  have po_Book : PySem.W.plainOver K 566 = true := of_decide_eq_true (c.fact 0 10 (l := fa0) rfl rfl)
  have sa_Book : PySem.W.findIn K (.ref 566) "__setattr__" = some (some (.builtin "object.__setattr__")) := of_decide_eq_true (c.fact 0 11 (l := fa0) rfl rfl)
  have rd_Book : PySem.W.readsIn K 566 (.type "type") = true := of_decide_eq_true (c.fact 0 12 (l := fa0) rfl rfl)
  have ga_Book : PySem.W.specialIn K (.ref 566) "__getattribute__" = some (some (.builtin "type.__getattribute__")) := of_decide_eq_true (c.fact 0 13 (l := fa0) rfl rfl)
  have n_Book_joined : PySem.W.findIn K (.ref 566) "joined" = some none := of_decide_eq_true (c.fact 0 14 (l := fa0) rfl rfl)
  have n_Book_kinds : PySem.W.findIn K (.ref 566) "kinds" = some none := of_decide_eq_true (c.fact 0 15 (l := fa0) rfl rfl)
  have n_Book_mark : PySem.W.findIn K (.ref 566) "mark" = some none := of_decide_eq_true (c.fact 0 16 (l := fa0) rfl rfl)
  have n_Book_spare : PySem.W.findIn K (.ref 566) "spare" = some none := of_decide_eq_true (c.fact 0 17 (l := fa0) rfl rfl)
  have n_Kind_digits : PySem.W.findIn K (.ref 296) "digits" = some none := of_decide_eq_true (c.fact 0 18 (l := fa0) rfl rfl)
  have n_Kind_family : PySem.W.findIn K (.ref 296) "family" = some none := of_decide_eq_true (c.fact 0 19 (l := fa0) rfl rfl)
  have n_Kind_keep : PySem.W.findIn K (.ref 296) "keep" = some none := of_decide_eq_true (c.fact 0 20 (l := fa0) rfl rfl)
  have n_Kind_marks : PySem.W.findIn K (.ref 296) "marks" = some none := of_decide_eq_true (c.fact 0 21 (l := fa0) rfl rfl)
  have n_Kind_name : PySem.W.findIn K (.ref 296) "name" = some none := of_decide_eq_true (c.fact 0 22 (l := fa0) rfl rfl)
  have n_Kind_no : PySem.W.findIn K (.ref 296) "no" = some none := of_decide_eq_true (c.fact 0 23 (l := fa0) rfl rfl)
  have n_Kind_point : PySem.W.findIn K (.ref 296) "point" = some none := of_decide_eq_true (c.fact 0 24 (l := fa0) rfl rfl)
  have n_Kind_shown : PySem.W.findIn K (.ref 296) "shown" = some none := of_decide_eq_true (c.fact 0 25 (l := fa0) rfl rfl)
  have n_Kind_signs : PySem.W.findIn K (.ref 296) "signs" = some none := of_decide_eq_true (c.fact 0 26 (l := fa0) rfl rfl)
  have n_Kind_yes : PySem.W.findIn K (.ref 296) "yes" = some none := of_decide_eq_true (c.fact 0 27 (l := fa0) rfl rfl)
  have n_Kind_zeros : PySem.W.findIn K (.ref 296) "zeros" = some none := of_decide_eq_true (c.fact 0 28 (l := fa0) rfl rfl)
  have a_Book_names : PySem.W.findIn K (.ref 566) "names" = some (some (.ref 430)) := of_decide_eq_true (c.fact 0 29 (l := fa0) rfl rfl)
  have fn_Book_names : PySem.W.isFn K (.ref 430) = true := of_decide_eq_true (c.fact 0 30 (l := fa0) rfl rfl)
  obtain ⟨d_Book_names, F_Book_names⟩ := c.fun_ 0 (d := ⟨430, "names", "Book.names", s_Book_names, [], []⟩) rfl
  have a_Book_all_joins : PySem.W.findIn K (.ref 566) "all_joins" = some (some (.ref 417)) := of_decide_eq_true (c.fact 0 31 (l := fa0) rfl rfl)
  have fn_Book_all_joins : PySem.W.isFn K (.ref 417) = true := of_decide_eq_true (c.fact 0 32 (l := fa0) rfl rfl)
  obtain ⟨d_Book_all_joins, F_Book_all_joins⟩ := c.fun_ 1 (d := ⟨417, "all_joins", "Book.all_joins", s_Book_all_joins, [], []⟩) rfl
  have a_holds_kind : PySem.W.nsIn K mainGlobals "holds_kind" = some (some (.ref 307)) := of_decide_eq_true (c.fact 0 33 (l := fa0) rfl rfl)
  obtain ⟨d_holds_kind, F_holds_kind⟩ := c.fun_ 2 (d := ⟨307, "holds_kind", "holds_kind", s_holds_kind, [], []⟩) rfl
  have a_Book_kind_named : PySem.W.findIn K (.ref 566) "kind_named" = some (some (.ref 437)) := of_decide_eq_true (c.fact 0 34 (l := fa0) rfl rfl)
  have fn_Book_kind_named : PySem.W.isFn K (.ref 437) = true := of_decide_eq_true (c.fact 0 35 (l := fa0) rfl rfl)
  obtain ⟨d_Book_kind_named, F_Book_kind_named⟩ := c.fun_ 3 (d := ⟨437, "kind_named", "Book.kind_named", s_Book_kind_named, [], []⟩) rfl
  have a_Book_holds : PySem.W.findIn K (.ref 566) "holds" = some (some (.ref 486)) := of_decide_eq_true (c.fact 0 36 (l := fa0) rfl rfl)
  have fn_Book_holds : PySem.W.isFn K (.ref 486) = true := of_decide_eq_true (c.fact 0 37 (l := fa0) rfl rfl)
  obtain ⟨d_Book_holds, F_Book_holds⟩ := c.fun_ 4 (d := ⟨486, "holds", "Book.holds", s_Book_holds, [], []⟩) rfl
  have a_Book_contains : PySem.W.findIn K (.ref 566) "__contains__" = some (some (.ref 458)) := of_decide_eq_true (c.fact 0 38 (l := fa0) rfl rfl)
  have fn_Book_contains : PySem.W.isFn K (.ref 458) = true := of_decide_eq_true (c.fact 0 39 (l := fa0) rfl rfl)
  obtain ⟨d_Book_contains, F_Book_contains⟩ := c.fun_ 5 (d := ⟨458, "__contains__", "Book.__contains__", s_Book_contains, [], []⟩) rfl
  have a_Book_is_triple : PySem.W.findIn K (.ref 566) "is_triple" = some (some (.ref 410)) := of_decide_eq_true (c.fact 1 0 (l := fa1) rfl rfl)
  have fn_Book_is_triple : PySem.W.isFn K (.ref 410) = true := of_decide_eq_true (c.fact 1 1 (l := fa1) rfl rfl)
  obtain ⟨d_Book_is_triple, F_Book_is_triple⟩ := c.fun_ 6 (d := ⟨410, "is_triple", "Book.is_triple", s_Book_is_triple, [], []⟩) rfl
  have a_Book_given_joinsX : PySem.W.findIn K (.ref 566) "given_joins" = some (some (.ref 405)) := of_decide_eq_true (c.fact 1 2 (l := fa1) rfl rfl)
  have fn_Book_given_joinsX : PySem.W.isFn K (.ref 405) = true := of_decide_eq_true (c.fact 1 3 (l := fa1) rfl rfl)
  obtain ⟨d_Book_given_joinsX, F_Book_given_joinsX⟩ := c.fun_ 7 (d := ⟨405, "given_joins", "Book.given_joins", s_Book_given_joinsX, [], []⟩) rfl
  have a_Book_initX : PySem.W.findIn K (.ref 566) "__init__" = some (some (.ref 398)) := of_decide_eq_true (c.fact 1 4 (l := fa1) rfl rfl)
  have fn_Book_initX : PySem.W.isFn K (.ref 398) = true := of_decide_eq_true (c.fact 1 5 (l := fa1) rfl rfl)
  have mk_Book_initX : PySem.W.makesIn K 566 = true := of_decide_eq_true (c.fact 1 6 (l := fa1) rfl rfl)
  have kc_Book_initX : PySem.W.keepIn K (.ref 566) = true := of_decide_eq_true (c.fact 1 7 (l := fa1) rfl rfl)
  have kt_Book_initX_joins : KTup K 392 [] := tupX_ok (c.fact 1 8 (l := fa1) rfl rfl)
  obtain ⟨d_Book_initX, F_Book_initX⟩ := c.fun_ 8 (d := ⟨398, "__init__", "Book.__init__", s_Book_initX, [(.ref 392)], []⟩) rfl
  have a_l_part : PySem.W.nsIn K mainGlobals "_law_part" = some (some (.ref 691)) := of_decide_eq_true (c.fact 1 9 (l := fa1) rfl rfl)
  obtain ⟨d_l_part, F_l_part⟩ := c.fun_ 9 (d := ⟨691, "_law_part", "_law_part", s_l_part, [], []⟩) rfl
  have a_l_take : PySem.W.nsIn K mainGlobals "_law_take" = some (some (.ref 584)) := of_decide_eq_true (c.fact 1 10 (l := fa1) rfl rfl)
  obtain ⟨d_l_take, F_l_take⟩ := c.fun_ 10 (d := ⟨584, "_law_take", "_law_take", s_l_take, [], []⟩) rfl
  have a_Kind_init : PySem.W.findIn K (.ref 296) "__init__" = some (some (.ref 204)) := of_decide_eq_true (c.fact 1 11 (l := fa1) rfl rfl)
  have fn_Kind_init : PySem.W.isFn K (.ref 204) = true := of_decide_eq_true (c.fact 1 12 (l := fa1) rfl rfl)
  have mk_Kind_init : PySem.W.makesIn K 296 = true := of_decide_eq_true (c.fact 1 13 (l := fa1) rfl rfl)
  have kc_Kind_init : PySem.W.keepIn K (.ref 296) = true := of_decide_eq_true (c.fact 1 14 (l := fa1) rfl rfl)
  have kt_Kind_init_marks : KTup K 194 [] := tupX_ok (c.fact 1 15 (l := fa1) rfl rfl)
  have kt_Kind_init_yes : KTup K 195 [] := tupX_ok (c.fact 1 16 (l := fa1) rfl rfl)
  have kt_Kind_init_no : KTup K 196 [] := tupX_ok (c.fact 1 17 (l := fa1) rfl rfl)
  obtain ⟨d_Kind_init, F_Kind_init⟩ := c.fun_ 11 (d := ⟨204, "__init__", "Kind.__init__", s_Kind_init, [], [("marks", (.ref 194)), ("yes", (.ref 195)), ("no", (.ref 196)), ("digits", .non), ("point", (.bl false)), ("signs", (.str ⟨[45].toArray⟩)), ("zeros", (.bl true)), ("keep", .non), ("shown", (.int 0))]⟩) rfl
  have a_is_word : PySem.W.nsIn K mainGlobals "is_word" = some (some (.ref 135)) := of_decide_eq_true (c.fact 1 18 (l := fa1) rfl rfl)
  obtain ⟨d_is_word, F_is_word⟩ := c.fun_ 12 (d := ⟨135, "is_word", "is_word", s_is_word, [], []⟩) rfl
  have a_Kind_of_texts : PySem.W.findCls K (.ref 296) (.type "type") "of_texts" = some (.get (.builtin "staticmethod.__get__") (.ref 242) .none (.ref 296)) := getX_ok (c.fact 1 19 (l := fa1) rfl rfl)
  have rc_Kind_of_texts : ∃ rest, PySem.W.recIn K 242 "staticmethod" = some (.ref 240 :: rest) := recX_ok (c.fact 1 20 (l := fa1) rfl rfl)
  obtain ⟨d_Kind_of_texts, F_Kind_of_texts⟩ := c.fun_ 13 (d := ⟨240, "of_texts", "Kind.of_texts", s_Kind_of_texts, [], []⟩) rfl
  have a_l_of : PySem.W.nsIn K mainGlobals "_law_of" = some (some (.ref 591)) := of_decide_eq_true (c.fact 1 21 (l := fa1) rfl rfl)
  obtain ⟨d_l_of, F_l_of⟩ := c.fun_ 14 (d := ⟨591, "_law_of", "_law_of", s_l_of, [], []⟩) rfl
  have a_l_spare : PySem.W.nsIn K mainGlobals "_law_spare" = some (some (.ref 674)) := of_decide_eq_true (c.fact 1 22 (l := fa1) rfl rfl)
  obtain ⟨d_l_spare, F_l_spare⟩ := c.fun_ 15 (d := ⟨674, "_law_spare", "_law_spare", s_l_spare, [], []⟩) rfl
  have a_l_holds : PySem.W.nsIn K mainGlobals "_law_holds" = some (some (.ref 669)) := of_decide_eq_true (c.fact 1 23 (l := fa1) rfl rfl)
  obtain ⟨d_l_holds, F_l_holds⟩ := c.fun_ 16 (d := ⟨669, "_law_holds", "_law_holds", s_l_holds, [], []⟩) rfl
  have a_l_wrong : PySem.W.nsIn K mainGlobals "_law_wrong" = some (some (.ref 698)) := of_decide_eq_true (c.fact 1 24 (l := fa1) rfl rfl)
  obtain ⟨d_l_wrong, F_l_wrong⟩ := c.fun_ 17 (d := ⟨698, "_law_wrong", "_law_wrong", s_l_wrong, [], []⟩) rfl
  have a_l_triples : PySem.W.nsIn K mainGlobals "_law_triples" = some (some (.ref 684)) := of_decide_eq_true (c.fact 1 25 (l := fa1) rfl rfl)
  obtain ⟨d_l_triples, F_l_triples⟩ := c.fun_ 18 (d := ⟨684, "_law_triples", "_law_triples", s_l_triples, [], []⟩) rfl
  have a_is_between : PySem.W.nsIn K mainGlobals "is_between" = some (some (.ref 152)) := of_decide_eq_true (c.fact 1 26 (l := fa1) rfl rfl)
  obtain ⟨d_is_between, F_is_between⟩ := c.fun_ 19 (d := ⟨152, "is_between", "is_between", s_is_between, [], []⟩) rfl
  have a_Kind_of_numbers : PySem.W.findCls K (.ref 296) (.type "type") "of_numbers" = some (.get (.builtin "staticmethod.__get__") (.ref 232) .none (.ref 296)) := getX_ok (c.fact 1 27 (l := fa1) rfl rfl)
  have rc_Kind_of_numbers : ∃ rest, PySem.W.recIn K 232 "staticmethod" = some (.ref 230 :: rest) := recX_ok (c.fact 1 28 (l := fa1) rfl rfl)
  obtain ⟨d_Kind_of_numbers, F_Kind_of_numbers⟩ := c.fun_ 20 (d := ⟨230, "of_numbers", "Kind.of_numbers", s_Kind_of_numbers, [], [("digits", .non), ("point", (.bl false)), ("signs", (.str ⟨[45].toArray⟩)), ("zeros", (.bl true)), ("keep", .non), ("shown", (.int 0))]⟩) rfl
  have a_is_text : PySem.W.nsIn K mainGlobals "is_text" = some (some (.ref 140)) := of_decide_eq_true (c.fact 1 29 (l := fa1) rfl rfl)
  obtain ⟨d_is_text, F_is_text⟩ := c.fun_ 21 (d := ⟨140, "is_text", "is_text", s_is_text, [], []⟩) rfl
  have a_are_texts : PySem.W.nsIn K mainGlobals "are_texts" = some (some (.ref 145)) := of_decide_eq_true (c.fact 1 30 (l := fa1) rfl rfl)
  obtain ⟨d_are_texts, F_are_texts⟩ := c.fun_ 22 (d := ⟨145, "are_texts", "are_texts", s_are_texts, [], []⟩) rfl
  have a_Kind_of_words : PySem.W.findCls K (.ref 296) (.type "type") "of_words" = some (.get (.builtin "staticmethod.__get__") (.ref 221) .none (.ref 296)) := getX_ok (c.fact 1 31 (l := fa1) rfl rfl)
  have rc_Kind_of_words : ∃ rest, PySem.W.recIn K 221 "staticmethod" = some (.ref 219 :: rest) := recX_ok (c.fact 1 32 (l := fa1) rfl rfl)
  obtain ⟨d_Kind_of_words, F_Kind_of_words⟩ := c.fun_ 23 (d := ⟨219, "of_words", "Kind.of_words", s_Kind_of_words, [], []⟩) rfl
  have a_Kind_of_marks : PySem.W.findCls K (.ref 296) (.type "type") "of_marks" = some (.get (.builtin "staticmethod.__get__") (.ref 213) .none (.ref 296)) := getX_ok (c.fact 1 33 (l := fa1) rfl rfl)
  have rc_Kind_of_marks : ∃ rest, PySem.W.recIn K 213 "staticmethod" = some (.ref 211 :: rest) := recX_ok (c.fact 1 34 (l := fa1) rfl rfl)
  obtain ⟨d_Kind_of_marks, F_Kind_of_marks⟩ := c.fun_ 24 (d := ⟨211, "of_marks", "Kind.of_marks", s_Kind_of_marks, [], []⟩) rfl
  have a_l_marked : PySem.W.nsIn K mainGlobals "_law_marked" = some (some (.ref 655)) := of_decide_eq_true (c.fact 1 35 (l := fa1) rfl rfl)
  obtain ⟨d_l_marked, F_l_marked⟩ := c.fun_ 25 (d := ⟨655, "_law_marked", "_law_marked", s_l_marked, [], []⟩) rfl
  have a_l_made : PySem.W.nsIn K mainGlobals "_law_made" = some (some (.ref 662)) := of_decide_eq_true (c.fact 1 36 (l := fa1) rfl rfl)
  obtain ⟨d_l_made, F_l_made⟩ := c.fun_ 26 (d := ⟨662, "_law_made", "_law_made", s_l_made, [], []⟩) rfl
  have a_l_options : PySem.W.nsIn K mainGlobals "_law_options" = some (some (.ref 641)) := of_decide_eq_true (c.fact 1 37 (l := fa1) rfl rfl)
  obtain ⟨d_l_options, F_l_options⟩ := c.fun_ 27 (d := ⟨641, "_law_options", "_law_options", s_l_options, [], []⟩) rfl
  have a_l_digits : PySem.W.nsIn K mainGlobals "_law_digits" = some (some (.ref 605)) := of_decide_eq_true (c.fact 1 38 (l := fa1) rfl rfl)
  obtain ⟨d_l_digits, F_l_digits⟩ := c.fun_ 28 (d := ⟨605, "_law_digits", "_law_digits", s_l_digits, [], []⟩) rfl
  have a_l_number : PySem.W.nsIn K mainGlobals "_law_number" = some (some (.ref 612)) := of_decide_eq_true (c.fact 1 39 (l := fa1) rfl rfl)
  obtain ⟨d_l_number, F_l_number⟩ := c.fun_ 29 (d := ⟨612, "_law_number", "_law_number", s_l_number, [], []⟩) rfl
  have a_l_signs : PySem.W.nsIn K mainGlobals "_law_signs" = some (some (.ref 598)) := of_decide_eq_true (c.fact 2 0 (l := fa2) rfl rfl)
  obtain ⟨d_l_signs, F_l_signs⟩ := c.fun_ 30 (d := ⟨598, "_law_signs", "_law_signs", s_l_signs, [], []⟩) rfl
  have a_l_text : PySem.W.nsIn K mainGlobals "_law_text" = some (some (.ref 617)) := of_decide_eq_true (c.fact 2 1 (l := fa2) rfl rfl)
  obtain ⟨d_l_text, F_l_text⟩ := c.fun_ 31 (d := ⟨617, "_law_text", "_law_text", s_l_text, [], []⟩) rfl
  have a_l_other_texts : PySem.W.nsIn K mainGlobals "_law_other_texts" = some (some (.ref 624)) := of_decide_eq_true (c.fact 2 2 (l := fa2) rfl rfl)
  obtain ⟨d_l_other_texts, F_l_other_texts⟩ := c.fun_ 32 (d := ⟨624, "_law_other_texts", "_law_other_texts", s_l_other_texts, [], []⟩) rfl
  have a_l_spec : PySem.W.nsIn K mainGlobals "_law_spec" = some (some (.ref 648)) := of_decide_eq_true (c.fact 2 3 (l := fa2) rfl rfl)
  obtain ⟨d_l_spec, F_l_spec⟩ := c.fun_ 33 (d := ⟨648, "_law_spec", "_law_spec", s_l_spec, [], []⟩) rfl
  have a_l_word : PySem.W.nsIn K mainGlobals "_law_word" = some (some (.ref 629)) := of_decide_eq_true (c.fact 2 4 (l := fa2) rfl rfl)
  obtain ⟨d_l_word, F_l_word⟩ := c.fun_ 34 (d := ⟨629, "_law_word", "_law_word", s_l_word, [], []⟩) rfl
  have a_l_words : PySem.W.nsIn K mainGlobals "_law_words" = some (some (.ref 634)) := of_decide_eq_true (c.fact 2 5 (l := fa2) rfl rfl)
  obtain ⟨d_l_words, F_l_words⟩ := c.fun_ 35 (d := ⟨634, "_law_words", "_law_words", s_l_words, [], []⟩) rfl
  have a_l_specs : PySem.W.nsIn K mainGlobals "_law_specs" = some (some (.ref 679)) := of_decide_eq_true (c.fact 2 6 (l := fa2) rfl rfl)
  obtain ⟨d_l_specs, F_l_specs⟩ := c.fun_ 36 (d := ⟨679, "_law_specs", "_law_specs", s_l_specs, [], []⟩) rfl
  have a_l_right : PySem.W.nsIn K mainGlobals "_law_right" = some (some (.ref 703)) := of_decide_eq_true (c.fact 2 7 (l := fa2) rfl rfl)
  obtain ⟨d_l_right, F_l_right⟩ := c.fun_ 37 (d := ⟨703, "_law_right", "_law_right", s_l_right, [], []⟩) rfl
  have a_l_bag : PySem.W.nsIn K mainGlobals "_law_bag" = some (some (.ref 577)) := of_decide_eq_true (c.fact 2 8 (l := fa2) rfl rfl)
  obtain ⟨d_l_bag, F_l_bag⟩ := c.fun_ 38 (d := ⟨577, "_law_bag", "_law_bag", s_l_bag, [], []⟩) rfl
  have a_law : PySem.W.nsIn K mainGlobals "law" = some (some (.ref 710)) := of_decide_eq_true (c.fact 2 9 (l := fa2) rfl rfl)
  obtain ⟨d_law, F_law⟩ := c.fun_ 39 (d := ⟨710, "law", "law", s_law, [], []⟩) rfl
  have a_GuessError : PySem.W.nsIn K mainGlobals "GuessError" = some (some (.ref 31)) := of_decide_eq_true (c.fact 2 10 (l := fa2) rfl rfl)
  have a_BadKind : PySem.W.nsIn K mainGlobals "BadKind" = some (some (.ref 51)) := of_decide_eq_true (c.fact 2 11 (l := fa2) rfl rfl)
  have a_BadBook : PySem.W.nsIn K mainGlobals "BadBook" = some (some (.ref 70)) := of_decide_eq_true (c.fact 2 12 (l := fa2) rfl rfl)
  have xi_BadBook : PySem.W.findIn K (.ref 70) "__init__" = some (some (.ref 67)) := of_decide_eq_true (c.fact 2 13 (l := fa2) rfl rfl)
  have xt_BadBook : PySem.W.typeIn K (.ref 67) = some (.type "function") := of_decide_eq_true (c.fact 2 14 (l := fa2) rfl rfl)
  obtain ⟨d_BadBook_init, F_BadBook_init⟩ := c.fun_ 40 (d := ⟨67, "__init__", "BadBook.__init__", s_BadBook_init, [], []⟩) rfl
  have xq_BadBook : PySem.W.excInitIn K 70 [.type "ValueError", .type "Exception", .type "BaseException", .type "object"] "ValueError.__new__" = true := of_decide_eq_true (c.fact 2 15 (l := fa2) rfl rfl)
  have xh_BadBook : PySem.W.hasDictIn K 70 = true := of_decide_eq_true (c.fact 2 16 (l := fa2) rfl rfl)
  have xsa_BadBook : PySem.W.findIn K (.ref 70) "__setattr__" = some (some (.builtin "object.__setattr__")) := of_decide_eq_true (c.fact 2 17 (l := fa2) rfl rfl)
  have xex_BadBook : PySem.W.subIn K (.ref 70) (.type "BaseException") = some true := of_decide_eq_true (c.fact 2 18 (l := fa2) rfl rfl)
  have xty_BadBook : PySem.W.typeIn K (.ref 70) = some (.type "type") := of_decide_eq_true (c.fact 2 19 (l := fa2) rfl rfl)
  have xkp_BadBook : PySem.W.keepIn K (.ref 70) = true := of_decide_eq_true (c.fact 2 20 (l := fa2) rfl rfl)
  have xn_BadBook_part : PySem.W.findIn K (.ref 70) "part" = some none := of_decide_eq_true (c.fact 2 21 (l := fa2) rfl rfl)
  have xrd_GuessError : PySem.W.readsIn K 31 (.type "type") = true := of_decide_eq_true (c.fact 2 22 (l := fa2) rfl rfl)
  have xga_GuessError : PySem.W.specialIn K (.ref 31) "__getattribute__" = some (some (.builtin "type.__getattribute__")) := of_decide_eq_true (c.fact 2 23 (l := fa2) rfl rfl)
  have xb_GuessError : PySem.W.findCls K (.ref 31) (.type "type") "__init__" = some (.val (.builtin "ValueError.__init__")) := valX_ok (c.fact 2 24 (l := fa2) rfl rfl)
  have eg_BadBook : PySem.W.findIn K (.ref 70) "__getattribute__" = some (some (.builtin "BaseException.__getattribute__")) := of_decide_eq_true (c.fact 2 25 (l := fa2) rfl rfl)
  have ek_BadBook : PySem.W.findIn K (.ref 70) "__getattr__" = some none := of_decide_eq_true (c.fact 2 26 (l := fa2) rfl rfl)
  have es_BadBook : PySem.W.subIn K (.ref 70) (.type "BaseException") = some true := of_decide_eq_true (c.fact 2 27 (l := fa2) rfl rfl)
  have ed_BadBook : PySem.W.hasDictIn K 70 = true := of_decide_eq_true (c.fact 2 28 (l := fa2) rfl rfl)
  have ea_BadBook : PySem.W.findIn K (.ref 70) "__class__" = some (some (.builtin "object.__class__")) := of_decide_eq_true (c.fact 2 29 (l := fa2) rfl rfl)
  have en_BadBook : PySem.W.specialIn K (.builtin "object.__class__") "__get__" = some (some (.builtin "getset_descriptor.__get__")) := of_decide_eq_true (c.fact 2 30 (l := fa2) rfl rfl)
  have et_BadBook : PySem.W.takesIn K (.builtin "object.__class__") = some true := of_decide_eq_true (c.fact 2 31 (l := fa2) rfl rfl)
  have em_BadBook : PySem.W.mroIn K 70 (.type "object") = some true := of_decide_eq_true (c.fact 2 32 (l := fa2) rfl rfl)
  have hs_GuessError : PySem.W.subIn K (.ref 31) (.type "BaseException") = some true := of_decide_eq_true (c.fact 2 33 (l := fa2) rfl rfl)
  have hh_GuessError : PySem.W.hasDictIn K 31 = true := of_decide_eq_true (c.fact 2 34 (l := fa2) rfl rfl)
  have ht_GuessError : PySem.W.typeIn K (.ref 31) = some (.type "type") := of_decide_eq_true (c.fact 2 35 (l := fa2) rfl rfl)
  have es_BadBook_GuessError : PySem.W.subIn K (.ref 70) (.ref 31) = some true := of_decide_eq_true (c.fact 2 36 (l := fa2) rfl rfl)
  have kx_BadBook_BadBook : PySem.W.kitOne K (.ref 70) (.ref 70) = some true := of_decide_eq_true (c.fact 2 37 (l := fa2) rfl rfl)
  have kx_BadBook_BadKind : PySem.W.kitOne K (.ref 70) (.ref 51) = some false := of_decide_eq_true (c.fact 2 38 (l := fa2) rfl rfl)
  have kx_BadBook_ValueError : PySem.W.kitOne K (.ref 70) (.type "ValueError") = some true := of_decide_eq_true (c.fact 2 39 (l := fa2) rfl rfl)
  have z_ValueError : PySem.W.nsIn K mainGlobals "ValueError" = some none := of_decide_eq_true (c.fact 3 0 (l := fa3) rfl rfl)
  have z_abs : PySem.W.nsIn K mainGlobals "abs" = some none := of_decide_eq_true (c.fact 3 1 (l := fa3) rfl rfl)
  have z_all : PySem.W.nsIn K mainGlobals "all" = some none := of_decide_eq_true (c.fact 3 2 (l := fa3) rfl rfl)
  have z_any : PySem.W.nsIn K mainGlobals "any" = some none := of_decide_eq_true (c.fact 3 3 (l := fa3) rfl rfl)
  have z_bool : PySem.W.nsIn K mainGlobals "bool" = some none := of_decide_eq_true (c.fact 3 4 (l := fa3) rfl rfl)
  have z_enumerate : PySem.W.nsIn K mainGlobals "enumerate" = some none := of_decide_eq_true (c.fact 3 5 (l := fa3) rfl rfl)
  have z_int : PySem.W.nsIn K mainGlobals "int" = some none := of_decide_eq_true (c.fact 3 6 (l := fa3) rfl rfl)
  have z_isinstance : PySem.W.nsIn K mainGlobals "isinstance" = some none := of_decide_eq_true (c.fact 3 7 (l := fa3) rfl rfl)
  have z_len : PySem.W.nsIn K mainGlobals "len" = some none := of_decide_eq_true (c.fact 3 8 (l := fa3) rfl rfl)
  have z_list : PySem.W.nsIn K mainGlobals "list" = some none := of_decide_eq_true (c.fact 3 9 (l := fa3) rfl rfl)
  have z_max : PySem.W.nsIn K mainGlobals "max" = some none := of_decide_eq_true (c.fact 3 10 (l := fa3) rfl rfl)
  have z_min : PySem.W.nsIn K mainGlobals "min" = some none := of_decide_eq_true (c.fact 3 11 (l := fa3) rfl rfl)
  have z_ord : PySem.W.nsIn K mainGlobals "ord" = some none := of_decide_eq_true (c.fact 3 12 (l := fa3) rfl rfl)
  have z_range : PySem.W.nsIn K mainGlobals "range" = some none := of_decide_eq_true (c.fact 3 13 (l := fa3) rfl rfl)
  have z_set : PySem.W.nsIn K mainGlobals "set" = some none := of_decide_eq_true (c.fact 3 14 (l := fa3) rfl rfl)
  have z_str : PySem.W.nsIn K mainGlobals "str" = some none := of_decide_eq_true (c.fact 3 15 (l := fa3) rfl rfl)
  have z_tuple : PySem.W.nsIn K mainGlobals "tuple" = some none := of_decide_eq_true (c.fact 3 16 (l := fa3) rfl rfl)
  have g_LETTERS : ∃ t, PySem.W.nsIn K mainGlobals "LETTERS" = some (some (.str ⟨[97, 98, 99, 100, 101, 102, 103, 104, 105, 106, 107, 108, 109, 110, 111, 112, 113, 114, 115, 116, 117, 118, 119, 120, 121, 122].toArray⟩ t)) := strX_ok (c.fact 3 17 (l := fa3) rfl rfl)
  have g_MOST_DIGITS : ∃ t, PySem.W.nsIn K mainGlobals "MOST_DIGITS" = some (some (.int 20 t)) := intX_ok (c.fact 3 18 (l := fa3) rfl rfl)
  have g_MOST_KINDS : ∃ t, PySem.W.nsIn K mainGlobals "MOST_KINDS" = some (some (.int 7 t)) := intX_ok (c.fact 3 19 (l := fa3) rfl rfl)
  have g_MOST_MARKS : ∃ t, PySem.W.nsIn K mainGlobals "MOST_MARKS" = some (some (.int 6 t)) := intX_ok (c.fact 3 20 (l := fa3) rfl rfl)
  have g_MOST_SHOWN : ∃ t, PySem.W.nsIn K mainGlobals "MOST_SHOWN" = some (some (.int 3 t)) := intX_ok (c.fact 3 21 (l := fa3) rfl rfl)
  have g_MOST_WORDS : ∃ t, PySem.W.nsIn K mainGlobals "MOST_WORDS" = some (some (.int 4 t)) := intX_ok (c.fact 3 22 (l := fa3) rfl rfl)
  exact all_mk X G hfa a_Kind pg_Kind hd_Kind po_Kind sa_Kind rd_Kind ga_Kind a_Book pg_Book hd_Book po_Book sa_Book rd_Book ga_Book n_Book_joined n_Book_kinds n_Book_mark n_Book_spare n_Kind_digits n_Kind_family n_Kind_keep n_Kind_marks n_Kind_name n_Kind_no n_Kind_point n_Kind_shown n_Kind_signs n_Kind_yes n_Kind_zeros a_Book_names fn_Book_names F_Book_names a_Book_all_joins fn_Book_all_joins F_Book_all_joins a_holds_kind F_holds_kind a_Book_kind_named fn_Book_kind_named F_Book_kind_named a_Book_holds fn_Book_holds F_Book_holds a_Book_contains fn_Book_contains F_Book_contains a_Book_is_triple fn_Book_is_triple F_Book_is_triple a_Book_given_joinsX fn_Book_given_joinsX F_Book_given_joinsX a_Book_initX fn_Book_initX mk_Book_initX kc_Book_initX kt_Book_initX_joins F_Book_initX a_l_part F_l_part a_l_take F_l_take a_Kind_init fn_Kind_init mk_Kind_init kc_Kind_init kt_Kind_init_marks kt_Kind_init_yes kt_Kind_init_no F_Kind_init a_is_word F_is_word a_Kind_of_texts rc_Kind_of_texts F_Kind_of_texts a_l_of F_l_of a_l_spare F_l_spare a_l_holds F_l_holds a_l_wrong F_l_wrong a_l_triples F_l_triples a_is_between F_is_between a_Kind_of_numbers rc_Kind_of_numbers F_Kind_of_numbers a_is_text F_is_text a_are_texts F_are_texts a_Kind_of_words rc_Kind_of_words F_Kind_of_words a_Kind_of_marks rc_Kind_of_marks F_Kind_of_marks a_l_marked F_l_marked a_l_made F_l_made a_l_options F_l_options a_l_digits F_l_digits a_l_number F_l_number a_l_signs F_l_signs a_l_text F_l_text a_l_other_texts F_l_other_texts a_l_spec F_l_spec a_l_word F_l_word a_l_words F_l_words a_l_specs F_l_specs a_l_right F_l_right a_l_bag F_l_bag a_law F_law a_GuessError a_BadKind a_BadBook xi_BadBook xt_BadBook F_BadBook_init xq_BadBook xh_BadBook xsa_BadBook xex_BadBook xty_BadBook xkp_BadBook xn_BadBook_part xrd_GuessError xga_GuessError xb_GuessError eg_BadBook ek_BadBook es_BadBook ed_BadBook ea_BadBook en_BadBook et_BadBook em_BadBook hs_GuessError hh_GuessError ht_GuessError es_BadBook_GuessError kx_BadBook_BadBook kx_BadBook_BadKind kx_BadBook_ValueError z_ValueError z_abs z_all z_any z_bool z_enumerate z_int z_isinstance z_len z_list z_max z_min z_ord z_range z_set z_str z_tuple g_LETTERS g_MOST_DIGITS g_MOST_KINDS g_MOST_MARKS g_MOST_SHOWN g_MOST_WORDS
end Lw
open PySem PySem.W PySem.Calls PyProof.Rows
set_option maxRecDepth 100000 in
set_option maxHeartbeats 0 in
theorem PySem.Challenge.cw_guessedkinds_k27_books_refused_holds : PySem.Challenge.rw_guessedkinds_k27_books_refused.Holds := by
  w_on; o_law
  refine HandSHeadRun.head_any (r := OpenLaw.row PySem.Challenge.rw_guessedkinds_k27_books_refused) (q := Lw.qv) (H := Lw.hk) (ob := Lw.ob) (M := 60000) (loose := Lw.names) (d := HandSHeadRun.topDef (OpenLaw.row PySem.Challenge.rw_guessedkinds_k27_books_refused).prog 52) (kwd := []) Lw.ob_eq
    (by kernel_rfl) (fun s => by kernel_rfl) Lw.run (by kernel_rfl) (by kernel_rfl) (by kernel_rfl) (by rfl) (by first | assumption | decide +kernel) (by decide +kernel) ⟨rfl, rfl, rfl, rfl, rfl, by decide +kernel⟩ ?hw ?hc
  case hw => w_witness2
  case hc =>
    refine L2.walk_ofE (l := PySem.Challenge.rw_guessedkinds_k27_books_refused) (n := 63) (k := 10) (x := "_law_script") (CX := L2.CX0) rfl (by decide) (by kernel_rfl) ⟨rfl, by decide, by decide⟩ ?F (fun _ _ _ _ z => z)
    intro w mg fa h Y Gn hmg0
    obtain ⟨K, KX, c⟩ := Y
    have hmg : mg ("law" : PySem.Str) = some (.ref fa) := by
      have e : (HandSHeadRun.topDef (OpenLaw.row PySem.Challenge.rw_guessedkinds_k27_books_refused).prog 52).name = ("law" : PySem.Str) := by kernel_rfl
      rw [← e]
      exact hmg0
    obtain ⟨fd, hb, hF⟩ := Lw.facts (l := PySem.Challenge.rw_guessedkinds_k27_books_refused) (w := w) KX Gn hmg c
    exact ⟨K, fd, G.lowSp K (fun _ => 0) G.sp_law, KX, hb, fun H a ns hl _ hS => G.law_in ns hl hS, hF⟩
