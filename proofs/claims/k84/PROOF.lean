import PyProof.Rows.All
import Wide.All
import OpenK.AllK
import Wide.FinOn
import KE.KStateDown
import HandS.Base
import HandS.Call
import HandS.Ends
import HandS.More
import HandS.Words
import HandS.WordsExc
import HandS.Defaults
import HandS.Head0
import HandS.Head1
import HandS.Head2
import HandS.HeadEnd
import HandS.HeadHook1
import HandS.HeadHook2
import HandS.HeadHook3
import HandS.HeadHook4
import HandS.HeadWalk
import HandS.ExcInit
import KE.KTryMore
import KE.KIsAll
import HandS.ExcIs
import HandS.ExcField
import HandS.Comp
import HandS.GenList
import HandS.AnyAll
import KE.KExcSuper
import HandS.ExcOwn
import HandS.ForMost
import HandS.IsInst
import HandS.Style
import HandS.WideBits
import HandS.Zip
import PyProof.ReprReads
import HandS.SortRule
import PyProof.ReprRoads
import PyProof.Rows.RuleB_pow
import KE.KExcIs
import PySem.Challenge.RW_inksays_k84_whole_held_signs
set_option Elab.async false
set_option linter.all false
set_option maxRecDepth 100000
set_option maxHeartbeats 0
/-! a Hook that tells, beside hookX's facts, methods whose closure holds the cell of their class (super() without arguments) -/
namespace Ink
open PySem PySem.Spec PyProof.Rows L2
/-- what a method with a closure is: all but its code, and the names of its closure -/
abbrev FnC : Type := Option (Str × Str × Arguments × FuncBody × Scope × Addr × List Str × Addr)
def fnC (K : PySem.W.Frag) (p : Str × Option Str) : FnC := match K.lookup (He.fAd K p) with
  | some ⟨_, _, .func fd, _⟩ => some (fd.name, fd.qualname, fd.params, fd.body, fd.scope, fd.globals, fd.closure.map (·.1), fd.builtins)
  | _ => none
def valC (d : He.DefD) : FnC := some (d.name, d.qual, d.params, .stmts d.body, d.scope, mainGlobals, ["__class__"], builtinsNs)
/-- the closure is the cell of the class x -/
def celB (K : PySem.W.Frag) (x : Str) : List (Str × Addr) → Bool
  | [p] => (match K.lookup p.2 with
    | some ⟨.type t2, none, .cell (some (.ref a)), _⟩ => decide (t2 = "cell") && decide (a = He.ga K x)
    | _ => false)
  | _ => false
theorem celB_ok {K : PySem.W.Frag} {x : Str} {l : List (Str × Addr)} (h : celB K x l = true) (e : l.map (·.1) = (["__class__"] : List Str)) : ∃ (c : Addr) (sl : Array (Option Value)), l = [(("__class__" : Str), c)] ∧ K.lookup c = some ⟨.type "cell", none, .cell (some (.ref (He.ga K x))), sl⟩ := by
  match l, h, e with
  | [], h, _ => cases h
  | [(y, ca)], h, e =>
    have ey : y = "__class__" := List.head_eq_of_cons_eq (show [y] = (["__class__"] : List Str) from e)
    subst ey
    have c9 : (match K.lookup ca with
      | some ⟨.type t2, none, .cell (some (.ref a)), _⟩ => decide (t2 = "cell") && decide (a = He.ga K x)
      | _ => false) = true := h
    cases z : K.lookup ca with
    | none =>
      rw [z] at c9
      cases c9
    | some o2 =>
      obtain ⟨oc2, od2, dt2, osl2⟩ := o2
      rw [z] at c9
      cases oc2 with
      | type t2 =>
        cases od2 with
        | none =>
          cases dt2 with
          | cell v =>
            cases v with
            | none => cases c9
            | some v =>
              cases v with
              | ref a =>
                obtain ⟨d1, d2⟩ := He.ba (show (decide (t2 = "cell") && decide (a = He.ga K x)) = true from c9)
                have e1 := of_decide_eq_true d1
                have e2 := of_decide_eq_true d2
                subst e1 e2
                exact ⟨ca, osl2, rfl, z⟩
              | _ => cases c9
          | _ => cases c9
        | some b => cases dt2 <;> cases c9
      | _ => cases od2 <;> cases dt2 <;> cases c9
  | _ :: _ :: _, h, _ => cases h
/-- the code's file -/
def fileB (K : PySem.W.Frag) (cd : Value) (file : Str) : Bool := match cd with
  | .ref c => (match K.lookup c with
    | some ⟨_, _, .fields vs, _⟩ => (match (vs[2]? : Option Value) with
      | some (.str f _) => decide (f = file)
      | _ => false)
    | _ => false)
  | _ => false
theorem fileB_ok {K : PySem.W.Frag} {cd : Value} {file : Str} (h : fileB K cd file = true) : ∃ (c : Addr) (oc : Value) (od : Option Addr) (vs : Array Value) (sl : Array (Option Value)) (t : Tok), cd = .ref c ∧ K.lookup c = some ⟨oc, od, .fields vs, sl⟩ ∧ vs[2]? = some (.str file t) := by
  cases cd with
  | ref c =>
    unfold fileB at h
    dsimp only at h
    split at h
    · rename_i oc od vs sl q
      split at h
      · rename_i f t e
        have ef := of_decide_eq_true h
        subst ef
        exact ⟨c, oc, od, vs, sl, t, rfl, q, e⟩
      · cases h
    · cases h
  | _ => cases h
/-- the cell's address, the defaults, the code -/
def cloB (K : PySem.W.Frag) (x file : Str) (d : He.DefD) : Bool := match K.lookup (He.fAd K d.at_) with
  | some ⟨.type t, _, .func fd, _⟩ => decide (t = "function") && (PySem.W.codeIn K fd.code d.qual && (He.dflB K fd.defaults (d.dvs K) && (fileB K fd.code file && celB K x fd.closure)))
  | _ => false
/-- one exception class of one's own over ValueError, its __init__ a def that says super().__init__: what the written part must show -/
def oexB (K : PySem.W.Frag) (C : Addr) : Bool := match K.lookup C with
  | some ⟨.type t, _, .cls cd, sl⟩ => decide (t = "type") && (match cd.mro, sl.toList with
    | .ref C' :: bm, [_, _, _, _, some (.builtin n), _] => decide (C' = C) && (decide (n = "ValueError.__new__") && (!cd.hasDel && (PySem.HandSPX.refsVE bm && (cd.hasDict && decide (PySem.W.alongIn K "__init__" bm = some (some (.builtin "ValueError.__init__")))))))
    | _, _ => false)
  | _ => false
structure OexM (K : PySem.W.Frag) (C : Addr) : Prop where
  cls : ∃ nm q N bs bm sn sub ab col dd k0 k1 k2 k3 k5, K.lookup C = some (excClassObj nm q C N bs bm true sn sub ab col dd k0 k1 k2 k3 k5 "ValueError.__new__") ∧ PySem.HandSPX.refsVE bm = true ∧
    PySem.W.alongIn K "__init__" bm = some (some (.builtin "ValueError.__init__"))
theorem oexB_ok {K : PySem.W.Frag} {C : Addr} (h : oexB K C = true) : OexM K C := by
  unfold oexB at h
  cases q : K.lookup C with
  | none => rw [q] at h; cases h
  | some o =>
    obtain ⟨oc, od, dt, osl⟩ := o
    rw [q] at h
    cases oc with
    | type t =>
      cases dt with
      | cls cd =>
        obtain ⟨nm, bs, mro, ns, qn, hd, sn, sub, ab, col, del⟩ := cd
        obtain ⟨sl⟩ := osl
        obtain ⟨h1, h2⟩ := He.ba h
        have et := of_decide_eq_true h1
        subst et
        split at h2
        · rename_i C' bm k0 k1 k2 k3 n k5 hm hs
          obtain ⟨h3, h4⟩ := He.ba h2
          obtain ⟨h5, h6⟩ := He.ba h4
          obtain ⟨h7, h8⟩ := He.ba h6
          obtain ⟨h9, h10⟩ := He.ba h8
          obtain ⟨h11, h12⟩ := He.ba h10
          have e1 := of_decide_eq_true h3
          have e2 := of_decide_eq_true h5
          subst e1 e2
          dsimp only at hm hs h7 h11
          subst hm hs h11
          have e3 : del = false := by simpa using h7
          subst e3
          exact ⟨⟨nm, qn, ns, bs, bm, sn, sub, ab, col, od, k0, k1, k2, k3, k5, q, h9, of_decide_eq_true h12⟩⟩
        · cases h2
      | _ => cases h
    | _ => cases dt <;> cases h
/-! ### the Hook -/
abbrev AlY : Type := He.AlD × Bool × List FnC
/-- the part of the heap that is looked at: what the module's names reach, and the interpreter's statics -/
def asY (g : Addr → Option Obj) (n : Nat) : List Addr := cStatics :: He.asD g n
def obsY (n : Nat) (fa : List He.Fa) (fn : List He.DefD) (tf : List He.Defn) (ex : PySem.W.Frag → Bool) (fc : List He.DefD) (g : Addr → Option Obj) : AlY :=
  (He.obsD fa fn (He.frT g (asY g n)), ex (He.frT g (asY g n)) && He.tabsB g tf (He.frT g (asY g n)), fc.map fun d => fnC (He.frT g (asY g n)) d.at_)
def valY (fn : List He.DefD) (fc : List He.DefD) : AlY := (He.valD fn, true, fc.map valC)
structure SaysY (fa : List He.Fa) (fn : List He.DefD) (tf : List He.Defn) (ex : PySem.W.Frag → Bool) (fc : List He.DefD) (h : Heap) (K : PySem.W.Frag) : Prop where
  d : He.SaysD fa fn K
  more : ex K = true
  c : fc.map (fun d => fnC K d.at_) = fc.map valC
  tab : ∀ p ∈ tf, PySem.W.codeHdIn K (He.cT K p).1 (He.cT K p).2 = true ∧ K.lookup (He.cT K p).2 = none ∧ h.get? (He.cT K p).2 = some { cls := .none, data := .fields #[] }
theorem saysY_of {n : Nat} {fa : List He.Fa} {fn : List He.DefD} {tf : List He.Defn} {ex : PySem.W.Frag → Bool} {fc : List He.DefD} {h : Heap} (e : obsY n fa fn tf ex fc h.get? = valY fn fc) : SaysY fa fn tf ex fc h (He.frT h.get? (asY h.get? n)) := by
  have e2 : (ex (He.frT h.get? (asY h.get? n)) && He.tabsB h.get? tf (He.frT h.get? (asY h.get? n))) = true := congrArg (fun z : AlY => z.2.1) e
  refine ⟨congrArg (fun z : AlY => z.1) e, (He.ba e2).1, congrArg (fun z : AlY => z.2.2) e, fun p hp => ?_⟩
  have t := List.all_eq_true.mp (He.ba e2).2 p hp
  cases q : h.get? (He.cT (He.frT h.get? (asY h.get? n)) p).2 with
  | none =>
    rw [q, Bool.and_false] at t
    cases t
  | some o =>
    rw [q] at t
    have t2 := (He.ba t).2
    exact ⟨(He.ba t).1, He.frT_none q t2, by rw [He.emptyTab_eq t2]⟩
def hookY (n : Nat) (fa : List He.Fa) (fn : List He.DefD) (tf : List He.Defn) (ex : PySem.W.Frag → Bool) (fc : List He.DefD) : PySem.W.Hook where
  α := AlY
  obs := fun s => obsY n fa fn tf ex fc s.heap.get?
  val := fun _ => valY fn fc
  says := fun _ h => ∃ K : PySem.W.Frag, K.In h ∧ SaysY fa fn tf ex fc h K
  of := fun _ _ e => ⟨_, He.frT_in, saysY_of e⟩
  keeps := fun _ _ _ ⟨K, hK, c⟩ k => ⟨K, PySem.W.Frag.In.keeps hK k, ⟨c.d, c.more, c.c, fun p hp => ⟨(c.tab p hp).1, (c.tab p hp).2.1, k _ _ (c.tab p hp).2.2⟩⟩⟩
theorem obsY_eq {n : Nat} {fa : List He.Fa} {fn : List He.DefD} {tf : List He.Defn} {ex : PySem.W.Frag → Bool} {fc : List He.DefD} {g : Addr → Option Obj} {s : Shared} (h : ∀ a, g a = s.heap.get? a) : obsY n fa fn tf ex fc g = (hookY n fa fn tf ex fc).obs s := by
  rw [show g = s.heap.get? from funext h]
  rfl
/-- what is known of such a method at f: its function's object, the cell of its class -/
structure CloD (K : PySem.W.Frag) (file name qual : Str) (params : Arguments) (body : List Stmt) (scope : Scope) (dvs : List V) (C f : Addr) : Prop where
  fn : ∃ (od : Option Addr) (dV kV doc pm : Value) (an : Option Addr) (cdv ct : Value) (osl : Array (Option Value)) (c : Addr) (sl : Array (Option Value)),
    K.lookup f = some ⟨.type "function", od, .func { name := name, qualname := qual, params := params, body := .stmts body, scope := scope, globals := mainGlobals, closure := [("__class__", c)], defaults := dV, kwdefaults := kV, doc := doc, pyModule := pm, annotations := an, code := cdv, closureTuple := ct, builtins := builtinsNs }, osl⟩ ∧
    PySem.W.codeIn K cdv qual = true ∧ fileB K cdv file = true ∧ DflV K dV dvs ∧ K.lookup c = some ⟨.type "cell", none, .cell (some (.ref C)), sl⟩
theorem clo_ok {K : PySem.W.Frag} {x file : Str} {d : He.DefD} (e : fnC K d.at_ = valC d) (c : cloB K x file d = true) : CloD K file d.name d.qual d.params d.body d.scope (d.dvs K) (He.ga K x) (He.fAd K d.at_) := by
  unfold cloB at c
  unfold fnC at e
  cases q : K.lookup (He.fAd K d.at_) with
  | none =>
    rw [q] at c
    cases c
  | some o =>
    obtain ⟨oc, od, dt, osl⟩ := o
    rw [q] at c e
    cases oc with
    | type t =>
      cases dt with
      | func fd =>
        obtain ⟨n1, n2, n3, n4, n5, n6, n7, n8, n9, n10, n11, n12, n13, n14, n15⟩ := fd
        have e2 : (some (n1, n2, n3, n4, n5, n6, n7.map (·.1), n15) : FnC) = some (d.name, d.qual, d.params, FuncBody.stmts d.body, d.scope, mainGlobals, (["__class__"] : List Str), builtinsNs) := e
        simp only [Option.some.injEq, Prod.mk.injEq] at e2
        obtain ⟨h1, h2, h3, h4, h5, h6, h7, h8⟩ := e2
        subst h1 h2 h3 h4 h5 h6 h8
        obtain ⟨c1, c2⟩ := He.ba (show (decide (t = "function") && (PySem.W.codeIn K n13 d.qual && (He.dflB K n8 (d.dvs K) && (fileB K n13 file && celB K x n7)))) = true from c)
        obtain ⟨c3, c4⟩ := He.ba c2
        obtain ⟨c5, c6⟩ := He.ba c4
        obtain ⟨c7, c8⟩ := He.ba c6
        have et := of_decide_eq_true c1
        obtain ⟨ca, sl2, e7, z⟩ := celB_ok c8 h7
        rw [et, e7] at q
        exact ⟨⟨od, n8, n9, n10, n11, n12, n13, n14, osl, ca, sl2, q, c3, c7, He.dflB_ok c5, z⟩⟩
      | _ => cases c
    | _ => cases dt <;> cases c
end Ink

set_option Elab.async false
set_option linter.all false
set_option maxRecDepth 100000
set_option maxHeartbeats 0
namespace K84
open PySem PySem.Spec PyProof.Rows L2
def top (i : Nat) : Stmt := PySem.Challenge.pw_inksays_k84_whole_held_signs.main.body.getD i (.Pass ⟨0, 0, 0, 0⟩)
def dfn (x : Str) (i : Nat) (dfl : List He.Dv := []) : He.DefD := ⟨(x, none), x, x, defArgs (top i), defBody (top i), defScope (top i), dfl, []⟩
def fn : List He.DefD := [
  dfn "is_count" 8 [.non], dfn "is_text_of_signs" 9, dfn "is_hold" 10, dfn "is_held" 11, dfn "check_held" 12, dfn "check_number" 13,
  dfn "sign_of" 14, dfn "keeps_all" 15, dfn "keeps" 16, dfn "with_hold" 17, dfn "held_with" 18, dfn "held_without" 19,
  dfn "_law_hash" 21, dfn "_law_random" 22, dfn "_law_cell" 23, dfn "_law_generator" 24, dfn "_law_same" 25, dfn "_law_sign" 26,
  dfn "_law_drawn" 27, dfn "_law_is" 28, dfn "_law_keeps" 29, dfn "_law_with" 30, dfn "_law_text" 31, dfn "_law_bent" 32, dfn "_law_called" 33,
  dfn "_law_caught" 34, dfn "_law_refused" 35, dfn "_law_right" 36, dfn "law" 37]
def fa : List He.Fa := [.int "MOST_NUMBER" 60, .str "SIGNS" " 0123456789abcdefghijklmnopqrstuvwxyz", .glo "InkError", .glo "InvalidNumber", .glo "InvalidText", .glo "InvalidHeld",
  .free "isinstance", .free "int", .free "bool", .free "str", .free "list", .free "tuple", .free "dict", .free "all", .free "any", .free "len", .free "range", .free "sum", .free "max", .free "min", .free "sorted", .free "enumerate", .free "zip", .free "repr", .free "super",
  .glo "is_count", .glo "is_text_of_signs", .glo "is_hold", .glo "is_held", .glo "check_held", .glo "check_number", .glo "sign_of", .glo "keeps_all", .glo "keeps", .glo "with_hold", .glo "held_with", .glo "held_without",
  .glo "_law_hash", .glo "_law_random", .glo "_law_cell", .glo "_law_generator", .glo "_law_same", .glo "_law_sign", .glo "_law_drawn", .glo "_law_is", .glo "_law_keeps", .glo "_law_with", .glo "_law_text", .glo "_law_bent", .glo "_law_called", .glo "_law_caught", .glo "_law_refused", .glo "_law_right", .glo "law"]
def tf : List He.Defn := [("is_text_of_signs", none), ("is_held", none), ("keeps_all", none), ("with_hold", none)]
def ini (x : Str) (i : Nat) : He.DefD := ⟨(x, some "__init__"), "__init__", x ++ ".__init__", defArgs (inClass (top i) 0), defBody (inClass (top i) 0), defScope (inClass (top i) 0), [.non], []⟩
def fc : List He.DefD := [ini "InvalidNumber" 2, ini "InvalidText" 3, ini "InvalidHeld" 4]
/-- a class of errors -/
def excB (K : PySem.W.Frag) (x : Str) : Bool :=
  Ink.oexB K (He.ga K x) && (decide (PySem.W.findIn K (.ref (He.ga K x)) "__setattr__" = some (some (.builtin "object.__setattr__"))) &&
  (decide (PySem.W.findIn K (.ref (He.ga K x)) "__getattribute__" = some (some (.builtin "BaseException.__getattribute__"))) &&
  (He.eqO (PySem.W.findIn K (.ref (He.ga K x)) "__getattr__") (some none) && (He.eqO (PySem.W.findIn K (.ref (He.ga K x)) "value") (some none) &&
  (He.eqO (PySem.W.findIn K (.ref (He.ga K x)) "__class__") (some (some (.builtin "object.__class__"))) &&
  (decide (PySem.W.subIn K (.ref (He.ga K x)) (.type "BaseException") = some true) && (decide (PySem.W.subIn K (.ref (He.ga K x)) (.type "ValueError") = some true) && (decide (PySem.W.typeIn K (.ref (He.ga K x)) = some (.type "type")) &&
  (PySem.W.keepIn K (.ref (He.ga K x)) && (PySem.W.hasDictIn K (He.ga K x) && (decide (PySem.W.mroIn K (He.ga K x) (.type "object") = some true) &&
  (decide (PySem.W.exmOne K (.ref (He.ga K x)) (.ref (He.ga K "InkError")) = some true) &&
  (He.eqO (PySem.W.findIn K (.ref (He.ga K x)) "__init__") (some (some (.ref (He.ma K (He.ga K x) "__init__")))) &&
  decide (PySem.W.typeIn K (.ref (He.ma K (He.ga K x) "__init__")) = some (.type "function")))))))))))))))
/-- isinstance of an error of x's by y -/
def kitB (K : PySem.W.Frag) (x y : Str) (b : Bool) : Bool := decide (PySem.W.kitOne K (.ref (He.ga K x)) (.ref (He.ga K y)) = some b)
def ex (K : PySem.W.Frag) : Bool := excB K "InvalidNumber" && (excB K "InvalidText" && (excB K "InvalidHeld" && (Ink.cloB K "InvalidNumber" "/claim/cut.py" (ini "InvalidNumber" 2) && (Ink.cloB K "InvalidText" "/claim/cut.py" (ini "InvalidText" 3) && (Ink.cloB K "InvalidHeld" "/claim/cut.py" (ini "InvalidHeld" 4) &&
  (He.eqO (PySem.W.nsIn K cStatics "thirdparty.any") (some none) && (He.eqO (PySem.W.specialIn K (.builtin "object.__class__") "__get__") (some (some (.builtin "getset_descriptor.__get__"))) && (decide (PySem.W.takesIn K (.builtin "object.__class__") = some true) &&
  ((["InvalidNumber", "InvalidText", "InvalidHeld"] : List Str).all fun x => (["InvalidNumber", "InvalidText", "InvalidHeld"] : List Str).all fun y => kitB K x y (decide (x = y)))))))))))
abbrev R : PySem.W.OpenRow := PySem.W.OpenLaw.row PySem.Challenge.rw_inksays_k84_whole_held_signs
abbrev hk : PySem.W.Hook := Ink.hookY 5 fa fn tf ex fc
def ob (s : PySem.W.SharedT) : Ink.AlY := Ink.obsY 5 fa fn tf ex fc (HandSHeadRun.getT s)
theorem ob_eq (s : PySem.W.SharedT) : ob s = hk.obs s.abs := Ink.obsY_eq (HandSHeadRun.getT_eq s)
def names : List Str := (["InkError", "InvalidNumber", "InvalidText", "InvalidHeld", "SIGNS", "MOST_NUMBER", "is_count", "is_text_of_signs", "is_hold", "is_held", "check_held", "check_number"] : List Str) ++ (["sign_of", "keeps_all", "keeps", "with_hold", "held_with", "held_without", "_law_hash", "_law_random", "_law_cell", "_law_generator", "_law_same", "_law_sign"] : List Str) ++ (["_law_drawn", "_law_is", "_law_keeps", "_law_with", "_law_text", "_law_bent", "_law_called", "_law_caught", "_law_refused", "_law_right"] : List Str)
end K84

set_option Elab.async false
set_option linter.all false
set_option maxRecDepth 100000
set_option maxHeartbeats 0
namespace K84
open PySem PySem.Spec PyProof.Rows L2
theorem run (w : World) : HandSHeadRun.RunEq R (PySem.W.view R.prog [37]) hk ob 2000 names w := by
  intro os
  kernel_rfl
end K84

set_option Elab.async false
set_option linter.all false
set_option maxRecDepth 100000
set_option maxHeartbeats 4000000
/-! all, any of a generator expression over anything that PI serves, whose element is any expression -/
namespace Ink
open PySem PySem.Spec PyProof.Rows L2 GxR GenW

/-- the context of a generator expression's frame -/
abbrev gblk (X : Cx) (s : Shared) (H : Hp) (cenv : Env) (fp : List Addr) (A' : Around) : Cx :=
  { X with s_0 := s, H_0 := H, env := cenv, A := A', outer := X.stack, stack := cenv :: X.stack, ex := fp, fn := fun _ => false, pn := [], xe := fun _ _ => False }
/-- only the generators, the draws and the tokens are others -/
structure Idle (s s' : Shared) : Prop where
  heap : s'.heap = s.heap
  os : s'.os = s.os
  bare : AllBare s'.gens
theorem inv_idle {X : Cx} {pins : List (Addr × Obj)} {σ : L2.St} {H : Hp} {s s' : Shared} (I : Inv X pins σ H s) (z : Idle s s') : Inv X pins σ H s' := by
  obtain ⟨h, g, d, t, o⟩ := s'
  obtain ⟨e1, e2, e3⟩ := z
  dsimp only at e1 e2 e3
  subst e1 e2
  exact ⟨I.ok, I.os, e3, I.base, I.loc, I.cell, I.free, I.freeC, I.pin, I.hok, I.len⟩
section
variable {X : Cx} {pins : List (Addr × Obj)} {σ : L2.St} {H : Hp} {s : Shared}
theorem gen_start {scope : Scope} {own : List (Str × Nat)} {fp : List Addr} {A' : Around} {code : Value} {bi : Addr} {h' : Heap} {itv : Value} {genO : Obj} {s' : Shared} (I : Inv X pins σ H s) (ok : BlkOk X.N X.env.scope scope own) (nocell : ∀ y ∈ scope.names, y.2 ≠ .cell) (hN : X.N.Nodup)
    (hfp : ∀ b ∈ fp, FpOk X pins H b ∧ b < s.heap.objs.size) (hbi : bi = builtinsNs) (hA : X.calm = true → A'.handled = none)
    (hfr : A'.frames = some (genEnv scope (cloFrom X.env.cells scope.names []) s.heap.objs.size code bi X.env :: X.stack))
    (hn : h'.Ns s.heap.objs.size (fun y => if y = ".0" then some itv else none)) (hs : Heap.SameBut s.heap.objs.size (s.heap.push { cls := .type "frame", data := .dict #[] }) h')
    (hg : ∀ v, genO.data ≠ .cell v) (hg2 : Heap.get? (h'.push genO) h'.objs.size = some genO) (e1 : s'.heap = h'.push genO) (e2 : s'.os = s.os) (e3 : AllBare s'.gens) :
    Inv (gblk X s H (genEnv scope (cloFrom X.env.cells scope.names []) s.heap.objs.size code bi X.env) fp A') [(h'.objs.size, genO)] (wipe σ (own.map (·.2))) H s' := by
  obtain ⟨hp, g, d, t, o⟩ := s'
  dsimp only at e1 e2 e3
  subst e1 e2 hbi
  have hfree : ∀ y ∈ scope.names, y.2 = .free → ∃ c, X.env.cells.lookup y.1 = some c := fun y hy e => (ok.free y hy e).elim (fun k => I.ok.has _ (.inl k)) fun k => I.ok.has _ (.inr k)
  have szh : h'.objs.size = s.heap.objs.size + 1 := by rw [hs.1, Heap.size_push]
  have kp1 : ∀ b o, s.heap.get? b = some o → h'.get? b = some o := fun b o e => (hs.2 b (Nat.ne_of_lt (Heap.lt_size e))).trans (Heap.get?_push_of_some _ e)
  have kp : ∀ b o, s.heap.get? b = some o → (h'.push genO).get? b = some o := fun b o e => Heap.get?_push_of_some _ (kp1 b o e)
  have cm : ∀ {y c}, (cloFrom X.env.cells scope.names []).lookup y = some c → X.env.cells.lookup y = some c ∧ c < s.heap.objs.size := fun {y c} e => by
    rcases cloFrom_mem (PySem.mem_of_lookup e) with hm | ⟨h1, rfl⟩
    · cases hm
    · obtain ⟨c, hc⟩ := hfree _ h1 rfl
      rw [hc]
      obtain ⟨w, z⟩ := I.cell _ _ hc
      exact ⟨rfl, z.lt⟩
  have look : ∀ {y}, scope.names.lookup y = some .free → ∃ c, (cloFrom X.env.cells scope.names []).lookup y = some c ∧ X.env.cells.lookup y = some c := fun {y} hl => by
    obtain ⟨c', e'⟩ := mem_lookup (cloFrom_has (cells := X.env.cells) (acc := []) (PySem.mem_of_lookup hl))
    exact ⟨c', e', (cm e').1⟩
  have nLoc : ∀ y k, scope.names.lookup y = some k → k ≠ .cell := fun y k e => nocell _ (PySem.mem_of_lookup e)
  have okB : (gblk X s H (genEnv scope (cloFrom X.env.cells scope.names []) s.heap.objs.size code builtinsNs X.env) fp A').Ok := by
    refine ⟨I.ok.mod, ok.kind, I.ok.glob, rfl, Nat.le_refl _, fun y z c a b => ?_, fun y hy => ?_, fun y c z _ => Bool.noConfusion (show false = true from z), hA, hfr, .inr ⟨rfl, rfl⟩, fun b hb => ⟨?_, fun y c e z => ?_⟩, I.bs, Nat.le_trans I.ok.bsz I.sz, fun b o e hb => ?_, fun b hb z => ?_, I.stack, I.stkFree⟩
    · exact I.ok.inj y z c (cm a).1 (cm b).1
    · rcases hy with hy | hy
      · exact absurd rfl (nLoc y .cell hy)
      · obtain ⟨c, h1, _⟩ := look hy
        exact ⟨c, h1⟩
    · exact Nat.ne_of_lt (hfp b hb).2
    · exact (hfp b hb).1.2.2.2.2.1 y c (cm e).1 z
    · rcases (hfp b hb).1.2.2.2.1 with z | z
      · exact I.ok.noex b o e z
      · exact absurd (Nat.lt_of_lt_of_le (Heap.lt_size e) (Nat.le_trans I.ok.bsz z)) (Nat.lt_irrefl _)
    · rcases List.mem_cons.mp (I.stkSub b z) with z | z
      · exact (hfp b hb).1.2.1 z
      · exact (hfp b hb).1.2.2.1 z
  have hnew : H h'.objs.size = none := I.hok.fresh (by rw [szh]; exact Nat.le_succ _)
  refine ⟨okB, rfl, e3, Un.kept kp, ⟨_, Heap.Ns.push hn genO, fun i y av e1 e2 e3 => ?_⟩, fun y c e => ?_, I.hok.fresh (Nat.le_refl _), fun y c e => I.freeC y c (cm e).1, fun p hp => ?_, I.hok.kept kp, by rw [wipe_length]; exact I.len⟩
  · obtain ⟨e2, hne⟩ := wipe_some e2
    have hfr : scope.names.lookup y = some .free := by
      have no : ∀ k, scope.names.lookup y = some k → (k = .local ∨ k = .cell) → False := fun k e hh => by
        rcases ok.own _ (PySem.mem_of_lookup e) hh with e' | e'
        · obtain ⟨p, hp, hpy⟩ := List.mem_map.mp e'
          have e4 := ok.ix p hp
          rw [show p.1 = y from hpy] at e4
          exact hne (List.mem_map.mpr ⟨p, hp, nodup_ix hN e4 e1⟩)
        · exact e' (List.mem_of_getElem? e1)
      rcases e3 with e3 | e3 | e3
      · exact (no _ e3 (.inl rfl)).elim
      · exact (no _ e3 (.inr rfl)).elim
      · exact e3
    obtain ⟨m, hn, hl⟩ := I.loc
    have hvis : Vis X.env.scope y := (ok.free _ (PySem.mem_of_lookup hfr) rfl).elim (fun k => .inr (.inl k)) (fun k => .inr (.inr k))
    obtain ⟨w, r, q⟩ := hl i y av e1 e2 hvis
    refine ⟨w, r, .inr ⟨.inr hfr, ?_⟩⟩
    obtain ⟨c, h1, h2⟩ := look hfr
    rcases q with ⟨k, _⟩ | ⟨_, c', e', z⟩
    · have k : X.env.scope.names.lookup y = some .local := k
      rcases ok.free _ (PySem.mem_of_lookup hfr) rfl with k' | k' <;> rw [show X.env.scope.names.lookup y = _ from k'] at k <;> cases k
    · rw [h2] at e'; cases e'
      exact ⟨c, h1, z.keeps kp⟩
  · obtain ⟨w, z⟩ := I.cell y c (cm e).1
    exact ⟨w, z.keeps kp⟩
  · have ep : p = (h'.objs.size, genO) := by simpa using hp
    subst ep
    refine ⟨hg2, hnew, ?_, fun z => ?_, hg⟩
    · show h'.objs.size ≠ s.heap.objs.size
      rw [szh]
      exact Nat.succ_ne_self _
    · obtain ⟨_, o, ho, _⟩ := I.stack.mem z
      have := Heap.lt_size ho
      rw [szh] at this
      exact absurd (Nat.lt_of_succ_lt this) (Nat.lt_irrefl _)
end
/-! ### the protocol: an item is a truth value; z lets the consumer go on -/
/-- the consumer's end: the answer b, whatever the generators are by then -/
def FinB (X : Cx) (pins : List (Addr × Obj)) (σ : L2.St) (Q : VK) (b : Bool) (s : Shared) : Prop :=
  ∀ s', (∀ a o, s.heap.get? a = some o → s'.heap.get? a = some o) → s'.os = s.os → AllBare s'.gens → EP X pins σ Q (.bool b) s'
def YB (X : Cx) (pins : List (Addr × Obj)) (σ : L2.St) (Q : VK) (z : Bool) (a : Addr) (g : Nat) : Protocol := fun _ _ v s kap =>
  AllBare s.gens ∧ s.heap.IsGen a g ∧ s.heap.NoLimit ∧ ∃ c, v = .bool c ∧ if c = z then ∀ s', Idle s s' → kap (.send .none) s' else FinB X pins σ Q (!z) s
def RB (X : Cx) (pins : List (Addr × Obj)) (σ : L2.St) (Q : VK) (z : Bool) : GenEnd := fun _ _ r s => r = .ok .next ∧ AllBare s.gens ∧ FinB X pins σ Q z s
/-- what is asked of the element's value -/
def tGW (J : It) (g : TG) (tt : TT) (te : TE) (vs : List Nat) (z : Bool) (σ : L2.St) (Q : VK) (W : Nat → Nat → Hp → Prop) : Prop := ∀ i m H, W i m H →
  (J.stop i H ∧ Q (.bl z) H) ∨ (J.go i H ∧ ∃ Nx : Hp → Prop, (∀ H', Nx H' → ∃ m', m' < m ∧ W (i + 1) m' H') ∧ ∀ x H', J.yld i H x H' → g x (wipe σ vs) H' fun σ2 H2 => wipe σ2 vs = wipe σ vs ∧ tt σ2 H2 fun b H3 =>
    if b = true then te σ2 H3 fun y H4 => ∃ c, y = .bl c ∧ if c = z then Nx H4 else Q (.bl (!z)) H4 else Nx H3)
section
variable {X : Cx} {pins : List (Addr × Obj)} {σ : L2.St} {H : Hp} {s : Shared}
theorem finB_of {fp : List Addr} {Q : VK} {b : Bool} {H' : Hp} {s2 : Shared} (I : Inv X pins σ H s) (hfp : ∀ b ∈ fp, FpOk X pins H b) (os : s2.os = s.os) (un : Un (frs X.stack) fp H H' s.heap s2.heap) (hok : HOk X.prog X.w H' s2.heap) (q : Q (.bl b) H') : FinB X pins σ Q b s2 := by
  intro s3 k os3 hb
  have un3 : Un (frs X.stack) fp H H' s.heap s3.heap := un.trans (Un.kept k)
  exact ⟨.bl b, H', I.call' (ch := fp) (os3.trans os) un3 (hok.kept k) hb fun c hc => ⟨(hfp c hc).2.2.2.1, (hfp c hc).2.1, (hfp c hc).2.2.2.2.1, (hfp c hc).2.2.2.2.2⟩, rfl, q⟩
theorem over_comp {A : Around} {elt tg iter : Expr} {ifs : List Expr} {scope : Scope} {pos : Pos} {it acc : Value} {cenv : Env} :
    A.over (.compStart (.GeneratorExp elt [⟨tg, iter, ifs, 0⟩] scope pos) 0 it acc cenv) [] = A.over (.compLoop (.GeneratorExp elt [⟨tg, iter, ifs, 0⟩] scope pos) 0 it acc cenv) [] := rfl
theorem over_deeper {A : Around} {elt tg iter : Expr} {ifs : List Expr} {scope : Scope} {pos : Pos} {it acc : Value} {cenv : Env} :
    A.over (.compLoop (.GeneratorExp elt [⟨tg, iter, ifs, 0⟩] scope pos) 0 it acc cenv) [] = A.deeper cenv := by
  first
    | rfl
    | (obtain ⟨hd, d, fr, gs, u⟩ := A; simp [Around.over, Around.deeper, marksOver, frameCount, unitsOf, envsOf, guardsOf, pushEnvs, pushGuards, Code.envs, Code.env?, Code.isFrame, Code.guards, Code.isGuard, Code.weight, Code.frames, Code.isCreation, Code.isCaller, Code.cUnits])
end
end Ink

set_option Elab.async false
set_option linter.all false
set_option maxRecDepth 100000
set_option maxHeartbeats 4000000
namespace Ink
open PySem PySem.Spec PyProof.Rows L2 GxR GenW
section
variable {X : Cx} {pins : List (Addr × Obj)} {σ : L2.St} {H0 : Hp} {s0 : Shared}
theorem seg_loop {A : Around} {elt tg iter : Expr} {ifs : List Expr} {scope : Scope} {pos : Pos} {it a : Addr} {g : Nat} {genO : Obj} {cenv : Env} {fp : List Addr} {tn : Nat → Heap → Prop} {J : It} {gt : TG} {tt : TT} {te : TE} {vs : List Nat} {z : Bool} {Q : VK} {W : Nat → Nat → Hp → Prop}
    (hc : X.calm = true) (hco : cenv.scope.isCoroutine = false) (I0 : Inv X pins σ H0 s0) (f0 : ∀ b ∈ fp, FpOk X pins H0 b) (hafp : a ∉ fp) (hgen : ∀ h : Heap, h.get? a = some genO → h.IsGen a g) (T : Turn X.prog X.w X.K tg J fp it tn)
    (pg : PG (gblk X s0 H0 cenv fp (A.deeper cenv)) tg gt) (pt : PTs (gblk X s0 H0 cenv fp (A.deeper cenv)) ifs tt) (pe : PE (gblk X s0 H0 cenv fp (A.deeper cenv)) elt te)
    (turn : tGW J gt tt te vs z σ Q W) : ∀ (m n i : Nat) (H' : Hp) (s₀ s' : Shared), m < n → W i m H' → Inv (gblk X s0 H0 cenv fp (A.deeper cenv)) [(a, genO)] (wipe σ vs) H' s' → tn i s'.heap → (∀ b ∈ fp, H' b = none) →
      Seg (model X.prog X.w) A (RB X pins σ Q z) (YB X pins σ Q z a g) n s₀ (.compLoop (.GeneratorExp elt [⟨tg, iter, ifs, 0⟩] scope pos) 0 (.ref it) .none cenv)
        ((model X.prog X.w).den (.compLoop (.GeneratorExp elt [⟨tg, iter, ifs, 0⟩] scope pos) 0 (.ref it) .none cenv)) [] s' := by
  intro m
  induction m using Nat.strongRecOn with
  | ind m ih =>
    intro n i H' s₀ s' hmn hw I' st nf
    have stat : ∀ {σ' : L2.St} {H' : Hp} {s' : Shared}, Inv (gblk X s0 H0 cenv fp (A.deeper cenv)) [(a, genO)] σ' H' s' → (∀ b ∈ fp, H' b = none) → ∀ b ∈ fp, FpOk (gblk X s0 H0 cenv fp (A.deeper cenv)) [(a, genO)] H' b := fun {σ' H' s'} I' hn b hb =>
      ⟨hn b hb, (I'.ok.exf b hb).1, I'.ok.exfs b hb, .inl hb, fun x c e => (I'.ok.exf b hb).2 x c e, fun p hp e => by
        have ep : p = (a, genO) := by simpa using hp
        rw [ep] at e
        exact hafp (by rw [show a = b from e]; exact hb)⟩
    show Seg _ A _ _ n s₀ _ ((compTurn (.GeneratorExp elt [⟨tg, iter, ifs, 0⟩] scope pos) 0 (.ref it) .none cenv).onRaise (leaving cenv)) [] s'
    rw [compTurn_gen, Sem.onRaise_eq_wrap]
    refine seg_bind_wrap (wpAny_standAt ?_)
    rcases turn i m H' hw with ⟨stop, qq⟩ | ⟨go, Nx, hNx, step⟩
    · refine seg_bind_wrap ?_
      rw [over_deeper]
      refine thnF (T.done (gblk X s0 H0 cenv fp (A.deeper cenv)) rfl rfl rfl hc i _ s' _ H' (fun _ _ => False) I' (stat I' nf) st stop) fun r s1 hr1 => ?_
      obtain ⟨hr, I1⟩ := hr1
      subst hr
      exact seg_end (.ok .next) ⟨rfl, I1.bare, finB_of I0 f0 I1.os I1.base I1.hok qq⟩
    · refine seg_bind_wrap ?_
      rw [over_deeper]
      refine thnF (T.item (gblk X s0 H0 cenv fp (A.deeper cenv)) rfl rfl rfl hc i _ s' _ H' (fun _ _ => False) I' (stat I' nf) st go) fun r s1 hr1 => ?_
      obtain ⟨u, hr, h1⟩ := hr1
      subst hr
      refine seg_bind_wrap ?_
      rw [over_deeper]
      refine thnF h1 fun _ s2 h2 => ?_
      obtain ⟨x, H2, I2, rx, y2, st2, n2⟩ := h2
      have I2' := I2.pinned (stat I2 n2) (T.obj _ _ st2)
      refine seg_bind_wrap ?_
      rw [over_deeper]
      refine thnF (pg.run _ s2 _ H2 x u _ I2' rx (step x H2 y2)) fun _ s3 h3 => ?_
      obtain ⟨σ3, H3, I3, hw3, q3⟩ := h3
      refine seg_bind_wrap ?_
      rw [over_deeper]
      refine thnF (pt.run _ s3 σ3 H3 _ I3 q3) fun b s4 h4 => ?_
      obtain ⟨H4, I4, q4⟩ := h4
      -- the turn's end
      have fin : ∀ {s' : Shared} {H' : Hp}, Inv (gblk X s0 H0 cenv fp (A.deeper cenv)) ([(a, genO)] ++ pinsAt fp s2.heap) σ3 H' s' → Nx H' → ∃ m', m' < m ∧ W (i + 1) m' H' ∧ Inv (gblk X s0 H0 cenv fp (A.deeper cenv)) [(a, genO)] (wipe σ vs) H' s' ∧ tn (i + 1) s'.heap ∧ (∀ b ∈ fp, H' b = none) := fun {s' H'} I' nx => by
        obtain ⟨m', hm, w'⟩ := hNx H' nx
        have pin' : ∀ b ∈ fp, ∀ o, s2.heap.get? b = some o → s'.heap.get? b = some o ∧ H' b = none := fun b hb o e =>
          let z := I'.pin (b, o) (List.mem_append_right _ (List.mem_append_right _ (mem_pinsAt hb e)))
          ⟨z.1, z.2.1⟩
        have hl : (wipe σ vs).length = σ3.length := by rw [← hw3, wipe_length]
        refine ⟨m', hm, w', (I'.unpinned).weak hl (fun j v e => ?_), T.keep _ _ _ st2 fun b hb o e => (pin' b hb o e).1, fun b hb => ?_⟩
        · rw [← hw3] at e
          exact (wipe_some e).1
        · obtain ⟨o, e, _⟩ := T.obj _ _ st2 b hb
          exact (pin' b hb o e).2
      cases b with
      | false =>
        simp only [Bool.false_eq_true, if_false] at q4 ⊢
        obtain ⟨m', hm, w', I5, st5, n5⟩ := fin I4 q4
        exact seg_again rfl (ih m' hm n (i + 1) H4 s₀ s4 (by omega) w' I5 st5 n5)
      | true =>
        simp only [if_true] at q4 ⊢
        obtain ⟨n', rfl⟩ : ∃ n', n = n' + 1 := ⟨n - 1, by omega⟩
        have hy : ∀ v, yieldOut cenv v = yieldValue v := fun v => by simp only [yieldOut, hco, Bool.false_eq_true, if_false]
        simp only [hy]
        rw [Sem.bind_eq_wrap', Sem.bind_eq_wrap', Sem.wrap_wrap, Sem.wrap_wrap]
        refine seg_wrap ?_
        rw [over_deeper]
        refine thnF (pe.run _ s4 σ3 H4 _ I4 q4) fun v s5 h5 => ?_
        obtain ⟨yv, H5, I5, r5, c, hy5, q5⟩ := h5
        subst hy5
        obtain rfl : v = .bool c := r5
        have gp := I5.pin (a, genO) (List.mem_append_right _ (List.mem_append_left _ List.mem_cons_self))
        refine seg_at (seg_yield rfl rfl rfl ⟨I5.bare, hgen _ gp.1, I5.nolimit, c, rfl, ?_⟩)
        by_cases hcz : c = z
        · rw [if_pos hcz] at q5
          rw [if_pos hcz]
          intro s6 idle
          obtain ⟨m', hm, w', I6, st6, n6⟩ := fin I5 q5
          exact seg_again rfl (ih m' hm n' (i + 1) H5 s6 s6 (by omega) w' (inv_idle I6 idle) (by rw [idle.heap]; exact st6) n6)
        · rw [if_neg hcz] at q5
          rw [if_neg hcz]
          exact finB_of I0 f0 I5.os I5.base I5.hok q5
end
end Ink

set_option Elab.async false
set_option linter.all false
set_option maxRecDepth 100000
set_option maxHeartbeats 4000000
namespace Ink
open PySem PySem.Spec PyProof.Rows L2 GxR GenW
section
variable {X : Cx} {pins : List (Addr × Obj)} {σ : L2.St} {Q : VK}
theorem all_loop {A : Around} {R : Result → Shared → Prop} {a : Addr} {g : Nat} (hh : A.handled = none) (hd : A.depth < recursionLimit)
    (hR : ∀ b s', EP X pins σ Q (.bool b) s' → R (.ok (.ret (.bool b))) s') : ∀ (n : Nat) (s : Shared), s.heap.IsGen a g → s.heap.NoLimit →
      (∃ gs, s.gens[g]? = some gs ∧ gs.Goes (model X.prog X.w) A.in1.in1 (RB X pins σ Q true) (YB X pins σ Q true a g) n (.send .none) (s.setGen g .running)) →
      codeAny (model X.prog X.w) A (.builtin "all.loop" ⟨[.ref a], []⟩) R s := by
  intro n
  induction n with
  | zero =>
    intro s hg hl ⟨gs, hgs, hgo⟩
    refine codeAny_builtin F.entry_all_loop ?_
    rw [Around.under_plainId F.plain_all_loop _]
    show wpAny _ A.in1 (pyNext (.ref a) >>= _) _ _ s
    refine wpAny_bind (wpAny_pyNext_genexpQ (A := A.in1) (P := fun _ _ s => AllBare s.gens ∧ FinB X pins σ Q true s) hh hl hd hg hgs hgo (fun v s₁ gs' hbare hv => ?_) (fun s₁ hp h' hk => ?_))
    · obtain ⟨hb1, hg1, hl1, c, rfl, hv⟩ := hv
      refine wpAny_bind (wpAny_holding (wpAny_truthy_bool ?_))
      refine wpAny_bind (wpAny_letGo ?_)
      cases c with
      | true =>
        rw [if_pos rfl] at hv
        exact (hv s₁ ⟨rfl, rfl, hb1⟩).elim
      | false =>
        rw [if_neg Bool.false_ne_true] at hv ⊢
        exact wpAny_bind (wpAny_rule (wpAny_pure (hR _ _ (hv _ (fun _ _ e => e) rfl (allBare_setGen hb1 hbare)))))
    · exact wpAny_bind (wpAny_rule (wpAny_pure (hR _ _ (hp.2 _ hk rfl (allBare_setGen hp.1 rfl)))))
  | succ n ih =>
    intro s hg hl ⟨gs, hgs, hgo⟩
    have hgl : g < s.gens.size := (Array.getElem?_eq_some_iff.mp hgs).1
    refine codeAny_builtin F.entry_all_loop ?_
    rw [Around.under_plainId F.plain_all_loop _]
    show wpAny _ A.in1 (pyNext (.ref a) >>= _) _ _ s
    refine wpAny_bind (wpAny_gsz (n := g + 1) hgl (wpAny_pyNext_genexpQ (A := A.in1) (P := fun _ _ s => AllBare s.gens ∧ FinB X pins σ Q true s) hh hl hd hg hgs hgo (fun v s₁ gs' hbare hv => ?_) (fun s₁ hp h' hk => ?_)))
    · intro hsz
      obtain ⟨hb1, hg1, hl1, c, rfl, hv⟩ := hv
      refine wpAny_bind (wpAny_holding (wpAny_truthy_bool ?_))
      refine wpAny_bind (wpAny_letGo ?_)
      have hsz1 : g < s₁.gens.size := by
        have q : (s₁.setGen g gs').gens.size = s₁.gens.size := setGen_size _ _ _
        have hsz' : g + 1 ≤ (s₁.setGen g gs').gens.size := hsz
        omega
      cases c with
      | true =>
        rw [if_pos rfl] at hv ⊢
        refine wpAny_pure ⟨plainId_quiet F.plain_all_loop _, ih (s₁.setGen g gs') hg1 hl1 ⟨gs', setGen_at hsz1, ?_⟩⟩
        exact hv _ ⟨rfl, rfl, allBare_setGen (s := s₁.setGen g gs') (allBare_setGen hb1 hbare) rfl⟩
      | false =>
        rw [if_neg Bool.false_ne_true] at hv ⊢
        exact wpAny_bind (wpAny_rule (wpAny_pure (hR _ _ (hv _ (fun _ _ e => e) rfl (allBare_setGen hb1 hbare)))))
    · intro _
      exact wpAny_bind (wpAny_rule (wpAny_pure (hR _ _ (hp.2 _ hk rfl (allBare_setGen hp.1 rfl)))))
theorem any_loop {A : Around} {R : Result → Shared → Prop} {a : Addr} {g : Nat} (hh : A.handled = none) (hd : A.depth < recursionLimit)
    (hR : ∀ b s', EP X pins σ Q (.bool b) s' → R (.ok (.ret (.bool b))) s') : ∀ (n : Nat) (s : Shared), s.heap.IsGen a g → s.heap.NoLimit →
      (∃ gs, s.gens[g]? = some gs ∧ gs.Goes (model X.prog X.w) A.in1.in1 (RB X pins σ Q false) (YB X pins σ Q false a g) n (.send .none) (s.setGen g .running)) →
      codeAny (model X.prog X.w) A (.builtin "any.loop" ⟨[.ref a], []⟩) R s := by
  intro n
  induction n with
  | zero =>
    intro s hg hl ⟨gs, hgs, hgo⟩
    refine codeAny_builtin F.entry_any_loop ?_
    rw [Around.under_plainId F.plain_any_loop _]
    show wpAny _ A.in1 (pyNext (.ref a) >>= _) _ _ s
    refine wpAny_bind (wpAny_pyNext_genexpQ (A := A.in1) (P := fun _ _ s => AllBare s.gens ∧ FinB X pins σ Q false s) hh hl hd hg hgs hgo (fun v s₁ gs' hbare hv => ?_) (fun s₁ hp h' hk => ?_))
    · obtain ⟨hb1, hg1, hl1, c, rfl, hv⟩ := hv
      refine wpAny_bind (wpAny_holding (wpAny_truthy_bool ?_))
      refine wpAny_bind (wpAny_letGo ?_)
      cases c with
      | false =>
        rw [if_pos rfl] at hv
        exact (hv s₁ ⟨rfl, rfl, hb1⟩).elim
      | true =>
        rw [if_neg Bool.noConfusion] at hv
        rw [if_pos rfl]
        exact wpAny_bind (wpAny_rule (wpAny_pure (hR _ _ (hv _ (fun _ _ e => e) rfl (allBare_setGen hb1 hbare)))))
    · exact wpAny_bind (wpAny_rule (wpAny_pure (hR _ _ (hp.2 _ hk rfl (allBare_setGen hp.1 rfl)))))
  | succ n ih =>
    intro s hg hl ⟨gs, hgs, hgo⟩
    have hgl : g < s.gens.size := (Array.getElem?_eq_some_iff.mp hgs).1
    refine codeAny_builtin F.entry_any_loop ?_
    rw [Around.under_plainId F.plain_any_loop _]
    show wpAny _ A.in1 (pyNext (.ref a) >>= _) _ _ s
    refine wpAny_bind (wpAny_gsz (n := g + 1) hgl (wpAny_pyNext_genexpQ (A := A.in1) (P := fun _ _ s => AllBare s.gens ∧ FinB X pins σ Q false s) hh hl hd hg hgs hgo (fun v s₁ gs' hbare hv => ?_) (fun s₁ hp h' hk => ?_)))
    · intro hsz
      obtain ⟨hb1, hg1, hl1, c, rfl, hv⟩ := hv
      refine wpAny_bind (wpAny_holding (wpAny_truthy_bool ?_))
      refine wpAny_bind (wpAny_letGo ?_)
      have hsz1 : g < s₁.gens.size := by
        have q : (s₁.setGen g gs').gens.size = s₁.gens.size := setGen_size _ _ _
        have hsz' : g + 1 ≤ (s₁.setGen g gs').gens.size := hsz
        omega
      cases c with
      | false =>
        rw [if_pos rfl] at hv
        rw [if_neg Bool.false_ne_true]
        refine wpAny_pure ⟨plainId_quiet F.plain_any_loop _, ih (s₁.setGen g gs') hg1 hl1 ⟨gs', setGen_at hsz1, ?_⟩⟩
        exact hv _ ⟨rfl, rfl, allBare_setGen (s := s₁.setGen g gs') (allBare_setGen hb1 hbare) rfl⟩
      | true =>
        rw [if_neg Bool.noConfusion] at hv
        rw [if_pos rfl]
        exact wpAny_bind (wpAny_rule (wpAny_pure (hR _ _ (hv _ (fun _ _ e => e) rfl (allBare_setGen hb1 hbare)))))
    · intro _
      exact wpAny_bind (wpAny_rule (wpAny_pure (hR _ _ (hp.2 _ hk rfl (allBare_setGen hp.1 rfl)))))
end
end Ink

set_option Elab.async false
set_option linter.all false
set_option maxRecDepth 100000
set_option maxHeartbeats 4000000
namespace Ink
open PySem PySem.Spec PyProof.Rows L2 GxR GenW
/-- all (z true), any (z false) of a generator expression; P: the def's table of code objects, which may grow -/
def tGX (P : Addr) (wi : TI) (g : TG) (tt : TT) (te : TE) (vs : List Nat) (z : Bool) : TE := fun σ H Q => wi σ H fun J H1 => TabG H1 P ∧ ∀ H2, Tabbed P H1 H2 → ∃ W : Nat → Nat → Hp → Prop, (∃ m, W 0 m H2) ∧ tGW J g tt te vs z σ Q W
/-- the names of a generator expression's scope -/
structure GnOk (N : List Str) (sc scope : Scope) (own : List (Str × Nat)) : Prop where
  blk : BlkOk N sc scope own
  nocell : ∀ y ∈ scope.names, y.2 ≠ .cell
  co : scope.isCoroutine = false
  dot : scope.names.lookup (".0" : Str) = some NameKind.local
def gnB (N : List Str) (sc scope : Scope) (own : List (Str × Nat)) : Bool :=
  blkC N sc scope own && (scope.names.all (fun y => !decide (y.2 = .cell)) && (!scope.isCoroutine && decide (scope.names.lookup (".0" : Str) = some NameKind.local)))
theorem gnOk_by {N : List Str} {sc scope : Scope} {own : List (Str × Nat)} (h : gnB N sc scope own = true) : GnOk N sc scope own := by
  obtain ⟨h1, h2⟩ := He.ba h
  obtain ⟨h3, h4⟩ := He.ba h2
  obtain ⟨h5, h6⟩ := He.ba h4
  refine ⟨blkOk_by h1, fun y hy e => ?_, by simpa using h5, of_decide_eq_true h6⟩
  have := List.all_eq_true.mp h3 y hy
  rw [e] at this
  cases this
section
variable {X : Cx} {elt tg iter : Expr} {ifs : List Expr} {scope : Scope} {own : List (Str × Nat)} {p pos gpos : Pos} {wi : TI} {g : TG} {tt : TT} {te : TE} {c P : Addr} {k : Nat}
theorem genx_make {z : Bool} {Q' : Value → Shared → Prop} {pins : List (Addr × Obj)} {s : Shared} {σ : L2.St} {H : Hp} {Q : VK} (hr : Room (k + 3) X.A) (hcm : X.calm = true) (hN : X.N.Nodup) (TB : TabB X.base X.mg c P) (hcode : X.env.code = .ref c) (ok : GnOk X.N X.env.scope scope own) (hi : PI X tg iter wi)
    (hg : ∀ (s : Shared) (H : Hp) (C : Addr) (cl : List (Str × Addr)) (code : Value) (fp : List Addr) (A' : Around), Room k A' → PG (gblk X s H (genEnv scope cl C code builtinsNs X.env) fp A') tg g)
    (ht : ∀ (s : Shared) (H : Hp) (C : Addr) (cl : List (Str × Addr)) (code : Value) (fp : List Addr) (A' : Around), Room k A' → PTs (gblk X s H (genEnv scope cl C code builtinsNs X.env) fp A') ifs tt)
    (he : ∀ (s : Shared) (H : Hp) (C : Addr) (cl : List (Str × Addr)) (code : Value) (fp : List Addr) (A' : Around), Room k A' → PE (gblk X s H (genEnv scope cl C code builtinsNs X.env) fp A') elt te)
    (hs : ∀ v, genFold iter X.env v = pure v) (I : Inv X pins σ H s) (h : tGX P wi g tt te (own.map (·.2)) z σ H Q)
    (hQ : ∀ a g n gs s', s'.heap.IsGen a g → s'.heap.NoLimit → s'.gens[g]? = some gs → gs.Goes (model X.prog X.w) X.A.in1.in1 (RB X pins σ Q z) (YB X pins σ Q z a g) n (.send .none) (s'.setGen g .running) → Q' (.ref a) s') :
    wpAny (model X.prog X.w) X.A (eval (.GeneratorExp elt [⟨tg, iter, ifs, 0⟩] scope gpos) X.env) Q' X.xe s := by
  have hfree : ∀ y ∈ scope.names, y.2 = .free → ∃ c, X.env.cells.lookup y.1 = some c := fun y hy e => by
    rcases ok.blk.free y hy e with k | k
    · exact I.ok.has _ (.inl k)
    · exact I.ok.has _ (.inr k)
  refine wpAny_GeneratorExp_make ok.co (closure_ok hfree) ok.nocell ok.dot ok.blk.kind hr.depth (thn (hi.run pins s σ H _ I h) fun xv s1 hx => thn hx fun itv s2 h2 => ?_) hs
  obtain ⟨it, fp, tn, J, H2, e, I2, T, st2, f2, hT, hW⟩ := h2
  subst e
  obtain ⟨ps, hP, htr⟩ := hT
  refine ⟨I2.nolimit, ?_⟩
  have hPs : s2.heap.get? P = some { cls := .none, data := .fields ps } := I2.hok P _ hP
  have cd : PySem.W.CodeHd s2.heap c P := TB.code.keeps I2.bk
  have nP : ∀ b ∈ fp, b ≠ P := fun b hb q => by
    have := (f2 b hb).1
    rw [q, hP] at this
    cases this
  -- behind the code object
  have cont : ∀ (code : Value) (h3 : Heap) (tk : Nat) (ps' : Array Value), Heap.ExtBut P s2.heap h3 → h3.get? P = some { cls := .none, data := .fields ps' } → (∃ more, ps' = ps ++ more) → TriplesOk ps'.toList →
      wpAny (model X.prog X.w) X.A (builtinsFor X.env.globals X.env.builtins) (fun bi s₄ => ∀ h', h'.Ns s₄.heap.objs.size (fun y => if y = ".0" then some (.ref it) else none) → Heap.SameBut s₄.heap.objs.size (s₄.heap.push { cls := .type "frame", data := .dict #[] }) h' →
          Q' (.ref h'.objs.size) { s₄ with
            gens := s₄.gens.push (.fresh (.compStart (.GeneratorExp elt [⟨tg, iter, ifs, 0⟩] scope gpos) 0 (.ref it) .none (genEnv scope (cloFrom X.env.cells scope.names []) s₄.heap.objs.size code bi X.env))),
            toks := s₄.toks + 1 + 1 + 1,
            heap := h'.push { cls := .type "generator", data := .fields #[.int s₄.gens.size 0, .str "<genexpr>" (s₄.toks + 1), .str (X.env.qual ++ "<genexpr>") (s₄.toks + 1 + 1)] } }) X.xe { s2 with heap := h3, toks := tk } := by
    intro code h3 tk ps' hx hP3 hmore ht3
    obtain ⟨more, em⟩ := hmore
    have I3 := inv_tab (more := more) (h' := h3) (g' := s2.gens) (d' := s2.drawn) (t' := tk) I2 hP (fun b u hb e => hx b u hb e) (by rw [← em]; exact hP3) I2.bare
    have hT3 : Tabbed P H2 (upd H2 P (.tbl (ps ++ more))) := ⟨⟨ps ++ more, upd_same, by rw [← em]; exact ht3⟩, fun b hb => upd_ne hb⟩
    obtain ⟨W, ⟨m0, w0⟩, turn⟩ := hW _ hT3
    generalize hH3 : upd H2 P (.tbl (ps ++ more)) = H3 at I3 hT3 w0
    have f3 : ∀ b ∈ fp, FpOk X pins H3 b := fun b hb => ⟨(hT3.2 b (nP b hb)).trans (f2 b hb).1, (f2 b hb).2⟩
    have st3 : tn 0 h3 := T.keep _ _ _ st2 fun b hb o e => hx b o (nP b hb) e
    have sz3 : ∀ b ∈ fp, b < h3.objs.size := fun b hb => by
      obtain ⟨o, e, _⟩ := T.obj _ _ st3 b hb
      exact Heap.lt_size e
    obtain ⟨bm, ob, e1, e2, e3, e4, e5, e6, e7, e8⟩ := TB.bm
    refine wpAny_builtinsFor (m := X.mg) (by rw [I3.ok.glob]; exact I3.mod.glob.keeps I3.bk) e1 e2 (I3.bk _ _ e5) e6 e7 e8 ?_
    intro h' hn' hs'
    have szh : h'.objs.size = h3.objs.size + 1 := by rw [hs'.1, Heap.size_push]
    generalize hgo : ({ cls := .type "generator", data := .fields #[.int s2.gens.size 0, .str "<genexpr>" (tk + 1), .str (X.env.qual ++ "<genexpr>") (tk + 1 + 1)] } : Obj) = genO
    have gget : Heap.get? (h'.push genO) h'.objs.size = some genO := by
      rw [← hgo]
      exact Heap.get?_push_size _ rfl
    have isg : ∀ h : Heap, h.get? h'.objs.size = some genO → h.IsGen h'.objs.size s2.gens.size := fun h e => by
      rw [← hgo] at e
      exact ⟨_, _, _, e, rfl, rfl, rfl⟩
    generalize hce : genEnv scope (cloFrom X.env.cells scope.names []) h3.objs.size code builtinsNs X.env = cenv
    have rk : Room k (X.A.in1.in1.deeper cenv) := ((hr.in1).in1).deeper cenv
    have start : ∀ s', s'.heap = h'.push genO → s'.os = s2.os → AllBare s'.gens → Inv (gblk X { s2 with heap := h3, gens := s2.gens, drawn := s2.drawn, toks := tk } H3 cenv fp (X.A.in1.in1.deeper cenv)) [(h'.objs.size, genO)] (wipe σ (own.map (·.2))) H3 s' := fun s' a1 a2 a3 => by
      subst hce
      exact gen_start (s := { s2 with heap := h3, gens := s2.gens, drawn := s2.drawn, toks := tk }) (s' := s') (bi := builtinsNs) (genO := genO) I3 ok.blk ok.nocell hN (fun b hb => ⟨f3 b hb, sz3 b hb⟩) rfl (fun _ => rk.hd) (Around.frames_deeper I3.ok.frames) hn' hs' (by intro v; rw [← hgo]; exact fun q => by cases q) gget a1 a2 a3
    have st5 : tn 0 (h'.push genO) := T.keep _ _ _ st3 fun b hb o e => Heap.get?_push_of_some _ ((hs'.2 b (Nat.ne_of_lt (sz3 b hb))).trans (Heap.get?_push_of_some _ e))
    have pgE := hg { s2 with heap := h3, gens := s2.gens, drawn := s2.drawn, toks := tk } H3 h3.objs.size (cloFrom X.env.cells scope.names []) code fp (X.A.in1.in1.deeper cenv) rk
    have ptE := ht { s2 with heap := h3, gens := s2.gens, drawn := s2.drawn, toks := tk } H3 h3.objs.size (cloFrom X.env.cells scope.names []) code fp (X.A.in1.in1.deeper cenv) rk
    have peE := he { s2 with heap := h3, gens := s2.gens, drawn := s2.drawn, toks := tk } H3 h3.objs.size (cloFrom X.env.cells scope.names []) code fp (X.A.in1.in1.deeper cenv) rk
    rw [hce] at pgE ptE peE
    have cco : cenv.scope.isCoroutine = false := by rw [← hce]; exact ok.co
    have nlim : (h'.push genO).NoLimit := (start { s2 with heap := h'.push genO } rfl rfl I2.bare).nolimit
    have gsz : ∀ x, ((s2.gens.push x)[s2.gens.size]? : Option GenState) = some x := fun x => by simp
    have fin : ∀ (s' : Shared), s'.heap = h'.push genO → s'.os = s2.os → AllBare s'.gens →
        GenState.Goes (model X.prog X.w) X.A.in1.in1 (RB X pins σ Q z) (YB X pins σ Q z h'.objs.size s2.gens.size) (m0 + 1) (.fresh (.compStart (.GeneratorExp elt [⟨tg, iter, ifs, 0⟩] scope gpos) 0 (.ref it) .none cenv)) (.send .none) s' := fun s' a1 a2 a3 => by
      refine ⟨rfl, ?_⟩
      have loop := seg_loop (A := X.A.in1.in1) (ifs := ifs) (scope := scope) (pos := gpos) (iter := iter) hcm cco I3 f3 (fun hm => by have := sz3 _ hm; rw [szh] at this; exact absurd (Nat.lt_of_succ_lt this) (Nat.lt_irrefl _)) isg T pgE ptE peE turn m0 (m0 + 1) 0 H3 s' s' (Nat.lt_succ_self _) w0 (start s' a1 a2 a3) (by rw [a1]; exact st5) (fun b hb => (f3 b hb).1)
      show Seg _ X.A.in1.in1 _ _ _ _ _ ((compStart (.GeneratorExp elt [⟨tg, iter, ifs, 0⟩] scope gpos) 0 (.ref it) .none cenv).onRaise (leaving cenv)) [] s'
      unfold compStart
      rw [Sem.onRaise_eq_wrap]
      show Seg _ X.A.in1.in1 _ _ _ _ _ ((ask >>= _).wrap _ _ _ _) [] s'
      refine seg_bind_wrap (wpAny_askSetting ?_)
      split
      · exact seg_again rfl loop
      · first
          | exact seg_bind_wrap (wpAny_rule (seg_bind_wrap (wpAny_standAt (seg_bind_wrap (T.self _ 0 _ _ _ (by rw [a1]; exact st5) (seg_again rfl loop))))))
          | (refine seg_bind_wrap (wpAny_rule ?_); show Seg _ X.A.in1.in1 _ _ _ _ _ ((standAt iter.pos >>= _).wrap _ _ _ _) [] s'; exact seg_bind_wrap (wpAny_standAt (seg_bind_wrap (T.self _ 0 _ _ _ (by rw [a1]; exact st5) (seg_again rfl loop)))))
    have hbp : AllBare (s2.gens.push (.fresh (.compStart (.GeneratorExp elt [⟨tg, iter, ifs, 0⟩] scope gpos) 0 (.ref it) .none cenv))) := I2.bare.push rfl
    exact hQ h'.objs.size s2.gens.size (m0 + 1) _ { s2 with gens := s2.gens.push (.fresh (.compStart (.GeneratorExp elt [⟨tg, iter, ifs, 0⟩] scope gpos) 0 (.ref it) .none cenv)), toks := tk + 1 + 1 + 1, heap := h'.push genO } (isg _ gget) nlim (gsz _) (fin _ rfl rfl (allBare_setGen hbp rfl))
  cases hf : codeAmong gpos ps.toList with
  | none =>
    refine wpAny_genexprCodeX hcode (cd.code hPs htr) (cd.tab hPs) hf fun c' h' tk hx hge hlt hco' _ htab' _ => ?_
    obtain ⟨o1, vs, f1, tf, fl, tg', inF, tx, tt', op, _, _, _, _, _, _, _, _, _, htr', _⟩ := hco'
    exact cont _ h' tk _ hx htab'.2 ⟨_, rfl⟩ htr'
  | some cv =>
    refine wpAny_genexprCode_hit hcode (cd.code hPs htr) hf ?_
    exact cont cv s2.heap s2.toks ps (Heap.ExtBut.refl _ _) hPs ⟨#[], by simp⟩ htr
end
end Ink

set_option Elab.async false
set_option linter.all false
set_option maxRecDepth 100000
set_option maxHeartbeats 4000000
namespace Ink
open PySem PySem.Spec PyProof.Rows L2 GxR GenW
section
variable {X : Cx} {elt tg iter : Expr} {ifs : List Expr} {scope : Scope} {own : List (Str × Nat)} {p pos gpos : Pos} {wi : TI} {g : TG} {tt : TT} {te : TE} {c P : Addr} {k : Nat}
theorem boot_all : bootBuiltins "all" = some (.builtin "all") := by decide +kernel
theorem pe_allX (hr : Room (k + 3) X.A) (hgl : Gl X "all") (hm : X.mg "all" = none) (hcm : X.calm = true) (hN : X.N.Nodup) (TB : TabB X.base X.mg c P) (hcode : X.env.code = .ref c) (ok : GnOk X.N X.env.scope scope own) (hi : PI X tg iter wi)
    (hg : ∀ (s : Shared) (H : Hp) (C : Addr) (cl : List (Str × Addr)) (code : Value) (fp : List Addr) (A' : Around), Room k A' → PG (gblk X s H (genEnv scope cl C code builtinsNs X.env) fp A') tg g)
    (ht : ∀ (s : Shared) (H : Hp) (C : Addr) (cl : List (Str × Addr)) (code : Value) (fp : List Addr) (A' : Around), Room k A' → PTs (gblk X s H (genEnv scope cl C code builtinsNs X.env) fp A') ifs tt)
    (he : ∀ (s : Shared) (H : Hp) (C : Addr) (cl : List (Str × Addr)) (code : Value) (fp : List Addr) (A' : Around), Room k A' → PE (gblk X s H (genEnv scope cl C code builtinsNs X.env) fp A') elt te)
    (hs : ∀ v, genFold iter X.env v = pure v := by intro _; rfl)
    (hst : starEach [.GeneratorExp elt [⟨tg, iter, ifs, 0⟩] scope gpos] X.env = (false, eval (.GeneratorExp elt [⟨tg, iter, ifs, 0⟩] scope gpos) X.env) :: starEach [] X.env := by rfl) :
    PE X (.Call (.Name "all" p) [.GeneratorExp elt [⟨tg, iter, ifs, 0⟩] scope gpos] [] pos) (tGX P wi g tt te (own.map (·.2)) true) := by
  refine ⟨fun pins s σ H Q I h => ?_⟩
  refine wpAny_Call_Name_kw (ld_blt I hgl hm boot_all ?_)
  refine PyProof.Rows.callWith_builtin1 ?_ hst (by rfl)
  rw [hst]
  show wpAny _ _ (spliced ((false, eval (.GeneratorExp elt [⟨tg, iter, ifs, 0⟩] scope gpos) X.env) :: backTo pos (starEach [] X.env))) _ _ s
  refine Calls.spliced_cons (genx_make hr hcm hN TB hcode ok hi hg ht he hs I h fun a g n gs s' h1 h2 h3 h4 => ?_)
  refine Calls.spliced_nil ?_
  refine call_function_tree F.kind_all F.plain_all F.entry_all (F.args_all1 _) ?_
  unfold Builtin.«all»
  refine wpAny_bind (m := oneArg "all" _) (wpAny_pure ?_)
  refine wpAny_bind (wpAny_pyIter_gen h1 ?_)
  exact wpAny_pure ⟨plainId_quiet F.plain_all_loop _, all_loop (X := X) (pins := pins) (σ := σ) (Q := Q) hr.hd hr.depth (fun b s2 z => z) n s' h1 h2 ⟨gs, h3, h4⟩⟩
theorem pe_anyX (hr : Room (k + 3) X.A) (hgl : Gl X "any") (hm : X.mg "any" = none) (hcm : X.calm = true) (hN : X.N.Nodup) (TB : TabB X.base X.mg c P) (hcode : X.env.code = .ref c) (ok : GnOk X.N X.env.scope scope own) (hi : PI X tg iter wi)
    (hg : ∀ (s : Shared) (H : Hp) (C : Addr) (cl : List (Str × Addr)) (code : Value) (fp : List Addr) (A' : Around), Room k A' → PG (gblk X s H (genEnv scope cl C code builtinsNs X.env) fp A') tg g)
    (ht : ∀ (s : Shared) (H : Hp) (C : Addr) (cl : List (Str × Addr)) (code : Value) (fp : List Addr) (A' : Around), Room k A' → PTs (gblk X s H (genEnv scope cl C code builtinsNs X.env) fp A') ifs tt)
    (he : ∀ (s : Shared) (H : Hp) (C : Addr) (cl : List (Str × Addr)) (code : Value) (fp : List Addr) (A' : Around), Room k A' → PE (gblk X s H (genEnv scope cl C code builtinsNs X.env) fp A') elt te)
    (hs : ∀ v, genFold iter X.env v = pure v := by intro _; rfl)
    (hst : starEach [.GeneratorExp elt [⟨tg, iter, ifs, 0⟩] scope gpos] X.env = (false, eval (.GeneratorExp elt [⟨tg, iter, ifs, 0⟩] scope gpos) X.env) :: starEach [] X.env := by rfl) :
    PE X (.Call (.Name "any" p) [.GeneratorExp elt [⟨tg, iter, ifs, 0⟩] scope gpos] [] pos) (tGX P wi g tt te (own.map (·.2)) false) := by
  refine ⟨fun pins s σ H Q I h => ?_⟩
  refine wpAny_Call_Name_kw (ld_blt I hgl hm boot_any ?_)
  refine PyProof.Rows.callWith_builtin1 ?_ hst (by rfl)
  rw [hst]
  show wpAny _ _ (spliced ((false, eval (.GeneratorExp elt [⟨tg, iter, ifs, 0⟩] scope gpos) X.env) :: backTo pos (starEach [] X.env))) _ _ s
  refine Calls.spliced_cons (genx_make hr hcm hN TB hcode ok hi hg ht he hs I h fun a g n gs s' h1 h2 h3 h4 => ?_)
  refine Calls.spliced_nil ?_
  refine call_function_tree F.kind_any F.plain_any F.entry_any (F.args_any1 _) ?_
  unfold Builtin.«any»
  refine wpAny_bind (m := oneArg "any" _) (wpAny_pure ?_)
  refine wpAny_bind (wpAny_pyIter_gen h1 ?_)
  exact wpAny_pure ⟨plainId_quiet F.plain_any_loop _, any_loop (X := X) (pins := pins) (σ := σ) (Q := Q) hr.hd hr.depth (fun b s2 z => z) n s' h1 h2 ⟨gs, h3, h4⟩⟩
end
end Ink

set_option Elab.async false
set_option linter.all false
set_option maxRecDepth 100000
set_option maxHeartbeats 4000000
/-! own errors over ValueError: def __init__(self, value=None): super().__init__(value); self.value = value -/
namespace Ink
open PySem PySem.W PySem.Calls PySem.HandSPX
def iArgs (p1 p2 p3 : Pos) : Arguments := { posonlyargs := [], args := [{ arg := "self", annotation := none, pos := p1 }, { arg := "value", annotation := none, pos := p2 }], vararg := none, kwonlyargs := [], kw_defaults := [], kwarg := none, defaults := [(.Constant .none 0 p3)] }
def iBody (q1 q2 q3 q4 q5 q6 q7 q8 q9 q10 : Pos) : List Stmt :=
  [.Expr (.Call (.Attribute (.Call (.Name "super" q1) [] [] q2) "__init__" q3) [.Name "value" q4] [] q5) q6,
   .Assign [.Attribute (.Name "self" q7) "value" q8] (.Name "value" q9) q10]
def iScope : Scope := { kind := .function, names := [(PySem.Str.ofString "self", .local), (PySem.Str.ofString "value", .local), (PySem.Str.ofString "__class__", .free), (PySem.Str.ofString "super", .globalImplicit)], isGenerator := false, isCoroutine := false, more := [] }
/-- what the written part says of such a class, at C, and of its __init__, at fI -/
structure ErrC (prog : Program) (K : Frag) (mg : Str → Option Value) (x : Str) (C fI : Addr) : Prop where
  gC : mg x = some (.ref C)
  cls : OexM K C
  sa : findIn K (.ref C) "__setattr__" = some (some (.builtin "object.__setattr__"))
  ga : findIn K (.ref C) "__getattribute__" = some (some (.builtin "BaseException.__getattribute__"))
  gg : findIn K (.ref C) "__getattr__" = some none
  no : findIn K (.ref C) "value" = some none
  cc : findIn K (.ref C) "__class__" = some (some (.builtin "object.__class__"))
  exC : subIn K (.ref C) (.type "BaseException") = some true
  veC : subIn K (.ref C) (.type "ValueError") = some true
  tyC : typeIn K (.ref C) = some (.type "type")
  kC : keepIn K (.ref C) = true
  hdC : hasDictIn K C = true
  mro : mroIn K C (.type "object") = some true
  iC : findIn K (.ref C) "__init__" = some (some (.ref fI))
  tC : typeIn K (.ref fI) = some (.type "function")
  fn : ∃ (qual : Str) (p1 p2 p3 q1 q2 q3 q4 q5 q6 q7 q8 q9 q10 : Pos), (q3.endLine == q5.line) = true ∧ (q6.line == q6.line) = true ∧ CloD K prog.main.file "__init__" qual (iArgs p1 p2 p3) (iBody q1 q2 q3 q4 q5 q6 q7 q8 q9 q10) iScope [.non] C fI
  opq : nsIn K cStatics "thirdparty.any" = some none
  sup : mg "super" = none
  top : (prog.main.scope.names.lookup ("super" : Str)).isSome = false
/-- what __init__ leaves of a fresh exception at x -/
structure ErrEnd (h h' : Heap) (x C dx t1 : Addr) (v : Value) : Prop where
  keep : ∀ b o, b ≠ x → h.get? b = some o → h'.get? b = some o
  obj : h'.get? x = some { cls := .ref C, dict := some dx, data := .fields #[.ref t1, .none, .none, .none, .bool false, .none] }
  dbig : h.objs.size ≤ dx
  dne : dx ≠ x
  ns : h'.Ns1 dx (fun y => if y = "value" then some v else none)
section
variable {prog : Program} {w : World} {A : Around} {E : Value → Shared → Prop} {h : Heap} {g : Array GenState} {d : Drawn} {t : Nat} {os : OsState}
/-- ValueError.__init__ bound to the exception, called -/
theorem call_bound {nm q : Str} {C N u e t0 : Addr} {bs bm : List Value} {sn : List Str} {sub : List Value} {ab : Bool} {col : Option Bool} {dd : Option Addr} {k0 k1 k2 k3 k5 : Option Value} {rest : List Value} {Q : Value → Shared → Prop}
    (hC : h.get? C = some (excClassObj nm q C N bs bm true sn sub ab col dd k0 k1 k2 k3 k5 "ValueError.__new__")) (hbm : refsVE bm = true) (he : h.get? e = some (excO C t0)) (hu : h.get? u = some (kxs_mw "ValueError.__init__" e)) (hrest : rest.length ≤ sizeLine)
    (hq : ∀ h' t1, (∀ b o, b ≠ e → h.get? b = some o → h'.get? b = some o) → h'.get? e = some (excO C t1) → Q .none ⟨h', g, d, t, os⟩) :
    wpAny (model prog w) A (call (.ref u) rest) Q E ⟨h, g, d, t, os⟩ := by
  refine wpAny_call (codeAny_of_tree ?_)
  show wpAny _ A.in1 (callAny (.ref u) ⟨rest, []⟩) _ _ _
  simp only [callAny]
  refine wpAny_bind (wpAny_load hu ?_)
  simp only [kxs_mw, show (Value.type "method-wrapper" == Value.type "method" || Value.type "method-wrapper" == Value.type "builtin_function_or_method" || Value.type "method-wrapper" == Value.type "method-wrapper") = true by decide, if_true]
  refine KFB.if_so (by decide) ?_
  refine wpAny_bind (check_bound_init F.excBase_ValueError.toExcCallFacts hC he rfl ?_)
  refine wpAny_bind (wpAny_pure (wpAny_pure ?_))
  refine ⟨Code.quiet_builtin _ (by decide +kernel), codeAny_builtin F.excBase_ValueError.initEntry ?_⟩
  rw [Around.under_plainId F.excBase_ValueError.init.plain _]
  wp_walk
  refine hq _ h.objs.size (fun b o hb ho => ?_) ?_
  · rw [Heap.get?_update_other _ _ (Ne.symm hb)]
    exact Heap.get?_push_of_some _ ho
  · rw [Heap.get?_update_self _ (Heap.get?_push_of_some _ he) rfl]
    rfl
theorem boot_super : bootBuiltins "super" = some (.type "super") := by decide +kernel
theorem err_init {K : Frag} {mg mb : Str → Option Value} {nm : Str} {C fI : Addr} {R : Result → Shared → Prop} {s : Shared} (T : ErrC prog K mg nm C fI) {x t0 : Addr} {v : Value} (X : K.In s.heap) (G : s.heap.Ns mainGlobals mg) (Bl : s.heap.Ns builtinsNs mb) (hbb : ∀ y : Str, y ≠ "__name__" → mb y = bootBuiltins y)
    (hlim : s.heap.NoLimit) (hx : s.heap.get? x = some (excO C t0)) (hnx : K.lookup x = none) (hroom : A.depth < recursionLimit) (hq : ∀ h' tk dx t1, ErrEnd s.heap h' x C dx t1 v → R (.ok (.ret .none)) { s with heap := h', toks := tk }) :
    codeAny (model prog w) A (.call (.ref fI) ⟨[.ref x, v], []⟩) R s := by
  obtain ⟨qual, p1, p2, p3, q1, q2, q3, q4, q5, q6, q7, q8, q9, q10, hline, _, ⟨od, dV, kV, doc, pm, an, cdv, ct, osl, c, sl, ho, hcd, hfile, hD, hcell⟩⟩ := T.fn
  obtain ⟨nm', qn, N, bs, bm, sn, sub, ab, col, dd, k0, k1, k2, k3, k5, hC, hbm, hal⟩ := T.cls
  obtain ⟨cda, ccl, cdd, vs, ccs, tf, rfl, hcode, hvs⟩ := fileB_ok hfile
  have hcl : clsIn K C = some { name := nm', bases := bs, mro := .ref C :: bm, ns := N, qualname := qn, hasDict := true, slotNames := sn, subclasses := sub, abstract := ab, collection := col, hasDel := false } := by unfold clsIn; rw [hC] <;> rfl
  have hsize : s.heap.objs.size ≠ x := Nat.ne_of_gt (Heap.lt_size hx)
  rcases hD with ⟨e, _⟩ | ⟨_, Td, oT, its, nT, rfl, lT, dT, rT⟩
  · cases e
  obtain ⟨du, rfl, _⟩ := L2.vals1 rT
  refine ks_codeAny_call_defAt (binds := [("self", .ref x), ("value", v)]) hroom (X _ _ ho) rfl hlim (codeRec_of X hcd) rfl ?_ (show ∀ x ∈ iScope.names, x.2 ≠ .cell by decide +kernel) ?_ (fun h₁ hns hk₁ => ?_)
  · refine L2.BindsTo.of_looks fun M => ?_
    have e : ∃ k, bindArgs (({ name := "__init__", qualname := qual, params := iArgs p1 p2 p3, body := FuncBody.stmts (iBody q1 q2 q3 q4 q5 q6 q7 q8 q9 q10), scope := iScope, globals := mainGlobals, closure := [("__class__", c)], defaults := Value.ref Td, kwdefaults := kV, doc := doc, pyModule := pm, annotations := an, code := Value.ref cda, closureTuple := ct, builtins := builtinsNs } : FuncData)) ⟨[Value.ref x, v], []⟩ = seqItems? (.ref Td) >>= k ∧ k (some [du].toArray) = pure [(("self" : Str), Value.ref x), (("value" : Str), v)] := by
      refine ⟨?k, ?e1, ?e2⟩
      case e1 => with_unfolding_all rfl
      case e2 => with_unfolding_all rfl
    obtain ⟨k, e1, e2⟩ := e
    rw [e1]
    exact L2.looks_items X lT dT (.of_pure e2)
  · intro y hy
    rcases List.mem_cons.mp hy with rfl | hy
    · rfl
    · rcases List.mem_cons.mp hy with rfl | hy
      · rfl
      · cases hy
  · have X₁ : K.In h₁ := X.keeps hk₁
    have hx₁ := hk₁ _ _ hx
    have lim₁ : h₁.NoLimit := hlim.keeps hk₁
    have lk1 : List.lookup ("self" : Str) ([(("self" : Str), Value.ref x), (("value" : Str), v)] : List (Str × Value)).reverse = some (.ref x) := by first | rfl | with_unfolding_all rfl | kernel_rfl
    have lk2 : List.lookup ("value" : Str) ([(("self" : Str), Value.ref x), (("value" : Str), v)] : List (Str × Value)).reverse = some v := by first | rfl | with_unfolding_all rfl | kernel_rfl
    have hD : h₁.get? C = some (excClassObj nm' qn C N bs bm true sn sub ab col dd k0 k1 k2 k3 k5 "ValueError.__new__") := X₁ _ _ hC
    -- super().__init__(value)
    refine ks_wpAt_execs_cons (ks_wpAt_Expr_any ?m1 rfl rfl)
    refine ks_wpAt_MethodCall (pl := L2.plainOf (.Call (.Name "super" q1) [] [] q2) ?en) ?m2 ?he
    case he => exact congrArg (fun k => attributeBase _ _ _ _ >>= k) (funext fun ov => congrArg (fun k => standAt _ >>= k) (funext fun _ => L2.mcall_line rfl hline))
    refine ks_wpAt_super_base rfl rfl (by decide +kernel) rfl (X₁ _ _ ho) rfl rfl rfl (X₁ _ _ hcode) rfl hvs (by simp) T.top ?_
    refine ks_loadName_global rfl rfl (loadGlobal_builtin (G.keeps hk₁) T.sup (Bl.keeps hk₁) ((hbb _ (by intro q; exact absurd q (by decide +kernel))).trans boot_super) ⟨rfl, ?_⟩)
    refine wpAny_loadName_free rfl rfl rfl ⟨_, X₁ _ _ hcell, rfl⟩ ?_
    refine wpAny_loadName_local rfl rfl hns lk1 ?_
    refine ks_wpAny_isType_cls hD rfl ⟨rfl, ?_⟩
    have LC : Looks (model prog w) h₁ (classData C) _ := looks_clsIn X₁ hcl
    have Lm : Looks (model prog w) h₁ (mroOf (.ref C)) (.ref C :: bm) := fun A Q E s k q => wpAny_bind (LC A _ E s k (wpAny_pure q))
    have I₁ : InstAt h₁ x (excO C t0) C none := ⟨hx₁, rfl, rfl, trivial⟩
    have hsubC : Looks (model prog w) h₁ (isSubtype (.ref C) (.ref C)) true := looks_mroIn X₁ (by unfold mroIn; rw [hcl, Option.bind_some]; simp)
    refine ks_wpAny_call_super hD rfl hx₁ rfl (fun c e => by cases e) hsubC (fun h₂ eso k₂ => ?_)
    have X₂ : K.In h₂ := X₁.keeps k₂
    refine kxs_getMethod kxs_ValueError eso (looks_opaque X₂ T.opq) (Lm.keeps k₂) (by simp) X₂ hal ((InstAt.type (M := model prog w) (show InstAt h₂ x (excO C t0) C none from ⟨k₂ _ _ hx₁, rfl, rfl, trivial⟩)).andThen (looks_subIn X₂ T.veC)) (fun z => ?_) (by decide +kernel) ?_
    · rw [z, hD] at hx₁
      cases hx₁
    have hns₂ : h₂.Ns s.heap.objs.size _ := hns.keeps k₂
    have e3 : (h₂.push (kxs_mw "ValueError.__init__" x)).get? h₂.objs.size = some (kxs_mw "ValueError.__init__" x) := Heap.get?_push_at rfl rfl
    have k₃ : ∀ b o, h₂.get? b = some o → (h₂.push (kxs_mw "ValueError.__init__" x)).get? b = some o := fun b o e => Heap.get?_push_of_some _ e
    refine kxs_callWith (i := "ValueError.__init__") (x := x) rfl (evalArgs_plain ?_)
    refine Calls.spliced_cons (wpAny_Name (wpAny_loadName_local rfl rfl (hns₂.push _) lk2 (Calls.spliced_nil ⟨e3, ?_⟩)) (by decide +kernel))
    refine call_bound (k₃ _ _ (k₂ _ _ hD)) hbm (k₃ _ _ (k₂ _ _ hx₁)) e3 (by show 1 ≤ sizeLine; decide) (fun h₄ t1 k₄ hx₄ => ?_)
    -- self.value = value
    have k14 : ∀ b o, b ≠ x → h₁.get? b = some o → h₄.get? b = some o := fun b o hb e => k₄ b o hb (k₃ _ _ (k₂ _ _ e))
    have hns₄ : h₄.Ns s.heap.objs.size _ := hns.at' fun o e => k14 _ o hsize e
    have X₄ : K.In h₄ := fun a o e => k14 a o (fun z => by rw [z, hnx] at e; cases e) (X₁ a o e)
    refine ks_wpAt_execs_cons ?_
    refine ks_wpAt_Assign_Attr ?_ rfl
    refine PySem.wpAt_of_wpAny ?_
    refine wpAny_Name (wpAny_loadName_local rfl rfl hns₄ lk2 ?_) (by decide +kernel)
    refine wpAny_Name (wpAny_loadName_local rfl rfl hns₄ lk1 ?_) (by decide +kernel)
    refine set_plain X₄ (ox := excO C t1) (od := none) ⟨hx₄, rfl, rfl, trivial⟩ T.sa ?_
    refine exc_osa X₄ hx₄ hcl (show refsVE (.ref C :: bm) = true from hbm) rfl T.no (fun h₅ tk₅ dx k₅ dn dne hx₅ hn₅ => ?_)
    have z : s.heap.objs.size ≤ h₄.objs.size := by
      obtain ⟨_, _, _, e, _⟩ := hns₄
      exact Nat.le_of_lt (Heap.lt_size e)
    refine PySem.wpAt_of_wpAny (wpAny_execs_nil ?_)
    exact hq h₅ tk₅ dx t1 ⟨fun b o hb e => k₅ b o hb (k14 b o hb (hk₁ b o e)), hx₅, Nat.le_trans z dn, dne, hn₅⟩
/-- a made error -/
structure ErrMade (h h' : Heap) (e C d : Addr) (v : Value) : Prop where
  keep : ∀ b o, h.get? b = some o → h'.get? b = some o
  new : h.objs.size ≤ e
  obj : ∃ oe vs, h'.get? e = some oe ∧ oe.cls = .ref C ∧ oe.dict = some d ∧ oe.data = .fields vs ∧ vs[1]? = some .none
  dbig : h.objs.size ≤ d
  dne : d ≠ e
  ns : h'.Ns1 d (fun y => if y = "value" then some v else none)
theorem one_fits (v : Value) : [v].length ≤ sizeLine := by
  rw [sizeLine_eq]
  exact (by decide : 1 ≤ 16777216)
theorem err_made {K : Frag} {mg mb : Str → Option Value} {nm : Str} {C fI : Addr} {R : Result → Shared → Prop} {s : Shared} (T : ErrC prog K mg nm C fI) {v : Value} (X : K.In s.heap) (G : s.heap.Ns mainGlobals mg) (Bl : s.heap.Ns builtinsNs mb) (hbb : ∀ y : Str, y ≠ "__name__" → mb y = bootBuiltins y)
    (hlim : s.heap.NoLimit) (hroom : A.depth + 1 < recursionLimit) (hq : ∀ h' tk e d, ErrMade s.heap h' e C d v → R (.ok (.ret (.ref e))) { s with heap := h', toks := tk }) :
    codeAny (model prog w) A (.call (.ref C) ⟨[v], []⟩) R s := by
  obtain ⟨nm', q, N, bs, bm, sn, sub, ab, col, dd, k0, k1, k2, k3, k5, hC, hbm, _⟩ := T.cls
  obtain ⟨hp, g, dr, tk, os⟩ := s
  have k : ∀ b o, hp.get? b = some o → ((hp.push (kdv_tup [v])).push (excO C hp.objs.size)).get? b = some o := fun b o e => Heap.get?_push_of_some _ (Heap.get?_push_of_some _ e)
  have hget : ((hp.push (kdv_tup [v])).push (excO C hp.objs.size)).get? (hp.objs.size + 1) = some (excO C hp.objs.size) := by heap_get
  have hnx : K.lookup (hp.objs.size + 1) = none := by
    cases e : K.lookup (hp.objs.size + 1) with
    | none => rfl
    | some o =>
      have z : hp.get? (hp.objs.size + 1) = some o := X _ _ e
      exact absurd (Nat.lt_of_succ_lt (Heap.lt_size z)) (Nat.lt_irrefl _)
  refine call_own F.excBase_ValueError (fun X => refsVE_contains X bm hbm) (X _ _ hC) (looks_findIn X T.iC) (fun self => bind_fn X self T.tC) (one_fits v) ?_
  refine err_init (s := ⟨(hp.push (kdv_tup [v])).push (excO C hp.objs.size), g, dr, tk, os⟩) T (X.keeps k) (G.keeps k) (Bl.keeps k) hbb (hlim.keeps k) hget hnx ?_ fun h' tk' dx t1 M => ?_
  · show A.depth + 1 < recursionLimit
    exact hroom
  · obtain ⟨k', hx, dn, dne, hns⟩ := M
    have old : ∀ b o, hp.get? b = some o → h'.get? b = some o := fun b o e => k' b o (Nat.ne_of_lt (Nat.lt_succ_of_lt (Heap.lt_size e))) (k b o e)
    have z : hp.objs.size ≤ dx := by
      have q : ((hp.push (kdv_tup [v])).push (excO C hp.objs.size)).objs.size ≤ dx := dn
      rw [Heap.size_push, Heap.size_push] at q
      exact Nat.le_trans (Nat.le_trans (Nat.le_succ _) (Nat.le_succ _)) q
    exact ⟨rfl, hq h' tk' (hp.objs.size + 1) dx ⟨old, Nat.le_succ _, ⟨_, _, hx, rfl, rfl, rfl, rfl⟩, z, dne, hns⟩⟩
end
end Ink
namespace Ink
open PySem PySem.Spec PyProof.Rows L2
theorem relO_one {v : V} {v' : Value} (r : RelV v v') (f : Str) : RelO (List.lookup f [(("value" : Str), v)]) (if f = "value" then some v' else none) := by
  by_cases hw : f = "value"
  · subst hw
    rw [if_pos rfl, show List.lookup ("value" : Str) [(("value" : Str), v)] = some v by simp [List.lookup]]
    exact r
  · rw [if_neg hw, show List.lookup f [(("value" : Str), v)] = none by simp [List.lookup, show (f == ("value" : Str)) = false by simpa using hw]]
    trivial
/-- C(e) -/
def tMkE (C : Addr) (ta : TA) : L2.St → Hp → XK → Prop := fun σ H Q => ta σ H fun vs H1 => ∃ v, vs = [v] ∧ ∀ d, H1 d = none → Q (.ref C) (some d) (upd H1 d (.xd [(("value" : Str), v)]))
section
variable {X : Cx} {C fI : Addr} {x : Str}
theorem pmk_err {a : Expr} {ta : TA} {p pos : Pos} {k : Nat} (T : ErrC X.prog X.K X.mg x C fI) (hr : Room k X.A) (ha : PA X [a] ta) (hg : Gl X x) (hdb : (x == ("__debug__" : Str)) = false := by decide)
    (he : starEach (a :: []) X.env = (false, eval a X.env) :: starEach [] X.env := by rfl) (hpl : (backTo pos (starEach [] X.env)).any (·.1) = false := by rfl) :
    PMk X (.Call (.Name x p) [a] [] pos) (tMkE C ta) := by
  intro pins s σ H Q I h
  refine wpAny_Call_Name_kw (ld_glob I hg T.gC ?_ hdb)
  refine PySem.W.callWith_K (h₀ := X.base) I.ok.mod.kin T.kC (thn (ha.run pos pins s σ H _ I h) fun us s1 hh => ?_) he hpl
  obtain ⟨vs, H1, I1, r1, v, ev, q1⟩ := hh
  subst ev
  refine ⟨I1.kIn, ?_⟩
  obtain ⟨v', rfl, rv⟩ := vals1 r1
  obtain ⟨mb, hb1, hb2⟩ := I1.mod.blt
  have hlim := I1.nolimit
  have hG := I1.mod.glob.keeps I1.bk
  have hB := hb1.keeps I1.bk
  obtain ⟨hp, g, dr, tk, os⟩ := s1
  refine wpAny_call (err_made T I1.kIn hG hB hb2 hlim (by have := hr.dp; omega) fun h' tk' e d M => ?_)
  show MkP X pins σ Q (.ref e) ⟨h', g, dr, tk', os⟩
  obtain ⟨oe, fv, hoe, hc, hd, hdat, h1⟩ := M.obj
  obtain ⟨G', g1, g2⟩ := restrict h' fun b => decide (b ≠ e)
  have gk : ∀ b, b ≠ e → G'.get? b = h'.get? b := fun b hb => g1 b (decide_eq_true hb)
  have ge : G'.get? e = none := g2 e (by simp)
  have old : ∀ b o, hp.get? b = some o → G'.get? b = some o := fun b o q => (gk b (Nat.ne_of_lt (Nat.lt_of_lt_of_le (Heap.lt_size q) M.new))).trans (M.keep b o q)
  have ob : ObjOk X.prog X.w (upd H1 d (.xd [(("value" : Str), v)])) G' d (.xd [(("value" : Str), v)]) := ⟨_, M.ns.at (fun o q => (gk d M.dne).trans q), fun f => relO_one rv f⟩
  have J : Inv X pins σ (upd H1 d (.xd [(("value" : Str), v)])) ⟨G', g, dr, tk', os⟩ := I1.laid (t' := tk') old M.dbig ob
  refine ⟨e, oe, fv, ⟨G', g, dr, tk', os⟩, _, .ref C, some d, rfl, J, fun b o q => ?_, ge, hoe, ⟨hc, hd⟩, hdat, h1, ?_, rfl, I1.bare, raises_own T.exC T.tyC, q1 d (I1.hok.fresh M.dbig)⟩
  · by_cases hb : b = e
    · have q' : G'.get? b = some o := q
      rw [hb, ge] at q'
      cases q'
    · exact (gk b hb).symm.trans q
  · rw [upd_ne (Ne.symm M.dne)]
    exact I1.hok.fresh M.new
/-- raise C(e) -/
def tRaiseE (C : Addr) (W : WX) (ta : TA) : TS := fun _ σ H => tMkE C ta σ H fun cls d H' => W cls d σ H'
theorem ps_raiseE {a : Expr} {ta : TA} {W : WX} {p pos pos2 : Pos} {k : Nat} (hc : X.calm = true) (T : ErrC X.prog X.K X.mg x C fI) (hr : Room k X.A) (tk : Takes X W) (ha : PA X [a] ta) (hg : Gl X x) (hdb : (x == ("__debug__" : Str)) = false := by decide)
    (he : starEach (a :: []) X.env = (false, eval a X.env) :: starEach [] X.env := by rfl) (hpl : (backTo pos (starEach [] X.env)).any (·.1) = false := by rfl) :
    PS X (.Raise (some (.Call (.Name x p) [a] [] pos)) none pos2) (tRaiseE C W ta) := ps_raise hc tk (pmk_err T hr ha hg hdb he hpl)
end
end Ink

set_option Elab.async false
set_option linter.all false
set_option maxRecDepth 100000
set_option maxHeartbeats 4000000
/-! try: .. except C as n: suite, where behind the suite the error itself is still known (a name of the suite's may hold it) -/
namespace Ink
open PySem PySem.Spec PyProof.Rows L2
/-- the error's own object at a -/
def exv (a : Addr) (oe : Obj) : HO := .ext fun h => h.get? a = some oe
theorem exv_ok {P : Program} {w : World} {H : Hp} {h : Heap} {a : Addr} {oe : Obj} (e : h.get? a = some oe) : ObjOk P w H h a (exv a oe) := ⟨e, ⟨_, e⟩, fun _ _ z k => k _ z⟩
theorem exv_at {P : Program} {w : World} {H : Hp} {h : Heap} {a : Addr} {oe : Obj} (ok : HOk P w H h) (e : H a = some (exv a oe)) : h.get? a = some oe := by
  have x : ObjOk P w H h a (.ext fun h => h.get? a = some oe) := ok a _ e
  exact x.1
section
variable {X : Cx} {pins : List (Addr × Obj)} {σ : L2.St} {H : Hp} {s : Shared}
/-- an untracked object that the entry did not have comes to be tracked -/
theorem inv_adopt (I : Inv X pins σ H s) {a : Addr} {oe : Obj} {vs : Array Value} (he : s.heap.get? a = some oe) (hd : oe.data = .fields vs) (na : H a = none) (nL : a ≠ X.env.locals) (nS : X.s_0.heap.get? a = none) (nP : ∀ p ∈ X.pn ++ pins, p.1 ≠ a) :
    Inv X pins σ (upd H a (exv a oe)) s := by
  have old : ∀ {b : Addr} {o : Obj}, X.s_0.heap.get? b = some o → b ≠ a := fun {b o} q z => by
    rw [z, nS] at q
    cases q
  have ncell : ∀ x c, X.env.cells.lookup x = some c → c ≠ a := fun x c e z => by
    obtain ⟨v, o, ho, hdo⟩ := I.cell x c e
    rw [z, he] at ho
    cases ho
    rw [hd] at hdo
    cases hdo
  refine ⟨I.ok, I.os, I.bare, ⟨I.base.keep, I.base.slot, fun b o q n hx => ?_, I.base.there, fun b xs q => ?_, fun b o u q => ?_, fun b ps q => ?_⟩, I.loc, I.cell, ?_, fun x c e => ?_, fun p hp => ?_, fun b u q => ?_, I.len⟩
  · rw [upd_ne (old q)]
    exact I.base.free b o q n hx
  · have z := I.base.tups b xs q
    rw [upd_ne (ne_of_none z na)]
    exact z
  · have z := I.base.frzs b o u q
    rw [upd_ne (ne_of_none z na)]
    exact z
  · obtain ⟨more, z⟩ := I.base.tbls b ps q
    exact ⟨more, by rw [upd_ne (ne_of_none z na)]; exact z⟩
  · rw [upd_ne (Ne.symm nL)]
    exact I.free
  · rw [upd_ne (ncell x c e)]
    exact I.freeC x c e
  · obtain ⟨h1, h2, h3⟩ := I.pin p hp
    exact ⟨h1, by rw [upd_ne (nP p hp)]; exact h2, h3⟩
  · by_cases hb : b = a
    · rw [hb, upd_same] at q
      cases q
      rw [hb]
      exact exv_ok he
    · rw [upd_ne hb] at q
      exact (I.hok b u q).stay (fun _ _ _ z => z) (fun c z => by rw [upd_ne (ne_of_none z na)]; exact z) fun c xs z => by rw [upd_ne (ne_of_none z na)]; exact z
end
/-- what the clause wishes: it always takes the error; the suite runs to its end; behind it the error's object stands at a -/
def wKp (K : PySem.W.Frag) (c : Value) (i : Nat) (ts : Addr → Value → Option Addr → TS) (D : Ends) : WX := fun cls d σ H =>
  PySem.W.exmOne K cls c = some true ∧ ∀ (a : Addr) (oe : Obj), H a = none → Zc cls d oe → (∃ vs, oe.data = .fields vs) →
    ts a cls d { nx := fun σ' H' => D.nx (σ'.set i none) (upd H' a (exv a oe)), rt := fun _ _ => False } (σ.set i (some (.ref a))) H
section
variable {X : Cx} {x n : Str} {c : Value} {i : Nat} {body suite : List Stmt} {b₀ : Stmt} {np pos pos' : Pos} {tb : WX → TS} {ts : Addr → Value → Option Addr → TS}
theorem ps_try_keep (stk : X.stack = X.env :: X.outer) (frm : X.env.frame = some X.env.locals) (nd : X.N.Nodup) (ix : X.N[i]? = some n) (isl : X.env.kindOf n = some .local) (nm : Names X x c) (noex : X.ex = [])
    (hb : ∀ (W : WX) (pn : List (Addr × Obj)) (xe : Value → Shared → Prop), Takes (X.tr pn xe) W → PassesOwn (model X.prog X.w) X.A X.env xe → PSs (X.tr pn xe) body (tb W))
    (hsu : ∀ (a : Addr) (oe : Obj) (cls : Value) (d : Option Addr) (pn : List (Addr × Obj)), Zc cls d oe → (∃ vs, oe.data = .fields vs) → PSs (X.suite a ((a, oe) :: pn)) (b₀ :: suite) (ts a cls d)) :
    PS X (.Try body [.ExceptHandler (some (.Name x np)) (some n) (b₀ :: suite) pos'] [] [] pos) (fun D σ H => tb (wKp X.K c i ts D) D σ H) := by
  refine ⟨fun pins s σ H D I h => wpAny_Try_except ?_⟩
  have aroundX : X.A.frames = some (X.env :: X.outer) := I.ok.frames.trans (congrArg some stk)
  have takeIt : Takes (X.tr (X.pn ++ pins) (fun e s₁ => wpAny (model X.prog X.w) X.A (noteFrame e X.env) (fun _ s₂ => wpAny (model X.prog X.w) X.A (setFlight e none) (fun _ s₃ =>
    wpAny (model X.prog X.w) X.A (handleBy e X.env [.ExceptHandler (some (.Name x np)) (some n) (b₀ :: suite) pos']) (SP X pins D) X.xe s₃) X.xe s₂) X.xe s₁)) (wKp X.K c i ts D) := by
    rintro _ sx ⟨a, B, sI, pl, σ1, H1, cls, d, rfl, J', inB, slots1, sky, freeA, osx, bareX, matches_, go⟩
    have J : Inv X pins σ1 H1 sI := J'.ofTry I.ok
    refine Sky.land (B := B) Zc.steady aroundX frm (by rw [← stk]; exact sky) fun hA flyA slotsA => ?_
    obtain ⟨oA, vA, getA, zA, dA⟩ := flyA.there
    have outside : a ∉ frs (X.env :: X.outer) := fun m => by
      obtain ⟨_, o', q1, q2⟩ := flyA.2.2.1.mem m
      rw [getA] at q1
      cases q1
      exact q2 _ dA
    have notL : a ≠ X.env.locals := fun z => outside (List.mem_filterMap.mpr ⟨X.env, List.mem_cons_self, frm.trans (congrArg some z.symm)⟩)
    have notF : a ∉ X.fs := fun m => outside (by
      obtain ⟨e, q1, q2⟩ := List.mem_filterMap.mp m
      exact List.mem_filterMap.mpr ⟨e, List.mem_cons_of_mem _ q1, q2⟩)
    -- ahead of the raise there was nothing at a
    have newI : sI.heap.get? a = none := by
      cases q : sI.heap.get? a with
      | none => rfl
      | some o =>
        have z := inB a o q (by
          show a ∉ frs X.stack
          rw [stk]
          exact outside)
        rw [flyA.2.1] at z
        cases z
    have new0 : X.s_0.heap.get? a = none := by
      cases q : X.s_0.heap.get? a with
      | none => rfl
      | some o =>
        by_cases hx : a ∈ X.ex
        · rw [noex] at hx
          cases hx
        · obtain ⟨o', z⟩ := J.base.there a o q hx
          rw [newI] at z
          cases z
    have newP : ∀ p ∈ X.pn ++ pins, p.1 ≠ a := fun p hp z => by
      have q := (J.pin p hp).1
      rw [z, newI] at q
      cases q
    have suiteAt : ∀ {h5 : Heap} {o5 : Obj} {v5 : Array Value}, B.StaysIn h5 → sx.heap.UpToSlots h5 → h5.get? a = some o5 → o5.data = .fields v5 → Inv (X.suite a ((a, o5) :: (X.pn ++ pins))) [] σ1 H1 { sx with heap := h5 } := fun st up g5 d5 =>
      (J.landed (s' := { sx with heap := _ }) inB st (slots1.trans up) osx bareX).suite g5 d5 freeA notL notF
    have S3 := suiteAt flyA.1 slotsA getA dA
    refine wpAny_handleBy_cons (codeAny_handlers_test ?_) (fun q => by cases q)
    have isIt := PySem.W.exm_one (M := model X.prog X.w) S3.kIn (fun A Q E s k q => wpAny_typeOf_ref (k _ _ getA) (by rw [zA.1]; exact q)) matches_
    have named : ∀ {Q : Value → Shared → Prop} {E : Value → Shared → Prop}, Q c { sx with heap := hA } → wpAny (model X.prog X.w) (X.A.mark (some (.ref a))) (eval (.Name x np) X.env) Q E { sx with heap := hA } := fun q => by
      rcases nm with ⟨g1, g2, m1 | ⟨m1, m2, m3⟩⟩
      · exact ld_glob (X := X.suite a ((a, oA) :: (X.pn ++ pins))) S3 g1 m1 q g2
      · exact ld_blt (X := X.suite a ((a, oA) :: (X.pn ++ pins))) S3 g1 m1 m2 q m3 g2
    refine named (isIt.here (codeAny_handlers_suite_as ?_))
    refine HandSPX.lands_againZ flyA fun hB flyB slotsB => ?_
    obtain ⟨oB, vB, getB, zB, dB⟩ := flyB.there
    refine store_ok (X := X.suite a ((a, oB) :: (X.pn ++ pins))) (v := .ref a) (suiteAt flyB.1 (slotsA.trans slotsB) getB dB) nd ix (.inl isl) rfl (fun s5 S5 => ?_) (.inr isl)
    refine wpAny_mono ((hsu a oB cls d (X.pn ++ pins) zB ⟨_, dB⟩).run [] s5 _ H1 _ S5 (go a oB freeA zB ⟨_, dB⟩)) (fun f s6 q6 => ?_) fun _ _ z => False.elim z
    cases f with
    | next =>
      obtain ⟨σ6, H6, S6, q7⟩ := q6
      obtain ⟨g6, n6, _⟩ := S6.pin (a, oB) (List.mem_append_left _ List.mem_cons_self)
      exact gone_ok (inv_adopt (S6.unsuite I.ok) g6 dB n6 notL new0 newP) nd ix isl fun s7 J7 => ⟨_, _, J7, q7⟩
    | brk => exact (show False from let ⟨_, _, _, z⟩ := q6; z).elim
    | cont => exact (show False from let ⟨_, _, _, z⟩ := q6; z).elim
    | ret u => exact (show False from let ⟨_, _, _, _, _, z⟩ := q6; z).elim
  have run := (hb (wKp X.K c i ts D) (X.pn ++ pins) _ takeIt PassesOwn.looking).run [] s σ H D (I.toTry _) h
  refine wpAny_mono run (fun f s1 q => ?_) fun _ _ z => z
  cases f with
  | next =>
    obtain ⟨σ', H', J, z⟩ := q
    exact wpAny_execs_nil ⟨σ', H', J.ofTry I.ok, z⟩
  | brk => exact let ⟨σ', H', J, z⟩ := q; ⟨σ', H', J.ofTry I.ok, z⟩
  | cont => exact let ⟨σ', H', J, z⟩ := q; ⟨σ', H', J.ofTry I.ok, z⟩
  | ret u => exact let ⟨v, σ', H', J, r, z⟩ := q; ⟨v, σ', H', J.ofTry I.ok, r, z⟩
end
end Ink

set_option Elab.async false
set_option linter.all false
set_option maxRecDepth 100000
set_option maxHeartbeats 1000000
/-! data as trees: a def's body read as a plain function of data -/
namespace Ink
open PySem PySem.Spec PyProof.Rows L2 GxR GenW
/-- data: what the program's values are, the heap forgotten. err: a caught error and its value; gen: the generator's list; own: the list that the def itself grows; frl: the script -/
inductive D where
  | non | bl (b : Bool) | int (i : Int) | str (x : Str) | lst (ds : List D) | tup (ds : List D) | dic (kvs : List (Key × Str)) | frl (ns : List Int) | err (k : Nat) (d : D) | gen | own
structure Pm where
  C : Nat → Addr
  T : List Addr
  K : PySem.W.Frag
/-- a list of numbers of the written part -/
def KW (K : PySem.W.Frag) (a : Addr) (ns : List Int) : Prop := ∃ (o : Obj) (its : Array Value) (n : Nat), K.lookup a = some o ∧ o.cls = .type "list" ∧ o.dict = none ∧ o.data = .seq its n ∧ its.size ≤ sizeLine ∧ Vals (ns.map V.int) its.toList
/-- B: lists that change; G: the generator's; O: the def's own -/
structure Wd where
  B : Addr → Prop
  G : Option Addr
  O : Option Addr
  gb : ∀ a, G = some a → B a
  ob : ∀ a, O = some a → B a
structure GS where
  g : Option (Int × Int × Int)
  own : Option (List D)
mutual
inductive Dq (M : Pm) (W : Wd) (H : Hp) : D → V → Prop
  | non : Dq M W H .non .non
  | bl (b : Bool) : Dq M W H (.bl b) (.bl b)
  | int (i : Int) : Dq M W H (.int i) (.int i)
  | str (x : Str) : Dq M W H (.str x) (.str x)
  | lst {a : Addr} {xs : List V} {ds : List D} : ¬ W.B a → H a = some (.lst xs) → DqA M W H ds xs → Dq M W H (.lst ds) (.ref a)
  | tup {a : Addr} {xs : List V} {ds : List D} : ¬ W.B a → H a = some (.tup xs) → DqA M W H ds xs → Dq M W H (.tup ds) (.ref a)
  | dic {a : Addr} {kvs : List (Key × Str)} : ¬ W.B a → H a = some (.dK (kvs.map fun p => (p.1, V.str p.2))) → Dq M W H (.dic kvs) (.ref a)
  | frl {a : Addr} {o : Obj} {ns : List Int} : ¬ W.B a → H a = some (.frz o (.lst (ns.map V.int))) → Dq M W H (.frl ns) (.ref a)
  | frk {a : Addr} {ns : List Int} : KW M.K a ns → Dq M W H (.frl ns) (.ref a)
  | err {a dx : Addr} {oe : Obj} {k : Nat} {d : D} {y : V} : ¬ W.B a → ¬ W.B dx → H a = some (exv a oe) → Zc (.ref (M.C k)) (some dx) oe → (∃ vs, oe.data = .fields vs) → H dx = some (.xd [(("value" : Str), y)]) → Dq M W H d y → Dq M W H (.err k d) (.ref a)
  | gen {a : Addr} : W.G = some a → Dq M W H .gen (.ref a)
  | own {a : Addr} : W.O = some a → Dq M W H .own (.ref a)
inductive DqA (M : Pm) (W : Wd) (H : Hp) : List D → List V → Prop
  | nil : DqA M W H [] []
  | cons {v : V} {vs : List V} {d : D} {ds : List D} : Dq M W H d v → DqA M W H ds vs → DqA M W H (d :: ds) (v :: vs)
end
/-- what stands stays, but for the lists that change and the tables -/
structure Rw (M : Pm) (W : Wd) (H H' : Hp) : Prop where
  keep : ∀ a o, W.G ≠ some a → W.O ≠ some a → H a = some o → (∀ ps, o ≠ .tbl ps) → H' a = some o
  dom : ∀ a, H a ≠ none → H' a ≠ none
  tab : ∀ P ∈ M.T, TabG H P → TabG H' P
section
variable {M : Pm} {W : Wd} {H H' H2 : Hp}
theorem Rw.refl (M : Pm) (W : Wd) (H : Hp) : Rw M W H H := ⟨fun _ _ _ _ h _ => h, fun _ h => h, fun _ _ h => h⟩
theorem Rw.trans (a : Rw M W H H') (b : Rw M W H' H2) : Rw M W H H2 := ⟨fun x o n m h t => b.keep x o n m (a.keep x o n m h t) t, fun x h => b.dom x (a.dom x h), fun P m h => b.tab P m (a.tab P m h)⟩
theorem Rw.free (a : Rw M W H H') {p : Addr} (h : H' p = none) : H p = none := by
  cases q : H p with
  | none => rfl
  | some o => exact absurd h (a.dom p (by rw [q]; exact fun z => by cases z))
theorem tabG_some {H : Hp} {P : Addr} (h : TabG H P) : ∃ ps, H P = some (.tbl ps) := let ⟨ps, e, _⟩ := h; ⟨ps, e⟩
theorem Rw.new {p : Addr} {o : HO} (h : H p = none) : Rw M W H (upd H p o) := by
  refine ⟨fun a u _ _ e _ => ?_, fun a e => ?_, fun P m t => ?_⟩
  · rw [upd_ne (ne_of_none e h)]
    exact e
  · unfold upd
    split
    · exact fun z => by cases z
    · exact e
  · obtain ⟨ps, e, q⟩ := t
    exact ⟨ps, by rw [upd_ne (ne_of_none e h)]; exact e, q⟩
/-- a place that was not there -/
theorem Rw.put {p : Addr} {o : HO} (R : Rw M W H H') (h : H p = none) : Rw M W H (upd H' p o) := by
  refine ⟨fun a u n n' e nt => ?_, fun a e => ?_, fun P m t => ?_⟩
  · rw [upd_ne (ne_of_none e h)]
    exact R.keep a u n n' e nt
  · unfold upd
    split
    · exact fun z => by cases z
    · exact R.dom a e
  · obtain ⟨ps, e, q⟩ := R.tab P m t
    obtain ⟨_, e', _⟩ := t
    exact ⟨ps, by rw [upd_ne (ne_of_none e' h)]; exact e, q⟩
/-- a list that changes -/
theorem Rw.mut {p : Addr} {xs : List V} {o : HO} (b : W.G = some p ∨ W.O = some p) (h : H p = some (.lst xs)) : Rw M W H (upd H p o) := by
  refine ⟨fun a u n n' e _ => ?_, fun a e => ?_, fun P m t => ?_⟩
  · rw [upd_ne (fun z => by rw [z] at n n'; exact b.elim n n')]
    exact e
  · unfold upd
    split
    · exact fun z => by cases z
    · exact e
  · obtain ⟨ps, e, q⟩ := t
    exact ⟨ps, by rw [upd_ne (fun z => by rw [z, h] at e; cases e)]; exact e, q⟩
theorem Rw.tabbed {P : Addr} (t : Tabbed P H H') (h : TabG H P) : Rw M W H H' := by
  obtain ⟨ps, e, _⟩ := h
  refine ⟨fun a u _ _ q nt => ?_, fun a q => ?_, fun P' m t' => ?_⟩
  · by_cases z : a = P
    · rw [z, e] at q
      cases q
      exact absurd rfl (nt ps)
    · rw [t.2 a z]
      exact q
  · by_cases z : a = P
    · obtain ⟨ps', e', _⟩ := t.1
      rw [z, e']
      exact fun y => by cases y
    · rw [t.2 a z]
      exact q
  · by_cases z : P' = P
    · rw [z]
      exact t.1
    · obtain ⟨ps', e', q⟩ := t'
      exact ⟨ps', by rw [t.2 _ z]; exact e', q⟩
mutual
theorem Dq.up (u : Rw M W H H') : ∀ (d : D) (v : V), Dq M W H d v → Dq M W H' d v
  | .non, _, h => by cases h; exact .non
  | .bl _, _, h => by cases h; exact .bl _
  | .int _, _, h => by cases h; exact .int _
  | .str _, _, h => by cases h; exact .str _
  | .lst ds, _, h => by
    cases h with
    | lst n e a => exact .lst n (u.keep _ _ (fun z => n (W.gb _ z)) (fun z => n (W.ob _ z)) e fun _ z => by cases z) (DqA.up u ds _ a)
  | .tup ds, _, h => by
    cases h with
    | tup n e a => exact .tup n (u.keep _ _ (fun z => n (W.gb _ z)) (fun z => n (W.ob _ z)) e fun _ z => by cases z) (DqA.up u ds _ a)
  | .dic _, _, h => by
    cases h with
    | dic n e => exact .dic n (u.keep _ _ (fun z => n (W.gb _ z)) (fun z => n (W.ob _ z)) e fun _ z => by cases z)
  | .frl _, _, h => by
    cases h with
    | frl n e => exact .frl n (u.keep _ _ (fun z => n (W.gb _ z)) (fun z => n (W.ob _ z)) e fun _ z => by cases z)
    | frk e => exact .frk e
  | .err _ d, _, h => by
    cases h with
    | err n m e z y f a => exact .err n m (u.keep _ _ (fun z => n (W.gb _ z)) (fun z => n (W.ob _ z)) e fun _ z => by cases z) z y (u.keep _ _ (fun z => m (W.gb _ z)) (fun z => m (W.ob _ z)) f fun _ z => by cases z) (Dq.up u d _ a)
  | .gen, _, h => by
    cases h with
    | gen e => exact .gen e
  | .own, _, h => by
    cases h with
    | own e => exact .own e
theorem DqA.up (u : Rw M W H H') : ∀ (ds : List D) (vs : List V), DqA M W H ds vs → DqA M W H' ds vs
  | [], _, h => by cases h; exact .nil
  | d :: ds, _, h => by
    cases h with
    | cons a b => exact .cons (Dq.up u d _ a) (DqA.up u ds _ b)
end
end
-- what data does not touch may change
mutual
theorem Dq.but {M : Pm} {W : Wd} {H H' : Hp} (u : ∀ a, ¬ W.B a → H' a = H a) : ∀ (d : D) (v : V), Dq M W H d v → Dq M W H' d v
  | .non, _, h => by cases h; exact .non
  | .bl _, _, h => by cases h; exact .bl _
  | .int _, _, h => by cases h; exact .int _
  | .str _, _, h => by cases h; exact .str _
  | .lst ds, _, h => by
    cases h with
    | lst n e a => exact .lst n ((u _ n).trans e) (DqA.but u ds _ a)
  | .tup ds, _, h => by
    cases h with
    | tup n e a => exact .tup n ((u _ n).trans e) (DqA.but u ds _ a)
  | .dic _, _, h => by
    cases h with
    | dic n e => exact .dic n ((u _ n).trans e)
  | .frl _, _, h => by
    cases h with
    | frl n e => exact .frl n ((u _ n).trans e)
    | frk e => exact .frk e
  | .err _ d, _, h => by
    cases h with
    | err n m e z y f a => exact .err n m ((u _ n).trans e) z y ((u _ m).trans f) (Dq.but u d _ a)
  | .gen, _, h => by
    cases h with
    | gen e => exact .gen e
  | .own, _, h => by
    cases h with
    | own e => exact .own e
theorem DqA.but {M : Pm} {W : Wd} {H H' : Hp} (u : ∀ a, ¬ W.B a → H' a = H a) : ∀ (ds : List D) (vs : List V), DqA M W H ds vs → DqA M W H' ds vs
  | [], _, h => by cases h; exact .nil
  | d :: ds, _, h => by
    cases h with
    | cons a b => exact .cons (Dq.but u d _ a) (DqA.but u ds _ b)
end
/-- the same data in another world of the same heap -/
structure Wto (W W' : Wd) (H : Hp) : Prop where
  b : ∀ a, W'.B a → W.B a ∨ H a = none
  g : ∀ a, W.G = some a → W'.G = some a
  o : ∀ a, W.O = some a → W'.O = some a
mutual
theorem Dq.to {M : Pm} {W W' : Wd} {H : Hp} (u : Wto W W' H) : ∀ (d : D) (v : V), Dq M W H d v → Dq M W' H d v
  | .non, _, h => by cases h; exact .non
  | .bl _, _, h => by cases h; exact .bl _
  | .int _, _, h => by cases h; exact .int _
  | .str _, _, h => by cases h; exact .str _
  | .lst ds, _, h => by
    cases h with
    | lst n e a => exact .lst (fun z => (u.b _ z).elim n fun q => by rw [q] at e; cases e) e (DqA.to u ds _ a)
  | .tup ds, _, h => by
    cases h with
    | tup n e a => exact .tup (fun z => (u.b _ z).elim n fun q => by rw [q] at e; cases e) e (DqA.to u ds _ a)
  | .dic _, _, h => by
    cases h with
    | dic n e => exact .dic (fun z => (u.b _ z).elim n fun q => by rw [q] at e; cases e) e
  | .frl _, _, h => by
    cases h with
    | frl n e => exact .frl (fun z => (u.b _ z).elim n fun q => by rw [q] at e; cases e) e
    | frk e => exact .frk e
  | .err _ d, _, h => by
    cases h with
    | err n m e z y f a => exact .err (fun z => (u.b _ z).elim n fun q => by rw [q] at e; cases e) (fun z => (u.b _ z).elim m fun q => by rw [q] at f; cases f) e z y f (Dq.to u d _ a)
  | .gen, _, h => by
    cases h with
    | gen e => exact .gen (u.g _ e)
  | .own, _, h => by
    cases h with
    | own e => exact .own (u.o _ e)
theorem DqA.to {M : Pm} {W W' : Wd} {H : Hp} (u : Wto W W' H) : ∀ (ds : List D) (vs : List V), DqA M W H ds vs → DqA M W' H ds vs
  | [], _, h => by cases h; exact .nil
  | d :: ds, _, h => by
    cases h with
    | cons a b => exact .cons (Dq.to u d _ a) (DqA.to u ds _ b)
end
-- no token within
mutual
def D.clean : D → Bool
  | .lst ds => cleanA ds
  | .tup ds => cleanA ds
  | .err _ d => d.clean
  | .gen => false
  | .own => false
  | _ => true
def cleanA : List D → Bool
  | [] => true
  | d :: ds => d.clean && cleanA ds
end
mutual
theorem Dq.back {M : Pm} {W W' : Wd} {H : Hp} (u : ∀ a, W'.B a → W.B a) : ∀ (d : D) (v : V), d.clean = true → Dq M W H d v → Dq M W' H d v
  | .non, _, _, h => by cases h; exact .non
  | .bl _, _, _, h => by cases h; exact .bl _
  | .int _, _, _, h => by cases h; exact .int _
  | .str _, _, _, h => by cases h; exact .str _
  | .lst ds, _, c, h => by
    cases h with
    | lst n e a => exact .lst (fun z => n (u _ z)) e (DqA.back u ds _ (by simpa [D.clean] using c) a)
  | .tup ds, _, c, h => by
    cases h with
    | tup n e a => exact .tup (fun z => n (u _ z)) e (DqA.back u ds _ (by simpa [D.clean] using c) a)
  | .dic _, _, _, h => by
    cases h with
    | dic n e => exact .dic (fun z => n (u _ z)) e
  | .frl _, _, _, h => by
    cases h with
    | frl n e => exact .frl (fun z => n (u _ z)) e
    | frk e => exact .frk e
  | .err _ d, _, c, h => by
    cases h with
    | err n m e z y f a => exact .err (fun z => n (u _ z)) (fun z => m (u _ z)) e z y f (Dq.back u d _ (by simpa [D.clean] using c) a)
  | .gen, _, c, _ => by simp [D.clean] at c
  | .own, _, c, _ => by simp [D.clean] at c
theorem DqA.back {M : Pm} {W W' : Wd} {H : Hp} (u : ∀ a, W'.B a → W.B a) : ∀ (ds : List D) (vs : List V), cleanA ds = true → DqA M W H ds vs → DqA M W' H ds vs
  | [], _, _, h => by cases h; exact .nil
  | d :: ds, _, c, h => by
    have c' : d.clean = true ∧ cleanA ds = true := by simpa [cleanA] using c
    cases h with
    | cons a b => exact .cons (Dq.back u d _ c'.1 a) (DqA.back u ds _ c'.2 b)
end
section
variable {M : Pm} {W : Wd} {H H' : Hp}
theorem DqA.length : ∀ {ds : List D} {vs : List V}, DqA M W H ds vs → ds.length = vs.length
  | _, _, .nil => rfl
  | _, _, .cons _ t => congrArg (· + 1) (DqA.length t)
theorem DqA.get : ∀ {ds : List D} {vs : List V} {i : Nat} {d : D}, DqA M W H ds vs → ds[i]? = some d → ∃ v, vs[i]? = some v ∧ Dq M W H d v
  | _, _, 0, d, .cons h _, e => by
    cases (Option.some.inj e)
    exact ⟨_, rfl, h⟩
  | _, _, i + 1, d, .cons _ t, e => DqA.get (i := i) t e
  | _, _, _, _, .nil, e => by cases e
theorem DqA.get' : ∀ {ds : List D} {vs : List V} {i : Nat} {v : V}, DqA M W H ds vs → vs[i]? = some v → ∃ d, ds[i]? = some d ∧ Dq M W H d v
  | _, _, 0, d, .cons h _, e => by
    cases (Option.some.inj e)
    exact ⟨_, rfl, h⟩
  | _, _, i + 1, d, .cons _ t, e => DqA.get' (i := i) t e
  | _, _, _, _, .nil, e => by cases e
theorem DqA.app : ∀ {ds es : List D} {vs us : List V}, DqA M W H ds vs → DqA M W H es us → DqA M W H (ds ++ es) (vs ++ us)
  | _, _, _, _, .nil, h => h
  | _, _, _, _, .cons a t, h => .cons a (DqA.app t h)
theorem DqA.take : ∀ {ds : List D} {vs : List V} (n : Nat), DqA M W H ds vs → DqA M W H (ds.take n) (vs.take n)
  | _, _, 0, _ => .nil
  | _, _, _ + 1, .nil => .nil
  | _, _, n + 1, .cons a t => .cons a (DqA.take n t)
theorem DqA.drop : ∀ {ds : List D} {vs : List V} (n : Nat), DqA M W H ds vs → DqA M W H (ds.drop n) (vs.drop n)
  | _, _, 0, h => h
  | _, _, _ + 1, .nil => .nil
  | _, _, n + 1, .cons _ t => DqA.drop n t
theorem DqA.rev : ∀ {ds : List D} {vs : List V}, DqA M W H ds vs → DqA M W H ds.reverse vs.reverse
  | _, _, .nil => .nil
  | _, _, .cons a t => by
    rw [List.reverse_cons, List.reverse_cons]
    exact DqA.app (DqA.rev t) (.cons a .nil)
theorem DqA.ints : ∀ (ns : List Int), DqA M W H (ns.map D.int) (ns.map V.int)
  | [] => .nil
  | _ :: ns => .cons (.int _) (DqA.ints ns)
/-- what stands of the world -/
structure St1 (M : Pm) (W : Wd) (s : GS) (H : Hp) : Prop where
  dom : ∀ a, W.B a → H a ≠ none
  tab : ∀ P ∈ M.T, TabG H P
  g : match W.G, s.g with
    | none, none => True
    | some a, some (x, y, z) => W.B a ∧ H a = some (.lst [.int x, .int y, .int z])
    | _, _ => False
  o : match W.O, s.own with
    | none, none => True
    | some p, some ds => W.B p ∧ ∃ xs, H p = some (.lst xs) ∧ DqA M W H ds xs
    | _, _ => False
  ne : ∀ a, W.G = some a → W.O ≠ some a
theorem St1.fresh {s : GS} (I : St1 M W s H) {p : Addr} (h : H p = none) : ¬ W.B p := fun z => I.dom p z h
/-- a new object, a table that grows -/
theorem St1.grow {s : GS} (I : St1 M W s H) (u : Rw M W H H') (k : ∀ a xs, H a = some (.lst xs) → H' a = some (.lst xs)) : St1 M W s H' := by
  refine ⟨fun a b => u.dom a (I.dom a b), fun P m => u.tab P m (I.tab P m), ?_, ?_, I.ne⟩
  · have h := I.g
    cases hg : W.G with
    | none =>
      cases hs : s.g with
      | none => trivial
      | some t => rw [hg, hs] at h; exact h
    | some a =>
      cases hs : s.g with
      | none => rw [hg, hs] at h; exact h
      | some t =>
        obtain ⟨x, y, z⟩ := t
        rw [hg, hs] at h
        exact ⟨h.1, k a _ h.2⟩
  · have h := I.o
    cases hg : W.O with
    | none =>
      cases hs : s.own with
      | none => trivial
      | some t => rw [hg, hs] at h; exact h
    | some a =>
      cases hs : s.own with
      | none => rw [hg, hs] at h; exact h
      | some t =>
        rw [hg, hs] at h
        obtain ⟨h1, xs, h2, h3⟩ := h
        exact ⟨h1, xs, k a _ h2, DqA.up u _ _ h3⟩
theorem St1.new {s : GS} (I : St1 M W s H) {p : Addr} {o : HO} (h : H p = none) : St1 M W s (upd H p o) := I.grow (.new h) fun a xs e => by
  rw [upd_ne (ne_of_none e h)]
  exact e
theorem St1.tabbed {s : GS} (I : St1 M W s H) {P : Addr} (t : Tabbed P H H') (h : TabG H P) : St1 M W s H' := I.grow (.tabbed t h) fun a xs e => by
  obtain ⟨ps, q, _⟩ := h
  rw [t.2 a fun z => by rw [z, q] at e; cases e]
  exact e
end
/-- the slots -/
def En (M : Pm) (W : Wd) (H : Hp) (σ : L2.St) (env : List (Option D)) : Prop := σ.length = env.length ∧ ∀ (i : Nat) (d : D), env[i]? = some (some d) → ∃ v : V, (σ : List (Option V))[i]? = some (some v) ∧ Dq M W H d v
section
variable {M : Pm} {W : Wd} {H H' : Hp} {σ : L2.St} {env : List (Option D)}
theorem En.up (u : Rw M W H H') (h : En M W H σ env) : En M W H' σ env := ⟨h.1, fun i d e => let ⟨v, q, r⟩ := h.2 i d e; ⟨v, q, r.up u d v⟩⟩
theorem En.set (h : En M W H σ env) (i : Nat) {d : D} {v : V} (q : Dq M W H d v) : En M W H (σ.set i (some v)) (env.set i (some d)) := by
  refine ⟨by rw [List.length_set, List.length_set]; exact h.1, fun j e hj => ?_⟩
  by_cases z : i = j
  · subst z
    by_cases hl : i < env.length
    · rw [List.getElem?_set_self hl] at hj
      cases hj
      exact ⟨v, List.getElem?_set_self (by rw [h.1]; exact hl), q⟩
    · rw [List.getElem?_eq_none (by rw [List.length_set]; omega)] at hj
      cases hj
  · rw [List.getElem?_set_ne z] at hj
    rw [List.getElem?_set_ne z]
    exact h.2 j e hj
theorem En.unset (h : En M W H σ env) (i : Nat) {x : Option V} : En M W H (σ.set i x) (env.set i none) := by
  refine ⟨by rw [List.length_set, List.length_set]; exact h.1, fun j e hj => ?_⟩
  by_cases z : i = j
  · subst z
    by_cases hl : i < env.length
    · rw [List.getElem?_set_self hl] at hj
      cases hj
    · rw [List.getElem?_eq_none (by rw [List.length_set]; omega)] at hj
      cases hj
  · rw [List.getElem?_set_ne z] at hj
    rw [List.getElem?_set_ne z]
    exact h.2 j e hj
/-- the slots forgotten -/
def wipeD (env : List (Option D)) : List Nat → List (Option D)
  | [] => env
  | v :: vs => (wipeD env vs).set v none
theorem En.wipe (h : En M W H σ env) : ∀ vs : List Nat, En M W H (L2.wipe σ vs) (wipeD env vs)
  | [] => h
  | v :: vs => (En.wipe h vs).unset v
theorem En.to {W' : Wd} (h : En M W H σ env) (u : Wto W W' H) : En M W' H σ env := ⟨h.1, fun i d e => let ⟨v, q, r⟩ := h.2 i d e; ⟨v, q, r.to u d v⟩⟩
end
/-! ### answers -/
inductive Rs (α : Type) where
  | ok (a : α)
  | er (k : Nat) (d : D)
abbrev Mo (α : Type) := GS → Option (Rs α × GS)
def Mo.pure {α : Type} (a : α) : Mo α := fun s => some (.ok a, s)
def Mo.ofO {α : Type} (o : Option α) : Mo α := fun s => match o with
  | some a => some (.ok a, s)
  | none => none
def Mo.bind {α β : Type} (x : Mo α) (f : α → Mo β) : Mo β := fun s => match x s with
  | some (.ok a, s1) => f a s1
  | some (.er k d, s1) => some (.er k d, s1)
  | none => none
abbrev Envd := List (Option D)
abbrev ME := Envd → Mo D
abbrev MT := Envd → Mo Bool
abbrev MA := Envd → Mo (List D)
/-- an answer's use: ok: P; an error: what is wished -/
def Ru (M : Pm) (W : Wd) (Wx : Value → Option Addr → Hp → Prop) (H : Hp) {α : Type} (x : Option (Rs α × GS)) (P : α → GS → Hp → Prop) : Prop := ∃ r s', x = some (r, s') ∧ match r with
  | .ok a => ∀ H', Rw M W H H' → St1 M W s' H' → P a s' H'
  | .er k d => ∀ H' dx v, Rw M W H H' → St1 M W s' H' → H dx = none → H' dx = some (.xd [(("value" : Str), v)]) → Dq M W H' d v → Wx (.ref (M.C k)) (some dx) H'
section
variable {M : Pm} {W : Wd} {Wx : Value → Option Addr → Hp → Prop} {H : Hp} {α β : Type}
theorem Ru.bind {x : Mo α} {f : α → Mo β} {s : GS} {P : β → GS → Hp → Prop} (h : Ru M W Wx H (x.bind f s) P) : Ru M W Wx H (x s) fun a s1 H1 => Ru M W Wx H1 (f a s1) P := by
  obtain ⟨r, s', e, q⟩ := h
  unfold Mo.bind at e
  cases hx : x s with
  | none => rw [hx] at e; cases e
  | some p =>
    obtain ⟨rx, s1⟩ := p
    rw [hx] at e
    cases rx with
    | ok a =>
      refine ⟨.ok a, s1, rfl, fun H1 R1 _ => ⟨r, s', e, ?_⟩⟩
      cases r with
      | ok b => exact fun H2 R2 I2 => q H2 (R1.trans R2) I2
      | er k d => exact fun H2 dx v R2 I2 n1 e1 q1 => q H2 dx v (R1.trans R2) I2 (R1.free n1) e1 q1
    | er k d =>
      cases e
      exact ⟨.er k d, s', rfl, q⟩
theorem Ru.mono {x : Option (Rs α × GS)} {P P' : α → GS → Hp → Prop} (h : Ru M W Wx H x P) (f : ∀ a s' H', Rw M W H H' → St1 M W s' H' → P a s' H' → P' a s' H') : Ru M W Wx H x P' := by
  obtain ⟨r, s', e, q⟩ := h
  refine ⟨r, s', e, ?_⟩
  cases r with
  | ok a => exact fun H' R I => f a s' H' R I (q H' R I)
  | er k d => exact q
theorem Ru.pure {a : α} {s : GS} {P : α → GS → Hp → Prop} (h : Ru M W Wx H (Mo.pure a s) P) (I : St1 M W s H) : P a s H := by
  obtain ⟨r, s', e, q⟩ := h
  cases e
  exact q H (.refl M W H) I
theorem Ru.ofO {o : Option α} {s : GS} {P : α → GS → Hp → Prop} (h : Ru M W Wx H (Mo.ofO o s) P) : ∃ a, o = some a ∧ ∀ H', Rw M W H H' → St1 M W s H' → P a s H' := by
  obtain ⟨r, s', e, q⟩ := h
  unfold Mo.ofO at e
  cases o with
  | none => cases e
  | some a =>
    cases e
    exact ⟨a, rfl, q⟩
end
/-! ### the judgements: a piece of syntax and the function of data that it is -/
def tM (M : Pm) (Wx : WX) (m : ME) : TE := fun σ H Q => ∃ W s env, St1 M W s H ∧ En M W H σ env ∧ Ru M W (fun c dx H' => Wx c dx σ H') H (m env s) fun d s' H' => ∀ v, Dq M W H' d v → Q v H'
def tMA (M : Pm) (Wx : WX) (m : MA) : TA := fun σ H Q => ∃ W s env, St1 M W s H ∧ En M W H σ env ∧ Ru M W (fun c dx H' => Wx c dx σ H') H (m env s) fun ds s' H' => ∀ vs, DqA M W H' ds vs → Q vs H'
def tMT (M : Pm) (Wx : WX) (m : MT) : TT := fun σ H Q => ∃ W s env, St1 M W s H ∧ En M W H σ env ∧ Ru M W (fun c dx H' => Wx c dx σ H') H (m env s) fun b s' H' => Q b H'
/-- as tM, the answer a list that is new -/
def tMF (M : Pm) (Wx : WX) (m : ME) : TE := fun σ H Q => ∃ W s env, St1 M W s H ∧ En M W H σ env ∧ Ru M W (fun c dx H' => Wx c dx σ H') H (m env s) fun d s' H' => ∀ p xs ds, d = .lst ds → H p = none → H' p = some (.lst xs) → DqA M W H' ds xs → Q (.ref p) H'
inductive Fl where
  | nx (env : Envd)
  | rt (d : D)
abbrev MS := Envd → Mo Fl
def sM (M : Pm) (E : XK) (m : MS) : TS := fun D σ H => ∃ W s env, St1 M W s H ∧ En M W H σ env ∧ Ru M W E H (m env s) fun f s' H' => match f with
  | .nx env' => ∀ σ', En M W H' σ' env' → D.nx σ' H'
  | .rt d => ∀ v, Dq M W H' d v → D.rt v H'
/-- the wish of a def's body -/
abbrev cW (E : XK) : WX := fun c d _ H => E c d H
/-- no error is let out -/
abbrev W0 : WX := fun _ _ _ _ => False
/-- an error can't be -/
def noEr {α : Type} (x : Mo α) : Mo α := fun s => match x s with
  | some (.ok a, s1) => some (.ok a, s1)
  | _ => none
theorem Ru.noEr {M : Pm} {W : Wd} {Wx Wy : Value → Option Addr → Hp → Prop} {H : Hp} {α : Type} {x : Mo α} {s : GS} {P : α → GS → Hp → Prop} (h : Ru M W Wx H (noEr x s) P) : Ru M W Wy H (x s) P := by
  obtain ⟨r, s', e, q⟩ := h
  unfold Ink.noEr at e
  cases hx : x s with
  | none => rw [hx] at e; cases e
  | some p =>
    obtain ⟨rx, s1⟩ := p
    rw [hx] at e
    cases rx with
    | ok a =>
      cases e
      exact ⟨.ok a, _, rfl, q⟩
    | er k d => cases e
theorem _root_.L2.PE.imp {X : Cx} {e : Expr} {t t' : TE} (h : PE X e t) (f : ∀ σ H Q, t' σ H Q → t σ H Q) : PE X e t' := ⟨fun pins s σ H Q I q => h.run pins s σ H Q I (f σ H Q q)⟩
theorem _root_.L2.PT.imp {X : Cx} {e : Expr} {t t' : TT} (h : PT X e t) (f : ∀ σ H Q, t' σ H Q → t σ H Q) : PT X e t' := ⟨fun pins s σ H Q I q => h.run pins s σ H Q I (f σ H Q q)⟩
theorem _root_.L2.PW.imp {X : Cx} {e : Expr} {t t' : TT} (h : PW X e t) (f : ∀ σ H Q, t' σ H Q → t σ H Q) : PW X e t' := ⟨fun whole pins s σ H Q I q => h.run whole pins s σ H Q I (f σ H Q q)⟩
theorem _root_.L2.PA.imp {X : Cx} {e : List Expr} {t t' : TA} (h : PA X e t) (f : ∀ σ H Q, t' σ H Q → t σ H Q) : PA X e t' := ⟨fun pos pins s σ H Q I q => h.run pos pins s σ H Q I (f σ H Q q)⟩
theorem _root_.L2.PS.imp {X : Cx} {e : Stmt} {t t' : TS} (h : PS X e t) (f : ∀ D σ H, t' D σ H → t D σ H) : PS X e t' := ⟨fun pins s σ H D I q => h.run pins s σ H D I (f D σ H q)⟩
theorem _root_.L2.PSs.imp {X : Cx} {e : List Stmt} {t t' : TS} (h : PSs X e t) (f : ∀ D σ H, t' D σ H → t D σ H) : PSs X e t' := ⟨fun pins s σ H D I q => h.run pins s σ H D I (f D σ H q)⟩
end Ink

set_option Elab.async false
set_option linter.all false
set_option maxRecDepth 100000
set_option maxHeartbeats 1000000
/-! rules: names, constants, operators, tests, displays -/
namespace Ink
open PySem PySem.Spec PyProof.Rows L2 GxR GenW
section
variable {M : Pm} {W : Wd} {H H' : Hp}
mutual
def D.pl : D → Bool
  | .non => true | .bl _ => true | .int _ => true | .str _ => true
  | .lst ds => plA ds
  | .tup ds => plA ds
  | _ => false
def plA : List D → Bool
  | [] => true
  | d :: ds => d.pl && plA ds
end
mutual
def D.py : D → PyData
  | .non => .none | .bl b => .bool b | .int i => .int i | .str x => .str x
  | .lst ds => .list (pyA ds)
  | .tup ds => .tuple (pyA ds)
  | .dic _ => .dict []
  | _ => .none
def pyA : List D → List PyData
  | [] => []
  | d :: ds => d.py :: pyA ds
end
mutual
theorem Dq.dp {K : PySem.W.Frag} : ∀ (d : D) (v : V), d.pl = true → Dq M W H d v → Dp K H v d.py
  | .non, _, _, h => by cases h; exact .non
  | .bl _, _, _, h => by cases h; exact .bl _
  | .int _, _, _, h => by cases h; exact .int _
  | .str _, _, _, h => by cases h; exact .str _
  | .lst ds, _, c, h => by
    cases h with
    | lst n e a => exact .lst (SqL.of e) (DqA.dp ds _ (by simpa [D.pl] using c) a)
  | .tup ds, _, c, h => by
    cases h with
    | tup n e a => exact .tup (SqT.of e) (DqA.dp ds _ (by simpa [D.pl] using c) a)
  | .dic _, _, c, _ => by simp [D.pl] at c
  | .frl _, _, c, _ => by simp [D.pl] at c
  | .err _ _, _, c, _ => by simp [D.pl] at c
  | .gen, _, c, _ => by simp [D.pl] at c
  | .own, _, c, _ => by simp [D.pl] at c
theorem DqA.dp {K : PySem.W.Frag} : ∀ (ds : List D) (vs : List V), plA ds = true → DqA M W H ds vs → DpAll K H vs (pyA ds)
  | [], _, _, h => by cases h; exact .nil
  | d :: ds, _, c, h => by
    have c' : d.pl = true ∧ plA ds = true := by simpa [plA] using c
    cases h with
    | cons a b => exact .cons (Dq.dp d _ c'.1 a) (DqA.dp ds _ c'.2 b)
end
def D.eqOk (d : D) : Bool := d.pl && SeqAt.shaped d.py
def eqD (x y : D) : Option D := if (x.eqOk && y.eqOk) = true then some (.bl (PyData.eqv x.py y.py)) else none
def neD (x y : D) : Option D := if (x.eqOk && y.eqOk) = true then some (.bl (!PyData.eqv x.py y.py)) else none
def addD : D → D → Option D
  | .int i, .int j => some (.int (i + j))
  | .str i, .str j => if i.length + j.length ≤ 100000 then some (.str (i ++ j)) else none
  | .lst i, .lst j => if i.length + j.length ≤ 100000 then some (.lst (i ++ j)) else none
  | _, _ => none
def subD : D → D → Option D
  | .int i, .int j => some (.int (i - j))
  | _, _ => none
def mulD : D → D → Option D
  | .int i, .int j => if (-(2 ^ 64) < i ∧ i < 2 ^ 64) ∨ (-(2 ^ 64) < j ∧ j < 2 ^ 64) then some (.int (i * j)) else none
  | .lst i, .int j => if 0 ≤ j ∧ j ≤ 1000 ∧ i.length ≤ 100 then some (.lst (List.replicate j.toNat i).flatten) else none
  | _, _ => none
def modD : D → D → Option D
  | .int i, .int j => if j ≠ 0 then some (.int (i.fmod j)) else none
  | _, _ => none
def divD : D → D → Option D
  | .int i, .int j => if j ≠ 0 ∧ j.natAbs < 1073741824 then some (.int (i.fdiv j)) else none
  | _, _ => none
def ltD : D → D → Option D
  | .int i, .int j => some (.bl (decide (i < j)))
  | _, _ => none
def leD : D → D → Option D
  | .int i, .int j => some (.bl (decide (i ≤ j)))
  | _, _ => none
def gtD : D → D → Option D
  | .int i, .int j => some (.bl (decide (j < i)))
  | _, _ => none
def inD : D → D → Option D
  | .str i, .str j => some (.bl (!(Builtin.Str.occurrences j i 0 j.length 1).isEmpty))
  | _, _ => none
def notInD : D → D → Option D
  | .str i, .str j => some (.bl (!(!(Builtin.Str.occurrences j i 0 j.length 1).isEmpty)))
  | _, _ => none
/-- is: of None, of bools -/
def isD : D → D → Option D
  | .non, .non => some (.bl true)
  | .bl _, .non => some (.bl false)
  | .int _, .non => some (.bl false)
  | .str _, .non => some (.bl false)
  | .lst _, .non => some (.bl false)
  | .tup _, .non => some (.bl false)
  | .dic _, .non => some (.bl false)
  | .err _ _, .non => some (.bl false)
  | .bl a, .bl b => some (.bl (decide (a = b)))
  | _, _ => none
/-- the index of a sequence -/
def ixD : D → D → Option D
  | .lst ds, .int i => atI ds i
  | .tup ds, .int i => atI ds i
  | .frl ns, .int i => (atI ns i).map D.int
  | .str z, .int i => if z.length ≤ 100000 then (atI z.cps.toList i).map fun c => D.str ⟨#[c]⟩ else none
  | _, _ => none
/-- of values -/
def rM (M : Pm) (f : D → D → Option D) : R2 := fun v u H Q => ∃ W s x y z, St1 M W s H ∧ Dq M W H x v ∧ Dq M W H y u ∧ f x y = some z ∧ ∀ H' w, Rw M W H H' → St1 M W s H' → Dq M W H' z w → Q w H'
def rMF (M : Pm) (f : D → D → Option D) : R2 := fun v u H Q => ∃ W s x y z, St1 M W s H ∧ Dq M W H x v ∧ Dq M W H y u ∧ f x y = some z ∧ ∀ H' p xs ds, Rw M W H H' → St1 M W s H' → z = .lst ds → H p = none → H' p = some (.lst xs) → DqA M W H' ds xs → Q (.ref p) H'
end
theorem sz5 {n : Nat} (h : n ≤ 100000) : n ≤ sizeLine := Nat.le_trans h (by decide)
theorem DqA.atI {M : Pm} {W : Wd} {H : Hp} {ds : List D} {vs : List V} {i : Int} {d : D} (a : DqA M W H ds vs) (e : L2.atI ds i = some d) : ∃ v, L2.atI vs i = some v ∧ Dq M W H d v := by
  unfold L2.atI at e ⊢
  rw [← a.length]
  cases q : ixN ds.length i with
  | none => rw [q] at e; cases e
  | some j =>
    rw [q] at e
    exact a.get e
section
variable {X : Cx} {M : Pm}
theorem opM_add : OpR X (binaryOp .Add) (rM M addD) := by
  intro pins s σ H v u v' u' Q I rx ry h
  obtain ⟨W, g, x, y, z, J, hx, hy, e, q⟩ := h
  unfold addD at e
  split at e
  · cases e
    cases hx
    cases hy
    exact op_add pins s σ H _ _ _ _ Q I rx ry ⟨_, _, rfl, rfl, q H _ (.refl M W H) J (.int _)⟩
  · split at e
    · rename_i h1
      cases e
      cases hx
      cases hy
      exact op_add_str pins s σ H _ _ _ _ Q I rx ry ⟨_, _, rfl, rfl, sz5 h1, q H _ (.refl M W H) J (.str _)⟩
    · cases e
  · split at e
    · rename_i h1
      cases e
      cases hx with
      | lst nx ex ax =>
        cases hy with
        | lst ny ey ay =>
          refine op_cat pins s σ H _ _ _ _ Q I rx ry ⟨_, _, _, _, rfl, rfl, ex, ey, by rw [← ax.length, ← ay.length]; exact sz5 h1, fun p hp => ?_⟩
          exact q _ _ (.new hp) (J.new hp) (.lst (J.fresh hp) upd_same (DqA.up (.new hp) _ _ (ax.app ay)))
    · cases e
  · cases e
theorem opM_sub : OpR X (binaryOp .Sub) (rM M subD) := by
  intro pins s σ H v u v' u' Q I rx ry h
  obtain ⟨W, g, x, y, z, J, hx, hy, e, q⟩ := h
  unfold subD at e
  split at e
  · cases e
    cases hx
    cases hy
    exact op_sub pins s σ H _ _ _ _ Q I rx ry ⟨_, _, rfl, rfl, q H _ (.refl M W H) J (.int _)⟩
  · cases e
theorem opM_mod : OpR X (binaryOp .Mod) (rM M modD) := by
  intro pins s σ H v u v' u' Q I rx ry h
  obtain ⟨W, g, x, y, z, J, hx, hy, e, q⟩ := h
  unfold modD at e
  split at e
  · split at e
    · rename_i h1
      cases e
      cases hx
      cases hy
      exact op_modN pins s σ H _ _ _ _ Q I rx ry ⟨_, _, rfl, rfl, h1, q H _ (.refl M W H) J (.int _)⟩
    · cases e
  · cases e
theorem opM_div : OpR X (binaryOp .FloorDiv) (rM M divD) := by
  intro pins s σ H v u v' u' Q I rx ry h
  obtain ⟨W, g, x, y, z, J, hx, hy, e, q⟩ := h
  unfold divD at e
  split at e
  · split at e
    · rename_i h1
      cases e
      cases hx
      cases hy
      exact op_fdivN pins s σ H _ _ _ _ Q I rx ry ⟨_, _, rfl, rfl, h1, q H _ (.refl M W H) J (.int _)⟩
    · cases e
  · cases e
theorem opM_mul : OpR X (binaryOp .Mult) (rM M mulD) := by
  intro pins s σ H v u v' u' Q I rx ry h
  obtain ⟨W, g, x, y, z, J, hx, hy, e, q⟩ := h
  unfold mulD at e
  split at e
  · split at e
    · rename_i h1
      cases e
      cases hx
      cases hy
      exact op_mul pins s σ H _ _ _ _ Q I rx ry ⟨_, _, rfl, rfl, h1, q H _ (.refl M W H) J (.int _)⟩
    · cases e
  · split at e
    · rename_i i j h1
      cases e
      cases hx with
      | lst nx ex ax =>
        cases hy
        refine op_rep pins s σ H _ _ _ _ Q I rx ry ⟨_, _, _, rfl, rfl, ex, by omega, by omega, ?_, fun p hp => ?_⟩
        · rw [← ax.length]
          refine sz5 (Nat.le_trans (Nat.mul_le_mul h1.2.2 (show j.toNat ≤ 1000 by omega)) (by decide))
        · have rep : ∀ n : Nat, DqA M W H (List.replicate n i).flatten (List.replicate n _).flatten := fun n => by
            induction n with
            | zero => exact .nil
            | succ n ih =>
              rw [List.replicate_succ, List.replicate_succ, List.flatten_cons, List.flatten_cons]
              exact ax.app ih
          exact q _ _ (.new hp) (J.new hp) (.lst (J.fresh hp) upd_same (DqA.up (.new hp) _ _ (rep _)))
    · cases e
  · cases e
theorem opM_eq (hu : X.A.units + 64 < cLine) : OpR X (compareOp .Eq) (rM M eqD) := by
  intro pins s σ H v u v' u' Q I rx ry h
  obtain ⟨W, g, x, y, z, J, hx, hy, e, q⟩ := h
  unfold eqD at e
  split at e
  · rename_i h1
    cases e
    simp only [D.eqOk, Bool.and_eq_true] at h1
    exact op_eqD hu pins s σ H _ _ _ _ Q I rx ry ⟨_, _, hx.dp _ _ h1.1.1, hy.dp _ _ h1.2.1, h1.1.2, h1.2.2, q H _ (.refl M W H) J (.bl _)⟩
  · cases e
theorem opM_ne (hu : X.A.units + 64 < cLine) : OpR X (compareOp .NotEq) (rM M neD) := by
  intro pins s σ H v u v' u' Q I rx ry h
  obtain ⟨W, g, x, y, z, J, hx, hy, e, q⟩ := h
  unfold neD at e
  split at e
  · rename_i h1
    cases e
    simp only [D.eqOk, Bool.and_eq_true] at h1
    exact op_neD hu pins s σ H _ _ _ _ Q I rx ry ⟨_, _, hx.dp _ _ h1.1.1, hy.dp _ _ h1.2.1, h1.1.2, h1.2.2, q H _ (.refl M W H) J (.bl _)⟩
  · cases e
theorem opM_lt : OpR X (compareOp .Lt) (rM M ltD) := by
  intro pins s σ H v u v' u' Q I rx ry h
  obtain ⟨W, g, x, y, z, J, hx, hy, e, q⟩ := h
  unfold ltD at e
  split at e
  · cases e
    cases hx
    cases hy
    exact op_lt pins s σ H _ _ _ _ Q I rx ry ⟨_, _, rfl, rfl, q H _ (.refl M W H) J (.bl _)⟩
  · cases e
theorem opM_le : OpR X (compareOp .LtE) (rM M leD) := by
  intro pins s σ H v u v' u' Q I rx ry h
  obtain ⟨W, g, x, y, z, J, hx, hy, e, q⟩ := h
  unfold leD at e
  split at e
  · cases e
    cases hx
    cases hy
    exact op_le pins s σ H _ _ _ _ Q I rx ry ⟨_, _, rfl, rfl, q H _ (.refl M W H) J (.bl _)⟩
  · cases e
theorem opM_gt : OpR X (compareOp .Gt) (rM M gtD) := by
  intro pins s σ H v u v' u' Q I rx ry h
  obtain ⟨W, g, x, y, z, J, hx, hy, e, q⟩ := h
  unfold gtD at e
  split at e
  · cases e
    cases hx
    cases hy
    exact op_gt pins s σ H _ _ _ _ Q I rx ry ⟨_, _, rfl, rfl, q H _ (.refl M W H) J (.bl _)⟩
  · cases e
theorem opM_in : OpR X (compareOp .In) (rM M inD) := by
  intro pins s σ H v u v' u' Q I rx ry h
  obtain ⟨W, g, x, y, z, J, hx, hy, e, q⟩ := h
  unfold inD at e
  split at e
  · cases e
    cases hx
    cases hy
    exact op_in_str pins s σ H _ _ _ _ Q I rx ry ⟨_, _, rfl, rfl, q H _ (.refl M W H) J (.bl _)⟩
  · cases e
theorem opM_notIn : OpR X (compareOp .NotIn) (rM M notInD) := by
  intro pins s σ H v u v' u' Q I rx ry h
  obtain ⟨W, g, x, y, z, J, hx, hy, e, q⟩ := h
  unfold notInD at e
  split at e
  · cases e
    cases hx
    cases hy
    exact op_notin_str pins s σ H _ _ _ _ Q I rx ry ⟨_, _, rfl, rfl, q H _ (.refl M W H) J (.bl _)⟩
  · cases e
theorem opM_is : OpR X (compareOp .Is) (rM M isD) := by
  intro pins s σ H v u v' u' Q I rx ry h
  obtain ⟨W, g, x, y, z, J, hx, hy, e, q⟩ := h
  have fin : ∀ b : Bool, z = .bl b → Q (.bl b) H := fun b eb => q H _ (.refl M W H) J (by rw [eb]; exact .bl b)
  unfold isD at e
  split at e
  case h_9 =>
    cases e
    cases hx
    cases hy
    exact op_isBl pins s σ H _ _ _ _ Q I rx ry ⟨_, _, rfl, rfl, fin _ rfl⟩
  case h_10 => cases e
  all_goals
    cases e
    cases hx
    cases hy
    exact op_isN pins s σ H _ _ _ _ Q I rx ry ⟨rfl, fin _ rfl⟩
theorem ixM (hK : M.K = X.K) : IxR X (rM M ixD) := by
  intro value slice pins s σ H v u v' u' Q I rx ry h hs
  obtain ⟨W, g, x, y, z, J, hx, hy, e, q⟩ := h
  unfold ixD at e
  split at e
  · cases hy
    cases hx with
    | lst nx ex ax =>
      obtain ⟨w, e1, d1⟩ := ax.atI e
      exact ix_list value slice pins s σ H _ _ _ _ Q I rx ry ⟨_, _, _, _, rfl, rfl, SqL.of ex, e1, q H _ (.refl M W H) J d1⟩ hs
  · cases hy
    cases hx with
    | tup nx ex ax =>
      obtain ⟨w, e1, d1⟩ := ax.atI e
      exact ix_tup value slice pins s σ H _ _ _ _ Q I rx ry ⟨_, _, _, _, rfl, rfl, SqT.of ex, e1, q H _ (.refl M W H) J d1⟩ hs
  · rename_i ns i
    cases hy
    have sq : ∀ {v : V}, Dq M W H (.frl ns) v → ∃ a, v = .ref a ∧ SqL X.K H a (ns.map V.int) := fun h => by
      cases h with
      | frl n e => exact ⟨_, rfl, .inl (.inr ⟨_, e⟩)⟩
      | frk e => exact ⟨_, rfl, by rw [← hK]; exact .inr e⟩
    obtain ⟨a, rfl, ex⟩ := sq hx
    cases e2 : L2.atI ns i with
    | none => rw [e2] at e; cases e
    | some n =>
      rw [e2] at e
      cases e
      have e3 : L2.atI (ns.map V.int) i = some (V.int n) := by
        unfold L2.atI at e2 ⊢
        rw [List.length_map]
        cases e4 : ixN ns.length i with
        | none => rw [e4] at e2; cases e2
        | some j =>
          rw [e4] at e2
          show (ns.map V.int)[j]? = _
          rw [List.getElem?_map, show ns[j]? = some n from e2] <;> rfl
      exact ix_list value slice pins s σ H _ _ _ _ Q I rx ry ⟨_, _, _, _, rfl, rfl, ex, e3, q H _ (.refl M W H) J (.int _)⟩ hs
  · rename_i z0 i
    split at e
    · rename_i hl
      cases hy
      cases hx
      cases e2 : L2.atI z0.cps.toList i with
      | none => rw [e2] at e; cases e
      | some c =>
        rw [e2] at e
        cases e
        exact ix_str value slice pins s σ H _ _ _ _ Q I rx ry ⟨_, _, _, rfl, rfl, sz5 hl, e2, q H _ (.refl M W H) J (.str _)⟩ hs
    · cases e
  · cases e
/-! ### expressions -/
variable {Wx : WX} {a b c : Expr} {ma mb mc : ME} {pos : Pos}
def mVar (i : Nat) : ME := fun env => Mo.ofO (env[i]?).join
def mC (d : D) : ME := fun _ => Mo.pure d
def mOp (f : D → D → Option D) (ma mb : ME) : ME := fun env => (ma env).bind fun x => (mb env).bind fun y => Mo.ofO (f x y)
theorem join_some {α : Type} {o : Option (Option α)} {d : α} (h : o.join = some d) : o = some (some d) := by
  cases o with
  | none => cases h
  | some x => exact congrArg some h
theorem pm_var (i : Nat) {x : Str} (hN : X.N[i]? = some x := by rfl) (hv : Vis X.env.scope x := by first | exact Or.inl rfl | exact Or.inr (Or.inl rfl) | exact Or.inr (Or.inr rfl)) (hd : (x == ("__debug__" : Str)) = false := by decide)
    (hcd : (x == ("__classdict__" : Str)) = false := by decide) : PE X (.Name x pos) (tM M Wx (mVar i)) := (pe_var hN hv hd hcd).imp fun σ H Q h => by
  obtain ⟨W, s, env, I, En, r⟩ := h
  obtain ⟨d, e, q⟩ := r.ofO
  obtain ⟨v, ev, hv⟩ := En.2 i d (join_some e)
  exact ⟨v, ev, q H (.refl M W H) I v hv⟩
theorem pm_c {e : Expr} {v : V} {d : D} (h : PE X e (tC v)) (hd : ∀ W H, Dq M W H d v) : PE X e (tM M Wx (mC d)) := h.imp fun σ H Q h => by
  obtain ⟨W, s, env, I, En, r⟩ := h
  exact r.pure I v (hd W H)
theorem pm_int {i j} : PE X (.Constant (.int i) j pos) (tM M Wx (mC (.int i))) := pm_c pe_int fun _ _ => .int _
theorem pm_bl {i j} : PE X (.Constant (.bool i) j pos) (tM M Wx (mC (.bl i))) := pm_c pe_bl fun _ _ => .bl _
theorem pm_non {j} : PE X (.Constant .none j pos) (tM M Wx (mC .non)) := pm_c pe_non fun _ _ => .non
theorem pm_str {x j} : PE X (.Constant (.str x) j pos) (tM M Wx (mC (.str x))) := pm_c pe_str fun _ _ => .str _
theorem tM_mono {m : ME} {σ : L2.St} {H : Hp} {Q Q' : VK} (f : ∀ v H', Q v H' → Q' v H') (h : tM M Wx m σ H Q) : tM M Wx m σ H Q' := by
  obtain ⟨W, s, env, I, E, r⟩ := h
  exact ⟨W, s, env, I, E, r.mono fun d s' H' _ _ q v hv => f v H' (q v hv)⟩
/-- two in a row -/
theorem op_core {α : Type} {W : Wd} {s : GS} {env : Envd} {σ : L2.St} {H : Hp} {f : D → D → Mo α} {P : α → GS → Hp → Prop} {R : V → V → Hp → Prop} (I : St1 M W s H) (E : En M W H σ env) (r : Ru M W (fun c dx H' => Wx c dx σ H') H (((ma env).bind fun x => (mb env).bind fun y => f x y) s) P)
    (hf : ∀ x y v u s2 H2, St1 M W s2 H2 → Rw M W H H2 → En M W H2 σ env → Dq M W H2 x v → Dq M W H2 y u → Ru M W (fun c dx H' => Wx c dx σ H') H2 (f x y s2) P → R v u H2) : tM M Wx ma σ H fun x H1 => tM M Wx mb σ H1 fun y H2 => R x y H2 :=
  ⟨W, s, env, I, E, r.bind.mono fun x s1 H1 R1 I1 q1 v hv => ⟨W, s1, env, I1, E.up R1, q1.bind.mono fun y s2 H2 R2 I2 q2 u hu => hf x y v u s2 H2 I2 (R1.trans R2) ((E.up R1).up R2) (hv.up R2 x v) hu q2⟩⟩
theorem op_imp {f : D → D → Option D} {σ : L2.St} {H : Hp} {Q : VK} (h : tM M Wx (mOp f ma mb) σ H Q) : tOp (rM M f) (tM M Wx ma) (tM M Wx mb) σ H Q := by
  obtain ⟨W, s, env, I, E, r⟩ := h
  refine op_core I E r fun x y v u s2 H2 I2 R2 _ hx hy q => ?_
  obtain ⟨z, ez, qz⟩ := q.ofO
  exact ⟨W, s2, x, y, z, I2, hx, hy, ez, fun H' w R' I' hw => qz H' R' I' w hw⟩
theorem pm_op {op : Operator} {f : D → D → Option D} (ho : OpR X (binaryOp op) (rM M f)) (ha : PE X a (tM M Wx ma)) (hb : PE X b (tM M Wx mb)) : PE X (.BinOp a op b pos) (tM M Wx (mOp f ma mb)) := (pe_op ho ha hb).imp fun _ _ _ => op_imp
theorem pm_cmp {op : CmpOp} {f : D → D → Option D} (ho : OpR X (compareOp op) (rM M f)) (ha : PE X a (tM M Wx ma)) (hb : PE X b (tM M Wx mb)) (hm : behindInMarks op b = false) : PE X (.Compare a [op] [b] pos) (tM M Wx (mOp f ma mb)) := (pe_cmpR ho ha hb hm).imp fun _ _ _ => op_imp
theorem pm_ix (hK : M.K = X.K) (ha : PE X a (tM M Wx ma)) (hb : PE X b (tM M Wx mb)) (hs : PlainIx b) : PE X (.Subscript a b pos) (tM M Wx (mOp ixD ma mb)) := (pe_ix (ixM hK) ha hb hs).imp fun _ _ _ => op_imp
def D.asB : D → Option Bool
  | .bl b => some b
  | _ => none
def mB (m : ME) : MT := fun env => (m env).bind fun d => Mo.ofO d.asB
theorem asB_some {d : D} {b : Bool} (h : d.asB = some b) : d = .bl b := by
  cases d <;> first | (cases h; rfl) | cases h
theorem test_imp {m : ME} {σ : L2.St} {H : Hp} {Q : Bool → Hp → Prop} (h : tMT M Wx (mB m) σ H Q) : tM M Wx m σ H fun x H1 => ∃ k, x = .bl k ∧ Q k H1 := by
  obtain ⟨W, s, env, I, E, r⟩ := h
  refine ⟨W, s, env, I, E, r.bind.mono fun d s1 H1 R1 I1 q1 v hv => ?_⟩
  obtain ⟨b, eb, q⟩ := q1.ofO
  rw [asB_some eb] at hv
  cases hv
  exact ⟨b, rfl, q H1 (.refl M W H1) I1⟩
theorem pm_cmpT {op : CmpOp} {f : D → D → Option D} (ho : OpR X (compareOp op) (rM M f)) (ha : PE X a (tM M Wx ma)) (hb : PE X b (tM M Wx mb)) (hm : behindInMarks op b = false) : PT X (.Compare a [op] [b] pos) (tMT M Wx (mB (mOp f ma mb))) :=
  (pt_cmpR ho ha hb hm).imp fun _ _ _ h => op_imp (test_imp h)
theorem pm_val {e : Expr} {m : ME} (h : PE X e (tM M Wx m)) (he : ∀ whole, isTrue e X.env whole = (do let v ← whole; standAt e.pos; holding [v] (truthy v)) := by intro _; rfl) : PT X e (tMT M Wx (mB m)) :=
  (pt_val h he).imp fun _ _ _ => test_imp
variable {tA tB' : MT} {rest : List Expr}
def mAnd (t u : MT) : MT := fun env => (t env).bind fun c => if c = true then u env else Mo.pure false
def mOr (t u : MT) : MT := fun env => (t env).bind fun c => if c = true then Mo.pure true else u env
def mNot (t : MT) : MT := fun env => (t env).bind fun c => Mo.pure (!c)
theorem tMT_bind {α : Type} {W : Wd} {s : GS} {env : Envd} {σ : L2.St} {H : Hp} {f : Bool → Mo α} {P : α → GS → Hp → Prop} {R : Bool → Hp → Prop} (I : St1 M W s H) (E : En M W H σ env) (r : Ru M W (fun c dx H' => Wx c dx σ H') H (((tA env).bind f) s) P)
    (hf : ∀ c s2 H2, St1 M W s2 H2 → Rw M W H H2 → En M W H2 σ env → Ru M W (fun c dx H' => Wx c dx σ H') H2 (f c s2) P → R c H2) : tMT M Wx tA σ H R := ⟨W, s, env, I, E, r.bind.mono fun c s1 H1 R1 I1 q1 => hf c s1 H1 I1 R1 (E.up R1) q1⟩
theorem pmw_and1 (ha : PT X a (tMT M Wx tA)) : PW X (.BoolOp .And [a] pos) (tMT M Wx tA) := pw_and1 ha
theorem pmw_or1 (ha : PT X a (tMT M Wx tA)) : PW X (.BoolOp .Or [a] pos) (tMT M Wx tA) := pw_or1 ha
theorem pmw_and (ha : PT X a (tMT M Wx tA)) (hb : PW X (.BoolOp .And (b :: rest) pos) (tMT M Wx tB')) : PW X (.BoolOp .And (a :: b :: rest) pos) (tMT M Wx (mAnd tA tB')) := (pw_and ha hb).imp fun σ H Q h => by
  obtain ⟨W, s, env, I, E, r⟩ := h
  refine tMT_bind I E r fun c s2 H2 I2 R2 E2 q => ?_
  cases c with
  | true => exact iteT ⟨W, s2, env, I2, E2, q⟩
  | false => exact iteF (q.pure I2)
theorem pmw_or (ha : PT X a (tMT M Wx tA)) (hb : PW X (.BoolOp .Or (b :: rest) pos) (tMT M Wx tB')) : PW X (.BoolOp .Or (a :: b :: rest) pos) (tMT M Wx (mOr tA tB')) := (pw_or ha hb).imp fun σ H Q h => by
  obtain ⟨W, s, env, I, E, r⟩ := h
  refine tMT_bind I E r fun c s2 H2 I2 R2 E2 q => ?_
  cases c with
  | true => exact iteT (q.pure I2)
  | false => exact iteF ⟨W, s2, env, I2, E2, q⟩
theorem pm_notT (ha : PT X a (tMT M Wx tA)) : PT X (.UnaryOp .Not a pos) (tMT M Wx (mNot tA)) := (pt_not ha).imp fun σ H Q h => by
  obtain ⟨W, s, env, I, E, r⟩ := h
  exact tMT_bind I E r fun c s2 H2 I2 R2 E2 q => q.pure I2
/-- as values -/
def mAndV (m : ME) (u : ME) : ME := fun env => (mB m env).bind fun c => if c = true then u env else Mo.pure (.bl false)
def mOrV (m : ME) (u : ME) : ME := fun env => (mB m env).bind fun c => if c = true then Mo.pure (.bl true) else u env
def mIfE (t : MT) (u w : ME) : ME := fun env => (t env).bind fun c => if c = true then u env else w env
theorem tB_bind {α : Type} {W : Wd} {s : GS} {env : Envd} {σ : L2.St} {H : Hp} {f : Bool → Mo α} {P : α → GS → Hp → Prop} {R : Bool → Hp → Prop} (I : St1 M W s H) (E : En M W H σ env) (r : Ru M W (fun c dx H' => Wx c dx σ H') H (((mB ma env).bind f) s) P)
    (hf : ∀ c s2 H2, St1 M W s2 H2 → Rw M W H H2 → En M W H2 σ env → Ru M W (fun c dx H' => Wx c dx σ H') H2 (f c s2) P → R c H2) : tM M Wx ma σ H fun x H1 => ∃ c, x = .bl c ∧ R c H1 := test_imp (tMT_bind I E r hf)
theorem pm_and (ha : PE X a (tM M Wx ma)) (hb : PE X (.BoolOp .And (b :: rest) pos) (tM M Wx mb)) : PE X (.BoolOp .And (a :: b :: rest) pos) (tM M Wx (mAndV ma mb)) := (pe_and ha hb).imp fun σ H Q h => by
  obtain ⟨W, s, env, I, E, r⟩ := h
  refine tB_bind I E r fun c s2 H2 I2 R2 E2 q => ?_
  cases c with
  | true => exact iteT ⟨W, s2, env, I2, E2, q⟩
  | false => exact iteF (q.pure I2 _ (.bl false))
theorem pm_or (ha : PE X a (tM M Wx ma)) (hb : PE X (.BoolOp .Or (b :: rest) pos) (tM M Wx mb)) : PE X (.BoolOp .Or (a :: b :: rest) pos) (tM M Wx (mOrV ma mb)) := (pe_or ha hb).imp fun σ H Q h => by
  obtain ⟨W, s, env, I, E, r⟩ := h
  refine tB_bind I E r fun c s2 H2 I2 R2 E2 q => ?_
  cases c with
  | true => exact iteT (q.pure I2 _ (.bl true))
  | false => exact iteF ⟨W, s2, env, I2, E2, q⟩
theorem pm_one {op} (h : PE X a (tM M Wx ma)) : PE X (.BoolOp op [a] pos) (tM M Wx ma) := pe_one h
theorem pm_ifE {t : Expr} (ht : PT X t (tMT M Wx tA)) (ha : PE X a (tM M Wx ma)) (hb : PE X b (tM M Wx mb)) : PE X (.IfExp t a b pos) (tM M Wx (mIfE tA ma mb)) := (pe_ifExp ht ha hb).imp fun σ H Q h => by
  obtain ⟨W, s, env, I, E, r⟩ := h
  refine tMT_bind I E r fun c s2 H2 I2 R2 E2 q => ?_
  cases c with
  | true => exact iteT ⟨W, s2, env, I2, E2, q⟩
  | false => exact iteF ⟨W, s2, env, I2, E2, q⟩
/-- a < b < c -/
def mChain (f g : D → D → Option D) (ma mb mc : ME) : ME := fun env => (ma env).bind fun x => (mb env).bind fun y => (Mo.ofO ((f x y).bind D.asB)).bind fun k => if k = true then (mc env).bind fun z => Mo.ofO (g y z) else Mo.pure (.bl false)
theorem chain_imp {f g : D → D → Option D} {σ : L2.St} {H : Hp} {Q : VK} (h : tM M Wx (mChain f g ma mb mc) σ H Q) : tChain (rM M f) (rM M g) (tM M Wx ma) (tM M Wx mb) (tM M Wx mc) σ H Q := by
  obtain ⟨W, s, env, I, E, r⟩ := h
  refine op_core I E r fun x y v u s2 H2 I2 R2 E2 hx hy q => ?_
  obtain ⟨k, ek, qk⟩ := q.bind.ofO
  cases hf : f x y with
  | none => rw [hf] at ek; cases ek
  | some z =>
    rw [hf] at ek
    have ez : z = .bl k := asB_some ek
    subst ez
    refine ⟨W, s2, x, y, _, I2, hx, hy, hf, fun H3 w R3 I3 hw => ?_⟩
    cases hw
    refine ⟨k, rfl, ?_⟩
    have q3 := qk H3 R3 I3
    cases k with
    | true =>
      refine iteT ?_
      refine ⟨W, s2, env, I3, E2.up R3, q3.bind.mono fun z s4 H4 R4 I4 q4 v4 h4 => ?_⟩
      obtain ⟨o, eo, qo⟩ := q4.ofO
      exact ⟨W, s4, y, z, o, I4, (hy.up R3 _ _).up R4 _ _, h4, eo, fun H' w R' I' hw => qo H' R' I' w hw⟩
    | false => exact iteF (q3.pure I3 _ (.bl false))
theorem pm_chainT {op op' : CmpOp} {f g : D → D → Option D} (ho : OpR X (compareOp op) (rM M f)) (ho' : OpR X (compareOp op') (rM M g)) (ha : PE X a (tM M Wx ma)) (hb : PE X b (tM M Wx mb)) (hc : PE X c (tM M Wx mc)) (hm : lastMarks [op, op'] [b, c] = false := by with_unfolding_all rfl) :
    PT X (.Compare a [op, op'] [b, c] pos) (tMT M Wx (mB (mChain f g ma mb mc))) := (pt_chain ho ho' ha hb hc hm).imp fun _ _ _ h => chain_imp (test_imp h)
/-! ### argument lists, displays -/
def mNil : MA := fun _ => Mo.pure []
def mCons (m : ME) (r : MA) : MA := fun env => (m env).bind fun d => (r env).bind fun ds => Mo.pure (d :: ds)
variable {es : List Expr} {mr : MA}
theorem pma_nil : PA X [] (tMA M Wx mNil) := pa_nil.imp fun σ H Q h => by
  obtain ⟨W, s, env, I, E, r⟩ := h
  exact r.pure I [] .nil
theorem tM_bind {α : Type} {W : Wd} {s : GS} {env : Envd} {σ : L2.St} {H : Hp} {f : D → Mo α} {P : α → GS → Hp → Prop} {R : V → Hp → Prop} (I : St1 M W s H) (E : En M W H σ env) (r : Ru M W (fun c dx H' => Wx c dx σ H') H (((ma env).bind f) s) P)
    (hf : ∀ d v s2 H2, St1 M W s2 H2 → Rw M W H H2 → En M W H2 σ env → Dq M W H2 d v → Ru M W (fun c dx H' => Wx c dx σ H') H2 (f d s2) P → R v H2) : tM M Wx ma σ H R := ⟨W, s, env, I, E, r.bind.mono fun d s1 H1 R1 I1 q1 v hv => hf d v s1 H1 I1 R1 (E.up R1) hv q1⟩
theorem tMA_bind {α : Type} {W : Wd} {s : GS} {env : Envd} {σ : L2.St} {H : Hp} {f : List D → Mo α} {P : α → GS → Hp → Prop} {R : List V → Hp → Prop} (I : St1 M W s H) (E : En M W H σ env) (r : Ru M W (fun c dx H' => Wx c dx σ H') H (((mr env).bind f) s) P)
    (hf : ∀ d v s2 H2, St1 M W s2 H2 → Rw M W H H2 → En M W H2 σ env → DqA M W H2 d v → Ru M W (fun c dx H' => Wx c dx σ H') H2 (f d s2) P → R v H2) : tMA M Wx mr σ H R := ⟨W, s, env, I, E, r.bind.mono fun d s1 H1 R1 I1 q1 v hv => hf d v s1 H1 I1 R1 (E.up R1) hv q1⟩
theorem pma_cons (ha : PE X a (tM M Wx ma)) (hr : PA X es (tMA M Wx mr)) (he : starEach (a :: es) X.env = (false, eval a X.env) :: starEach es X.env := by rfl) : PA X (a :: es) (tMA M Wx (mCons ma mr)) := (pa_cons ha hr he).imp fun σ H Q h => by
  obtain ⟨W, s, env, I, E, r⟩ := h
  refine tM_bind I E r fun d v s2 H2 I2 R2 E2 hd q => ?_
  refine tMA_bind I2 E2 q fun ds vs s3 H3 I3 R3 E3 hds q3 => ?_
  exact q3.pure I3 _ (.cons (hd.up R3 _ _) hds)
theorem _root_.L2.PE.m {e : Expr} {m : ME} (h : PE X e (tMF M Wx m)) : PE X e (tM M Wx m) := h.imp fun σ H Q h => by
  obtain ⟨W, s, env, I, E, r⟩ := h
  exact ⟨W, s, env, I, E, r.mono fun d s' H' R' I' q p xs ds e n e' a => by
    subst e
    exact q _ (.lst (I.fresh n) e' a)⟩
def mTup (m : MA) : ME := fun env => (m env).bind fun ds => if ds.length ≤ 100000 then Mo.pure (.tup ds) else fun _ => none
def mLst (m : MA) : ME := fun env => (m env).bind fun ds => if ds.length ≤ 100000 then Mo.pure (.lst ds) else fun _ => none
theorem Ru.none {α : Type} {W : Wd} {Wy : Value → Option Addr → Hp → Prop} {H : Hp} {P : α → GS → Hp → Prop} (h : Ru M W Wy H none P) : False := by
  obtain ⟨_, _, e, _⟩ := h
  cases e
theorem pm_tup {x1} (h : PA X es (tMA M Wx mr)) : PE X (.Tuple es x1 pos) (tM M Wx (mTup mr)) := (pe_tup h).imp fun σ H Q h => by
  obtain ⟨W, s, env, I, E, r⟩ := h
  refine tMA_bind I E r fun ds vs s2 H2 I2 R2 E2 hds q => ?_
  by_cases hl : ds.length ≤ 100000
  · rw [if_pos hl] at q
    obtain ⟨_, _, e, q⟩ := q
    cases e
    refine ⟨by rw [← hds.length]; exact sz5 hl, fun p hp => q _ (.new hp) (I2.new hp) _ (.tup (I2.fresh hp) upd_same (DqA.up (.new hp) _ _ hds))⟩
  · rw [if_neg hl] at q
    exact q.none.elim
theorem pm_lstF (h : PA X es (tMA M Wx mr)) : PE X (.List es pos) (tMF M Wx (mLst mr)) := (pe_lst h).imp fun σ H Q h => by
  obtain ⟨W, s, env, I, E, r⟩ := h
  refine tMA_bind I E r fun ds vs s2 H2 I2 R2 E2 hds q => ?_
  by_cases hl : ds.length ≤ 100000
  · rw [if_pos hl] at q
    obtain ⟨_, _, e, q⟩ := q
    cases e
    refine ⟨by rw [← hds.length]; exact sz5 hl, fun p hp => q _ (.new hp) (I2.new hp) p vs ds rfl (R2.free hp) upd_same (DqA.up (.new hp) _ _ hds)⟩
  · rw [if_neg hl] at q
    exact q.none.elim
theorem pm_lst (h : PA X es (tMA M Wx mr)) : PE X (.List es pos) (tM M Wx (mLst mr)) := PE.m (pm_lstF h)
def mDic0 : ME := fun _ => Mo.pure (.dic [])
theorem pm_dic0 : PE X (.Dict [] [] pos) (tM M Wx mDic0) := pe_dnewK.imp fun σ H Q h => by
  obtain ⟨W, s, env, I, E, r⟩ := h
  obtain ⟨_, _, e, q⟩ := r
  cases e
  exact fun p hp => q _ (.new hp) (I.new hp) _ (.dic (I.fresh hp) upd_same)
/-- list + list, new -/
def catD : D → D → Option D
  | .lst i, .lst j => if i.length + j.length ≤ 100000 then some (.lst (i ++ j)) else none
  | _, _ => none
theorem opF_cat : OpR X (binaryOp .Add) (rMF M catD) := by
  intro pins s σ H v u v' u' Q I rx ry h
  obtain ⟨W, g, x, y, z, J, hx, hy, e, q⟩ := h
  unfold catD at e
  split at e
  · split at e
    · rename_i h1
      cases e
      cases hx with
      | lst nx ex ax =>
        cases hy with
        | lst ny ey ay =>
          refine op_cat pins s σ H _ _ _ _ Q I rx ry ⟨_, _, _, _, rfl, rfl, ex, ey, by rw [← ax.length, ← ay.length]; exact sz5 h1, fun p hp => ?_⟩
          exact q _ p _ _ (.new hp) (J.new hp) rfl hp upd_same (DqA.up (.new hp) _ _ (ax.app ay))
    · cases e
  · cases e
theorem pm_catF (ha : PE X a (tM M Wx ma)) (hb : PE X b (tM M Wx mb)) : PE X (.BinOp a .Add b pos) (tMF M Wx (mOp catD ma mb)) := (pe_op opF_cat ha hb).imp fun σ H Q h => by
  obtain ⟨W, s, env, I, E, r⟩ := h
  refine op_core I E r fun x y v u s2 H2 I2 R2 _ hx hy q => ?_
  obtain ⟨z, ez, qz⟩ := q.ofO
  exact ⟨W, s2, x, y, z, I2, hx, hy, ez, fun H' p xs ds R' I' e n e' a => qz H' R' I' p xs ds e (R2.free n) e' a⟩
end
end Ink

set_option Elab.async false
set_option linter.all false
set_option maxRecDepth 100000
set_option maxHeartbeats 1000000
/-! rules: slices, built-ins, calls -/
namespace Ink
open PySem PySem.Spec PyProof.Rows L2 GxR GenW
theorem _root_.L2.PO.imp {X : Cx} {e : Option Expr} {t t' : TO} (h : PO X e t) (f : ∀ σ H Q, t' σ H Q → t σ H Q) : PO X e t' := ⟨fun pins s σ H Q I q => h.run pins s σ H Q I (f σ H Q q)⟩
def D.asI : D → Option Int
  | .int i => some i
  | _ => none
theorem asI_some {d : D} {b : Int} (h : d.asI = some b) : d = .int b := by
  cases d <;> first | (cases h; rfl) | cases h
abbrev MO := Envd → Mo (Option Int)
def tMO (M : Pm) (Wx : WX) (m : MO) : TO := fun σ H Q => ∃ W s env, St1 M W s H ∧ En M W H σ env ∧ Ru M W (fun c dx H' => Wx c dx σ H') H (m env s) fun o s' H' => Q o H'
def mNoP : MO := fun _ => Mo.pure none
def mPt (m : ME) : MO := fun env => (m env).bind fun d => (Mo.ofO d.asI).bind fun i => Mo.pure (some i)
def cutD {α : Type} (xs : List α) (lo hi : Option Int) : List α := (xs.drop (HT.sIx xs.length 0 lo)).take (HT.sIx xs.length xs.length hi - HT.sIx xs.length 0 lo)
def slD (d : D) (lo hi : Option Int) : Option D := match d with
  | .lst ds => some (.lst (cutD ds lo hi))
  | .frl ns => some (.lst ((cutD ns lo hi).map D.int))
  | .str z => if z.length ≤ 100000 then some (.str (cutS z lo hi)) else none
  | _ => none
def mSl (m : ME) (lo hi : MO) : ME := fun env => (m env).bind fun d => (lo env).bind fun l => (hi env).bind fun h => Mo.ofO (slD d l h)
def rMS (M : Pm) : V → Option Int → Option Int → Hp → VK → Prop := fun v lo hi H Q => ∃ W s x z, St1 M W s H ∧ Dq M W H x v ∧ slD x lo hi = some z ∧ ∀ H' w, Rw M W H H' → St1 M W s H' → Dq M W H' z w → Q w H'
section
variable {X : Cx} {M : Pm} {Wx : WX} {a b c : Expr} {ma mb mc : ME} {pos : Pos}
theorem frl_sq {W : Wd} {H : Hp} (hK : M.K = X.K) {ns : List Int} {v : V} (h : Dq M W H (.frl ns) v) : ∃ a, v = .ref a ∧ SqL X.K H a (ns.map V.int) := by
  cases h with
  | frl n e => exact ⟨_, rfl, .inl (.inr ⟨_, e⟩)⟩
  | frk e => exact ⟨_, rfl, by rw [← hK]; exact .inr e⟩
theorem slM (hK : M.K = X.K) : SlR X (rMS M) := by
  intro pins s σ H x v vl vu lo hi sl Q I rx hs pl pu h
  obtain ⟨W, g, d, z, J, hx, e, q⟩ := h
  unfold slD at e
  split at e
  · cases e
    cases hx with
    | lst nx ex ax =>
      refine sl_list pins s σ H _ v vl vu lo hi sl Q I rx hs pl pu ⟨_, _, rfl, SqL.of ex, fun p hp => q _ _ (.new hp) (J.new hp) (.lst (J.fresh hp) upd_same (DqA.up (.new hp) _ _ ?_))⟩
      unfold cutD cutV
      rw [← ax.length]
      exact (ax.drop _).take _
  · rename_i ns
    cases e
    obtain ⟨a, rfl, ex⟩ := frl_sq hK hx
    refine sl_list pins s σ H _ v vl vu lo hi sl Q I rx hs pl pu ⟨_, _, rfl, ex, fun p hp => q _ _ (.new hp) (J.new hp) (.lst (J.fresh hp) upd_same (DqA.up (.new hp) _ _ ?_))⟩
    have e2 : cutV (ns.map V.int) lo hi = (cutD ns lo hi).map V.int := by
      unfold cutD cutV
      rw [List.length_map, List.map_take, List.map_drop]
    rw [e2]
    exact DqA.ints _
  · split at e
    · rename_i hl
      cases e
      cases hx
      exact sl_str pins s σ H _ v vl vu lo hi sl Q I rx hs pl pu ⟨_, rfl, sz5 hl, q H _ (.refl M W H) J (.str _)⟩
    · cases e
  · cases e
theorem pmo_none : PO X none (tMO M Wx mNoP) := po_none.imp fun σ H Q h => by
  obtain ⟨W, s, env, I, E, r⟩ := h
  exact r.pure I
theorem pmo_some (h : PE X a (tM M Wx ma)) : PO X (some a) (tMO M Wx (mPt ma)) := (po_some h).imp fun σ H Q h => by
  obtain ⟨W, s, env, I, E, r⟩ := h
  refine tM_bind I E r fun d v s2 H2 I2 R2 E2 hd q => ?_
  obtain ⟨i, ei, qi⟩ := q.bind.ofO
  rw [asI_some ei] at hd
  cases hd
  exact ⟨i, rfl, (qi H2 (.refl M _ H2) I2).pure I2⟩
theorem tMO_bind {α : Type} {W : Wd} {s : GS} {env : Envd} {σ : L2.St} {H : Hp} {mo : MO} {f : Option Int → Mo α} {P : α → GS → Hp → Prop} {R : Option Int → Hp → Prop} (I : St1 M W s H) (E : En M W H σ env) (r : Ru M W (fun c dx H' => Wx c dx σ H') H (((mo env).bind f) s) P)
    (hf : ∀ d s2 H2, St1 M W s2 H2 → Rw M W H H2 → En M W H2 σ env → Ru M W (fun c dx H' => Wx c dx σ H') H2 (f d s2) P → R d H2) : tMO M Wx mo σ H R := ⟨W, s, env, I, E, r.bind.mono fun d s1 H1 R1 I1 q1 => hf d s1 H1 I1 R1 (E.up R1) q1⟩
theorem pm_sl {lo hi : Option Expr} {ml mh : MO} {p2 : Pos} (hK : M.K = X.K) (he : PE X a (tM M Wx ma)) (hl : PO X lo (tMO M Wx ml)) (hh : PO X hi (tMO M Wx mh)) : PE X (.Subscript a (.Slice lo hi none p2) pos) (tM M Wx (mSl ma ml mh)) := (pe_slice (slM hK) he hl hh).imp fun σ H Q h => by
  obtain ⟨W, s, env, I, E, r⟩ := h
  refine tM_bind I E r fun d v s2 H2 I2 R2 E2 hd q => ?_
  refine tMO_bind I2 E2 q fun l s3 H3 I3 R3 E3 q3 => ?_
  refine tMO_bind I3 E3 q3 fun u s4 H4 I4 R4 E4 q4 => ?_
  obtain ⟨z, ez, qz⟩ := q4.ofO
  exact ⟨W, s4, d, z, I4, (hd.up R3 _ _).up R4 _ _, ez, fun H' w R' I' hw => qz H' R' I' w hw⟩
/-- held[::-1] -/
def revD : D → Option D
  | .lst ds => some (.lst ds.reverse)
  | _ => none
def mUn (f : D → Option D) (m : ME) : ME := fun env => (m env).bind fun x => Mo.ofO (f x)
theorem pm_rev {k : Nat} {p1 p2 p3 : Pos} (he : PE X a (tM M Wx ma)) : PE X (.Subscript a (.Slice none none (some (.UnaryOp .USub (.Constant (.int 1) k p1) p2)) p3) pos) (tM M Wx (mUn revD ma)) := (pe_revL he).imp fun σ H Q h => by
  obtain ⟨W, s, env, I, E, r⟩ := h
  refine tM_bind I E r fun d v s2 H2 I2 R2 E2 hd q => ?_
  obtain ⟨z, ez, qz⟩ := q.ofO
  unfold revD at ez
  split at ez
  · cases ez
    cases hd with
    | lst nx ex ax => exact ⟨_, _, rfl, SqL.of ex, fun p hp => qz _ (.new hp) (I2.new hp) _ (.lst (I2.fresh hp) upd_same (DqA.up (.new hp) _ _ ax.rev))⟩
  · cases ez
/-- -a -/
def negD : D → Option D
  | .int i => some (.int (-i))
  | _ => none
theorem pm_neg (he : PE X a (tM M Wx ma)) : PE X (.UnaryOp .USub a pos) (tM M Wx (mUn negD ma)) := (pe_un un_neg he).imp fun σ H Q h => by
  obtain ⟨W, s, env, I, E, r⟩ := h
  refine tM_bind I E r fun d v s2 H2 I2 R2 E2 hd q => ?_
  obtain ⟨z, ez, qz⟩ := q.ofO
  unfold negD at ez
  split at ez
  · cases ez
    cases hd
    exact ⟨_, rfl, qz H2 (.refl M _ H2) I2 _ (.int _)⟩
  · cases ez
/-- n.bit_length() -/
def bitsD : D → Option D
  | .int i => some (.int (Builtin.Int.intBits i : Nat))
  | _ => none
theorem pm_bits {apos : Pos} (he : PE X a (tM M Wx ma)) (hbase : attributeBase a "bit_length" X.env (eval a X.env) = eval a X.env := by rfl) (hline : (apos.endLine == pos.line) = true := by rfl) : PE X (.Call (.Attribute a "bit_length" apos) [] [] pos) (tM M Wx (mUn bitsD ma)) := (pe_bits he hbase hline).imp fun σ H Q h => by
  obtain ⟨W, s, env, I, E, r⟩ := h
  refine tM_bind I E r fun d v s2 H2 I2 R2 E2 hd q => ?_
  obtain ⟨z, ez, qz⟩ := q.ofO
  unfold bitsD at ez
  split at ez
  · cases ez
    cases hd
    exact ⟨_, rfl, qz H2 (.refl M _ H2) I2 _ (.int _)⟩
  · cases ez
/-! ### built-ins by values -/
def rMC (M : Pm) (f : List D → Option D) : List V → Hp → VK → Prop := fun vs H Q => ∃ W s ds z, St1 M W s H ∧ DqA M W H ds vs ∧ f ds = some z ∧ ∀ H' w, Rw M W H H' → St1 M W s H' → Dq M W H' z w → Q w H'
def rMCF (M : Pm) (f : List D → Option D) : List V → Hp → VK → Prop := fun vs H Q => ∃ W s ds z, St1 M W s H ∧ DqA M W H ds vs ∧ f ds = some z ∧ ∀ H' p xs es, Rw M W H H' → St1 M W s H' → z = .lst es → H p = none → H' p = some (.lst xs) → DqA M W H' es xs → Q (.ref p) H'
def mBt (f : List D → Option D) (mr : MA) : ME := fun env => (mr env).bind fun ds => Mo.ofO (f ds)
variable {es : List Expr} {mr : MA} {x : Str} {p : Pos} {id T : String} {f : List D → Option D}
theorem bt_imp {σ : L2.St} {H : Hp} {Q : VK} (h : tM M Wx (mBt f mr) σ H Q) : tCB (rMC M f) (tMA M Wx mr) σ H Q := by
  obtain ⟨W, s, env, I, E, r⟩ := h
  refine tMA_bind I E r fun ds vs s2 H2 I2 R2 E2 hd q => ?_
  obtain ⟨z, ez, qz⟩ := q.ofO
  exact ⟨W, s2, ds, z, I2, hd, ez, fun H' w R' I' hw => qz H' R' I' w hw⟩
theorem btF_imp {σ : L2.St} {H : Hp} {Q : VK} (h : tMF M Wx (mBt f mr) σ H Q) : tCB (rMCF M f) (tMA M Wx mr) σ H Q := by
  obtain ⟨W, s, env, I, E, r⟩ := h
  refine tMA_bind I E r fun ds vs s2 H2 I2 R2 E2 hd q => ?_
  obtain ⟨z, ez, qz⟩ := q.ofO
  exact ⟨W, s2, ds, z, I2, hd, ez, fun H' p xs es R' I' e n e' a => qz H' R' I' p xs es e (R2.free n) e' a⟩
theorem pm_callB {e : Expr} (hc : CallR X (.builtin id) (rMC M f)) (hg : Gl X x) (hm : X.mg x = none) (hv : bootBuiltins x = some (.builtin id)) (ha : PA X (e :: es) (tMA M Wx mr)) (hn : x ≠ "__name__" := by decide) (hdb : (x == ("__debug__" : Str)) = false := by decide)
    (he : starEach (e :: es) X.env = (false, eval e X.env) :: starEach es X.env := by rfl) (hpl : (backTo pos (starEach es X.env)).any (·.1) = false := by rfl) : PE X (.Call (.Name x p) (e :: es) [] pos) (tM M Wx (mBt f mr)) := (pe_callB hc hg hm hv ha hn hdb he hpl).imp fun _ _ _ => bt_imp
theorem pm_callTy {e : Expr} (hc : CallR X (.type T) (rMC M f)) (hg : Gl X x) (hm : X.mg x = none) (hv : bootBuiltins x = some (.type T)) (ha : PA X (e :: es) (tMA M Wx mr)) (hn : x ≠ "__name__" := by decide) (hdb : (x == ("__debug__" : Str)) = false := by decide)
    (he : starEach (e :: es) X.env = (false, eval e X.env) :: starEach es X.env := by rfl) (hpl : (backTo pos (starEach es X.env)).any (·.1) = false := by rfl) : PE X (.Call (.Name x p) (e :: es) [] pos) (tM M Wx (mBt f mr)) := (pe_callTy hc hg hm hv ha hn hdb he hpl).imp fun _ _ _ => bt_imp
theorem pm_callBF {e : Expr} (hc : CallR X (.builtin id) (rMCF M f)) (hg : Gl X x) (hm : X.mg x = none) (hv : bootBuiltins x = some (.builtin id)) (ha : PA X (e :: es) (tMA M Wx mr)) (hn : x ≠ "__name__" := by decide) (hdb : (x == ("__debug__" : Str)) = false := by decide)
    (he : starEach (e :: es) X.env = (false, eval e X.env) :: starEach es X.env := by rfl) (hpl : (backTo pos (starEach es X.env)).any (·.1) = false := by rfl) : PE X (.Call (.Name x p) (e :: es) [] pos) (tMF M Wx (mBt f mr)) := (pe_callB hc hg hm hv ha hn hdb he hpl).imp fun _ _ _ => btF_imp
theorem pm_callTyF {e : Expr} (hc : CallR X (.type T) (rMCF M f)) (hg : Gl X x) (hm : X.mg x = none) (hv : bootBuiltins x = some (.type T)) (ha : PA X (e :: es) (tMA M Wx mr)) (hn : x ≠ "__name__" := by decide) (hdb : (x == ("__debug__" : Str)) = false := by decide)
    (he : starEach (e :: es) X.env = (false, eval e X.env) :: starEach es X.env := by rfl) (hpl : (backTo pos (starEach es X.env)).any (·.1) = false := by rfl) : PE X (.Call (.Name x p) (e :: es) [] pos) (tMF M Wx (mBt f mr)) := (pe_callTy hc hg hm hv ha hn hdb he hpl).imp fun _ _ _ => btF_imp
def lenD : List D → Option D
  | [.lst ds] => some (.int ds.length)
  | [.tup ds] => some (.int ds.length)
  | [.frl ns] => some (.int ns.length)
  | [.str z] => if z.length ≤ 100000 then some (.int z.length) else none
  | _ => none
theorem DqA.one {W : Wd} {H : Hp} {d : D} {vs : List V} (h : DqA M W H [d] vs) : ∃ v, vs = [v] ∧ Dq M W H d v := by
  cases h with
  | cons a b =>
    cases b
    exact ⟨_, rfl, a⟩
theorem DqA.two {W : Wd} {H : Hp} {d e : D} {vs : List V} (h : DqA M W H [d, e] vs) : ∃ v u, vs = [v, u] ∧ Dq M W H d v ∧ Dq M W H e u := by
  cases h with
  | cons a b =>
    obtain ⟨u, rfl, q⟩ := b.one
    exact ⟨_, _, rfl, a, q⟩
theorem callM_len (hK : M.K = X.K) : CallR X (.builtin "len") (rMC M lenD) := by
  intro pins s σ H vs us Q I r h
  obtain ⟨W, g, ds, z, J, hd, e, q⟩ := h
  unfold lenD at e
  split at e
  · cases e
    obtain ⟨v, rfl, hv⟩ := hd.one
    cases hv with
    | lst n ex ax => exact call_len pins s σ H _ us Q I r ⟨_, _, rfl, .inl ⟨_, SqL.of ex, rfl⟩, by rw [← ax.length]; exact q H _ (.refl M W H) J (.int _)⟩
  · cases e
    obtain ⟨v, rfl, hv⟩ := hd.one
    cases hv with
    | tup n ex ax => exact call_len pins s σ H _ us Q I r ⟨_, _, rfl, .inr ⟨_, SqT.of ex, rfl⟩, by rw [← ax.length]; exact q H _ (.refl M W H) J (.int _)⟩
  · cases e
    obtain ⟨v, rfl, hv⟩ := hd.one
    obtain ⟨a, rfl, ex⟩ := frl_sq hK hv
    exact call_len pins s σ H _ us Q I r ⟨_, _, rfl, .inl ⟨_, ex, rfl⟩, by rw [List.length_map]; exact q H _ (.refl M W H) J (.int _)⟩
  · split at e
    · rename_i hl
      cases e
      obtain ⟨v, rfl, hv⟩ := hd.one
      cases hv
      exact call_len pins s σ H _ us Q I r ⟨_, _, rfl, ⟨sz5 hl, rfl⟩, q H _ (.refl M W H) J (.int _)⟩
    · cases e
  · cases e
def intD : List D → Option D
  | [.int i] => some (.int i)
  | [.bl b] => some (.int (if b then 1 else 0))
  | _ => none
theorem callM_int : CallR X (.type "int") (rMC M intD) := by
  intro pins s σ H vs us Q I r h
  obtain ⟨W, g, ds, z, J, hd, e, q⟩ := h
  unfold intD at e
  split at e
  · cases e
    obtain ⟨v, rfl, hv⟩ := hd.one
    cases hv
    exact call_int1 pins s σ H _ us Q I r (.inl ⟨_, rfl, q H _ (.refl M W H) J (.int _)⟩)
  · cases e
    obtain ⟨v, rfl, hv⟩ := hd.one
    cases hv
    exact call_int1 pins s σ H _ us Q I r (.inr ⟨_, rfl, q H _ (.refl M W H) J (.int _)⟩)
  · cases e
def max2D : List D → Option D
  | [.int i, .int j] => some (.int (if j > i then j else i))
  | _ => none
theorem callM_max2 (hc : X.calm = true) : CallR X (.builtin "max") (rMC M max2D) := by
  intro pins s σ H vs us Q I r h
  obtain ⟨W, g, ds, z, J, hd, e, q⟩ := h
  unfold max2D at e
  split at e
  · cases e
    obtain ⟨v, u, rfl, hv, hu⟩ := hd.two
    cases hv
    cases hu
    exact call_max2 hc pins s σ H _ us Q I r ⟨_, _, rfl, q H _ (.refl M W H) J (.int _)⟩
  · cases e
def intsD : List D → Option (List Int)
  | [] => some []
  | .int i :: ds => (intsD ds).map fun ns => i :: ns
  | _ => none
theorem intsD_some : ∀ {ds : List D} {ns : List Int}, intsD ds = some ns → ds = ns.map D.int
  | [], ns, h => by
    cases h
    rfl
  | d :: ds, ns, h => by
    cases d with
    | int i =>
      unfold intsD at h
      cases q : intsD ds with
      | none => rw [q] at h; cases h
      | some ms =>
        rw [q] at h
        cases h
        rw [intsD_some q]
        rfl
    | _ => cases h
theorem DqA.ofInts {W : Wd} {H : Hp} : ∀ {ns : List Int} {vs : List V}, DqA M W H (ns.map D.int) vs → vs = ns.map V.int
  | [], _, h => by
    cases h
    rfl
  | n :: ns, _, h => by
    cases h with
    | cons a b =>
      cases a
      rw [DqA.ofInts b]
      rfl
def sumD : List D → Option D
  | [.lst ds] => (intsD ds).map fun ns => .int ns.sum
  | _ => none
theorem callM_sum (hc : X.calm = true) : CallR X (.builtin "sum") (rMC M sumD) := by
  intro pins s σ H vs us Q I r h
  obtain ⟨W, g, ds, z, J, hd, e, q⟩ := h
  unfold sumD at e
  split at e
  · rename_i ds0
    cases hi : intsD ds0 with
    | none => rw [hi] at e; cases e
    | some ns =>
      rw [hi] at e
      cases e
      obtain ⟨v, rfl, hv⟩ := hd.one
      cases hv with
      | lst n ex ax =>
        rw [intsD_some hi] at ax
        have e2 := ax.ofInts
        subst e2
        exact cr_sum hc pins s σ H _ us Q I r ⟨_, _, rfl, SqL.of ex, q H _ (.refl M W H) J (.int _)⟩
  · cases e
def minI : List Int → Option Int
  | [] => none
  | [n] => some n
  | n :: r => (minI r).map fun m => if n ≤ m then n else m
theorem minI_ok : ∀ {ns : List Int} {m : Int}, minI ns = some m → m ∈ ns ∧ ∀ y ∈ ns, m ≤ y
  | [], m, h => by cases h
  | [n], m, h => by
    cases h
    exact ⟨List.mem_singleton.mpr rfl, fun y hy => by rw [List.mem_singleton.mp hy]; exact Int.le_refl _⟩
  | n :: k :: r, m, h => by
    unfold minI at h
    cases q : minI (k :: r) with
    | none => rw [q] at h; cases h
    | some m' =>
      rw [q] at h
      obtain ⟨h1, h2⟩ := minI_ok q
      have e : (if n ≤ m' then n else m') = m := Option.some.inj h
      by_cases hn : n ≤ m'
      · rw [if_pos hn] at e
        subst e
        exact ⟨List.mem_cons_self .., fun y hy => by
          rcases List.mem_cons.mp hy with rfl | hy
          · exact Int.le_refl _
          · exact Int.le_trans hn (h2 y hy)⟩
      · rw [if_neg hn] at e
        subst e
        exact ⟨List.mem_cons_of_mem _ h1, fun y hy => by
          rcases List.mem_cons.mp hy with rfl | hy
          · omega
          · exact h2 y hy⟩
def minD : List D → Option D
  | [.lst ds] => (intsD ds).bind fun ns => (minI ns).map D.int
  | _ => none
theorem callM_min (hc : X.calm = true) : CallR X (.builtin "min") (rMC M minD) := by
  intro pins s σ H vs us Q I r h
  obtain ⟨W, g, ds, z, J, hd, e, q⟩ := h
  unfold minD at e
  split at e
  · rename_i ds0
    cases hi : intsD ds0 with
    | none => rw [hi] at e; cases e
    | some ns =>
      rw [hi] at e
      cases hm : minI ns with
      | none => rw [Option.bind_some, hm] at e; cases e
      | some m =>
        rw [Option.bind_some, hm] at e
        cases e
        obtain ⟨v, rfl, hv⟩ := hd.one
        obtain ⟨m1, m2⟩ := minI_ok hm
        cases hv with
        | lst n ex ax =>
          rw [intsD_some hi] at ax
          have e2 := ax.ofInts
          subst e2
          refine cr_min hc pins s σ H _ us Q I r ⟨_, ns, rfl, SqL.of ex, List.length_pos_of_mem m1, fun m' h1 h2 => ?_⟩
          have e3 : m' = m := Int.le_antisymm (h2 m m1) (m2 m' h1)
          rw [e3]
          exact q H _ (.refl M W H) J (.int _)
  · cases e
def listD : List D → Option D
  | [.lst ds] => some (.lst ds)
  | _ => none
theorem callM_list : CallR X (.type "list") (rMCF M listD) := by
  intro pins s σ H vs us Q I r h
  obtain ⟨W, g, ds, z, J, hd, e, q⟩ := h
  unfold listD at e
  split at e
  · cases e
    obtain ⟨v, rfl, hv⟩ := hd.one
    cases hv with
    | lst n ex ax => exact call_list_of pins s σ H _ us Q I r ⟨_, _, rfl, .inl (SqL.of ex), fun l hl => q _ l _ _ (.new hl) (J.new hl) rfl hl upd_same (DqA.up (.new hl) _ _ ax)⟩
  · cases e
def tupleD : List D → Option D
  | [.lst ds] => some (.tup ds)
  | _ => none
theorem callM_tuple : CallR X (.type "tuple") (rMC M tupleD) := by
  intro pins s σ H vs us Q I r h
  obtain ⟨W, g, ds, z, J, hd, e, q⟩ := h
  unfold tupleD at e
  split at e
  · cases e
    obtain ⟨v, rfl, hv⟩ := hd.one
    cases hv with
    | lst n ex ax => exact call_tuple_of pins s σ H _ us Q I r ⟨_, _, rfl, .inl ⟨SqL.of ex, fun l hl => q _ _ (.new hl) (J.new hl) (.tup (J.fresh hl) upd_same (DqA.up (.new hl) _ _ ax))⟩⟩
  · cases e
def blsD : List D → Option (List Bool)
  | [] => some []
  | .bl i :: ds => (blsD ds).map fun ns => i :: ns
  | _ => none
theorem blsD_some : ∀ {ds : List D} {ns : List Bool}, blsD ds = some ns → ds = ns.map D.bl
  | [], ns, h => by
    cases h
    rfl
  | d :: ds, ns, h => by
    cases d with
    | bl i =>
      unfold blsD at h
      cases q : blsD ds with
      | none => rw [q] at h; cases h
      | some ms =>
        rw [q] at h
        cases h
        rw [blsD_some q]
        rfl
    | _ => cases h
theorem DqA.ofBls {W : Wd} {H : Hp} : ∀ {ns : List Bool} {vs : List V}, DqA M W H (ns.map D.bl) vs → vs = ns.map V.bl
  | [], _, h => by
    cases h
    rfl
  | n :: ns, _, h => by
    cases h with
    | cons a b =>
      cases a
      rw [DqA.ofBls b]
      rfl
def allD : List D → Option D
  | [.lst ds] => (blsD ds).map fun bs => .bl (bs.all _root_.id)
  | _ => none
theorem callM_all (hc : X.calm = true) : CallR X (.builtin "all") (rMC M allD) := by
  intro pins s σ H vs us Q I r h
  obtain ⟨W, g, ds, z, J, hd, e, q⟩ := h
  unfold allD at e
  split at e
  · rename_i ds0
    cases hi : blsD ds0 with
    | none => rw [hi] at e; cases e
    | some ns =>
      rw [hi] at e
      cases e
      obtain ⟨v, rfl, hv⟩ := hd.one
      cases hv with
      | lst n ex ax =>
        rw [blsD_some hi] at ax
        have e2 := ax.ofBls
        subst e2
        exact cr_all hc pins s σ H _ us Q I r ⟨_, _, rfl, SqL.of ex, q H _ (.refl M W H) J (.bl _)⟩
  · cases e
/-! ### isinstance -/
def D.ty : D → String
  | .non => "NoneType" | .bl _ => "bool" | .int _ => "int" | .str _ => "str" | .lst _ => "list" | .tup _ => "tuple" | .dic _ => "dict" | _ => "?"
theorem Dq.tyx {K : PySem.W.Frag} {W : Wd} {H : Hp} {d : D} {v : V} (h : Dq M W H d v) (hn : d.ty ≠ "?") : TyX K H v (.type d.ty) := by
  cases h with
  | non => exact .base .non
  | bl b => exact .base (.bl b)
  | int i => exact .base (.int i)
  | str x => exact .base (.str x)
  | lst n e a => exact .base (.lst e)
  | tup n e a => exact .base (.tup e)
  | dic n e => exact .base (.dK e)
  | _ => exact absurd rfl hn
def isD1 (T : String) (d : D) : Option D := if d.ty = "?" then none else (kitB d.ty T).map D.bl
theorem pm_isi {y : Str} {py : Pos} (hg : Gl X "isinstance") (hm : X.mg "isinstance" = none) (hgy : Gl X y) (hmy : X.mg y = none) (hby : bootBuiltins y = some (.type T)) (ha : PE X a (tM M Wx ma)) (hny : y ≠ "__name__" := by decide) (hdy : (y == ("__debug__" : Str)) = false := by decide)
    (he : starEach [a, .Name y py] X.env = (false, eval a X.env) :: starEach [.Name y py] X.env := by rfl) (he2 : starEach [Expr.Name y py] X.env = (false, eval (.Name y py) X.env) :: starEach [] X.env := by rfl) (hpl : (backTo pos (starEach [Expr.Name y py] X.env)).any (·.1) = false := by rfl) :
    PE X (.Call (.Name "isinstance" p) [a, .Name y py] [] pos) (tM M Wx (mUn (isD1 T) ma)) :=
  (pe_callB call_isi hg hm PyProof.Rows.boot_isinstance (pa_cons ha (pa_cons (pe_bltn (v := .ty T) hgy hmy hby rfl hny hdy) pa_nil he2) he) (by decide) (by decide) he hpl).imp fun σ H Q h => by
    obtain ⟨W, s, env, I, E, r⟩ := h
    refine tM_bind I E r fun d v s2 H2 I2 R2 E2 hd q => ?_
    obtain ⟨z, ez, qz⟩ := q.ofO
    unfold isD1 at ez
    by_cases hn : d.ty = "?"
    · rw [if_pos hn] at ez
      cases ez
    · rw [if_neg hn] at ez
      cases hk : kitB d.ty T with
      | none => rw [hk] at ez; cases ez
      | some b =>
        rw [hk] at ez
        cases ez
        exact ⟨v, .ty T, _, _, b, rfl, .ty T, hd.tyx hn, kit_ty hk, qz H2 (.refl M _ H2) I2 _ (.bl _)⟩
/-- isinstance(a, (list, tuple)) -/
def isD2 (d : D) : Option D := if d.ty = "?" then none else (kitB d.ty "list").bind fun b => (kitB d.ty "tuple").map fun c => .bl (b || c)
theorem pm_isi2 {k : Nat} {p1 p2 p3 : Pos} (hg : Gl X "isinstance") (hm : X.mg "isinstance" = none) (hg1 : Gl X "list") (hm1 : X.mg "list" = none) (hg2 : Gl X "tuple") (hm2 : X.mg "tuple" = none) (ha : PE X a (tM M Wx ma))
    (he : starEach [a, .Tuple [.Name "list" p1, .Name "tuple" p2] k p3] X.env = (false, eval a X.env) :: starEach [.Tuple [.Name "list" p1, .Name "tuple" p2] k p3] X.env := by rfl)
    (hpl : (backTo pos (starEach [Expr.Tuple [.Name "list" p1, .Name "tuple" p2] k p3] X.env)).any (·.1) = false := by rfl) :
    PE X (.Call (.Name "isinstance" p) [a, .Tuple [.Name "list" p1, .Name "tuple" p2] k p3] [] pos) (tM M Wx (mUn isD2 ma)) :=
  (pe_callB call_isiT hg hm PyProof.Rows.boot_isinstance (pa_cons ha (pa_cons (pe_tup (pa_cons (pe_bltn (v := .ty "list") hg1 hm1 PyProof.Rows.boot_list rfl) (pa_cons (pe_bltn (v := .ty "tuple") hg2 hm2 PyProof.Rows.boot_tuple rfl) pa_nil))) pa_nil) he) (by decide) (by decide) he hpl).imp fun σ H Q h => by
    obtain ⟨W, s, env, I, E, r⟩ := h
    refine tM_bind I E r fun d v s2 H2 I2 R2 E2 hd q => ?_
    refine ⟨by show 2 ≤ sizeLine; decide, fun tp hp => ?_⟩
    obtain ⟨z, ez, qz⟩ := q.ofO
    unfold isD2 at ez
    by_cases hn : d.ty = "?"
    · rw [if_pos hn] at ez
      cases ez
    · rw [if_neg hn] at ez
      cases hk : kitB d.ty "list" with
      | none => rw [hk] at ez; cases ez
      | some b =>
        cases hk2 : kitB d.ty "tuple" with
        | none => rw [hk, Option.bind_some, hk2] at ez; cases ez
        | some c =>
          rw [hk, Option.bind_some, hk2] at ez
          cases ez
          refine ⟨v, tp, _, .type d.ty, [.type "list", .type "tuple"], b || c, rfl, upd_same, .cons (.ty _) (.cons (.ty _) .nil), (hd.up (.new hp) _ _).tyx hn, ?_, qz _ (.new hp) (I2.new hp) _ (.bl _)⟩
          refine kitAny_cons (kit_ty hk) (fun hb => ?_) (fun hb => by rw [hb]; rfl)
          rw [hb, Bool.false_or]
          exact kitAny_cons (kit_ty hk2) (fun hc => by rw [hc]; exact kitAny_nil) (fun hc => hc)
end
end Ink

set_option Elab.async false
set_option linter.all false
set_option maxRecDepth 100000
set_option maxHeartbeats 1000000
/-! rules: targets, what is walked, comprehensions, generator expressions, loops, statements -/
namespace Ink
open PySem PySem.Spec PyProof.Rows L2 GxR GenW
/-- a target, by data; is: the slots -/
abbrev MTg := D → Envd → Option Envd
structure TgOk (M : Pm) (g : TG) (t : MTg) (is : List Nat) : Prop where
  run : ∀ (W : Wd) (s : GS) (H : Hp) (d : D) (v : V) (env env' : Envd) (σ : L2.St) (Q : L2.St → Hp → Prop), St1 M W s H → En M W H σ env → Dq M W H d v → t d env = some env' → (∀ σ', En M W H σ' env' → (∀ vs : List Nat, (∀ i ∈ is, i ∈ vs) → L2.wipe σ' vs = L2.wipe σ vs) → Q σ' H) → g v σ H Q
theorem wipe_set {σ : L2.St} {i : Nat} {x : Option V} : ∀ {vs : List Nat}, i ∈ vs → L2.wipe (σ.set i x) vs = L2.wipe σ vs
  | [], h => by cases h
  | v :: vs, h => by
    show (L2.wipe (σ.set i x) vs).set v none = (L2.wipe σ vs).set v none
    by_cases e : i ∈ vs
    · rw [wipe_set e]
    · have e2 : i = v := by
        rcases List.mem_cons.mp h with q | q
        · exact q
        · exact absurd q e
      subst e2
      have key : ∀ (vs : List Nat), i ∉ vs → L2.wipe (σ.set i x) vs = (L2.wipe σ vs).set i x := by
        intro vs
        induction vs with
        | nil => intro _; rfl
        | cons u us ih =>
          intro hn
          show (L2.wipe (σ.set i x) us).set u none = ((L2.wipe σ us).set u none).set i x
          rw [ih fun q => hn (List.mem_cons_of_mem _ q)]
          exact List.set_comm _ _ fun q => hn (by rw [q]; exact List.mem_cons_self)
      rw [key vs e, List.set_set]
def tgN (i : Nat) : MTg := fun d env => some (env.set i (some d))
def tgP (i j : Nat) : MTg := fun d env => match d with
  | .tup [a, b] => some ((env.set i (some a)).set j (some b))
  | _ => none
theorem tg_name {M : Pm} (i : Nat) : TgOk M (gName i) (tgN i) [i] := ⟨fun W s H d v env env' σ Q I E hd e q => by
  cases e
  exact q _ (E.set i hd) fun vs hv => wipe_set (hv i List.mem_cons_self)⟩
theorem tg_pair {M : Pm} {K : PySem.W.Frag} (i j : Nat) : TgOk M (gTup K 2 (gCons (gName i) (gCons (gName j) gNil))) (tgP i j) [i, j] := ⟨fun W s H d v env env' σ Q I E hd e q => by
  unfold tgP at e
  split at e
  · cases e
    cases hd with
    | tup n ex ax =>
      obtain ⟨v1, v2, rfl, h1, h2⟩ := ax.two
      refine ⟨_, _, rfl, SqT.of ex, rfl, v1, [v2], rfl, v2, [], rfl, rfl, q _ ((E.set i h1).set j h2) fun vs hv => ?_⟩
      rw [wipe_set (hv j (List.mem_cons_of_mem _ List.mem_cons_self)), wipe_set (hv i List.mem_cons_self)]
  · cases e⟩
/-! ### what is walked -/
abbrev MI := Envd → Mo (List D)
def Walks (M : Pm) (W : Wd) (J : It) (items : List D) (H0 : Hp) : Prop := ∀ (W' : Wd) (i : Nat) (s : GS) (H : Hp), Rw M W' H0 H → (∀ a, W.B a → W'.B a) → (∀ a, W'.B a → W.B a ∨ H0 a = none) → (∀ a, W.G = some a → W'.G = some a) → (∀ a, W.O = some a → W'.O = some a) → St1 M W' s H →
  (items.length ≤ i → J.stop i H) ∧ ∀ d, items[i]? = some d → J.go i H ∧ ∀ x H', J.yld i H x H' → Rw M W' H H' ∧ St1 M W' s H' ∧ Dq M W' H' d x ∧ ∀ a o, H a = some o → H' a = some o
def iM (M : Pm) (Wx : WX) (m : MI) : TI := fun σ H R => ∃ W s env, St1 M W s H ∧ En M W H σ env ∧ Ru M W (fun c dx H' => Wx c dx σ H') H (m env s) fun ds s' H' => ∀ J, Walks M W J ds H' → R J H'
theorem _root_.L2.PI.imp {X : Cx} {tg e : Expr} {t t' : TI} (h : PI X tg e t) (f : ∀ σ H Q, t' σ H Q → t σ H Q) : PI X tg e t' := ⟨fun pins s σ H R I q => h.run pins s σ H R I (f σ H R q)⟩
section
variable {X : Cx} {M : Pm} {Wx : WX} {a b c tg : Expr} {ma mb mc : ME} {mr : MA} {pos p : Pos} {es : List Expr}
def itsD : D → Option (List D)
  | .lst ds => some ds
  | _ => none
def mIt (f : D → Option (List D)) (m : ME) : MI := fun env => (m env).bind fun d => Mo.ofO (f d)
theorem keepNB {W : Wd} {W' : Wd} {H0 H : Hp} {a : Addr} {o : HO} (R : Rw M W' H0 H) (hb : ∀ a, W'.B a → W.B a ∨ H0 a = none) (n : ¬ W.B a) (e : H0 a = some o) (nt : ∀ ps, o ≠ .tbl ps) : H a = some o :=
  have no : ¬ W'.B a := fun z => (hb a z).elim n fun q => by rw [q] at e; cases e
  R.keep a o (fun z => no (W'.gb _ z)) (fun z => no (W'.ob _ z)) e nt
theorem walks_list {W : Wd} {K : PySem.W.Frag} {H0 : Hp} {p : Addr} {xs : List V} {ds : List D} (n : ¬ W.B p) (e : H0 p = some (.lst xs)) (hd : DqA M W H0 ds xs) : Walks M W (Itl K p) ds H0 := fun W' i s H R hb hb2 hg ho I => by
  have e2 : H p = some (.lst xs) := keepNB R hb2 n e fun _ z => by cases z
  refine ⟨fun hl => ⟨xs, SqL.of e2, by rw [← hd.length]; exact hl⟩, fun d hi => ?_⟩
  obtain ⟨v, hv, qv⟩ := hd.get hi
  refine ⟨⟨xs, v, SqL.of e2, hv⟩, fun x H' y => ?_⟩
  obtain ⟨rfl, y⟩ := y
  have ex := y xs (SqL.of e2)
  rw [hv] at ex
  cases ex
  exact ⟨.refl M W' _, I, (Dq.to ⟨hb2, hg, ho⟩ d _ qv).up R _ _, fun _ _ h => h⟩
theorem pmi_list (h : PE X a (tM M Wx ma)) : PI X tg a (iM M Wx (mIt itsD ma)) := (pi_list h).imp fun σ H R h => by
  obtain ⟨W, s, env, I, E, r⟩ := h
  refine tM_bind I E r fun d v s2 H2 I2 R2 E2 hd q => ?_
  obtain ⟨z, ez, qz⟩ := q.ofO
  unfold itsD at ez
  split at ez
  · cases ez
    cases hd with
    | lst n e ax => exact ⟨_, rfl, ⟨_, SqL.of e⟩, qz H2 (.refl M _ H2) I2 _ (walks_list n e ax)⟩
  · cases ez
def itsS : D → Option (List D)
  | .str z => some (z.cps.toList.map fun c => D.str ⟨#[c]⟩)
  | _ => none
theorem walks_str {W : Wd} {H0 : Hp} {z : Str} : Walks M W (Its z) (z.cps.toList.map fun c => D.str ⟨#[c]⟩) H0 := fun W' i s H R hb hb2 hg ho I => by
  refine ⟨fun hl => ?_, fun d hi => ?_⟩
  · rw [List.length_map] at hl
    show z.cps.size ≤ i
    simpa using hl
  · rw [List.getElem?_map] at hi
    cases hc : z.cps.toList[i]? with
    | none => rw [hc] at hi; cases hi
    | some c =>
      rw [hc] at hi
      cases hi
      have hlt : i < z.cps.size := by
        have := (List.getElem?_eq_some_iff.mp hc).1
        simpa using this
      refine ⟨hlt, fun x H' y => ?_⟩
      obtain ⟨rfl, c', ec, rfl⟩ := y
      have e3 : z.cps.toList[i]? = z.cps[i]? := by simp
      rw [e3] at hc
      rw [hc] at ec
      cases ec
      exact ⟨.refl M W' _, I, .str _, fun _ _ h => h⟩
theorem pmi_str (h : PE X a (tM M Wx ma)) : PI X tg a (iM M Wx (mIt itsS ma)) := (pi_str h).imp fun σ H R h => by
  obtain ⟨W, s, env, I, E, r⟩ := h
  refine tM_bind I E r fun d v s2 H2 I2 R2 E2 hd q => ?_
  obtain ⟨z, ez, qz⟩ := q.ofO
  unfold itsS at ez
  split at ez
  · cases ez
    cases hd
    exact ⟨_, rfl, qz H2 (.refl M _ H2) I2 _ walks_str⟩
  · cases ez
def mItA (f : List D → Option (List D)) (m : MA) : MI := fun env => (m env).bind fun d => Mo.ofO (f d)
def rngD : List D → Option (List D)
  | [.int j] => if j ≤ 1000000 ∧ -1000000 ≤ j then some ((List.range j.toNat).map fun i : Nat => D.int (i : Int)) else none
  | _ => none
theorem walks_rng {W : Wd} {H0 : Hp} {n : Nat} : Walks M W (Itr 0 n) ((List.range n).map fun i : Nat => D.int (i : Int)) H0 := fun W' i s H R hb hb2 hg ho I => by
  refine ⟨fun hl => show n ≤ i by simpa using hl, fun d hi => ?_⟩
  rw [List.getElem?_map] at hi
  by_cases hlt : i < n
  · rw [List.getElem?_range hlt] at hi
    cases hi
    refine ⟨hlt, fun x H' y => ?_⟩
    obtain ⟨rfl, rfl⟩ := y
    refine ⟨.refl M W' _, I, ?_, fun _ _ h => h⟩
    rw [Int.zero_add]
    exact .int _
  · rw [List.getElem?_eq_none (by simpa using hlt)] at hi
    cases hi
theorem pmi_range {arg : Expr} (hg : Gl X "range") (hm : X.mg "range" = none) (ha : PA X [arg] (tMA M Wx mr)) (hs : starEach [arg] X.env = [(false, eval arg X.env)] := by rfl) : PI X tg (.Call (.Name "range" p) [arg] [] pos) (iM M Wx (mItA rngD mr)) := (pi_range1 hg hm ha hs).imp fun σ H R h => by
  obtain ⟨W, s, env, I, E, r⟩ := h
  refine tMA_bind I E r fun d v s2 H2 I2 R2 E2 hd q => ?_
  obtain ⟨z, ez, qz⟩ := q.ofO
  unfold rngD at ez
  split at ez
  · split at ez
    · rename_i hj
      cases ez
      obtain ⟨v, rfl, hv⟩ := hd.one
      cases hv
      exact ⟨_, rfl, by omega, by omega, qz H2 (.refl M _ H2) I2 _ walks_rng⟩
    · cases ez
  · cases ez
def enumD : List D → Option (List D)
  | [.lst ds] => some (ds.zipIdx.map fun q => D.tup [.int (q.2 : Int), q.1])
  | _ => none
theorem SqL.lst_inj {K : PySem.W.Frag} {H : Hp} {p : Addr} {xs ys : List V} (h : H p = some (.lst xs)) (q : ∀ zs, SqL K H p zs → zs = ys → True) : True := trivial
theorem walks_enum {W : Wd} {K : PySem.W.Frag} {H0 : Hp} {p : Addr} {xs : List V} {ds : List D} (n : ¬ W.B p) (e : H0 p = some (.lst xs)) (hd : DqA M W H0 ds xs) : Walks M W (Ite K p) (ds.zipIdx.map fun q => D.tup [.int (q.2 : Int), q.1]) H0 := fun W' i s H R hb hb2 hg ho I => by
  have e2 : H p = some (.lst xs) := keepNB R hb2 n e fun _ z => by cases z
  refine ⟨fun hl => ⟨xs, SqL.of e2, by rw [← hd.length]; simpa using hl⟩, fun d hi => ?_⟩
  rw [List.getElem?_map, List.getElem?_zipIdx] at hi
  cases hx : ds[i]? with
  | none => rw [hx] at hi; cases hi
  | some d0 =>
    rw [hx] at hi
    cases hi
    obtain ⟨v, hv, qv⟩ := hd.get hx
    refine ⟨⟨xs, v, SqL.of e2, hv⟩, fun x H' y => ?_⟩
    obtain ⟨T, x', rfl, hT, rfl, y⟩ := y
    have ex := y xs (SqL.of e2)
    rw [hv] at ex
    cases ex
    refine ⟨.new hT, I.new hT, .tup (I.fresh hT) upd_same (.cons ?_ (.cons ?_ .nil)), fun a o h => by rw [upd_ne (ne_of_none h hT)]; exact h⟩
    · rw [Nat.zero_add]
      exact .int _
    · exact ((Dq.to ⟨hb2, hg, ho⟩ d0 _ qv).up R _ _).up (.new hT) _ _
theorem pmi_enum {arg : Expr} {elts : List Expr} {kk : Nat} {tpos : Pos} (hg : Gl X "enumerate") (hm : X.mg "enumerate" = none) (ha : PA X [arg] (tMA M Wx mr)) (hs : starEach [arg] X.env = [(false, eval arg X.env)] := by rfl) : PI X (.Tuple elts kk tpos) (.Call (.Name "enumerate" p) [arg] [] pos) (iM M Wx (mItA enumD mr)) := (pi_enum hg hm ha hs).imp fun σ H R h => by
  obtain ⟨W, s, env, I, E, r⟩ := h
  refine tMA_bind I E r fun d v s2 H2 I2 R2 E2 hd q => ?_
  obtain ⟨z, ez, qz⟩ := q.ofO
  unfold enumD at ez
  split at ez
  · cases ez
    obtain ⟨v, rfl, hv⟩ := hd.one
    cases hv with
    | lst n e ax => exact ⟨_, _, rfl, SqL.of e, qz H2 (.refl M _ H2) I2 _ (walks_enum n e ax)⟩
  · cases ez
def zipD : List D → Option (List D)
  | [.lst ds, .lst es] => if ds.length = es.length then some (List.zipWith (fun d e => D.tup [d, e]) ds es) else none
  | [.tup ds, .tup es] => if ds.length = es.length then some (List.zipWith (fun d e => D.tup [d, e]) ds es) else none
  | _ => none
theorem zip_get {ds es : List D} {i : Nat} {d : D} (h : (List.zipWith (fun d e => D.tup [d, e]) ds es)[i]? = some d) : ∃ x y, ds[i]? = some x ∧ es[i]? = some y ∧ d = .tup [x, y] := by
  rw [List.getElem?_zipWith] at h
  cases h1 : ds[i]? with
  | none => rw [h1] at h; cases h
  | some x =>
    cases h2 : es[i]? with
    | none => rw [h1, h2] at h; cases h
    | some y =>
      rw [h1, h2] at h
      cases h
      exact ⟨x, y, rfl, rfl, rfl⟩
theorem walks_zipL {W : Wd} {K : PySem.W.Frag} {H0 : Hp} {p p' : Addr} {xs ys : List V} {ds es : List D} (hl : ds.length = es.length) (n : ¬ W.B p) (e : H0 p = some (.lst xs)) (hd : DqA M W H0 ds xs) (n' : ¬ W.B p') (e' : H0 p' = some (.lst ys)) (hd' : DqA M W H0 es ys) :
    Walks M W (Itz K p p') (List.zipWith (fun d e => D.tup [d, e]) ds es) H0 := fun W' i s H R hb hb2 hg ho I => by
  have e2 : H p = some (.lst xs) := keepNB R hb2 n e fun _ z => by cases z
  have e3 : H p' = some (.lst ys) := keepNB R hb2 n' e' fun _ z => by cases z
  refine ⟨fun h => ⟨xs, ys, SqL.of e2, SqL.of e3, .inl ?_⟩, fun d hi => ?_⟩
  · rw [List.length_zipWith] at h
    rw [← hd.length]
    omega
  · obtain ⟨x, y, hx, hy, rfl⟩ := zip_get hi
    obtain ⟨v, hv, qv⟩ := hd.get hx
    obtain ⟨u, hu, qu⟩ := hd'.get hy
    refine ⟨⟨xs, ys, v, u, SqL.of e2, SqL.of e3, hv, hu⟩, fun x' H' z => ?_⟩
    obtain ⟨T, x', y', rfl, hT, rfl, z1, z2⟩ := z
    have ex := z1 xs (SqL.of e2)
    have ey := z2 ys (SqL.of e3)
    rw [hv] at ex
    rw [hu] at ey
    cases ex
    cases ey
    exact ⟨.new hT, I.new hT, .tup (I.fresh hT) upd_same (.cons (((Dq.to ⟨hb2, hg, ho⟩ x _ qv).up R _ _).up (.new hT) _ _) (.cons (((Dq.to ⟨hb2, hg, ho⟩ y _ qu).up R _ _).up (.new hT) _ _) .nil)), fun a o h => by rw [upd_ne (ne_of_none h hT)]; exact h⟩
theorem walks_zipT {W : Wd} {K : PySem.W.Frag} {H0 : Hp} {p p' : Addr} {xs ys : List V} {ds es : List D} (hl : ds.length = es.length) (n : ¬ W.B p) (e : H0 p = some (.tup xs)) (hd : DqA M W H0 ds xs) (n' : ¬ W.B p') (e' : H0 p' = some (.tup ys)) (hd' : DqA M W H0 es ys) :
    Walks M W (RZ.ItzT K p p') (List.zipWith (fun d e => D.tup [d, e]) ds es) H0 := fun W' i s H R hb hb2 hg ho I => by
  have e2 : H p = some (.tup xs) := keepNB R hb2 n e fun _ z => by cases z
  have e3 : H p' = some (.tup ys) := keepNB R hb2 n' e' fun _ z => by cases z
  refine ⟨fun h => ⟨xs, ys, SqT.of e2, SqT.of e3, .inl ?_⟩, fun d hi => ?_⟩
  · rw [List.length_zipWith] at h
    rw [← hd.length]
    omega
  · obtain ⟨x, y, hx, hy, rfl⟩ := zip_get hi
    obtain ⟨v, hv, qv⟩ := hd.get hx
    obtain ⟨u, hu, qu⟩ := hd'.get hy
    refine ⟨⟨xs, ys, v, u, SqT.of e2, SqT.of e3, hv, hu⟩, fun x' H' z => ?_⟩
    obtain ⟨T, x', y', rfl, hT, rfl, z1, z2⟩ := z
    have ex := z1 xs (SqT.of e2)
    have ey := z2 ys (SqT.of e3)
    rw [hv] at ex
    rw [hu] at ey
    cases ex
    cases ey
    exact ⟨.new hT, I.new hT, .tup (I.fresh hT) upd_same (.cons (((Dq.to ⟨hb2, hg, ho⟩ x _ qv).up R _ _).up (.new hT) _ _) (.cons (((Dq.to ⟨hb2, hg, ho⟩ y _ qu).up R _ _).up (.new hT) _ _) .nil)), fun a o h => by rw [upd_ne (ne_of_none h hT)]; exact h⟩
theorem pmi_zip {e1 e2 : Expr} {elts : List Expr} {kk : Nat} {tpos : Pos} (hg : Gl X "zip") (hm : X.mg "zip" = none) (ha : PA X [e1, e2] (tMA M Wx mr)) (hs : starEach [e1, e2] X.env = (false, eval e1 X.env) :: starEach [e2] X.env := by rfl) (hpl : (backTo pos (starEach [e2] X.env)).any (·.1) = false := by rfl) :
    PI X (.Tuple elts kk tpos) (.Call (.Name "zip" p) [e1, e2] [] pos) (iM M Wx (mItA zipD mr)) := (RZ.pi_zipA hg hm ha hs hpl).imp fun σ H R h => by
  obtain ⟨W, s, env, I, E, r⟩ := h
  refine tMA_bind I E r fun d v s2 H2 I2 R2 E2 hd q => ?_
  obtain ⟨z, ez, qz⟩ := q.ofO
  unfold zipD at ez
  split at ez
  · split at ez
    · rename_i hl
      cases ez
      obtain ⟨v, u, rfl, hv, hu⟩ := hd.two
      cases hv with
      | lst n e ax =>
        cases hu with
        | lst n' e' ax' => exact ⟨_, _, _, _, rfl, .inl ⟨SqL.of e, SqL.of e', qz H2 (.refl M _ H2) I2 _ (walks_zipL hl n e ax n' e' ax')⟩⟩
    · cases ez
  · split at ez
    · rename_i hl
      cases ez
      obtain ⟨v, u, rfl, hv, hu⟩ := hd.two
      cases hv with
      | tup n e ax =>
        cases hu with
        | tup n' e' ax' => exact ⟨_, _, _, _, rfl, .inr ⟨SqT.of e, SqT.of e', qz H2 (.refl M _ H2) I2 _ (walks_zipT hl n e ax n' e' ax')⟩⟩
    · cases ez
  · cases ez
/-! ### statements -/
variable {E : XK} {st : Stmt} {rest sts sts' : List Stmt} {ms mt : MS} {tA : MT}
def mSeq (m n : MS) : MS := fun env => (m env).bind fun f => match f with
  | .nx env' => n env'
  | .rt d => Mo.pure (.rt d)
def mSkip : MS := fun env => Mo.pure (.nx env)
theorem Ru.bindS {W : Wd} {H : Hp} {m n : MS} {env : Envd} {s : GS} {P : Fl → GS → Hp → Prop} (h : Ru M W E H (mSeq m n env s) P) : Ru M W E H (m env s) fun f s1 H1 => match f with
    | .nx env' => Ru M W E H1 (n env' s1) P
    | .rt d => Ru M W E H1 (Mo.pure (.rt d) s1) P := (Ru.bind h).mono fun f s1 H1 _ _ q => by
  cases f with
  | nx env' => exact q
  | rt d => exact q
theorem psm_nil : PSs X [] (sM M E mSkip) := pss_nil.imp fun D σ H h => by
  obtain ⟨W, s, env, I, En, r⟩ := h
  exact r.pure I σ En
theorem sM_seq {D : Ends} {σ : L2.St} {H : Hp} (h : sM M E (mSeq ms mt) D σ H) : tSeq (sM M E ms) (sM M E mt) D σ H := by
  obtain ⟨W, s, env, I, En, r⟩ := h
  refine ⟨W, s, env, I, En, r.bindS.mono fun f s1 H1 R1 I1 q => ?_⟩
  cases f with
  | nx env' => exact fun σ' En' => ⟨W, s1, env', I1, En', q⟩
  | rt d => exact fun v hv => q.pure I1 v hv
theorem psm_cons (h1 : PS X st (sM M E ms)) (h2 : PSs X rest (sM M E mt)) : PSs X (st :: rest) (sM M E (mSeq ms mt)) := (pss_cons h1 h2).imp fun _ _ _ => sM_seq
theorem psm_one (h1 : PS X st (sM M E ms)) : PSs X [st] (sM M E ms) := pss_one h1
def mSet (i : Nat) (m : ME) : MS := fun env => (m env).bind fun d => Mo.pure (.nx (env.set i (some d)))
def mRet (m : ME) : MS := fun env => (m env).bind fun d => Mo.pure (.rt d)
def mDrop (m : ME) : MS := fun env => (m env).bind fun _ => Mo.pure (.nx env)
def mIf (t : MT) (m n : MS) : MS := fun env => (t env).bind fun c => if c = true then m env else n env
theorem sM_set {i : Nat} {D : Ends} {σ : L2.St} {H : Hp} (h : sM M E (mSet i ma) D σ H) : tAsg (tM M (cW E) ma) (gName i) D σ H := by
  obtain ⟨W, s, env, I, En, r⟩ := h
  exact tM_bind (Wx := cW E) I En r fun d v s2 H2 I2 R2 E2 hd q => q.pure I2 _ (E2.set i hd)
theorem psm_set {i : Nat} {x : Str} {e : Expr} {pos' : Pos} (hN : X.N.Nodup) (hi : X.N[i]? = some x) (hx : Loc X.env.scope x) (he : PE X e (tM M (cW E) ma)) (hs : swapsWith e (some (.Name x pos')) pos.line X.env = pure false := by rfl)
    (hf : X.fn x = true ∨ X.env.scope.names.lookup x = some .local := by first | exact .inl rfl | exact .inr rfl | assumption) : PS X (.Assign [.Name x pos'] e pos) (sM M E (mSet i ma)) := (ps_set hN hi hx he hs hf).imp fun _ _ _ => sM_set
theorem psm_ret {e : Expr} (he : PE X e (tM M (cW E) ma)) : PS X (.Return (some e) pos) (sM M E (mRet ma)) := (ps_ret he).imp fun D σ H h => by
  obtain ⟨W, s, env, I, En, r⟩ := h
  exact tM_bind (Wx := cW E) I En r fun d v s2 H2 I2 R2 E2 hd q => q.pure I2 _ hd
theorem psm_expr {e : Expr} (he : PE X e (tM M (cW E) ma)) (hs : swapsWith e none pos.line X.env = pure false := by rfl) : PS X (.Expr e pos) (sM M E (mDrop ma)) := (ps_expr he hs).imp fun D σ H h => by
  obtain ⟨W, s, env, I, En, r⟩ := h
  exact tM_bind (Wx := cW E) I En r fun d v s2 H2 I2 R2 E2 hd q => q.pure I2 _ E2
theorem psm_if {t : Expr} (ht : PT X t (tMT M (cW E) tA)) (h1 : PSs X sts (sM M E ms)) (h2 : PSs X sts' (sM M E mt)) : PS X (.If t sts sts' pos) (sM M E (mIf tA ms mt)) := (ps_if ht h1 h2).imp fun D σ H h => by
  obtain ⟨W, s, env, I, En, r⟩ := h
  refine tMT_bind (Wx := cW E) I En r fun c s2 H2 I2 R2 E2 q => ?_
  cases c with
  | true => exact iteT ⟨W, s2, env, I2, E2, q⟩
  | false => exact iteF ⟨W, s2, env, I2, E2, q⟩
/-- x, y = a, b -/
def mPar (i j : Nat) (m : MA) : MS := fun env => (m env).bind fun ds => match ds with
  | [d, e] => Mo.pure (.nx ((env.set i (some d)).set j (some e)))
  | _ => fun _ => none
theorem sM_par {i j : Nat} {D : Ends} {σ : L2.St} {H : Hp} (h : sM M E (mPar i j mr) D σ H) : tPar i j (tMA M (cW E) mr) D σ H := by
  obtain ⟨W, s, env, I, En, r⟩ := h
  refine tMA_bind (Wx := cW E) I En r fun ds vs s2 H2 I2 R2 E2 hd q => ?_
  split at q
  · obtain ⟨v, u, rfl, h1, h2⟩ := hd.two
    exact ⟨v, u, rfl, q.pure I2 _ ((E2.set i h1).set j h2)⟩
  · exact q.none.elim
/-- x, y = e -/
def mAsg (t : MTg) (m : ME) : MS := fun env => (m env).bind fun d => (Mo.ofO (t d env)).bind fun env' => Mo.pure (.nx env')
theorem psm_asg {tgt e : Expr} {g : TG} {t : MTg} {is : List Nat} (T : TgOk M g t is) (he : PE X e (tM M (cW E) ma)) (hg : PG X tgt g) (hs : swapsWithSole [tgt] e pos.line X.env = pure false := by rfl) (hw : swappedStores [tgt] e X.env = pure none := by rfl)
    (h1 : (assignEach [tgt] X.env).map (·.2) = [assign tgt X.env] := by rfl) : PS X (.Assign [tgt] e pos) (sM M E (mAsg t ma)) := (ps_asg he hg hs hw h1).imp fun D σ H h => by
  obtain ⟨W, s, env, I, En, r⟩ := h
  refine tM_bind (Wx := cW E) I En r fun d v s2 H2 I2 R2 E2 hd q => ?_
  obtain ⟨env', e', q'⟩ := q.bind.ofO
  exact T.run W s2 H2 d v env env' σ _ I2 E2 hd e' fun σ' En' _ => (q' H2 (.refl M _ H2) I2).pure I2 σ' En'
/-- for -/
def forM (t : MTg) (body : MS) : List D → Envd → Mo Fl
  | [], env => Mo.pure (.nx env)
  | d :: ds, env => (Mo.ofO (t d env)).bind fun env1 => (body env1).bind fun f => match f with
    | .nx env2 => forM t body ds env2
    | .rt d => Mo.pure (.rt d)
def mFor (mi : MI) (t : MTg) (body : MS) : MS := fun env => (mi env).bind fun ds => forM t body ds env
theorem psm_for {tgt iter : Expr} {body : List Stmt} {g : TG} {t : MTg} {is : List Nat} {mi : MI} (T : TgOk M g t is) (hp : PassesOwn (model X.prog X.w) X.A X.env X.xe) (hc : X.calm = true) (hi : PI X tgt iter (iM M (cW E) mi)) (hg : PG X tgt g) (hb : PSs X body (sM M E ms))
    (hs : ∀ x, foldedSetIterable iter X.env x = pure x := by intro _; rfl) : PS X (.For tgt iter body [] pos) (sM M E (mFor mi t ms)) := (ps_for hp hc hi hg hb hs).imp fun D σ H h => by
  obtain ⟨W, s, env, I, En0, r⟩ := h
  refine ⟨W, s, env, I, En0, r.bind.mono fun ds s1 H1 R1 I1 q J hJ => ?_⟩
  let P : Fl → GS → Hp → Prop := fun f s' H' => match f with
    | .nx env' => ∀ σ', En M W H' σ' env' → D.nx σ' H'
    | .rt d => ∀ v, Dq M W H' d v → D.rt v H'
  refine ⟨fun i m σ H => m = ds.length - i ∧ i ≤ ds.length ∧ ∃ s env, St1 M W s H ∧ En M W H σ env ∧ Rw M W H1 H ∧ Ru M W E H (forM t ms (ds.drop i) env s) P, ⟨ds.length, rfl, Nat.zero_le _, s1, env, I1, En0.up R1, .refl M W H1, q⟩, ?_⟩
  rintro i m σ2 H2 ⟨rfl, hi, s2, env2, I2, E2, R2, q2⟩
  obtain ⟨w1, w2⟩ := hJ W i s2 H2 R2 (fun _ z => z) (fun _ z => .inl z) (fun _ z => z) (fun _ z => z) I2
  by_cases hlt : i < ds.length
  · refine .inr ?_
    obtain ⟨go, y⟩ := w2 ds[i] (List.getElem?_eq_getElem hlt)
    refine ⟨go, fun σ' H' => i + 1 ≤ ds.length ∧ ∃ s env, St1 M W s H' ∧ En M W H' σ' env ∧ Rw M W H1 H' ∧ Ru M W E H' (forM t ms (ds.drop (i + 1)) env s) P, fun σ' H' n => ⟨ds.length - (i + 1), by omega, rfl, n.1, n.2⟩, fun x H3 yx => ?_⟩
    obtain ⟨R3, I3, d3, _⟩ := y x H3 yx
    rw [List.drop_eq_getElem_cons hlt] at q2
    have q2 : Ru M W E H2 (((Mo.ofO (t ds[i] env2)).bind fun env1 => (ms env1).bind fun f => match f with
      | .nx env2 => forM t ms (ds.drop (i + 1)) env2
      | .rt d => Mo.pure (.rt d)) s2) P := q2
    obtain ⟨env3, e3, q3⟩ := q2.bind.ofO
    have q4 := q3 H3 R3 I3
    refine T.run W s2 H3 _ x env2 env3 σ2 _ I3 (E2.up R3) d3 e3 fun σ' En' _ => ?_
    refine ⟨W, s2, env3, I3, En', q4.bind.mono fun f s5 H5 R5 I5 q5 => ?_⟩
    cases f with
    | nx env' => exact fun σ5 E5 => ⟨hlt, s5, env', I5, E5, (R2.trans R3).trans R5, q5⟩
    | rt d => exact fun v hv => (q5.pure I5) v hv
  · have e : i = ds.length := by omega
    refine .inl ⟨w1 (by omega), ?_⟩
    rw [e, List.drop_length] at q2
    exact (show P (.nx env2) s2 H2 from q2.pure I2) σ2 E2
end
end Ink

set_option Elab.async false
set_option linter.all false
set_option maxRecDepth 100000
set_option maxHeartbeats 1000000
/-! rules: comprehensions, generator expressions, calls of defs, defs -/
namespace Ink
open PySem PySem.Spec PyProof.Rows L2 GxR GenW
/-- the items of a comprehension: from env (the own names wiped) -/
def lcM (t : MTg) (env : Envd) (tt : MT) (te : ME) : List D → Mo (List D)
  | [] => Mo.pure []
  | d :: ds => (Mo.ofO (t d env)).bind fun env1 => (noEr (tt env1)).bind fun c => if c = true then (noEr (te env1)).bind fun y => (lcM t env tt te ds).bind fun ys => Mo.pure (y :: ys) else lcM t env tt te ds
def mLc (mi : MI) (t : MTg) (vs : List Nat) (tt : MT) (te : ME) : ME := fun env => (mi env).bind fun ds => if ds.length ≤ 100000 then (lcM t (wipeD env vs) tt te ds).bind fun ys => Mo.pure (.lst ys) else fun _ => none
def mYes : MT := fun _ => Mo.pure true
section
variable {X : Cx} {M : Pm} {Wx : WX} {elt tg iter : Expr} {ifs : List Expr} {scope : Scope} {own : List (Str × Nat)} {pos p : Pos} {mi : MI} {g : TG} {t : MTg} {is : List Nat} {tt : MT} {te : ME}
theorem ptsm_nil : PTs X [] (tMT M Wx mYes) := ⟨fun pins s σ H Q I h => pts_nil.run pins s σ H Q I (by
  obtain ⟨W, s, env, I, E, r⟩ := h
  exact r.pure I)⟩
theorem ptsm_one {c : Expr} (h : PT X c (tMT M Wx tt)) : PTs X [c] (tMT M Wx tt) := pts_one h
/-- the world in which L is being made -/
def Wd.mk1 (W : Wd) (L : Addr) : Wd := ⟨fun a => W.B a ∨ a = L, W.G, W.O, fun a z => .inl (W.gb a z), fun a z => .inl (W.ob a z)⟩
theorem Wd.to1 {W : Wd} {L : Addr} {H : Hp} (h : H L = none) : Wto W (W.mk1 L) H := ⟨fun a z => z.elim .inl fun e => .inr (by rw [e]; exact h), fun _ z => z, fun _ z => z⟩
theorem Wd.of1 {W : Wd} {L : Addr} {H : Hp} : Wto (W.mk1 L) W H := ⟨fun a z => .inl (.inl z), fun _ z => z, fun _ z => z⟩
theorem Rw.of1 {W : Wd} {L : Addr} {H H' : Hp} (R : Rw M (W.mk1 L) H H') : Rw M W H H' := ⟨R.keep, R.dom, R.tab⟩
theorem Rw.to1 {W : Wd} {L : Addr} {H H' : Hp} (R : Rw M W H H') : Rw M (W.mk1 L) H H' := ⟨R.keep, R.dom, R.tab⟩
theorem St1.to1 {W : Wd} {L : Addr} {H : Hp} {s : GS} {o : HO} (I : St1 M W s H) (h : H L = none) : St1 M (W.mk1 L) s (upd H L o) := by
  have J := I.new (o := o) h
  refine ⟨fun a z => z.elim (J.dom a) fun e => by rw [e, upd_same]; exact nofun, J.tab, ?_, ?_, I.ne⟩
  · have h := J.g
    show (match W.G, s.g with
      | none, none => True
      | some a, some (x, y, z) => (W.B a ∨ a = L) ∧ upd H L o a = some (.lst [.int x, .int y, .int z])
      | _, _ => False)
    cases hg : W.G with
    | none =>
      cases hs : s.g with
      | none => trivial
      | some t => rw [hg, hs] at h; exact h
    | some a =>
      cases hs : s.g with
      | none => rw [hg, hs] at h; exact h
      | some t =>
        obtain ⟨x, y, z⟩ := t
        rw [hg, hs] at h
        exact ⟨.inl h.1, h.2⟩
  · have h0 := I.o
    have hh := J.o
    show (match W.O, s.own with
      | none, none => True
      | some p, some ds => (W.B p ∨ p = L) ∧ ∃ xs, upd H L o p = some (.lst xs) ∧ DqA M (W.mk1 L) (upd H L o) ds xs
      | _, _ => False)
    cases hg : W.O with
    | none =>
      cases hs : s.own with
      | none => trivial
      | some t => rw [hg, hs] at hh; exact hh
    | some a =>
      cases hs : s.own with
      | none => rw [hg, hs] at hh; exact hh
      | some t =>
        rw [hg, hs] at hh h0
        obtain ⟨h1, xs, h2, h3⟩ := h0
        exact ⟨.inl h1, xs, by rw [upd_ne (ne_of_none h2 h)]; exact h2, DqA.up (.new h) _ _ (DqA.to (Wd.to1 h) _ _ h3)⟩
theorem St1.of1 {W : Wd} {L : Addr} {H : Hp} {s : GS} (I : St1 M (W.mk1 L) s H) : St1 M W s H := by
  refine ⟨fun a z => I.dom a (.inl z), I.tab, ?_, ?_, I.ne⟩
  · have h : (match W.G, s.g with
      | none, none => True
      | some a, some (x, y, z) => (W.B a ∨ a = L) ∧ H a = some (.lst [.int x, .int y, .int z])
      | _, _ => False) := I.g
    cases hg : W.G with
    | none =>
      cases hs : s.g with
      | none => trivial
      | some t => rw [hg, hs] at h; exact h
    | some a =>
      cases hs : s.g with
      | none => rw [hg, hs] at h; exact h
      | some t =>
        obtain ⟨x, y, z⟩ := t
        rw [hg, hs] at h
        exact ⟨W.gb a hg, h.2⟩
  · have h : (match W.O, s.own with
      | none, none => True
      | some p, some ds => (W.B p ∨ p = L) ∧ ∃ xs, H p = some (.lst xs) ∧ DqA M (W.mk1 L) H ds xs
      | _, _ => False) := I.o
    cases hg : W.O with
    | none =>
      cases hs : s.own with
      | none => trivial
      | some t => rw [hg, hs] at h; exact h
    | some a =>
      cases hs : s.own with
      | none => rw [hg, hs] at h; exact h
      | some t =>
        rw [hg, hs] at h
        obtain ⟨_, xs, h2, h3⟩ := h
        exact ⟨W.ob a hg, xs, h2, DqA.to Wd.of1 _ _ h3⟩
theorem wipe_idem {σ σ2 : L2.St} {vs : List Nat} (h : L2.wipe σ2 vs = L2.wipe (L2.wipe σ vs) vs) : L2.wipe σ2 vs = L2.wipe σ vs := by
  rw [h]
  have key : ∀ (us : List Nat), (∀ i ∈ us, i ∈ vs) → L2.wipe (L2.wipe σ vs) us = L2.wipe σ vs := by
    intro us
    induction us with
    | nil => intro _; rfl
    | cons u us ih =>
      intro hu
      show (L2.wipe (L2.wipe σ vs) us).set u none = L2.wipe σ vs
      rw [ih fun i hi => hu i (List.mem_cons_of_mem _ hi)]
      refine List.ext_getElem? fun j => ?_
      by_cases e : u = j
      · subst e
        by_cases hl : u < (L2.wipe σ vs).length
        · rw [List.getElem?_set_self hl]
          cases q : (L2.wipe σ vs)[u]? with
          | none =>
            rw [List.getElem?_eq_none_iff] at q
            omega
          | some x =>
            cases x with
            | none => rfl
            | some v => exact absurd (hu u List.mem_cons_self) (wipe_some q).2
        · rw [List.getElem?_eq_none (by rw [List.length_set]; omega), List.getElem?_eq_none (by omega)]
      · rw [List.getElem?_set_ne e]
  exact key vs fun _ h => h
theorem Ru.stepN {α β : Type} {W : Wd} {Wy : Value → Option Addr → Hp → Prop} {H : Hp} {x : Mo α} {f : α → Mo β} {s : GS} {P : β → GS → Hp → Prop} (h : Ru M W Wy H ((Ink.noEr x).bind f s) P) : ∃ a s1, x s = some (.ok a, s1) ∧ Ru M W Wy H (f a s1) P := by
  obtain ⟨r, s', e, q⟩ := h
  unfold Mo.bind Ink.noEr at e
  cases hx : x s with
  | none => rw [hx] at e; cases e
  | some p =>
    obtain ⟨rx, s1⟩ := p
    rw [hx] at e
    cases rx with
    | ok a => exact ⟨a, s1, rfl, r, s', e, q⟩
    | er k d => cases e
theorem Ru.stepO {α β : Type} {W : Wd} {Wy : Value → Option Addr → Hp → Prop} {H : Hp} {x : Option α} {f : α → Mo β} {s : GS} {P : β → GS → Hp → Prop} (h : Ru M W Wy H ((Mo.ofO x).bind f s) P) : ∃ a, x = some a ∧ Ru M W Wy H (f a s) P := by
  obtain ⟨r, s', e, q⟩ := h
  unfold Mo.bind Mo.ofO at e
  cases hx : x with
  | none => rw [hx] at e; cases e
  | some a =>
    rw [hx] at e
    exact ⟨a, rfl, r, s', e, q⟩
theorem Ru.assoc {α β γ : Type} {W : Wd} {Wy : Value → Option Addr → Hp → Prop} {H : Hp} {x : Mo α} {f : α → Mo β} {g : β → Mo γ} {s : GS} {P : γ → GS → Hp → Prop} (h : Ru M W Wy H (((x.bind f).bind g) s) P) : Ru M W Wy H ((x.bind fun a => (f a).bind g) s) P := by
  have e : ((x.bind f).bind g) s = (x.bind fun a => (f a).bind g) s := by
    unfold Mo.bind
    cases x s with
    | none => rfl
    | some p =>
      obtain ⟨rx, s1⟩ := p
      cases rx <;> rfl
  rw [← e]
  exact h
theorem wipe_self {σ : L2.St} (vs : List Nat) : L2.wipe (L2.wipe σ vs) vs = L2.wipe σ vs := wipe_idem rfl
/-- the list in the making takes one more -/
theorem St1.at1 {W : Wd} {L : Addr} {H : Hp} {s : GS} {xs : List V} {o : HO} (I : St1 M (W.mk1 L) s H) (n : ¬ W.B L) (e : H L = some (.lst xs)) : St1 M (W.mk1 L) s (upd H L o) := by
  have Rm : ∀ a, a ≠ L → upd H L o a = H a := fun a h => upd_ne h
  have hk : ∀ ds vs, DqA M (W.mk1 L) H ds vs → DqA M (W.mk1 L) (upd H L o) ds vs := fun ds vs h => DqA.but (W := W.mk1 L) (fun a z => Rm a fun q => z (Or.inr q)) ds vs h
  refine ⟨fun a z => ?_, fun P m => ?_, ?_, ?_, I.ne⟩
  · unfold upd
    split
    · exact nofun
    · exact I.dom a z
  · obtain ⟨ps, q, r⟩ := I.tab P m
    exact ⟨ps, by rw [Rm P fun z => by rw [z, e] at q; cases q]; exact q, r⟩
  · have h : (match W.G, s.g with
      | none, none => True
      | some a, some (x, y, z) => (W.B a ∨ a = L) ∧ H a = some (.lst [.int x, .int y, .int z])
      | _, _ => False) := I.g
    show (match W.G, s.g with
      | none, none => True
      | some a, some (x, y, z) => (W.B a ∨ a = L) ∧ upd H L o a = some (.lst [.int x, .int y, .int z])
      | _, _ => False)
    cases hg : W.G with
    | none =>
      cases hs : s.g with
      | none => trivial
      | some t => rw [hg, hs] at h; exact h
    | some a =>
      cases hs : s.g with
      | none => rw [hg, hs] at h; exact h
      | some t =>
        obtain ⟨x, y, z⟩ := t
        rw [hg, hs] at h
        exact ⟨h.1, by rw [Rm a fun z => n (by rw [← z]; exact W.gb a hg)]; exact h.2⟩
  · have h : (match W.O, s.own with
      | none, none => True
      | some p, some ds => (W.B p ∨ p = L) ∧ ∃ xs, H p = some (.lst xs) ∧ DqA M (W.mk1 L) H ds xs
      | _, _ => False) := I.o
    show (match W.O, s.own with
      | none, none => True
      | some p, some ds => (W.B p ∨ p = L) ∧ ∃ xs, upd H L o p = some (.lst xs) ∧ DqA M (W.mk1 L) (upd H L o) ds xs
      | _, _ => False)
    cases hg : W.O with
    | none =>
      cases hs : s.own with
      | none => trivial
      | some t => rw [hg, hs] at h; exact h
    | some a =>
      cases hs : s.own with
      | none => rw [hg, hs] at h; exact h
      | some t =>
        rw [hg, hs] at h
        obtain ⟨h1, xs, h2, h3⟩ := h
        exact ⟨h1, xs, by rw [Rm a fun z => n (by rw [← z]; exact W.ob a hg)]; exact h2, hk _ _ h3⟩
theorem lc_imp (T : TgOk M g t is) (hv : ∀ i ∈ is, i ∈ own.map (·.2)) {σ : L2.St} {H : Hp} {Q : VK} (h : tMF M Wx (mLc mi t (own.map (·.2)) tt te) σ H Q) : tLc (iM M Wx mi) g (tMT M W0 tt) (tM M W0 te) (own.map (·.2)) σ H Q := by
  obtain ⟨W, s, env, I, En0, r⟩ := h
  refine ⟨W, s, env, I, En0, r.bind.mono fun ds s1 H1 R1 I1 q J hJ L hL => ?_⟩
  by_cases hsz : ds.length ≤ 100000
  · rw [if_pos hsz] at q
    generalize hPe : (fun (d : D) (s' : GS) (H' : Hp) => ∀ p xs ds', d = .lst ds' → H p = none → H' p = some (.lst xs) → DqA M W H' ds' xs → Q (.ref p) H') = P at q
    have hL0 : H L = none := R1.free hL
    have E0 : En M (W.mk1 L) H1 σ env := (En0.to (Wd.to1 hL0)).up (Rw.to1 R1)
    refine ⟨fun i m H2 => m = ds.length - i ∧ i ≤ ds.length ∧ ∃ s2 acc xs, St1 M (W.mk1 L) s2 H2 ∧ Rw M (W.mk1 L) H1 H2 ∧ H2 L = some (.lst xs) ∧ xs.length ≤ i ∧ DqA M (W.mk1 L) H2 acc xs ∧
      Ru M W (fun c dx H' => Wx c dx σ H') H1 (((lcM t (wipeD env (own.map (·.2))) tt te (ds.drop i)).bind fun ys => Mo.pure (D.lst (acc ++ ys))) s2) P,
      ⟨ds.length, rfl, Nat.zero_le _, s1, [], [], I1.to1 hL, .new hL, upd_same, Nat.zero_le _, .nil, ?_⟩, ?_⟩
    · simpa using q
    · rintro i m H2 ⟨rfl, hi, s2, acc, xs, I2, R12, e2, lx, a2, q2⟩
      have nB : ¬ W.B L := fun z => I1.dom L z hL
      obtain ⟨w1, w2⟩ := hJ (W.mk1 L) i s2 H2 R12 (fun _ z => .inl z) (fun a z => z.elim .inl fun e => .inr (by rw [e]; exact hL)) (fun _ z => z) (fun _ z => z) I2
      by_cases hlt : i < ds.length
      · refine .inr ?_
        obtain ⟨go, y⟩ := w2 ds[i] (List.getElem?_eq_getElem hlt)
        refine ⟨go, fun H' => i + 1 ≤ ds.length ∧ ∃ s2 acc xs, St1 M (W.mk1 L) s2 H' ∧ Rw M (W.mk1 L) H1 H' ∧ H' L = some (.lst xs) ∧ xs.length ≤ i + 1 ∧ DqA M (W.mk1 L) H' acc xs ∧
          Ru M W (fun c dx H' => Wx c dx σ H') H1 (((lcM t (wipeD env (own.map (·.2))) tt te (ds.drop (i + 1))).bind fun ys => Mo.pure (D.lst (acc ++ ys))) s2) P,
          fun H' n => ⟨ds.length - (i + 1), by omega, rfl, n.1, n.2⟩, fun x H3 yx => ?_⟩
        obtain ⟨R3, I3, d3, k3⟩ := y x H3 yx
        rw [List.drop_eq_getElem_cons hlt] at q2
        obtain ⟨env1, ee, q3⟩ := (Ru.assoc q2).stepO
        obtain ⟨c, s3, ec, q4⟩ := (Ru.assoc q3).stepN
        refine T.run (W.mk1 L) s2 H3 _ x (wipeD env (own.map (·.2))) env1 (L2.wipe σ (own.map (·.2))) _ I3 (((E0.wipe _).up R12).up R3) d3 ee fun σ' En' hw => ?_
        refine ⟨(hw _ hv).trans (wipe_self _), W.mk1 L, s2, env1, I3, En', .ok c, s3, ec, fun H4 R4 I4 => ?_⟩
        have nG : (W.mk1 L).G ≠ some L := fun z => nB (W.gb _ z)
        have nO : (W.mk1 L).O ≠ some L := fun z => nB (W.ob _ z)
        have R24 : Rw M (W.mk1 L) H2 H4 := R3.trans R4
        have e4 : H4 L = some (.lst xs) := R24.keep L _ nG nO e2 nofun
        cases c with
        | false =>
          refine iteF ⟨hlt, s3, acc, xs, I4, R12.trans R24, e4, by omega, DqA.up R24 _ _ a2, ?_⟩
          exact q4
        | true =>
          refine iteT ?_
          obtain ⟨yv, s5, ey, q5⟩ := (Ru.assoc q4).stepN
          refine ⟨W.mk1 L, s3, env1, I4, En'.up R4, .ok yv, s5, ey, fun H5 R5 I5 v5 d5 => ?_⟩
          have e5 : H5 L = some (.lst xs) := R5.keep L _ nG nO e4 nofun
          have a5 : DqA M (W.mk1 L) H5 (acc ++ [yv]) (xs ++ [v5]) := (DqA.up (R24.trans R5) _ _ a2).app (.cons d5 .nil)
          refine ⟨xs, e5, by have := sz5 (n := 100000) (Nat.le_refl _); omega, hlt, s5, acc ++ [yv], xs ++ [v5], I5.at1 nB e5, ?_, upd_same, by rw [List.length_append]; show xs.length + 1 ≤ i + 1; omega, DqA.but (W := W.mk1 L) (fun a z => upd_ne fun q => z (Or.inr q)) _ _ a5, ?_⟩
          · exact (R12.trans (R24.trans R5)).put hL
          · have e9 : (fun ys : List D => Mo.pure (D.lst (acc ++ [yv] ++ ys))) = fun ys => Mo.pure (D.lst (acc ++ yv :: ys)) := by
              funext ys
              rw [List.append_assoc]
              rfl
            rw [e9]
            exact Ru.assoc q5
      · have e : i = ds.length := by omega
        refine .inl ⟨w1 (by omega), ?_⟩
        rw [e, List.drop_length] at q2
        have I2' := I2.of1
        obtain ⟨_, _, ee, q3⟩ := q2
        cases ee
        subst hPe
        exact q3 H2 (Rw.of1 R12) I2' L xs _ rfl hL0 e2 (by rw [List.append_nil]; exact DqA.to Wd.of1 _ _ a2)
  · rw [if_neg hsz] at q
    exact q.none.elim
end
end Ink

set_option Elab.async false
set_option linter.all false
set_option maxRecDepth 100000
set_option maxHeartbeats 1000000
/-! rules: comprehensions and generator expressions as terms, calls of defs, defs -/
namespace Ink
open PySem PySem.Spec PyProof.Rows L2 GxR GenW
section
variable {X : Cx} {M : Pm} {Wx : WX} {elt tg iter : Expr} {ifs : List Expr} {scope : Scope} {own : List (Str × Nat)} {pos p : Pos} {mi : MI} {g : TG} {t : MTg} {is : List Nat} {tt : MT} {te : ME} {E : XK}
theorem pm_lcF (T : TgOk M g t is) (hv : ∀ i ∈ is, i ∈ own.map (·.2)) (hc : X.calm = true) (hN : X.N.Nodup) (hi : PI X tg iter (iM M Wx mi)) (ok : BlkOk X.N X.env.scope scope own)
    (hg : ∀ (s : Shared) (H : Hp) (C : Addr) (cl : List (Str × Addr)) (fp : List Addr), PG (X.blk s H scope (compEnvC scope cl C X.env) fp) tg g) (ht : ∀ (s : Shared) (H : Hp) (C : Addr) (cl : List (Str × Addr)) (fp : List Addr), PTs (X.blk s H scope (compEnvC scope cl C X.env) fp) ifs (tMT M W0 tt))
    (he : ∀ (s : Shared) (H : Hp) (C : Addr) (cl : List (Str × Addr)) (fp : List Addr), PE (X.blk s H scope (compEnvC scope cl C X.env) fp) elt (tM M W0 te)) (hs : ∀ x, foldedSetIterable iter X.env x = pure x := by intro _; rfl) :
    PE X (.ListComp elt [⟨tg, iter, ifs, 0⟩] scope pos) (tMF M Wx (mLc mi t (own.map (·.2)) tt te)) := (pe_lc hc hN hi ok hg ht he hs).imp fun _ _ _ => lc_imp T hv
/-- x = [..] on one line -/
theorem psm_setLc {i : Nat} {y : Str} {py spos : Pos} (T : TgOk M g t is) (hv : ∀ i ∈ is, i ∈ own.map (·.2)) (hc : X.calm = true) (hN : X.N.Nodup) (hy : X.N[i]? = some y) (hyl : X.env.scope.names.lookup y = some .local)
    (hsw : swapsWith (.ListComp elt [⟨tg, iter, ifs, 0⟩] scope pos) (some (.Name y py)) spos.line X.env = pure true) (hi : PI X tg iter (iM M (cW E) mi)) (ok : BlkOk X.N X.env.scope scope own)
    (hg : ∀ (s : Shared) (H : Hp) (C : Addr) (cl : List (Str × Addr)) (fp : List Addr), PG (X.blk s H scope (compEnvC scope cl C X.env) fp) tg g) (ht : ∀ (s : Shared) (H : Hp) (C : Addr) (cl : List (Str × Addr)) (fp : List Addr), PTs (X.blk s H scope (compEnvC scope cl C X.env) fp) ifs (tMT M W0 tt))
    (he : ∀ (s : Shared) (H : Hp) (C : Addr) (cl : List (Str × Addr)) (fp : List Addr), PE (X.blk s H scope (compEnvC scope cl C X.env) fp) elt (tM M W0 te)) (hs : ∀ x, foldedSetIterable iter X.env x = pure x := by intro _; rfl) :
    PS X (.Assign [.Name y py] (.ListComp elt [⟨tg, iter, ifs, 0⟩] scope pos) spos) (sM M E (mSet i (mLc mi t (own.map (·.2)) tt te))) := (ps_setLc hc hN hy hyl hsw hi ok hg ht he hs).imp fun D σ H h => by
  have h2 := sM_set h
  have h3 : tMF M (cW E) (mLc mi t (own.map (·.2)) tt te) σ H (fun x H1 => gName i x σ H1 D.nx) := by
    obtain ⟨W, s, env, I, En, r⟩ := h2
    exact ⟨W, s, env, I, En, r.mono fun d s' H' R' I' q p xs ds e n e' a => by
      subst e
      exact q _ (.lst (I.fresh n) e' a)⟩
  exact lc_imp T hv h3
/-- all (z), any of a generator expression -/
def gxM (z : Bool) (t : MTg) (env : Envd) (tt : MT) (te : ME) : List D → Mo D
  | [] => Mo.pure (.bl z)
  | d :: ds => (Mo.ofO (t d env)).bind fun env1 => (noEr (tt env1)).bind fun c => if c = true then (noEr (te env1)).bind fun y => (Mo.ofO y.asB).bind fun b => if b = z then gxM z t env tt te ds else Mo.pure (.bl (!z)) else gxM z t env tt te ds
def mGx (z : Bool) (mi : MI) (t : MTg) (vs : List Nat) (tt : MT) (te : ME) : ME := fun env => (mi env).bind fun ds => gxM z t (wipeD env vs) tt te ds
theorem gx_imp {P : Addr} {z : Bool} (hP : P ∈ M.T) (T : TgOk M g t is) (hv : ∀ i ∈ is, i ∈ own.map (·.2)) {σ : L2.St} {H : Hp} {Q : VK} (h : tM M Wx (mGx z mi t (own.map (·.2)) tt te) σ H Q) : tGX P (iM M Wx mi) g (tMT M W0 tt) (tM M W0 te) (own.map (·.2)) z σ H Q := by
  obtain ⟨W, s, env, I, En0, r⟩ := h
  refine ⟨W, s, env, I, En0, r.bind.mono fun ds s1 H1 R1 I1 q J hJ => ⟨I1.tab P hP, fun H1' tb => ?_⟩⟩
  have Rt : Rw M W H1 H1' := .tabbed tb (I1.tab P hP)
  have It : St1 M W s1 H1' := I1.tabbed tb (I1.tab P hP)
  refine ⟨fun i m H2 => m = ds.length - i ∧ i ≤ ds.length ∧ ∃ s2, St1 M W s2 H2 ∧ Rw M W H1 H2 ∧ Ru M W (fun c dx H' => Wx c dx σ H') H1 ((gxM z t (wipeD env (own.map (·.2))) tt te (ds.drop i)) s2) (fun d s' H' => ∀ v, Dq M W H' d v → Q v H'), ⟨ds.length, rfl, Nat.zero_le _, s1, It, Rt, q⟩, ?_⟩
  rintro i m H2 ⟨rfl, hi, s2, I2, R2, q2⟩
  obtain ⟨w1, w2⟩ := hJ W i s2 H2 R2 (fun _ z => z) (fun _ z => .inl z) (fun _ z => z) (fun _ z => z) I2
  by_cases hlt : i < ds.length
  · refine .inr ?_
    obtain ⟨go, y⟩ := w2 ds[i] (List.getElem?_eq_getElem hlt)
    refine ⟨go, fun H' => i + 1 ≤ ds.length ∧ ∃ s2, St1 M W s2 H' ∧ Rw M W H1 H' ∧ Ru M W (fun c dx H' => Wx c dx σ H') H1 ((gxM z t (wipeD env (own.map (·.2))) tt te (ds.drop (i + 1))) s2) (fun d s' H' => ∀ v, Dq M W H' d v → Q v H'), fun H' n => ⟨ds.length - (i + 1), by omega, rfl, n.1, n.2⟩, fun x H3 yx => ?_⟩
    obtain ⟨R3, I3, d3, k3⟩ := y x H3 yx
    rw [List.drop_eq_getElem_cons hlt] at q2
    obtain ⟨env1, ee, q3⟩ := Ru.stepO q2
    obtain ⟨c, s3, ec, q4⟩ := q3.stepN
    refine T.run W s2 H3 _ x (wipeD env (own.map (·.2))) env1 (L2.wipe σ (own.map (·.2))) _ I3 ((((En0.up R1).wipe _).up R2).up R3) d3 ee fun σ' En' hw => ?_
    refine ⟨(hw _ hv).trans (wipe_self _), W, s2, env1, I3, En', .ok c, s3, ec, fun H4 R4 I4 => ?_⟩
    cases c with
    | false => exact iteF ⟨hlt, s3, I4, (R2.trans R3).trans R4, q4⟩
    | true =>
      refine iteT ?_
      obtain ⟨yv, s5, ey, q5⟩ := (show Ru M W (fun c dx H' => Wx c dx σ H') H1 (((noEr (te env1)).bind fun y => (Mo.ofO y.asB).bind fun b => if b = z then gxM z t (wipeD env (own.map (·.2))) tt te (ds.drop (i + 1)) else Mo.pure (.bl (!z))) s3) (fun d s' H' => ∀ v, Dq M W H' d v → Q v H') from q4).stepN
      obtain ⟨b, eb, q6⟩ := q5.stepO
      refine ⟨W, s3, env1, I4, En'.up R4, .ok yv, s5, ey, fun H5 R5 I5 v5 d5 => ?_⟩
      rw [asB_some eb] at d5
      cases d5
      refine ⟨b, rfl, ?_⟩
      by_cases hb : b = z
      · rw [if_pos hb] at q6 ⊢
        exact ⟨hlt, s5, I5, ((R2.trans R3).trans R4).trans R5, q6⟩
      · rw [if_neg hb] at q6 ⊢
        obtain ⟨_, _, ee, q7⟩ := q6
        cases ee
        exact q7 H5 (((R2.trans R3).trans R4).trans R5) I5 _ (.bl _)
  · have e : i = ds.length := by omega
    refine .inl ⟨w1 (by omega), ?_⟩
    rw [e, List.drop_length] at q2
    obtain ⟨_, _, ee, q3⟩ := q2
    cases ee
    exact q3 H2 R2 I2 _ (.bl _)
theorem pm_all {c P : Addr} {k : Nat} {gpos : Pos} (hP : P ∈ M.T) (T : TgOk M g t is) (hv : ∀ i ∈ is, i ∈ own.map (·.2)) (hr : Room (k + 3) X.A) (hgl : Gl X "all") (hm : X.mg "all" = none) (hcm : X.calm = true) (hN : X.N.Nodup) (TB : TabB X.base X.mg c P) (hcode : X.env.code = .ref c) (ok : GnOk X.N X.env.scope scope own) (hi : PI X tg iter (iM M Wx mi))
    (hg : ∀ (s : Shared) (H : Hp) (C : Addr) (cl : List (Str × Addr)) (code : Value) (fp : List Addr) (A' : Around), Room k A' → PG (gblk X s H (genEnv scope cl C code builtinsNs X.env) fp A') tg g)
    (ht : ∀ (s : Shared) (H : Hp) (C : Addr) (cl : List (Str × Addr)) (code : Value) (fp : List Addr) (A' : Around), Room k A' → PTs (gblk X s H (genEnv scope cl C code builtinsNs X.env) fp A') ifs (tMT M W0 tt))
    (he : ∀ (s : Shared) (H : Hp) (C : Addr) (cl : List (Str × Addr)) (code : Value) (fp : List Addr) (A' : Around), Room k A' → PE (gblk X s H (genEnv scope cl C code builtinsNs X.env) fp A') elt (tM M W0 te))
    (hs : ∀ v, genFold iter X.env v = pure v := by intro _; rfl)
    (hst : starEach [.GeneratorExp elt [⟨tg, iter, ifs, 0⟩] scope gpos] X.env = (false, eval (.GeneratorExp elt [⟨tg, iter, ifs, 0⟩] scope gpos) X.env) :: starEach [] X.env := by rfl) :
    PE X (.Call (.Name "all" p) [.GeneratorExp elt [⟨tg, iter, ifs, 0⟩] scope gpos] [] pos) (tM M Wx (mGx true mi t (own.map (·.2)) tt te)) := (pe_allX hr hgl hm hcm hN TB hcode ok hi hg ht he hs hst).imp fun _ _ _ => gx_imp hP T hv
theorem pm_any {c P : Addr} {k : Nat} {gpos : Pos} (hP : P ∈ M.T) (T : TgOk M g t is) (hv : ∀ i ∈ is, i ∈ own.map (·.2)) (hr : Room (k + 3) X.A) (hgl : Gl X "any") (hm : X.mg "any" = none) (hcm : X.calm = true) (hN : X.N.Nodup) (TB : TabB X.base X.mg c P) (hcode : X.env.code = .ref c) (ok : GnOk X.N X.env.scope scope own) (hi : PI X tg iter (iM M Wx mi))
    (hg : ∀ (s : Shared) (H : Hp) (C : Addr) (cl : List (Str × Addr)) (code : Value) (fp : List Addr) (A' : Around), Room k A' → PG (gblk X s H (genEnv scope cl C code builtinsNs X.env) fp A') tg g)
    (ht : ∀ (s : Shared) (H : Hp) (C : Addr) (cl : List (Str × Addr)) (code : Value) (fp : List Addr) (A' : Around), Room k A' → PTs (gblk X s H (genEnv scope cl C code builtinsNs X.env) fp A') ifs (tMT M W0 tt))
    (he : ∀ (s : Shared) (H : Hp) (C : Addr) (cl : List (Str × Addr)) (code : Value) (fp : List Addr) (A' : Around), Room k A' → PE (gblk X s H (genEnv scope cl C code builtinsNs X.env) fp A') elt (tM M W0 te))
    (hs : ∀ v, genFold iter X.env v = pure v := by intro _; rfl)
    (hst : starEach [.GeneratorExp elt [⟨tg, iter, ifs, 0⟩] scope gpos] X.env = (false, eval (.GeneratorExp elt [⟨tg, iter, ifs, 0⟩] scope gpos) X.env) :: starEach [] X.env := by rfl) :
    PE X (.Call (.Name "any" p) [.GeneratorExp elt [⟨tg, iter, ifs, 0⟩] scope gpos] [] pos) (tM M Wx (mGx false mi t (own.map (·.2)) tt te)) := (pe_anyX hr hgl hm hcm hN TB hcode ok hi hg ht he hs hst).imp fun _ _ _ => gx_imp hP T hv
/-! ### calls of defs -/
def SpM (M : Pm) (n : Nat) (f : List D → Mo D) : Sp := fun vs H Q E => vs.length = n ∧ ∃ W s ds, St1 M W s H ∧ DqA M W H ds vs ∧ Ru M W E H (f ds s) fun d s' H' => ∀ v, Dq M W H' d v → Q v H'
/-- the answer a new list -/
def SpF (M : Pm) (n : Nat) (f : List D → Mo D) : Sp := fun vs H Q E => vs.length = n ∧ ∃ W s ds, St1 M W s H ∧ DqA M W H ds vs ∧ Ru M W E H (f ds s) fun d s' H' => ∀ p xs es, d = .lst es → H p = none → H' p = some (.lst xs) → DqA M W H' es xs → Q (.ref p) H'
theorem SpM.toF {n : Nat} {f : List D → Mo D} {vs : List V} {H : Hp} {Q : VK} {E : XK} (h : SpM M n f vs H Q E) : SpF M n f vs H Q E := by
  obtain ⟨l, W, s, ds, I, a, r⟩ := h
  exact ⟨l, W, s, ds, I, a, r.mono fun d s' H' R' I' q p xs es e n e' a => by
    subst e
    exact q _ (.lst (I.fresh n) e' a)⟩
def mCall (n : Nat) (f : List D → Mo D) (mr : MA) : ME := fun env => (mr env).bind fun ds => if ds.length = n then f ds else fun _ => none
variable {es : List Expr} {mr : MA} {x : Str} {n k : Nat} {f : List D → Mo D} {fa : Addr} {fd : FuncData} {ps : List Str}
theorem call_imp {σ : L2.St} {H : Hp} {Q : VK} (h : tM M Wx (mCall n f mr) σ H Q) : tCallS (SpM M n f) (WE Wx) (tMA M Wx mr) σ H Q := by
  obtain ⟨W, s, env, I, E, r⟩ := h
  refine tMA_bind I E r fun ds vs s2 H2 I2 R2 E2 hd q => ?_
  by_cases hl : ds.length = n
  · rw [if_pos hl] at q
    exact ⟨by rw [← hd.length]; exact hl, W, s2, ds, I2, hd, q⟩
  · rw [if_neg hl] at q
    exact q.none.elim
theorem callF_imp {σ : L2.St} {H : Hp} {Q : VK} (h : tMF M Wx (mCall n f mr) σ H Q) : tCallS (SpF M n f) (WE Wx) (tMA M Wx mr) σ H Q := by
  obtain ⟨W, s, env, I, E, r⟩ := h
  refine tMA_bind I E r fun ds vs s2 H2 I2 R2 E2 hd q => ?_
  by_cases hl : ds.length = n
  · rw [if_pos hl] at q
    exact ⟨by rw [← hd.length]; exact hl, W, s2, ds, I2, hd, q.mono fun d s' H' R' I' q p xs es e n e' a => q p xs es e (R2.free n) e' a⟩
  · rw [if_neg hl] at q
    exact q.none.elim
theorem pm_call {e : Expr} (tk : Takes X Wx) (F : FnOk X.prog X.w X.K X.mg X.base (L2.CX X.prog X.w) k fa fd ps (SpM M n f)) (hr : Room k X.A) (hg : Gl X x) (hm : X.mg x = some (.ref fa)) (hk : PySem.W.keepIn X.K (.ref fa) = true) (hb : Binds X.K fd ps [])
    (ha : PA X (e :: es) (tMA M Wx mr)) (hdb : (x == ("__debug__" : Str)) = false := by decide) (he : starEach (e :: es) X.env = (false, eval e X.env) :: starEach es X.env := by rfl) (hpl : (backTo pos (starEach es X.env)).any (·.1) = false := by rfl) :
    PE X (.Call (.Name x p) (e :: es) [] pos) (tM M Wx (mCall n f mr)) := (pe_callS F hr hg hm hk hb (fun σ => passAt tk σ) ha hdb he hpl).imp fun _ _ _ => call_imp
theorem pm_callF {e : Expr} (tk : Takes X Wx) (F : FnOk X.prog X.w X.K X.mg X.base (L2.CX X.prog X.w) k fa fd ps (SpF M n f)) (hr : Room k X.A) (hg : Gl X x) (hm : X.mg x = some (.ref fa)) (hk : PySem.W.keepIn X.K (.ref fa) = true) (hb : Binds X.K fd ps [])
    (ha : PA X (e :: es) (tMA M Wx mr)) (hdb : (x == ("__debug__" : Str)) = false := by decide) (he : starEach (e :: es) X.env = (false, eval e X.env) :: starEach es X.env := by rfl) (hpl : (backTo pos (starEach es X.env)).any (·.1) = false := by rfl) :
    PE X (.Call (.Name x p) (e :: es) [] pos) (tMF M Wx (mCall n f mr)) := (pe_callS F hr hg hm hk hb (fun σ => passAt tk σ) ha hdb he hpl).imp fun _ _ _ => callF_imp
end
/-! ### defs -/
/-- what a def answers -/
def fnM (n : Nat) (mb : MS) (ds : List D) : Mo D := (mb (ds.map some ++ List.replicate (n - ds.length) none)).bind fun fl => match fl with
  | .rt d => Mo.pure d
  | .nx _ => Mo.pure .non
def sMF (M : Pm) (E : XK) (m : MS) : TS := fun D σ H => ∃ W s env, St1 M W s H ∧ En M W H σ env ∧ Ru M W E H (m env s) fun f s' H' => match f with
  | .nx env' => ∀ σ', En M W H' σ' env' → D.nx σ' H'
  | .rt d => ∀ p xs ds, d = .lst ds → H p = none → H' p = some (.lst xs) → DqA M W H' ds xs → D.rt (.ref p) H'
section
variable {P : Program} {w : World} {K : PySem.W.Frag} {mg : Str → Option Value} {base : Heap} {M : Pm} {x qual : Str} {params : Arguments} {body : List Stmt} {scope : Scope} {dvs : List V} {kws : List (Str × V)} {f : Addr} {fd : FuncData} {N ps : List Str} {k : Nat} {mb : MS}
theorem start_en {W : Wd} {H : Hp} {ds : List D} {vs : List V} (h : DqA M W H ds vs) : En M W H (L2.start N vs) (ds.map some ++ List.replicate (N.length - ds.length) none) := by
  unfold L2.start
  rw [← h.length]
  refine ⟨by simp [h.length], fun i d e => ?_⟩
  by_cases hi : i < ds.length
  · rw [List.getElem?_append_left (by simpa using hi), List.getElem?_map] at e
    rw [List.getElem?_append_left (by rw [List.length_map, ← h.length]; exact hi), List.getElem?_map]
    cases q : ds[i]? with
    | none => rw [q] at e; cases e
    | some d' =>
      rw [q] at e
      cases e
      obtain ⟨v, hv, qv⟩ := h.get q
      exact ⟨v, by rw [hv]; rfl, qv⟩
  · rw [List.getElem?_append_right (by rw [List.length_map]; omega)] at e
    rw [List.getElem?_replicate] at e
    split at e <;> cases e
theorem fn_end {W : Wd} {H : Hp} {ds : List D} {vs : List V} {s : GS} {Q : VK} {E : XK} (I : St1 M W s H) (a : DqA M W H ds vs) (r : Ru M W E H (fnM N.length mb ds s) fun d s' H' => ∀ v, Dq M W H' d v → Q v H') : sM M E mb { nx := fun _ H' => Q .non H', rt := Q } (L2.start N vs) H :=
  ⟨W, s, _, I, start_en a, r.bind.mono fun fl s1 H1 R1 I1 q => by
    cases fl with
    | nx env' => exact fun σ' _ => q.pure I1 _ .non
    | rt d => exact fun v hv => q.pure I1 _ hv⟩
theorem fn_endF {W : Wd} {H : Hp} {ds : List D} {vs : List V} {s : GS} {Q : VK} {E : XK} (I : St1 M W s H) (a : DqA M W H ds vs) (r : Ru M W E H ((mb (ds.map some ++ List.replicate (N.length - ds.length) none)).bind (fun fl => match fl with
  | .rt d => Mo.pure d
  | .nx _ => fun _ => none) s) fun d s' H' => ∀ p xs es, d = .lst es → H p = none → H' p = some (.lst xs) → DqA M W H' es xs → Q (.ref p) H') : sMF M E mb { nx := fun _ H' => Q .non H', rt := Q } (L2.start N vs) H :=
  ⟨W, s, _, I, start_en a, r.bind.mono fun fl s1 H1 R1 I1 q => by
    cases fl with
    | nx env' => exact q.none.elim
    | rt d => exact fun p xs ds e n e' a => q.pure I1 p xs ds e n e' a⟩
/-- a def that may raise -/
theorem fn_okX (F : FunD K x qual params body scope dvs kws f fd) (S : FnScope N ps scope)
    (hb : ∀ (cdv : Value) (A : Around) (outer : List Env) (s : Shared) (H : Hp) (E : XK), Room k (A.deeper (envOfC qual scope s.heap.objs.size f cdv)) → PSs (cxOf (L2.CX P w) P w K mg base N qual scope f cdv A outer s H E) body (sM M E mb)) : FnOk P w K mg base (L2.CX P w) (k + 1) f fd ps (SpM M ps.length (fnM N.length mb)) :=
  F.ok S (fun vs H Q E h => h.1) fun cdv A outer s H vs Q E hr h => by
    obtain ⟨_, W, g, ds, I, a, r⟩ := h
    exact ⟨_, hb cdv A outer s H E hr, fn_end I a r⟩
/-- a def that lets no error out -/
theorem fn_ok0 (F : FunD K x qual params body scope dvs kws f fd) (S : FnScope N ps scope)
    (hb : ∀ (cdv : Value) (A : Around) (outer : List Env) (s : Shared) (H : Hp) (E : XK), Room k (A.deeper (envOfC qual scope s.heap.objs.size f cdv)) → PSs (cxOf (L2.CX P w) P w K mg base N qual scope f cdv A outer s H E).nox body (sM M E0 mb)) : FnOk P w K mg base (L2.CX P w) (k + 1) f fd ps (SpM M ps.length fun ds => noEr (fnM N.length mb ds)) :=
  F.ok S (fun vs H Q E h => h.1) fun cdv A outer s H vs Q E hr h => by
    obtain ⟨_, W, g, ds, I, a, r⟩ := h
    exact ⟨_, (hb cdv A outer s H E hr).nox, fn_end I a r.noEr⟩
def fnF (n : Nat) (mb : MS) (ds : List D) : Mo D := (mb (ds.map some ++ List.replicate (n - ds.length) none)).bind fun fl => match fl with
  | .rt d => Mo.pure d
  | .nx _ => fun _ => none
theorem fn_okXF (F : FunD K x qual params body scope dvs kws f fd) (S : FnScope N ps scope)
    (hb : ∀ (cdv : Value) (A : Around) (outer : List Env) (s : Shared) (H : Hp) (E : XK), Room k (A.deeper (envOfC qual scope s.heap.objs.size f cdv)) → PSs (cxOf (L2.CX P w) P w K mg base N qual scope f cdv A outer s H E) body (sMF M E mb)) : FnOk P w K mg base (L2.CX P w) (k + 1) f fd ps (SpF M ps.length (fnF N.length mb)) :=
  F.ok S (fun vs H Q E h => h.1) fun cdv A outer s H vs Q E hr h => by
    obtain ⟨_, W, g, ds, I, a, r⟩ := h
    exact ⟨_, hb cdv A outer s H E hr, fn_endF I a r⟩
theorem fn_ok0F (F : FunD K x qual params body scope dvs kws f fd) (S : FnScope N ps scope)
    (hb : ∀ (cdv : Value) (A : Around) (outer : List Env) (s : Shared) (H : Hp) (E : XK), Room k (A.deeper (envOfC qual scope s.heap.objs.size f cdv)) → PSs (cxOf (L2.CX P w) P w K mg base N qual scope f cdv A outer s H E).nox body (sMF M E0 mb)) : FnOk P w K mg base (L2.CX P w) (k + 1) f fd ps (SpF M ps.length fun ds => noEr (fnF N.length mb ds)) :=
  F.ok S (fun vs H Q E h => h.1) fun cdv A outer s H vs Q E hr h => by
    obtain ⟨_, W, g, ds, I, a, r⟩ := h
    exact ⟨_, (hb cdv A outer s H E hr).nox, fn_endF I a r.noEr⟩
end
/-! ### blocks whose answers are new lists -/
section
variable {X : Cx} {M : Pm} {E : XK} {st : Stmt} {rest sts sts' : List Stmt} {ms mt : MS} {tA : MT} {ma : ME} {pos : Pos}
def noRt (m : MS) : MS := fun env => (m env).bind fun f => match f with
  | .nx env' => Mo.pure (.nx env')
  | .rt _ => fun _ => none
theorem _root_.L2.PS.f (h : PS X st (sM M E ms)) : PS X st (sMF M E (noRt ms)) := h.imp fun D σ H h => by
  obtain ⟨W, s, env, I, En, r⟩ := h
  refine ⟨W, s, env, I, En, r.bind.mono fun f s1 H1 R1 I1 q => ?_⟩
  cases f with
  | nx env' => exact q.pure I1
  | rt d => exact q.none.elim
theorem psf_nil : PSs X [] (sMF M E mSkip) := pss_nil.imp fun D σ H h => by
  obtain ⟨W, s, env, I, En, r⟩ := h
  exact r.pure I σ En
theorem psf_cons (h1 : PS X st (sMF M E ms)) (h2 : PSs X rest (sMF M E mt)) : PSs X (st :: rest) (sMF M E (mSeq ms mt)) := (pss_cons h1 h2).imp fun D σ H h => by
  obtain ⟨W, s, env, I, En, r⟩ := h
  refine ⟨W, s, env, I, En, r.bindS.mono fun f s1 H1 R1 I1 q => ?_⟩
  cases f with
  | nx env' => exact fun σ' En' => ⟨W, s1, env', I1, En', q.mono fun f s2 H2 R2 I2 q2 => by
      cases f with
      | nx env' => exact q2
      | rt d => exact fun p xs ds e n e' a => q2 p xs ds e (R1.free n) e' a⟩
  | rt d => exact fun p xs ds e n e' a => q.pure I1 p xs ds e n e' a
theorem psf_one (h1 : PS X st (sMF M E ms)) : PSs X [st] (sMF M E ms) := pss_one h1
theorem psf_ret {e : Expr} (he : PE X e (tMF M (cW E) ma)) : PS X (.Return (some e) pos) (sMF M E (mRet ma)) := (ps_ret he).imp fun D σ H h => by
  obtain ⟨W, s, env, I, En, r⟩ := h
  exact ⟨W, s, env, I, En, r.bind.mono fun d s' H' R' I' q p xs ds e n e' a => q.pure I' p xs ds e n e' a⟩
theorem psf_if {t : Expr} (ht : PT X t (tMT M (cW E) tA)) (h1 : PSs X sts (sMF M E ms)) (h2 : PSs X sts' (sMF M E mt)) : PS X (.If t sts sts' pos) (sMF M E (mIf tA ms mt)) := (ps_if ht h1 h2).imp fun D σ H h => by
  obtain ⟨W, s, env, I, En0, r⟩ := h
  refine tMT_bind (Wx := cW E) I En0 r fun c s2 H2 I2 R2 E2 q => ?_
  have q' : Ru M W (fun c dx H' => cW E c dx σ H') H2 ((if c = true then ms env else mt env) s2) fun f s' H' => match f with
      | .nx env' => ∀ σ', En M W H' σ' env' → D.nx σ' H'
      | .rt d => ∀ p xs ds, d = .lst ds → H2 p = none → H' p = some (.lst xs) → DqA M W H' ds xs → D.rt (.ref p) H' := q.mono fun f s2 H2' R2' I2' q2 => by
    cases f with
    | nx env' => exact q2
    | rt d => exact fun p xs ds e n e' a => q2 p xs ds e (R2.free n) e' a
  cases c with
  | true => exact iteT ⟨W, s2, env, I2, E2, q'⟩
  | false => exact iteF ⟨W, s2, env, I2, E2, q'⟩
end
end Ink

set_option Elab.async false
set_option linter.all false
set_option maxRecDepth 100000
set_option maxHeartbeats 1000000
/-! rules: repr, sorted, dicts, powers, texts times numbers -/
namespace Ink
open PySem PySem.Spec PyProof.Rows L2 GxR GenW
mutual
theorem pl_noDict : ∀ d : D, d.pl = true → d.py.hasDict = false
  | .non, _ => by simp only [D.py, PyData.hasDict]
  | .bl _, _ => by simp only [D.py, PyData.hasDict]
  | .int _, _ => by simp only [D.py, PyData.hasDict]
  | .str _, _ => by simp only [D.py, PyData.hasDict]
  | .lst ds, c => by
    simp only [D.py, PyData.hasDict]
    exact plA_noDict ds (by simpa [D.pl] using c)
  | .tup ds, c => by
    simp only [D.py, PyData.hasDict]
    exact plA_noDict ds (by simpa [D.pl] using c)
  | .dic _, c => by simp [D.pl] at c
  | .frl _, c => by simp [D.pl] at c
  | .err _ _, c => by simp [D.pl] at c
  | .gen, c => by simp [D.pl] at c
  | .own, c => by simp [D.pl] at c
theorem plA_noDict : ∀ ds : List D, plA ds = true → PyData.hasDictAll (pyA ds) = false
  | [], _ => by simp only [pyA, PyData.hasDictAll]
  | d :: ds, c => by
    have c' : d.pl = true ∧ plA ds = true := by simpa [plA] using c
    simp only [pyA, PyData.hasDictAll, pl_noDict d c'.1, plA_noDict ds c'.2, Bool.or_self]
end
/-- data that repr shows: no dict within; or {} -/
def D.sh (d : D) : Bool := (match d with
  | .dic [] => true
  | d => d.pl) && (d.py.showable && (decide (d.py.depth ≤ 64) && decide (d.py.shown.length ≤ 100000)))
def reprD : List D → Option D
  | [d] => if d.sh = true then some (.str d.py.shown) else none
  | _ => none
section
variable {X : Cx} {M : Pm} {W : Wd} {H : Hp} {pins : List (Addr × Obj)} {σ : L2.St} {s : Shared}
theorem Dq.rd (I : Inv X pins σ H s) {d : D} {v : V} {u : Value} (c : d.sh = true) (h : Dq M W H d v) (r : RelV v u) : ∃ as, Reads s.heap u d.py as ∧ (d.py.hasDict = true → sysModules ∉ as) := by
  by_cases hp : d.pl = true
  · obtain ⟨as, q⟩ := Dp.reads I d.py v u (h.dp d v hp) r
    exact ⟨as, q, fun z => by rw [pl_noDict d hp] at z; cases z⟩
  · cases h with
    | @dic a kvs n e =>
      cases kvs with
      | nil =>
        cases r
        obtain ⟨_, hy, vs, kv, o, es, ep, ho, hx, hd, _, he, _⟩ := (show ObjOk X.prog X.w H s.heap a (.dK []) from I.hok a _ e)
        have evs : vs = [] := by
          cases vs with
          | nil => rfl
          | cons v vs => cases kv
        subst evs
        have ee : es.toList = [] := by
          cases q : es.toList with
          | nil => rfl
          | cons z zs => rw [q] at he; cases he
        refine ⟨_, .dict (kvs := []) ho hx.1 hd (by rw [ee]; exact .nil) (by rw [ee]; exact .nil), fun _ m => ?_⟩
        have e9 : a = sysModules := (List.mem_singleton.mp (show sysModules ∈ [a] from by simpa using m)).symm
        rw [e9] at hy
        simp at hy
      | cons q kvs => simp [D.sh, D.pl] at c
    | _ => simp_all [D.sh, D.pl]
theorem callM_repr (hgd : X.A.guards = some []) (hu : X.A.units + 200 < cLine) : CallR X (.builtin "repr") (rMC M reprD) := by
  intro pins s σ H vs us Q I r h
  obtain ⟨W, g, ds, z, J, hd, e, q⟩ := h
  unfold reprD at e
  split at e
  · rename_i d
    split at e
    · rename_i c
      cases e
      obtain ⟨v, rfl, hv⟩ := hd.one
      obtain ⟨u, rfl, ru⟩ := vals1 r
      have c2 : d.py.showable = true ∧ d.py.depth ≤ 64 ∧ d.py.shown.length ≤ 100000 := by
        simp only [D.sh, Bool.and_eq_true, decide_eq_true_eq] at c
        exact c.2
      have fin : ∀ (h' : Heap) (t' : Tok) (tk : Tok), (∀ (b : Addr) (o : Obj), s.heap.get? b = some o → h'.get? b = some o) → EP X pins σ Q (.str d.py.shown t') { s with heap := h', toks := tk } := fun h' t' tk k => ⟨.str _, H, I.kept (t' := tk) k, ⟨_, rfl⟩, q H _ (.refl M W H) J (.str _)⟩
      have hz := sz5 c2.2.2
      cases hv with
      | non =>
        cases ru
        simp only [D.py, PyData.shown] at fin
        exact P.repr_of_none (fin _ _ _ fun _ _ e => e)
      | bl b =>
        cases ru
        simp only [D.py, PyData.shown] at fin
        exact P.repr_of_bool (fin _ _ _ fun _ _ e => e)
      | int i =>
        obtain ⟨t, rfl⟩ := ru
        simp only [D.py, PyData.shown] at fin
        exact P.repr_of_int (by simpa [D.py, PyData.showable] using c2.1) (fin _ _ _ fun _ _ e => e)
      | str x =>
        obtain ⟨t, rfl⟩ := ru
        simp only [D.py, PyData.shown] at fin hz
        exact P.repr_of_str (fin _ _ _ fun _ _ e => e) hz
      | lst n e a =>
        obtain ⟨as, rd, hs⟩ := Dq.rd I c (.lst n e a) ru
        cases ru
        exact repr_of_reads' rd c2.1 hs hgd (by have := c2.2.1; omega) (fun _ _ e => e) (fun h' t' tk k => fin h' t' tk k) hz
      | tup n e a =>
        obtain ⟨as, rd, hs⟩ := Dq.rd I c (.tup n e a) ru
        cases ru
        exact repr_of_reads' rd c2.1 hs hgd (by have := c2.2.1; omega) (fun _ _ e => e) (fun h' t' tk k => fin h' t' tk k) hz
      | dic n e =>
        obtain ⟨as, rd, hs⟩ := Dq.rd (M := M) I c (.dic n e) ru
        cases ru
        exact repr_of_reads' rd c2.1 hs hgd (by have := c2.2.1; omega) (fun _ _ e => e) (fun h' t' tk k => fin h' t' tk k) hz
      | _ => simp [D.sh, D.pl] at c
    · cases e
  · cases e
/-! ### powers, texts times numbers -/
def powD : D → D → Option D
  | .int i, .int j => if 0 ≤ j ∧ (Builtin.Int.intBits i : Int) * j ≤ 2 ^ 27 then some (.int (i ^ j.toNat)) else none
  | _, _ => none
theorem opM_pow : OpR X (binaryOp .Pow) (rM M powD) := by
  intro pins s σ H v u v' u' Q I rx ry h
  obtain ⟨W, g, x, y, z, J, hx, hy, e, q⟩ := h
  unfold powD at e
  split at e
  · split at e
    · rename_i h1
      cases e
      cases hx
      cases hy
      obtain ⟨t, rfl⟩ := rx
      obtain ⟨t', rfl⟩ := ry
      exact pow_int h1.1 h1.2 ⟨.int _, H, I.tok _, ⟨_, rfl⟩, q H _ (.refl M W H) J (.int _)⟩
    · cases e
  · cases e
/-- a text times a number above 1 -/
def mulS : D → D → Option D
  | .str z, .int j => if 1 < j ∧ 0 < z.length ∧ z.length * j.toNat ≤ 100000 ∧ (⟨(List.replicate j.toNat z.cps).foldl (· ++ ·) #[]⟩ : Str).length ≤ 100000 then some (.str ⟨(List.replicate j.toNat z.cps).foldl (· ++ ·) #[]⟩) else none
  | _, _ => none
theorem opM_mulS : OpR X (binaryOp .Mult) (rM M mulS) := by
  intro pins s σ H v u v' u' Q I rx ry h
  obtain ⟨W, g, x, y, z, J, hx, hy, e, q⟩ := h
  unfold mulS at e
  split at e
  · rename_i z0 j
    split at e
    · rename_i h1
      obtain ⟨h1, h2, h3, h4⟩ := h1
      cases e
      cases hx
      cases hy
      obtain ⟨t, rfl⟩ := rx
      obtain ⟨t', rfl⟩ := ry
      have hj : j.toNat ≤ 100000 := Nat.le_trans (Nat.le_mul_of_pos_left _ h2) h3
      have hq : ((j == 1) || (z0.length == 0)) = false := by
        rw [Bool.or_eq_false_iff]
        exact ⟨by simp; omega, by simp; omega⟩
      refine P.mul_str ?_ (fun _ _ => ?_) (fun _ _ => ?_) ?_
      · rw [Bool.or_eq_false_iff]
        exact ⟨decide_eq_false (by omega), decide_eq_false (by omega)⟩
      · have h5 : (z0.length : Int) * j ≤ 100000 := by
          have e6 : ((z0.length * j.toNat : Nat) : Int) = (z0.length : Int) * j := by
            rw [Int.natCast_mul, Int.toNat_of_nonneg (by omega)]
          omega
        rw [Int.not_lt]
        exact (Int.le_ediv_iff_mul_le (by omega)).mpr (by omega)
      · show decide (z0.length * j.toNat > sizeLine) = false
        exact decide_eq_false (Nat.not_lt.mpr (sz5 h3))
      · rw [if_neg (by omega), hq, if_neg Bool.false_ne_true]
        exact ⟨sz5 h4, ⟨.str _, H, I.tok _, ⟨_, rfl⟩, q H _ (.refl M W H) J (.str _)⟩⟩
    · cases e
  · cases e
end
end Ink

set_option Elab.async false
set_option linter.all false
set_option maxRecDepth 100000
set_option maxHeartbeats 1000000
/-! rules: sorted of pairs (number, text) with unlike numbers; dicts of such -/
namespace Ink
open PySem PySem.Spec PyProof.Rows L2 GxR GenW
def numT : D → Option Int
  | .tup [.int n, .str _] => some n
  | _ => none
def numN (d : D) : Int := (numT d).getD 0
def insN (d : D) : List D → List D
  | [] => [d]
  | e :: r => if numN d ≤ numN e then d :: e :: r else e :: insN d r
def sortN : List D → List D
  | [] => []
  | d :: r => insN d (sortN r)
def SrtN (l : List D) : Prop := l.Pairwise fun a b => numN a ≤ numN b
theorem insN_perm (d : D) : ∀ l : List D, (insN d l).Perm (d :: l)
  | [] => .refl _
  | e :: r => by
    unfold insN
    split
    · exact .refl _
    · exact ((insN_perm d r).cons e).trans (.swap d e r)
theorem sortN_perm : ∀ l : List D, (sortN l).Perm l
  | [] => .refl _
  | d :: r => (insN_perm d (sortN r)).trans ((sortN_perm r).cons d)
theorem insN_srt (d : D) : ∀ {l : List D}, SrtN l → SrtN (insN d l)
  | [], _ => List.pairwise_singleton _ _
  | e :: r, h => by
    obtain ⟨h1, h2⟩ := List.pairwise_cons.mp h
    unfold insN
    split
    · rename_i hl
      refine List.pairwise_cons.mpr ⟨fun x hx => ?_, h⟩
      rcases List.mem_cons.mp hx with rfl | hx
      · exact hl
      · exact Int.le_trans hl (h1 x hx)
    · rename_i hl
      refine List.pairwise_cons.mpr ⟨fun x hx => ?_, insN_srt d h2⟩
      rcases List.mem_cons.mp ((insN_perm d r).mem_iff.mp hx) with rfl | hx
      · omega
      · exact h1 x hx
theorem sortN_srt : ∀ l : List D, SrtN (sortN l)
  | [] => List.Pairwise.nil
  | d :: r => insN_srt d (sortN_srt r)
theorem srt_uniq : ∀ {l m : List D}, SrtN l → SrtN m → l.Perm m → (l.map numN).Nodup → l = m
  | [], m, _, _, h, _ => h.symm.eq_nil.symm
  | x :: l, [], _, _, h, _ => absurd h.length_eq (by simp)
  | x :: l, y :: m, hl, hm, h, nd => by
    obtain ⟨a1, a2⟩ := List.pairwise_cons.mp hl
    obtain ⟨b1, b2⟩ := List.pairwise_cons.mp hm
    have e : x = y := by
      have hy : y ∈ x :: l := h.mem_iff.mpr List.mem_cons_self
      have hx : x ∈ y :: m := h.mem_iff.mp List.mem_cons_self
      rcases List.mem_cons.mp hy with q | q
      · exact q.symm
      · rcases List.mem_cons.mp hx with q2 | q2
        · exact q2
        · have c1 := a1 y q
          have c2 := b1 x q2
          have c3 : numN x = numN y := Int.le_antisymm c1 c2
          obtain ⟨n1, _⟩ := List.nodup_cons.mp (show (numN x :: l.map numN).Nodup from nd)
          exact absurd (List.mem_map.mpr ⟨y, q, c3.symm⟩) n1
    subst e
    rw [srt_uniq a2 b2 h.cons_inv (List.nodup_cons.mp (show (numN x :: l.map numN).Nodup from nd)).2]
def sortD : List D → Option D
  | [.lst ds] => if (ds.all (fun d => (numT d).isSome)) = true ∧ (ds.map numN).Nodup ∧ ds.length ≤ 1000 then some (.lst (sortN ds)) else none
  | _ => none
theorem DqA.perm {M : Pm} {W : Wd} {H : Hp} {ys xs : List V} (p : ys.Perm xs) : ∀ {ds : List D}, DqA M W H ds xs → ∃ es : List D, es.Perm ds ∧ DqA M W H es ys := by
  induction p with
  | nil =>
    intro ds h
    exact ⟨ds, .refl _, h⟩
  | cons x p ih =>
    intro ds h
    cases h with
    | cons a b =>
      obtain ⟨es, e1, e2⟩ := ih b
      exact ⟨_ :: es, e1.cons _, .cons a e2⟩
  | swap x y l =>
    intro ds h
    cases h with
    | cons a b =>
      cases b with
      | cons b c => exact ⟨_, .swap _ _ _, .cons b (.cons a c)⟩
  | trans p q ih1 ih2 =>
    intro ds h
    obtain ⟨es, e1, e2⟩ := ih2 h
    obtain ⟨fs, f1, f2⟩ := ih1 e2
    exact ⟨fs, f1.trans e1, f2⟩
/-- a tuple (number, text) -/
def IsNT (h : Heap) (v : Value) (n : Int) (x : Str) : Prop := ∃ a o t u k, v = .ref a ∧ h.get? a = some o ∧ o.cls = .type "tuple" ∧ o.data = .seq #[.int n t, .str x u] k
theorem IsNT.keeps {h h' : Heap} {v : Value} {n : Int} {x : Str} (p : IsNT h v n x) (k : ∀ b o, h.get? b = some o → o.cls = .type "tuple" → h'.get? b = some o) : IsNT h' v n x := by
  obtain ⟨a, o, t, u, m, e, ho, hc, hd⟩ := p
  exact ⟨a, o, t, u, m, e, k _ _ ho hc, hc, hd⟩
section
variable {prog : Program} {w : World} {A : Around} {E : Value → Shared → Prop} {s : Shared} {vs : List Value} {k : Value → Int × Str}
abbrev ltN (k : Value → Int × Str) : Value → Value → Bool := fun v u => decide ((k v).1 < (k u).1)
theorem ltN_swo (k : Value → Int × Str) : SrtO.Swo (ltN k) := ⟨fun x y h => by
    have h1 := of_decide_eq_true h
    exact decide_eq_false (by omega), fun x y z h1 h2 => by
    have a := of_decide_eq_false h1
    have b := of_decide_eq_false h2
    exact decide_eq_false (by omega)⟩
theorem nt_cmp (hp : ∀ v ∈ vs, IsNT s.heap v (k v).1 (k v).2) (hu : ∀ v ∈ vs, ∀ u ∈ vs, (k v).1 = (k u).1 → (k v).2 = (k u).2) : SrtO.Cmp prog w A s (tuples' true) (fun p => p.1 ∈ vs) (SrtO.lt2 (ltN k)) := by
  intro p q hm hm'
  have h1 := hp _ hm
  have h2 := hp _ hm'
  have h3 := hu _ hm _ hm'
  show wpAny (model prog w) A (keyLt' (tuples' true) p.1 q.1) (fun r s' => s' = s ∧ r = decide ((k p.1).1 < (k q.1).1)) (fun _ _ => False) s
  generalize (k p.1).1 = n1 at h1 h3 ⊢
  generalize (k p.1).2 = x1 at h1 h3 ⊢
  generalize (k q.1).1 = n2 at h2 h3 ⊢
  generalize (k q.1).2 = x2 at h2 h3 ⊢
  obtain ⟨a1, o1, t1, u1, m1, e1, g1, c1, d1⟩ := h1
  obtain ⟨a2, o2, t2, u2, m2, e2, g2, c2, d2⟩ := h2
  rw [e1, e2]
  refine PySem.W.kat_lt g1 d1 g2 d2 ?_
  show PySem.W.KatLex prog w A true (decide (2 < 2)) _ [(.int n1 t1, .int n2 t2), (.str x1 u1, .str x2 u2)] 0 s
  refine PySem.W.kat_cons (SeqAt.EqAt.int_int n1 t1 n2 t2 prog w _ _ ?_)
  refine PySem.W.kat_go (fun z => ?_) (fun z => ?_)
  · have en : n1 = n2 := by simpa using z
    have ex := h3 en
    subst en ex
    refine PySem.W.kat_yes (PySem.W.kat_cons (SeqAt.EqAt.str_str x1 u1 x1 u2 prog w _ _ ?_))
    refine PySem.W.kat_go (fun _ => ?_) (fun z2 => ?_)
    · exact PySem.W.kat_yes (PySem.W.kat_nil ⟨rfl, (decide_eq_false (Int.lt_irrefl _)).symm⟩)
    · simp at z2
  · exact PySem.W.kat_no (oneLt_int ⟨rfl, rfl⟩)
theorem nt_firsts {h : Heap} : ∀ {vs : List Value}, (∀ v ∈ vs, ∃ x y, IsNT h v x y) → ∃ fs : List Value, PySem.W.KatTups h vs fs ∧ fs.length = vs.length ∧ ∀ f ∈ fs, ∃ x t, f = Value.int x t
  | [], _ => ⟨[], PySem.W.KatTups.nil, rfl, fun _ hm => by cases hm⟩
  | v :: vs, hp => by
    obtain ⟨fs, h1, h2, h3⟩ := nt_firsts (vs := vs) fun v' m => hp v' (List.mem_cons_of_mem _ m)
    obtain ⟨x, y, a, o, t, u, n, rfl, ho, hc, hd⟩ := hp v List.mem_cons_self
    refine ⟨.int x t :: fs, PySem.W.KatTups.cons ho hc hd rfl h1, congrArg (· + 1) h2, fun f m => ?_⟩
    rcases List.mem_cons.mp m with rfl | m
    · exact ⟨x, t, rfl⟩
    · exact h3 f m
theorem nt_sortable {a : Addr} (h0 : 0 < vs.length) (hp : ∀ v ∈ vs, IsNT s.heap v (k v).1 (k v).2) (hu : ∀ v ∈ vs, ∀ u ∈ vs, (k v).1 = (k u).1 → (k v).2 = (k u).2) (ha : ∀ o, s.heap.get? a = some o → o.cls ≠ .type "tuple") : SrtO.SortableO prog w A s a vs (ltN k) := by
  intro h' keep
  have hp' : ∀ v ∈ vs, IsNT h' v (k v).1 (k v).2 := fun v m => (hp v m).keeps fun b o e c => keep b o (fun z => by subst z; exact ha o e c) e
  obtain ⟨fs, h1, h2, h3⟩ := nt_firsts fun v m => ⟨_, _, hp' v m⟩
  refine ⟨tuples' true, fun Q E hq => ?_, nt_cmp hp' hu⟩
  refine PySem.W.kat_kind (T := .type "int") h1 (by omega) (fun f m => ?_) (by rfl) ?_
  · obtain ⟨x, t, rfl⟩ := h3 f m
    exact PySem.W.Looks.now
  · rw [show (Value.type "int" != Value.type "tuple") = true by decide +kernel]
    exact hq
end
/-- what a value of the list is: by the heap -/
theorem nt_of {X : Cx} {M : Pm} {W : Wd} {H : Hp} {pins : List (Addr × Obj)} {σ : L2.St} {s : Shared} (I : Inv X pins σ H s) {d : D} {v : V} {u : Value} {n : Int} {x : Str} (e : d = .tup [.int n, .str x]) (h : Dq M W H d v) (r : RelV v u) : IsNT s.heap u n x := by
  subst e
  cases h with
  | @tup a xs ds _ ex ax =>
    obtain ⟨v1, v2, rfl, q1, q2⟩ := ax.two
    cases q1
    cases q2
    obtain ⟨hz, its, rv, o, ho, hc, k, hd⟩ := (show ObjOk X.prog X.w H s.heap a (.tup [.int n, .str x]) from I.hok a _ ex)
    obtain ⟨u1, u2, rfl, ⟨t1, rfl⟩, ⟨t2, rfl⟩⟩ := vals2 rv
    cases (show u = Value.ref a from r)
    exact ⟨a, o, t1, t2, k, rfl, ho, hc, hd⟩
theorem nt_fun {h : Heap} {v : Value} {n n' : Int} {x x' : Str} (a : IsNT h v n x) (b : IsNT h v n' x') : n = n' ∧ x = x' := by
  obtain ⟨a1, o1, t1, u1, m1, rfl, g1, c1, d1⟩ := a
  obtain ⟨a2, o2, t2, u2, m2, e2, g2, c2, d2⟩ := b
  cases e2
  rw [g1] at g2
  cases g2
  rw [d1] at d2
  cases d2
  exact ⟨rfl, rfl⟩
section
variable {X : Cx} {M : Pm} {W : Wd} {H : Hp} {pins : List (Addr × Obj)} {σ : L2.St} {s : Shared}
def txtN : D → Str
  | .tup [_, .str x] => x
  | _ => ⟨#[]⟩
/-- the number and the text at a value: by the list of data that stands beside -/
def keyOf : List D → List Value → Value → Int × Str
  | d :: ds, u :: us, v => if v = u then (numN d, txtN d) else keyOf ds us v
  | _, _, _ => (0, ⟨#[]⟩)
/-- data beside its values -/
def DvR (M : Pm) (W : Wd) (H : Hp) (d : D) (u : Value) : Prop := ∃ v, Dq M W H d v ∧ RelV v u
theorem dv_of : ∀ {ds : List D} {vs : List V} {us : List Value}, DqA M W H ds vs → Vals vs us → Paired (DvR M W H) ds us
  | _, _, _, .nil, .nil => .nil
  | _, _, _, .cons a b, .cons r t => .cons ⟨_, a, r⟩ (dv_of b t)
theorem dv_to : ∀ {ds : List D} {us : List Value}, Paired (DvR M W H) ds us → ∃ vs, DqA M W H ds vs ∧ Vals vs us
  | _, _, .nil => ⟨[], .nil, .nil⟩
  | _, _, .cons r t => by
    obtain ⟨v, a, b⟩ := r
    obtain ⟨vs, q1, q2⟩ := dv_to t
    exact ⟨v :: vs, .cons a q1, .cons b q2⟩
theorem paired_perm {α β : Type} {R : α → β → Prop} {ys xs : List β} (p : ys.Perm xs) : ∀ {ds : List α}, Paired R ds xs → ∃ es : List α, es.Perm ds ∧ Paired R es ys := by
  induction p with
  | nil =>
    intro ds h
    exact ⟨ds, .refl _, h⟩
  | cons x p ih =>
    intro ds h
    cases h with
    | cons a b =>
      obtain ⟨es, e1, e2⟩ := ih b
      exact ⟨_ :: es, e1.cons _, .cons a e2⟩
  | swap x y l =>
    intro ds h
    cases h with
    | cons a b =>
      cases b with
      | cons b c => exact ⟨_, .swap _ _ _, .cons b (.cons a c)⟩
  | trans p q ih1 ih2 =>
    intro ds h
    obtain ⟨es, e1, e2⟩ := ih2 h
    obtain ⟨fs, f1, f2⟩ := ih1 e2
    exact ⟨fs, f1.trans e1, f2⟩
theorem dv_nt (I : Inv X pins σ H s) {d : D} {u : Value} (h : (numT d).isSome = true) (r : DvR M W H d u) : IsNT s.heap u (numN d) (txtN d) := by
  obtain ⟨v, a, b⟩ := r
  unfold numN
  unfold numT at h ⊢
  split at h
  · exact nt_of I rfl a b
  · cases h
theorem key_nt (I : Inv X pins σ H s) : ∀ {ds : List D} {us : List Value}, (∀ d ∈ ds, (numT d).isSome = true) → Paired (DvR M W H) ds us → ∀ u ∈ us, IsNT s.heap u (keyOf ds us u).1 (keyOf ds us u).2
  | _, _, _, .nil, u, hu => by cases hu
  | d :: ds, w :: us, hn, .cons r t, u, hu => by
    unfold keyOf
    by_cases e : u = w
    · rw [if_pos e, e]
      exact dv_nt I (hn d List.mem_cons_self) r
    · rw [if_neg e]
      rcases List.mem_cons.mp hu with q | q
      · exact absurd q e
      · exact key_nt I (fun d m => hn d (List.mem_cons_of_mem _ m)) t u q
theorem key_eq (I : Inv X pins σ H s) {ds : List D} {us : List Value} (hn : ∀ d ∈ ds, (numT d).isSome = true) (h : Paired (DvR M W H) ds us) {d : D} {u : Value} (hd : (numT d).isSome = true) (r : DvR M W H d u) (hu : u ∈ us) : keyOf ds us u = (numN d, txtN d) := by
  obtain ⟨e1, e2⟩ := nt_fun (key_nt I hn h u hu) (dv_nt I hd r)
  exact Prod.ext e1 e2
theorem srt_to (I : Inv X pins σ H s) {ds : List D} {us : List Value} (hn : ∀ d ∈ ds, (numT d).isSome = true) (h : Paired (DvR M W H) ds us) : ∀ {es : List D} {out : List Value}, (∀ d ∈ es, (numT d).isSome = true) → (∀ u ∈ out, u ∈ us) → Paired (DvR M W H) es out → SrtO.Srtd (ltN (keyOf ds us)) out → SrtN es
  | _, _, _, _, .nil, _ => List.Pairwise.nil
  | d :: es, u :: out, he, ho, .cons r t, hs => by
    obtain ⟨s1, s2⟩ := List.pairwise_cons.mp hs
    refine List.pairwise_cons.mpr ⟨fun x hx => ?_, srt_to I hn h (fun d m => he d (List.mem_cons_of_mem _ m)) (fun u m => ho u (List.mem_cons_of_mem _ m)) t s2⟩
    have key : ∀ {es : List D} {out : List Value}, Paired (DvR M W H) es out → x ∈ es → ∃ w ∈ out, DvR M W H x w := by
      intro es out p hx
      induction p with
      | nil => cases hx
      | cons r t ih =>
        rcases List.mem_cons.mp hx with q | q
        · rw [q]
          exact ⟨_, List.mem_cons_self, r⟩
        · obtain ⟨w, m, z⟩ := ih q
          exact ⟨w, List.mem_cons_of_mem _ m, z⟩
    obtain ⟨w, hw, rw_⟩ := key t hx
    have q := of_decide_eq_false (s1 w hw)
    rw [key_eq I hn h (he d List.mem_cons_self) r (ho u List.mem_cons_self), key_eq I hn h (he x (List.mem_cons_of_mem _ hx)) rw_ (ho w (List.mem_cons_of_mem _ hw))] at q
    exact Int.not_lt.mp q
theorem pr_mem {α β : Type} {R : α → β → Prop} {u : β} : ∀ {ds : List α} {us : List β}, Paired R ds us → u ∈ us → ∃ d ∈ ds, R d u
  | _, _, .nil, h => by cases h
  | _, _, .cons r t, h => by
    rcases List.mem_cons.mp h with q | q
    · rw [q]
      exact ⟨_, List.mem_cons_self, r⟩
    · obtain ⟨w, m, z⟩ := pr_mem t q
      exact ⟨w, List.mem_cons_of_mem _ m, z⟩
theorem nd_num {d1 d2 : D} : ∀ {l : List D}, (l.map numN).Nodup → d1 ∈ l → d2 ∈ l → numN d1 = numN d2 → d1 = d2
  | [], _, h, _, _ => by cases h
  | x :: l, c, m1, m2, e => by
    obtain ⟨n1, n2⟩ := List.nodup_cons.mp (show (numN x :: l.map numN).Nodup from c)
    rcases List.mem_cons.mp m1 with q1 | q1
    · rcases List.mem_cons.mp m2 with q2 | q2
      · rw [q1, q2]
      · exact absurd (List.mem_map.mpr ⟨d2, q2, by rw [← e, q1]⟩) n1
    · rcases List.mem_cons.mp m2 with q2 | q2
      · exact absurd (List.mem_map.mpr ⟨d1, q1, by rw [e, q2]⟩) n1
      · exact nd_num n2 q1 q2 e
theorem callM_sorted : CallR X (.builtin "sorted") (rMCF M sortD) := by
  intro pins s σ H vs us Q I r h
  obtain ⟨W, g, ds, z, J, hd, e, q⟩ := h
  unfold sortD at e
  split at e
  · rename_i ds0
    split at e
    · rename_i hc
      obtain ⟨c1, c2, c3⟩ := hc
      have hn : ∀ d ∈ ds0, (numT d).isSome = true := fun d m => List.all_eq_true.mp c1 d m
      cases e
      obtain ⟨v, rfl, hv⟩ := hd.one
      obtain ⟨u, rfl, ru⟩ := vals1 r
      cases hv with
      | @lst a xs _ n ex ax =>
        cases ru
        obtain ⟨its, rv, hl, hz⟩ := I.list (SqL.of ex)
        have pr := dv_of ax rv
        have hu : ∀ v ∈ its, ∀ u ∈ its, (keyOf ds0 its v).1 = (keyOf ds0 its u).1 → (keyOf ds0 its v).2 = (keyOf ds0 its u).2 := fun v hv u hu e => by
          obtain ⟨d1, m1, r1⟩ := pr_mem pr hv
          obtain ⟨d2, m2, r2⟩ := pr_mem pr hu
          rw [key_eq I hn pr (hn d1 m1) r1 hv, key_eq I hn pr (hn d2 m2) r2 hu] at e ⊢
          have ed : d1 = d2 := nd_num c2 m1 m2 e
          rw [ed]
        refine SrtO.sorted_ord (ltN_swo (keyOf ds0 its)) hl.isList (by rw [← rv.length]; exact hz) (fun h2 h1 a' ha' kk => ?_) fun out hs hb => ?_
        · refine nt_sortable (s := { s with heap := h1 }) (by omega) (fun v hv => (key_nt I hn pr v hv).keeps fun b o e _ => (kk b o e).2) hu fun o e => ?_
          have e' : some o = some (seqObj "list" its.toArray 0) := e.symm.trans ha'
          cases e'
          intro c
          exact absurd (Value.type.inj c) (by decide)
        · obtain ⟨es, p1, p2⟩ := paired_perm hb.perm pr
          have he : ∀ d ∈ es, (numT d).isSome = true := fun d m => hn d (p1.mem_iff.mp m)
          have se := srt_to I hn pr he (fun u m => hb.perm.mem_iff.mp m) p2 hs
          have eq : es = sortN ds0 := srt_uniq se (sortN_srt ds0) (p1.trans (sortN_perm ds0).symm) ((p1.map numN).nodup_iff.mpr c2)
          obtain ⟨ys, q1, q2⟩ := dv_to p2
          have hf : H (s.heap.objs.size + 1) = none := I.hok.fresh (Nat.le_succ _)
          obtain ⟨nn, hat⟩ := sortedAll_at s.heap its out.toArray
          refine ⟨.ref (s.heap.objs.size + 1), upd H (s.heap.objs.size + 1) (.lst ys), I.laid (t' := s.toks) (fun b o e => sortedAll_old e) (Nat.le_succ _) ⟨?_, out, nn, q2, hat⟩, rfl, q _ _ ys (sortN ds0) (.new hf) (J.new hf) rfl hf upd_same (DqA.up (.new hf) _ _ (by rw [← eq]; exact q1))⟩
          rw [q2.length, hb.perm.length_eq, ← rv.length]
          exact hz
    · cases e
  · cases e
end
end Ink

set_option Elab.async false
set_option linter.all false
set_option maxRecDepth 100000
set_option maxHeartbeats 1000000
/-! rules: dicts; errors: raised, caught, read; the generator's list; calls with keywords -/
namespace Ink
open PySem PySem.Spec PyProof.Rows L2 GxR GenW
/-! ### dict(pairs), d.get(k, x) -/
def putS (kvs : List (Key × Str)) (k : Key) (v : Str) : List (Key × Str) :=
  if (kvs.any fun kv => decide (kv.1 = k)) = true then kvs.map (fun kv => if kv.1 = k then (kv.1, v) else kv) else kvs ++ [(k, v)]
def prsD : List D → Option (List (Key × Str))
  | [] => some []
  | .tup [.int n, .str x] :: ds => (prsD ds).map fun r => (Sum.inl n, x) :: r
  | _ => none
def dictD : List D → Option D
  | [.lst ds] => (prsD ds).map fun kvs => .dic (kvs.foldl (fun acc kv => putS acc kv.1 kv.2) [])
  | _ => none
abbrev upS (kvs : List (Key × Str)) : List (Key × V) := kvs.map fun p => (p.1, V.str p.2)
theorem putS_up (kvs : List (Key × Str)) (k : Key) (v : Str) : upS (putS kvs k v) = putK (upS kvs) k (.str v) := by
  unfold putS putK upS
  have e : ((kvs.map fun p => (p.1, V.str p.2)).any fun kv => decide (kv.1 = k)) = kvs.any fun kv => decide (kv.1 = k) := by
    rw [List.any_map]
    rfl
  rw [e]
  split
  · rw [List.map_map, List.map_map]
    refine List.map_congr_left fun p _ => ?_
    show _ = if p.1 = k then (p.1, V.str v) else (p.1, V.str p.2)
    show ((if p.1 = k then (p.1, v) else p).1, V.str (if p.1 = k then (p.1, v) else p).2) = _
    by_cases h : p.1 = k
    · rw [if_pos h, if_pos h]
    · rw [if_neg h, if_neg h]
  · rw [List.map_append]
    rfl
theorem mergeS_up : ∀ (more : List (Key × Str)) (acc : List (Key × Str)), upS (more.foldl (fun acc kv => putS acc kv.1 kv.2) acc) = mergeK (upS acc) (upS more)
  | [], _ => rfl
  | q :: r, acc => by
    show upS (r.foldl _ (putS acc q.1 q.2)) = _
    rw [mergeS_up r (putS acc q.1 q.2), putS_up]
    rfl
theorem prs_dq {M : Pm} {W : Wd} {H : Hp} {K : PySem.W.Frag} : ∀ {ds : List D} {vs : List V} {kvs : List (Key × Str)}, DqA M W H ds vs → prsD ds = some kvs → ∃ ps : List Addr, vs = ps.map V.ref ∧ Paired (fun p kv => SqT K H p [kV kv.1, kv.2]) ps (upS kvs)
  | [], _, kvs, h, e => by
    cases h
    cases e
    exact ⟨[], rfl, .nil⟩
  | d :: ds, _, kvs, h, e => by
    unfold prsD at e
    split at e
    · rename_i q
      cases q
    · rename_i n x ds' q
      cases q
      cases hr : prsD ds with
      | none => rw [hr] at e; cases e
      | some r =>
        rw [hr] at e
        cases e
        cases h with
        | cons a b =>
          obtain ⟨ps, e1, e2⟩ := prs_dq (K := K) b hr
          cases a with
          | @tup p xs _ n' ex ax =>
            obtain ⟨v1, v2, rfl, q1, q2⟩ := ax.two
            cases q1
            cases q2
            exact ⟨p :: ps, by rw [e1]; rfl, .cons (SqT.of ex) e2⟩
    · cases e
def D.asK : D → Option (List (Key × Str))
  | .dic kvs => some kvs
  | _ => none
def D.asS : D → Option Str
  | .str z => some z
  | _ => none
theorem asK_some {d : D} {b : List (Key × Str)} (h : d.asK = some b) : d = .dic b := by
  cases d <;> first | (cases h; rfl) | cases h
theorem asS_some {d : D} {b : Str} (h : d.asS = some b) : d = .str b := by
  cases d <;> first | (cases h; rfl) | cases h
def valS (kvs : List (Key × Str)) (k : Key) : Option Str := (kvs.find? fun kv => decide (kv.1 = k)).map (·.2)
theorem valS_up (kvs : List (Key × Str)) (k : Key) : valV (upS kvs) k = (valS kvs k).map V.str := by
  unfold valV valS upS
  rw [List.find?_map, Option.map_map, Option.map_map]
  rfl
def mGet (m k x : ME) : ME := fun env => (m env).bind fun d => (Mo.ofO d.asK).bind fun kvs => (k env).bind fun n => (x env).bind fun z => (Mo.ofO n.asI).bind fun i => (Mo.ofO z.asS).bind fun y => Mo.pure (.str ((valS kvs (Sum.inl i)).getD y))
section
variable {X : Cx} {M : Pm} {Wx : WX} {a b c o e f : Expr} {ma mb mc : ME} {pos apos : Pos}
theorem callM_dict (hc : X.calm = true) : CallR X (.type "dict") (rMC M dictD) := by
  intro pins s σ H vs us Q I r h
  obtain ⟨W, g, ds, z, J, hd, e, q⟩ := h
  unfold dictD at e
  split at e
  · rename_i ds0
    cases hp : prsD ds0 with
    | none => rw [hp] at e; cases e
    | some kvs =>
      rw [hp] at e
      cases e
      obtain ⟨v, rfl, hv⟩ := hd.one
      cases hv with
      | lst n ex ax =>
        obtain ⟨ps, rfl, pr⟩ := prs_dq (K := X.K) ax hp
        refine call_dictP hc pins s σ H _ us Q I r ⟨_, ps, upS kvs, rfl, SqL.of ex, pr, fun p hp' => q _ _ (.new hp') (J.new hp') (.dic (J.fresh hp') ?_)⟩
        rw [upd_same]
        exact congrArg (fun z => some (HO.dK z)) (mergeS_up kvs []).symm
  · cases e
theorem pm_get (hu : X.A.units + 1 < cLine) (ho : PE X o (tM M Wx ma)) (he : PE X e (tM M Wx mb)) (hf : PE X f (tM M Wx mc)) (m : M2 X o "get" apos e f pos) : PE X (.Call (.Attribute o "get" apos) [e, f] [] pos) (tM M Wx (mGet ma mb mc)) := (pe_dget2 hu ho he hf m).imp fun σ H Q h => by
  obtain ⟨W, s, env, I, E, r⟩ := h
  refine tM_bind I E r fun d v s2 H2 I2 R2 E2 hd q => ?_
  obtain ⟨kvs, ek, q⟩ := q.stepO
  rw [asK_some ek] at hd
  cases hd with
  | dic n ex =>
    refine ⟨_, rfl, .inl ⟨_, .inl ex⟩, tM_bind I2 E2 q fun k u s3 H3 I3 R3 E3 hk q3 => tM_bind I3 E3 q3 fun x w s4 H4 I4 R4 E4 hx q4 => ?_⟩
    obtain ⟨i, ei, q5⟩ := q4.stepO
    obtain ⟨y, ey, q6⟩ := q5.stepO
    rw [asI_some ei] at hk
    rw [asS_some ey] at hx
    cases hk
    cases hx
    have nG := fun z => n (W.gb _ z)
    have nO := fun z => n (W.ob _ z)
    have ex4 := (R3.trans R4).keep _ _ nG nO ex nofun
    refine ⟨(valS kvs (Sum.inl i)).map V.str, ?_, ?_⟩
    · rw [← valS_up]
      exact DGet.k (k := Sum.inl i) ex4
    · have z := q6.pure I4 _ (.str _)
      cases hv : valS kvs (Sum.inl i) with
      | none => rw [hv] at z; exact z
      | some t => rw [hv] at z; exact z
/-! ### the generator's list, by its items -/
def mGi (i : Nat) (k : Nat) : ME := fun env => (Mo.ofO (env[i]?).join).bind fun d => match d with
  | .gen => fun s => match s.g, k with
    | some (x, _, _), 0 => some (.ok (.int x), s)
    | some (_, y, _), 1 => some (.ok (.int y), s)
    | some (_, _, z), 2 => some (.ok (.int z), s)
    | _, _ => none
  | _ => fun _ => none
theorem gen_at {W : Wd} {s : GS} {H : Hp} {v : V} (I : St1 M W s H) (h : Dq M W H .gen v) : ∃ a x y z, v = .ref a ∧ W.G = some a ∧ s.g = some (x, y, z) ∧ H a = some (.lst [.int x, .int y, .int z]) := by
  cases h with
  | @gen a e =>
    have h := I.g
    rw [e] at h
    cases hs : s.g with
    | none => rw [hs] at h; exact h.elim
    | some t =>
      obtain ⟨x, y, z⟩ := t
      rw [hs] at h
      exact ⟨a, x, y, z, rfl, e, rfl, h.2⟩
theorem pm_gi (i k : Nat) {x : Str} {p1 p2 : Pos} {j : Nat} (hk : k < 3) (hN : X.N[i]? = some x := by rfl) (hv : Vis X.env.scope x := by first | exact Or.inl rfl | exact Or.inr (Or.inl rfl) | exact Or.inr (Or.inr rfl)) (hd : (x == ("__debug__" : Str)) = false := by decide)
    (hcd : (x == ("__classdict__" : Str)) = false := by decide) : PE X (.Subscript (.Name x p1) (.Constant (.int (k : Int)) j p2) pos) (tM M Wx (mGi i k)) := (pe_ix ix_list (pe_var hN hv hd hcd) pe_int (fun _ _ => rfl)).imp fun σ H Q h => by
  obtain ⟨W, s, env, I, E, r⟩ := h
  obtain ⟨d, e, q⟩ := r.stepO
  obtain ⟨v, ev, hv⟩ := E.2 i d (join_some e)
  refine ⟨v, ev, ?_⟩
  cases d with
  | gen =>
    obtain ⟨a, x, y, z, rfl, eG, es, eH⟩ := gen_at I hv
    obtain ⟨_, _, er, q⟩ := q
    match k, hk with
    | 0, _ =>
      simp only [es] at er
      cases er
      exact ⟨a, _, 0, _, rfl, rfl, SqL.of eH, rfl, q H (.refl M W H) I _ (.int _)⟩
    | 1, _ =>
      simp only [es] at er
      cases er
      exact ⟨a, _, 1, _, rfl, rfl, SqL.of eH, rfl, q H (.refl M W H) I _ (.int _)⟩
    | 2, _ =>
      simp only [es] at er
      cases er
      exact ⟨a, _, 2, _, rfl, rfl, SqL.of eH, rfl, q H (.refl M W H) I _ (.int _)⟩
    | k + 3, hk => omega
  | _ => exact q.none.elim
end
end Ink

set_option Elab.async false
set_option linter.all false
set_option maxRecDepth 100000
set_option maxHeartbeats 1000000
/-! rules: stores to the generator's list, the list that a def grows, lists that are spoilt, errors, calls by keywords -/
namespace Ink
open PySem PySem.Spec PyProof.Rows L2 GxR GenW
section
variable {M : Pm} {W : Wd} {H H' : Hp} {s : GS}
theorem St1.setG (I : St1 M W s H) {a : Addr} {xs : List V} (eG : W.G = some a) (eH : H a = some (.lst xs)) (x y z : Int) : St1 M W { s with g := some (x, y, z) } (upd H a (.lst [.int x, .int y, .int z])) := by
  have R : Rw M W H (upd H a (.lst [.int x, .int y, .int z])) := .mut (.inl eG) eH
  refine ⟨fun b hb => R.dom b (I.dom b hb), fun P m => R.tab P m (I.tab P m), ?_, ?_, I.ne⟩
  · rw [eG]
    exact ⟨W.gb a eG, upd_same⟩
  · have h := I.o
    show (match W.O, s.own with
      | none, none => True
      | some p, some ds => W.B p ∧ ∃ xs, upd H a (.lst [.int x, .int y, .int z]) p = some (.lst xs) ∧ DqA M W (upd H a (.lst [.int x, .int y, .int z])) ds xs
      | _, _ => False)
    cases hg : W.O with
    | none =>
      cases hs : s.own with
      | none => trivial
      | some t => rw [hg, hs] at h; exact h
    | some p =>
      cases hs : s.own with
      | none => rw [hg, hs] at h; exact h
      | some t =>
        rw [hg, hs] at h
        obtain ⟨h1, xs, h2, h3⟩ := h
        exact ⟨h1, xs, by rw [upd_ne (fun q => I.ne a eG (by rw [hg, q]))]; exact h2, DqA.up R _ _ h3⟩
theorem St1.setO (I : St1 M W s H) {p : Addr} {xs ys : List V} {ds : List D} (eO : W.O = some p) (eH : H p = some (.lst xs)) (h : DqA M W (upd H p (.lst ys)) ds ys) : St1 M W { s with own := some ds } (upd H p (.lst ys)) := by
  have R : Rw M W H (upd H p (.lst ys)) := .mut (.inr eO) eH
  refine ⟨fun b hb => R.dom b (I.dom b hb), fun P m => R.tab P m (I.tab P m), ?_, ?_, I.ne⟩
  · have h := I.g
    show (match W.G, s.g with
      | none, none => True
      | some a, some (x, y, z) => W.B a ∧ upd H p (.lst ys) a = some (.lst [.int x, .int y, .int z])
      | _, _ => False)
    cases hg : W.G with
    | none =>
      cases hs : s.g with
      | none => trivial
      | some t => rw [hg, hs] at h; exact h
    | some a =>
      cases hs : s.g with
      | none => rw [hg, hs] at h; exact h
      | some t =>
        obtain ⟨x, y, z⟩ := t
        rw [hg, hs] at h
        exact ⟨h.1, by rw [upd_ne (fun q => I.ne a hg (by rw [eO, q]))]; exact h.2⟩
  · rw [eO]
    exact ⟨W.ob p eO, ys, upd_same, h⟩
theorem own_at {v : V} (I : St1 M W s H) (h : Dq M W H .own v) : ∃ p ds xs, v = .ref p ∧ W.O = some p ∧ s.own = some ds ∧ H p = some (.lst xs) ∧ DqA M W H ds xs := by
  cases h with
  | @own p e =>
    have h := I.o
    rw [e] at h
    cases hs : s.own with
    | none => rw [hs] at h; exact h.elim
    | some ds =>
      rw [hs] at h
      obtain ⟨_, xs, h1, h2⟩ := h
      exact ⟨p, ds, xs, rfl, e, rfl, h1, h2⟩
end
/-- generator[k] = e, k 0 or 2 -/
def mSg (i k : Nat) (m : ME) : MS := fun env => (m env).bind fun d => (Mo.ofO d.asI).bind fun n => (Mo.ofO (env[i]?).join).bind fun g => match g with
  | .gen => fun s => match s.g, k with
    | some (_, y, z), 0 => some (.ok (.nx env), { s with g := some (n, y, z) })
    | some (x, y, _), 2 => some (.ok (.nx env), { s with g := some (x, y, n) })
    | _, _ => none
  | _ => fun _ => none
/-- held.append(e) -/
def D.isOwn : D → Option Unit
  | .own => some ()
  | _ => none
theorem isOwn_some {d : D} {u : Unit} (h : d.isOwn = some u) : d = .own := by
  cases d <;> first | rfl | cases h
def mApp (i : Nat) (m : ME) : ME := fun env => (Mo.ofO (env[i]?).join).bind fun o => (Mo.ofO o.isOwn).bind fun _ => (m env).bind fun d => fun s => match s.own with
  | some ds => if ds.length < 1000 then some (.ok .non, { s with own := some (ds ++ [d]) }) else none
  | none => none
section
variable {X : Cx} {M : Pm} {Wx : WX} {E : XK} {a b c e : Expr} {ma mb mc : ME} {pos p apos : Pos} {rest : List Stmt} {mr : MS} {tA : MT}
theorem psm_sg (i k : Nat) {x : Str} {p1 p2 p3 : Pos} {j : Nat} (hk : k = 0 ∨ k = 2) (he : PE X e (tM M (cW E) ma)) (hN : X.N[i]? = some x := by rfl) (hv : Vis X.env.scope x := by first | exact Or.inl rfl | exact Or.inr (Or.inl rfl) | exact Or.inr (Or.inr rfl)) (hd : (x == ("__debug__" : Str)) = false := by decide)
    (hcd : (x == ("__classdict__" : Str)) = false := by decide)
    (hs : swapsWithSole [.Subscript (.Name x p1) (.Constant (.int (k : Int)) j p2) p3] e pos.line X.env = pure false := by rfl) (hw : swappedStores [.Subscript (.Name x p1) (.Constant (.int (k : Int)) j p2) p3] e X.env = pure none := by rfl)
    (h1 : (assignEach [.Subscript (.Name x p1) (.Constant (.int (k : Int)) j p2) p3] X.env).map (·.2) = [assign (.Subscript (.Name x p1) (.Constant (.int (k : Int)) j p2) p3) X.env] := by rfl)
    (ha : ∀ v, assign (.Subscript (.Name x p1) (.Constant (.int (k : Int)) j p2) p3) X.env v = (do
      let ov ← holding [v] (eval (.Name x p1) X.env)
      let iv ← holding [v, ov] (eval (.Constant (.int (k : Int)) j p2) X.env)
      standAt p3
      holding [v, ov, iv] (setItem ov iv v)
      release [v, ov, iv] []) := by intro _; rfl) :
    PS X (.Assign [.Subscript (.Name x p1) (.Constant (.int (k : Int)) j p2) p3] e pos) (sM M E (mSg i k ma)) := (ps_asg he (pg_sub (pe_var hN hv hd hcd) pe_int set_list ha) hs hw h1).imp fun D σ H h => by
  obtain ⟨W, s, env, I, En0, r⟩ := h
  refine tM_bind (Wx := cW E) I En0 r fun d v s2 H2 I2 R2 E2 hd q => ?_
  obtain ⟨n, en, q⟩ := q.stepO
  obtain ⟨g, eg, q⟩ := q.stepO
  rw [asI_some en] at hd
  cases hd
  obtain ⟨v, ev, hv⟩ := E2.2 i g (join_some eg)
  refine ⟨v, ev, ?_⟩
  cases g with
  | gen =>
    obtain ⟨a, x, y, z, rfl, eG, es, eH⟩ := gen_at I2 hv
    have fin : ∀ (x' y' z' : Int), Rw M W H2 (upd H2 a (.lst [.int x', .int y', .int z'])) ∧ St1 M W { s2 with g := some (x', y', z') } (upd H2 a (.lst [.int x', .int y', .int z'])) := fun x' y' z' => ⟨.mut (.inl eG) eH, I2.setG eG eH x' y' z'⟩
    obtain ⟨_, _, er, q⟩ := q
    rcases hk with rfl | rfl
    · simp only [es] at er
      cases er
      obtain ⟨f1, f2⟩ := fin n y z
      exact ⟨a, _, 0, 0, rfl, rfl, eH, rfl, q _ f1 f2 σ (E2.up f1)⟩
    · simp only [es] at er
      cases er
      obtain ⟨f1, f2⟩ := fin x y n
      exact ⟨a, _, 2, 2, rfl, rfl, eH, rfl, q _ f1 f2 σ (E2.up f1)⟩
  | _ => exact q.none.elim
theorem pm_app (i : Nat) {x : Str} {p1 : Pos} (he : PE X e (tM M Wx ma)) (hN : X.N[i]? = some x := by rfl) (hv : Vis X.env.scope x := by first | exact Or.inl rfl | exact Or.inr (Or.inl rfl) | exact Or.inr (Or.inr rfl)) (hd : (x == ("__debug__" : Str)) = false := by decide)
    (hcd : (x == ("__classdict__" : Str)) = false := by decide) (hbase : attributeBase (.Name x p1) "append" X.env (eval (.Name x p1) X.env) = eval (.Name x p1) X.env := by rfl)
    (hfew : ((backTo pos (starEach [e] X.env)).all (fun x => !x.1) && (backToKw pos (keywordEach [] X.env)).all (fun x => x.1.isSome) && decide (([e] : List Expr).length + ([] : List Keyword).length + (if ([] : List Keyword).isEmpty then 0 else 1) < 30)) = true := by rfl)
    (hline : (apos.endLine == pos.line) = true := by rfl) (hs : starEach [e] X.env = (false, eval e X.env) :: starEach [] X.env := by rfl) (hplain : (backTo pos (starEach [] X.env)).any (·.1) = false := by rfl) :
    PE X (.Call (.Attribute (.Name x p1) "append" apos) [e] [] pos) (tM M Wx (mApp i ma)) := (pe_bm PySem.F.plainAttrs_list PySem.F.slot_list_append PySem.F.type_list_append mt_append (pe_var hN hv hd hcd) (pa_cons he pa_nil hs) hbase hfew hline hs hplain).imp fun σ H Q h => by
  obtain ⟨W, s, env, I, E0, r⟩ := h
  obtain ⟨o, eo, q⟩ := r.stepO
  obtain ⟨v, ev, hv⟩ := E0.2 i o (join_some eo)
  refine ⟨v, ev, ?_⟩
  obtain ⟨_, eo2, q⟩ := q.stepO
  have isown := isOwn_some eo2
  subst isown
  obtain ⟨p, ds, xs, rfl, eO, es, eH, ax⟩ := own_at I hv
  refine ⟨.inl ⟨rfl, _, SqL.of eH⟩, ?_⟩
  refine tM_bind I E0 q fun d u s2 H2 I2 R2 E2 hd q2 => ?_
  obtain ⟨p', ds2, xs2, e1, eO2, es2, eH2, ax2⟩ := own_at I2 (Dq.own eO)
  cases e1
  obtain ⟨_, _, er, q3⟩ := q2
  simp only [es2] at er
  split at er
  · rename_i hl
    cases er
    have R : Rw M W H2 (upd H2 p (.lst (xs2 ++ [u]))) := .mut (.inr eO) eH2
    exact ⟨p, xs2, u, rfl, rfl, eH2, by rw [← ax2.length]; exact Nat.lt_of_lt_of_le hl (sz5 (by decide)), q3 _ R (I2.setO eO eH2 (DqA.up R _ _ (ax2.app (.cons hd .nil)))) _ .non⟩
  · cases er
/-- held, number = [], e: from here on held is the list that grows; the block ends by returning it -/
def mOwn (i j : Nat) (m : ME) (mr : MS) : MS := fun env => fun s => match s.own with
  | some _ => none
  | none => match (m env) s with
    | some (.ok d, s1) => match d.asI, s1.own with
      | some _, none => match mr ((env.set i (some .own)).set j (some d)) { s1 with own := some [] } with
        | some (.ok (.rt .own), s2) => match s2.own with
          | some ds => if cleanA ds = true then some (.ok (.rt (.lst ds)), { s2 with own := none }) else none
          | none => none
        | _ => none
      | _, _ => none
    | _ => none
def Wd.ownW (W : Wd) (p : Addr) : Wd := ⟨fun a => W.B a ∨ a = p, W.G, some p, fun a z => .inl (W.gb a z), fun a z => .inr (Option.some.inj z).symm⟩
theorem own_imp {i j : Nat} {D : Ends} {σ : L2.St} {H : Hp} (h : sM M E (mOwn i j mb mr) D σ H) : tSeq (tPar i j (tCons (tLst tNil) (tCons (tM M W0 mb) tNil))) (sM M E mr) D σ H := by
  obtain ⟨W, s, env, I, E0, r, s', e, q⟩ := h
  unfold mOwn at e
  have hwo : s.own = none := by
    cases hso : s.own with
    | none => rfl
    | some t => rw [hso] at e; cases e
  have hWO : W.O = none := by
    have h := I.o
    rw [hwo] at h
    cases hO : W.O with
    | none => rfl
    | some p => rw [hO] at h; exact h.elim
  rw [hwo] at e
  simp only at e
  split at e
  · rename_i d s1 em
    split at e
    · rename_i n ei eo1
      split at e
      · rename_i s2 er
        split at e
        · rename_i ds eds
          split at e
          · rename_i hc
            cases e
            refine ⟨by show 0 ≤ sizeLine; exact Nat.zero_le _, fun p hp => ?_⟩
            have Rp : Rw M W H (upd H p (.lst [])) := .new hp
            have nB := I.fresh hp
            refine ⟨W, s, env, I.new hp, E0.up Rp, .ok d, s1, em, fun H2 R2 I2 v hv => ?_⟩
            refine ⟨_, _, rfl, ?_⟩
            have eH2 : H2 p = some (.lst []) := R2.keep p _ (fun z => nB (W.gb _ z)) (fun z => nB (W.ob _ z)) upd_same nofun
            have Ra : Rw M W H H2 := Rp.trans R2
            have Rb : Rw M (W.ownW p) H H2 := ⟨fun a o n n' => Ra.keep a o n (by rw [hWO]; exact nofun), Ra.dom, Ra.tab⟩
            have Ew : En M (W.ownW p) H2 σ env := (E0.to (W' := W.ownW p) ⟨fun a z => z.elim .inl fun e => .inr (by rw [e]; exact hp), fun _ z => z, fun a z => by rw [hWO] at z; cases z⟩).up Rb
            have hd : Dq M (W.ownW p) H2 d v := by
              rw [asI_some ei] at hv ⊢
              cases hv
              exact .int _
            have Iw : St1 M (W.ownW p) { s1 with own := some [] } H2 := by
              refine ⟨fun a z => z.elim (I2.dom a) fun e => by rw [e, eH2]; exact nofun, I2.tab, ?_, ⟨.inr rfl, [], eH2, .nil⟩, fun a z z2 => ?_⟩
              · have h := I2.g
                show (match W.G, s1.g with
                  | none, none => True
                  | some a, some (x, y, z) => (W.B a ∨ a = p) ∧ H2 a = some (.lst [.int x, .int y, .int z])
                  | _, _ => False)
                cases hg : W.G with
                | none =>
                  cases hs : s1.g with
                  | none => trivial
                  | some t => rw [hg, hs] at h; exact h
                | some a =>
                  cases hs : s1.g with
                  | none => rw [hg, hs] at h; exact h
                  | some t =>
                    obtain ⟨x, y, z⟩ := t
                    rw [hg, hs] at h
                    exact ⟨.inl h.1, h.2⟩
              · have e1 : p = a := Option.some.inj z2
                exact nB (by rw [e1]; exact W.gb a z)
            refine ⟨W.ownW p, _, _, Iw, (Ew.set i (.own rfl)).set j hd, .ok (.rt .own), s2, er, fun H3 R3 I3 u hu => ?_⟩
            obtain ⟨p', ds', xs, rfl, e1, e2, e3, ax⟩ := own_at I3 hu
            cases (Option.some.inj e1)
            rw [eds] at e2
            cases e2
            have Rc : Rw M W H H3 := ⟨fun a o n n' eh nt => R3.keep a o n (fun z => by
                have e9 : p = a := Option.some.inj z
                rw [← e9, hp] at eh
                cases eh) (Ra.keep a o n n' eh nt) nt, fun a z => R3.dom a (Ra.dom a z), fun P m t => R3.tab P m (Ra.tab P m t)⟩
            refine q H3 Rc ?_ (.ref p) (.lst nB e3 (DqA.back (fun a z => Or.inl z) _ _ hc ax))
            refine ⟨fun a z => I3.dom a (.inl z), I3.tab, ?_, ?_, fun a z => by rw [hWO]; exact nofun⟩
            · have h : (match W.G, s2.g with
                | none, none => True
                | some a, some (x, y, z) => (W.B a ∨ a = p) ∧ H3 a = some (.lst [.int x, .int y, .int z])
                | _, _ => False) := I3.g
              show (match W.G, s2.g with
                | none, none => True
                | some a, some (x, y, z) => W.B a ∧ H3 a = some (.lst [.int x, .int y, .int z])
                | _, _ => False)
              cases hg : W.G with
              | none =>
                cases hs : s2.g with
                | none => trivial
                | some t => rw [hg, hs] at h; exact h
              | some a =>
                cases hs : s2.g with
                | none => rw [hg, hs] at h; exact h
                | some t =>
                  obtain ⟨x, y, z⟩ := t
                  rw [hg, hs] at h
                  exact ⟨W.gb a hg, h.2⟩
            · show (match W.O, (none : Option (List Ink.D)) with
                | none, none => True
                | some p, some ds => W.B p ∧ ∃ xs, H3 p = some (.lst xs) ∧ DqA M W H3 ds xs
                | _, _ => False)
              rw [hWO]
              trivial
          · cases e
        · cases e
      · cases e
    · cases e
  · cases e
theorem psm_own {i j : Nat} {x y : Str} {px py pt p3 : Pos} {kt k2 : Nat} {pt2 : Pos} (hc : X.calm = true) (hN : X.N.Nodup) (hi : X.N[i]? = some x) (hj : X.N[j]? = some y) (hij : i ≠ j) (hx : X.env.scope.names.lookup x = some .local) (hy : X.env.scope.names.lookup y = some .local)
    (hb : PE X b (tM M W0 mb)) (hr : PSs X rest (sM M E mr))
    (hw : swappedStores [.Tuple [.Name x px, .Name y py] kt pt] (.Tuple [.List [] p3, b] k2 pt2) X.env = pure (some [x, y]))
    (hs : swapsWithSole [.Tuple [.Name x px, .Name y py] kt pt] (.Tuple [.List [] p3, b] k2 pt2) pos.line X.env = pure false := by rfl)
    (he1 : starEach [.List [] p3, b] X.env = (false, eval (.List [] p3) X.env) :: starEach [b] X.env := by rfl) (he2 : starEach [b] X.env = (false, eval b X.env) :: starEach [] X.env := by rfl) :
    PSs X (.Assign [.Tuple [.Name x px, .Name y py] kt pt] (.Tuple [.List [] p3, b] k2 pt2) pos :: rest) (sM M E (mOwn i j mb mr)) := (pss_cons (ps_par hc hN hi hj hij hx hy (pa_cons (pe_lst pa_nil) (pa_cons hb pa_nil he2) he1) hw hs) hr).imp fun _ _ _ => own_imp
end
end Ink

set_option Elab.async false
set_option linter.all false
set_option maxRecDepth 100000
set_option maxHeartbeats 1000000
/-! rules: a list that is spoilt at the end, errors raised, caught, read, calls by keywords -/
namespace Ink
open PySem PySem.Spec PyProof.Rows L2 GxR GenW
/-- x = e (a new list); if t: return c; x.append(None); .. without x -/
def D.asL : D → Option (List D)
  | .lst ds => some ds
  | _ => none
theorem asL_some {d : D} {b : List D} (h : d.asL = some b) : d = .lst b := by
  cases d <;> first | (cases h; rfl) | cases h
def mDropB (i : Nat) (m : ME) (t : MT) (c : ME) (mr : MS) : MS := fun env => (m env).bind fun d => (Mo.ofO d.asL).bind fun ds => (Mo.ofO (if i < env.length then some () else none)).bind fun _ => (t (env.set i (some d))).bind fun b => if b = true then (c (env.set i (some d))).bind fun r => Mo.pure (.rt r) else fun s => match s.own with
  | none => if ds.length ≤ 100000 then mr (env.set i none) s else none
  | some _ => none
theorem Ru.adv {M : Pm} {W : Wd} {Wy : Value → Option Addr → Hp → Prop} {H H1 : Hp} {α : Type} {x : Option (Rs α × GS)} {P : α → GS → Hp → Prop} (R : Rw M W H H1) (h : Ru M W Wy H x P) : Ru M W Wy H1 x P := by
  obtain ⟨r, s', e, q⟩ := h
  refine ⟨r, s', e, ?_⟩
  cases r with
  | ok a => exact fun H' R' I' => q H' (R.trans R') I'
  | er k d => exact fun H' dx v R' I' n e' a => q H' dx v (R.trans R') I' (R.free n) e' a
theorem Ru.split {M : Pm} {W : Wd} {Wy : Value → Option Addr → Hp → Prop} {H : Hp} {α β : Type} {x : Mo α} {f : α → Mo β} {s : GS} {P : β → GS → Hp → Prop} (h : Ru M W Wy H (x.bind f s) P) :
    (∃ a s1, x s = some (.ok a, s1) ∧ Ru M W Wy H (f a s1) P) ∨ (∃ k d s1, x s = some (.er k d, s1) ∧ ∀ (γ : Type) (Q : γ → GS → Hp → Prop), Ru M W Wy H (some ((.er k d : Rs γ), s1)) Q) := by
  obtain ⟨r, s', e, q⟩ := h
  unfold Mo.bind at e
  cases hx : x s with
  | none => rw [hx] at e; cases e
  | some p =>
    obtain ⟨rx, s1⟩ := p
    rw [hx] at e
    cases rx with
    | ok a => exact .inl ⟨a, s1, rfl, r, s', e, q⟩
    | er k d =>
      cases e
      exact .inr ⟨k, d, _, rfl, fun γ Q => ⟨.er k d, _, rfl, q⟩⟩
section
variable {X : Cx} {M : Pm} {Wx : WX} {E : XK} {a b c e t : Expr} {ma mb mc : ME} {pos p apos : Pos} {rest : List Stmt} {mr : MS} {tA : MT}
theorem drop_imp {i : Nat} {D : Ends} {σ : L2.St} {H : Hp} (h : sM M E (mDropB i ma tA mb mr) D σ H) :
    tSeq (tAsg (tMF M (cW E) ma) (gName i)) (tSeq (tIfS (tMT M (cW E) tA) (tRet (tM M (cW E) mb)) tNext) (tSeq (tDrop (tBM X.K "list" rAppend (tVar i) (tCons (tC .non) tNil))) (sM M E mr))) D σ H := by
  obtain ⟨W, s, env, I, E0, r⟩ := h
  rcases r.split with ⟨d, s1, em, q⟩ | ⟨k', d', s1, em, q⟩
  · refine ⟨W, s, env, I, E0, .ok d, s1, em, fun H1 R1 I1 p xs ds ed hp e1 ax => ?_⟩
    subst ed
    obtain ⟨ds', ed, q⟩ := q.stepO
    cases ed
    obtain ⟨_, ei, q⟩ := q.stepO
    have hi : i < env.length := by
      by_cases z : i < env.length
      · exact z
      · rw [if_neg z] at ei
        cases ei
    have nB := I.fresh hp
    have hd : Dq M W H1 (.lst ds) (.ref p) := .lst nB e1 ax
    have E1 : En M W H1 (σ.set i (some (.ref p))) (env.set i (some (.lst ds))) := (E0.up R1).set i hd
    rcases q.split with ⟨b, s2, et, q2⟩ | ⟨k', d', s2, et, q2⟩
    · refine ⟨W, s1, _, I1, E1, .ok b, s2, et, fun H2 R2 I2 => ?_⟩
      cases b with
      | true =>
        rw [if_pos rfl] at q2
        refine iteT ?_
        exact tM_bind (Wx := cW E) I2 (E1.up R2) (q2.adv (R1.trans R2)) fun r v s3 H3 I3 R3 E3 hr q3 => q3.pure I3 _ hr
      | false =>
        rw [if_neg Bool.false_ne_true] at q2
        refine iteF ?_
        have nG : W.G ≠ some p := fun z => nB (W.gb _ z)
        have nO : W.O ≠ some p := fun z => nB (W.ob _ z)
        have e2 : H2 p = some (.lst xs) := R2.keep p _ nG nO e1 nofun
        refine ⟨.ref p, List.getElem?_set_self (by rw [E0.1]; exact hi), .inl ⟨rfl, _, SqL.of e2⟩, ?_⟩
        have R : Rw M W H (upd H2 p (.lst (xs ++ [.non]))) := (R1.trans R2).put hp
        have q3 := q2.adv R
        cases hso : s2.own with
        | some o =>
          simp only [hso] at q3
          exact q3.none.elim
        | none =>
          simp only [hso] at q3
          by_cases hl : ds.length ≤ 100000
          · rw [if_pos hl] at q3
            refine ⟨p, xs, .non, rfl, rfl, e2, by rw [← ax.length]; exact Nat.lt_of_le_of_lt hl (by decide), W, s2, _, ?_, (E0.up R).unset i, q3⟩
            have hWO : W.O = none := by
              have h := I2.o
              rw [hso] at h
              cases hO : W.O with
              | none => rfl
              | some p => rw [hO] at h; exact h.elim
            refine ⟨fun a z => ?_, fun P m => ?_, ?_, ?_, I2.ne⟩
            · unfold upd
              split
              · exact nofun
              · exact I2.dom a z
            · obtain ⟨ps, z, y⟩ := I2.tab P m
              exact ⟨ps, by rw [upd_ne fun q => by rw [q, e2] at z; cases z]; exact z, y⟩
            · have h := I2.g
              cases hg : W.G with
              | none =>
                cases hs : s2.g with
                | none => trivial
                | some t => rw [hg, hs] at h; exact h
              | some a =>
                cases hs : s2.g with
                | none => rw [hg, hs] at h; exact h
                | some t =>
                  obtain ⟨x, y, z⟩ := t
                  rw [hg, hs] at h
                  exact ⟨h.1, by rw [upd_ne fun q => nG (by rw [hg, q])]; exact h.2⟩
            · rw [hWO, hso]
              trivial
          · rw [if_neg hl] at q3
            exact q3.none.elim
    · exact ⟨W, s1, _, I1, E1, by rw [et]; exact (q2 _ _).adv R1⟩
  · exact ⟨W, s, env, I, E0, by rw [em]; exact q _ _⟩
theorem psm_drop {i : Nat} {x : Str} {p1 p2 p3 p4 p5 p6 p7 p8 p9 : Pos} {j : Nat} (hN : X.N.Nodup) (hi : X.N[i]? = some x) (hx : X.env.scope.names.lookup x = some .local) (he : PE X e (tMF M (cW E) ma)) (ht : PT X t (tMT M (cW E) tA)) (hc : PE X c (tM M (cW E) mb)) (hr : PSs X rest (sM M E mr))
    (hs : swapsWith e (some (.Name x p1)) p2.line X.env = pure false := by rfl)
    (hs2 : swapsWith (.Call (.Attribute (.Name x p5) "append" p6) [.Constant .none j p7] [] p8) none p9.line X.env = pure false := by rfl)
    (hd : (x == ("__debug__" : Str)) = false := by decide) (hcd : (x == ("__classdict__" : Str)) = false := by decide) (hbase : attributeBase (.Name x p5) "append" X.env (eval (.Name x p5) X.env) = eval (.Name x p5) X.env := by rfl)
    (hfew : ((backTo p8 (starEach [Expr.Constant .none j p7] X.env)).all (fun x => !x.1) && (backToKw p8 (keywordEach [] X.env)).all (fun x => x.1.isSome) && decide (([Expr.Constant .none j p7] : List Expr).length + ([] : List Keyword).length + (if ([] : List Keyword).isEmpty then 0 else 1) < 30)) = true := by rfl)
    (hline : (p6.endLine == p8.line) = true := by rfl) (hst : starEach [Expr.Constant .none j p7] X.env = (false, eval (.Constant .none j p7) X.env) :: starEach [] X.env := by rfl) (hplain : (backTo p8 (starEach [] X.env)).any (·.1) = false := by rfl) :
    PSs X (.Assign [.Name x p1] e p2 :: .If t [.Return (some c) p3] [] p4 :: .Expr (.Call (.Attribute (.Name x p5) "append" p6) [.Constant .none j p7] [] p8) p9 :: rest) (sM M E (mDropB i ma tA mb mr)) :=
  (pss_cons (ps_set hN hi (.inl hx) he hs (.inr hx)) (pss_cons (ps_if ht (pss_one (ps_ret hc)) pss_nil) (pss_cons (ps_expr (pe_bm PySem.F.plainAttrs_list PySem.F.slot_list_append PySem.F.type_list_append mt_append (pe_var hi (.inl hx) hd hcd) (pa_cons pe_non pa_nil hst) hbase hfew hline hst hplain) hs2) hr))).imp fun _ _ _ => drop_imp
/-! ### errors -/
def mRaise (k : Nat) (m : ME) : MS := fun env => (m env).bind fun d => fun s => some (.er k d, s)
theorem psm_raise {k n : Nat} {x : Str} {C fI : Addr} {p1 p2 p3 : Pos} (hC : M.C k = C) (hc : X.calm = true) (T : ErrC X.prog X.K X.mg x C fI) (hr : Room n X.A) (tk : Takes X (cW E)) (ha : PA X [a] (tMA M (cW E) (mCons ma mNil))) (hg : Gl X x) (hdb : (x == ("__debug__" : Str)) = false := by decide)
    (he : starEach (a :: []) X.env = (false, eval a X.env) :: starEach [] X.env := by rfl) (hpl : (backTo p2 (starEach [] X.env)).any (·.1) = false := by rfl) :
    PS X (.Raise (some (.Call (.Name x p1) [a] [] p2)) none p3) (sM M E (mRaise k ma)) := (ps_raiseE hc T hr tk ha hg hdb he hpl).imp fun D σ H h => by
  obtain ⟨W, s, env, I, E0, r⟩ := h
  show tMkE C (tMA M (cW E) (mCons ma mNil)) σ H fun cls d H' => cW E cls d σ H'
  rcases r.split with ⟨d, s1, em, q⟩ | ⟨k', d', s1, em, q⟩
  · refine ⟨W, s, env, I, E0, .ok [d], s1, ?_, fun H1 R1 I1 vs hvs => ?_⟩
    · show ((ma env).bind fun d => (mNil env).bind fun ds => Mo.pure (d :: ds)) s = _
      unfold Mo.bind
      rw [em]
      rfl
    · obtain ⟨v, rfl, hv⟩ := hvs.one
      refine ⟨v, rfl, fun dx hdx => ?_⟩
      obtain ⟨_, _, er, q⟩ := q
      cases er
      rw [← hC]
      exact q _ dx v (R1.put (R1.free hdx)) (I1.new hdx) (R1.free hdx) upd_same (hv.up (.new hdx) _ _)
  · refine ⟨W, s, env, I, E0, ?_⟩
    have e9 : (mCons ma mNil env) s = some (.er k' d', s1) := by
      show ((ma env).bind fun d => (mNil env).bind fun ds => Mo.pure (d :: ds)) s = _
      unfold Mo.bind
      rw [em]
    rw [e9]
    exact q _ _
/-! ### a caught error -/
def mIsE (k : Nat) (m : ME) : ME := fun env => (m env).bind fun d => match d with
  | .err j _ => if j < 3 then Mo.pure (.bl (decide (j = k))) else fun _ => none
  | _ => fun _ => none
def mVal (m : ME) : ME := fun env => (m env).bind fun d => match d with
  | .err _ x => Mo.pure x
  | _ => fun _ => none
theorem inst_of {H : Hp} {pins : List (Addr × Obj)} {σ : L2.St} {s : Shared} (I : Inv X pins σ H s) {p dx : Addr} {oe : Obj} {C : Addr} {y : V} (e : H p = some (exv p oe)) (z : Zc (.ref C) (some dx) oe) (hf : ∃ vs, oe.data = .fields vs) (f : H dx = some (.xd [(("value" : Str), y)])) :
    ∃ od, PySem.W.InstAt s.heap p oe C (some od) ∧ ∃ mA : Str → Option Value, (∀ n, PySem.W.lookIn n od = some (mA n)) ∧ ∀ n, RelO (List.lookup n [(("value" : Str), y)]) (mA n) := by
  have g := exv_at I.hok e
  have hx : ObjOk X.prog X.w H s.heap dx (.xd [(("value" : Str), y)]) := I.hok dx _ f
  obtain ⟨mA, hns, hr⟩ := hx
  obtain ⟨od, ho, hl⟩ := lookIn_ns hns
  obtain ⟨vs, hd⟩ := hf
  exact ⟨od, ⟨g, z.1, by unfold PySem.W.notCls; rw [hd] <;> rfl, by rw [z.2]; exact ho⟩, mA, hl, hr⟩
theorem pm_valE (hT : ∀ k, ∃ x fI, ErrC X.prog X.K X.mg x (M.C k) fI) (he : PE X e (tM M Wx ma)) (hb : attributeBase e "value" X.env (eval e X.env) = eval e X.env := by rfl) : PE X (.Attribute e "value" pos) (tM M Wx (mVal ma)) := by
  refine ⟨fun pins s σ H Q I h => ?_⟩
  obtain ⟨W, g, env, J, E0, r⟩ := h
  refine attr_of hb (thn (he.run pins s σ H (fun v H1 => ∃ p dx oe k y, v = .ref p ∧ H1 p = some (exv p oe) ∧ Zc (.ref (M.C k)) (some dx) oe ∧ (∃ vs, oe.data = .fields vs) ∧ H1 dx = some (.xd [(("value" : Str), y)]) ∧ Q y H1) I (tM_bind J E0 r fun d v s2 H2 J2 R2 E2 hd q => ?_)) fun u s1 hh => ?_)
  · cases d with
    | err k x =>
      cases hd with
      | err n m e z f h a => exact ⟨_, _, _, k, _, rfl, e, z, f, h, q.pure J2 _ a⟩
    | _ => exact q.none.elim
  · obtain ⟨v, H1, I1, rv, p, dx, oe, k, y, rfl, e, z, f, hx, q⟩ := hh
    cases (show u = Value.ref p from rv)
    obtain ⟨od, K1, mA, l1, l2⟩ := inst_of I1 e z f hx
    obtain ⟨x, fI, T⟩ := hT k
    have hl : List.lookup ("value" : Str) [(("value" : Str), y)] = some y := by simp [List.lookup]
    obtain ⟨w, hw, rw_⟩ := RelO.some_of (v := y) (o := mA "value") (by rw [← hl]; exact l2 "value")
    exact HandSPX.exc_get I1.kIn K1 T.ga T.gg T.exC (PySem.W.findObj_own T.hdC T.no rfl (by rw [l1, hw])) (handed_of rw_) ⟨y, H1, I1.tok _, rw_, q⟩
/-- isinstance(e, C_k) of a caught error -/
def rIsX (M : Pm) (k : Nat) : List V → Hp → VK → Prop := fun vs H Q => ∃ p dx oe j y, vs = [.ref p, .ref (M.C k)] ∧ j < 3 ∧ H p = some (exv p oe) ∧ Zc (.ref (M.C j)) (some dx) oe ∧ (∃ vs, oe.data = .fields vs) ∧ H dx = some (.xd [(("value" : Str), y)]) ∧ Q (.bl (decide (j = k))) H
theorem call_isX {k : Nat} (hT : ∀ k, ∃ x fI, ErrC X.prog X.K X.mg x (M.C k) fI) (hk : ∀ j, j < 3 → PySem.W.kitOne X.K (.ref (M.C j)) (.ref (M.C k)) = some (decide (j = k)))
    (hn : PySem.W.specialIn X.K (.builtin "object.__class__") "__get__" = some (some (.builtin "getset_descriptor.__get__"))) (htk : PySem.W.takesIn X.K (.builtin "object.__class__") = some true) : CallR X (.builtin "isinstance") (rIsX M k) := by
  intro pins s σ H vs us Q I r h
  obtain ⟨p, dx, oe, j, y, rfl, hj, e, z, f, hx, q⟩ := h
  obtain ⟨u1, u2, rfl, r1, r2⟩ := vals2 r
  cases (show u1 = Value.ref p from r1)
  cases (show u2 = Value.ref (M.C k) from r2)
  obtain ⟨od, K1, mA, l1, l2⟩ := inst_of I e z f hx
  obtain ⟨x, fI, T⟩ := hT j
  have hcl : (PySem.W.clsIn X.K (M.C j)).isSome = true := by
    obtain ⟨cd, hc, _⟩ := PySem.W.any_some T.hdC
    rw [hc]
    rfl
  exact PySem.W.kia_one (PySem.W.kitx_exc hcl T.ga T.gg T.exC T.cc hn htk T.mro) I.kIn K1 (hk j hj) nofun fun tk => ⟨.bl _, H, I.tok tk, rfl, q⟩
theorem pm_isE {k : Nat} {y : Str} {p1 py : Pos} (hT : ∀ k, ∃ x fI, ErrC X.prog X.K X.mg x (M.C k) fI) (hk : ∀ j, j < 3 → PySem.W.kitOne X.K (.ref (M.C j)) (.ref (M.C k)) = some (decide (j = k)))
    (hn : PySem.W.specialIn X.K (.builtin "object.__class__") "__get__" = some (some (.builtin "getset_descriptor.__get__"))) (htk : PySem.W.takesIn X.K (.builtin "object.__class__") = some true)
    (hg : Gl X "isinstance") (hm : X.mg "isinstance" = none) (hgy : Gl X y) (hmy : X.mg y = some (.ref (M.C k))) (ha : PE X a (tM M Wx ma)) (hdy : (y == ("__debug__" : Str)) = false := by decide)
    (he : starEach [a, .Name y py] X.env = (false, eval a X.env) :: starEach [.Name y py] X.env := by rfl) (he2 : starEach [Expr.Name y py] X.env = (false, eval (.Name y py) X.env) :: starEach [] X.env := by rfl) (hpl : (backTo pos (starEach [Expr.Name y py] X.env)).any (·.1) = false := by rfl) :
    PE X (.Call (.Name "isinstance" p1) [a, .Name y py] [] pos) (tM M Wx (mIsE k ma)) :=
  (pe_callB (call_isX hT hk hn htk) hg hm PyProof.Rows.boot_isinstance (pa_cons ha (pa_cons (pe_glob (v := .ref (M.C k)) hgy hmy rfl hdy) pa_nil he2) he) (by decide) (by decide) he hpl).imp fun σ H Q h => by
    obtain ⟨W, s, env, I, E0, r⟩ := h
    refine tM_bind I E0 r fun d v s2 H2 I2 R2 E2 hd q => ?_
    cases d with
    | err j x =>
      cases hd with
      | err n m e z f h a =>
        by_cases hj : j < 3
        · simp only [hj, if_true] at q
          exact ⟨_, _, _, j, _, rfl, hj, e, z, f, h, q.pure I2 _ (.bl _)⟩
        · simp only [hj, if_false] at q
          exact q.none.elim
    | _ => exact q.none.elim
/-! ### try: a call; except E as n: x = n -/
def mTry (i j : Nat) (m : ME) : MS := fun env => fun s => if i < env.length then match m env s with
  | some (.ok _, s1) => some (.ok (.nx env), s1)
  | some (.er k d, s1) => some (.ok (.nx (((env.set i none).set j (some (.err k d))).set i none)), s1)
  | none => none
  else none
theorem psm_try {i j : Nat} {x n y : Str} {cc : Value} {np p1 p2 p3 p4 pos' : Pos} (stk : X.stack = X.env :: X.outer) (frm : X.env.frame = some X.env.locals) (nd : X.N.Nodup) (ix : X.N[i]? = some n) (isl : X.env.kindOf n = some .local) (nm : Names X x cc) (noex : X.ex = [])
    (iy : X.N[j]? = some y) (isy : X.env.scope.names.lookup y = some .local) (hn : X.env.scope.names.lookup n = some .local) (hx : ∀ k, PySem.W.exmOne X.K (.ref (M.C k)) cc = some true)
    (hb : ∀ (Wy : WX) (pn : List (Addr × Obj)) (xe : Value → Shared → Prop), Takes (X.tr pn xe) Wy → PE (X.tr pn xe) e (tM M Wy ma)) (hij : i ≠ j)
    (hs : ∀ (pn : List (Addr × Obj)) (xe : Value → Shared → Prop), swapsWith e none p1.line (X.tr pn xe).env = pure false := by intro _ _; rfl)
    (hs2 : ∀ (a : Addr) (pn : List (Addr × Obj)), swapsWith (.Name n p3) (some (.Name y p2)) p4.line (X.suite a pn).env = pure false := by intro _ _; rfl)
    (hd : (n == ("__debug__" : Str)) = false := by decide) (hcd : (n == ("__classdict__" : Str)) = false := by decide) :
    PS X (.Try [.Expr e p1] [.ExceptHandler (some (.Name x np)) (some n) [.Assign [.Name y p2] (.Name n p3) p4] pos'] [] [] pos) (sM M E (mTry i j ma)) :=
  (ps_try_keep (tb := fun Wy => tDrop (tM M Wy ma)) (ts := fun _ _ _ => tAsg (tVar i) (gName j)) stk frm nd ix isl nm noex (fun Wy pn xe tk _ => pss_one (ps_expr (hb Wy pn xe tk) (hs pn xe)))
    (fun a oe cls d pn _ _ => pss_one (ps_set nd iy (.inl isy) (pe_var ix (.inl hn) hd hcd) (hs2 a _) (.inr isy)))).imp fun D σ H h => by
  obtain ⟨W, s, env, I, E0, r, s', er, q⟩ := h
  unfold mTry at er
  have hi : i < env.length := by
    by_cases z : i < env.length
    · exact z
    · rw [if_neg z] at er
      cases er
  rw [if_pos hi] at er
  cases hm : ma env s with
  | none => rw [hm] at er; cases er
  | some z =>
    obtain ⟨rz, s1⟩ := z
    rw [hm] at er
    cases rz with
    | ok d =>
      cases er
      exact ⟨W, s, env, I, E0, .ok d, _, hm, fun H1 R1 I1 v hv => q H1 R1 I1 σ (E0.up R1)⟩
    | er k d =>
      cases er
      refine ⟨W, s, env, I, E0, .er k d, _, hm, fun H1 dx v R1 I1 n1 e1 hv => ?_⟩
      refine ⟨hx k, fun a oe hfree hz hf => ?_⟩
      refine ⟨.ref a, List.getElem?_set_self (by rw [E0.1]; exact hi), ?_⟩
      have Ra : Rw M W H (upd H1 a (exv a oe)) := R1.put (R1.free hfree)
      have Ia : St1 M W s' (upd H1 a (exv a oe)) := I1.new hfree
      have hdx : dx ≠ a := ne_of_none e1 hfree
      refine q _ Ra Ia _ (((((E0.up Ra).unset i).set j ?_)).unset i)
      exact .err (I1.fresh hfree) (I.fresh n1) upd_same hz hf (by rw [upd_ne hdx]; exact e1) (hv.up (.new hfree) _ _)
end
end Ink

set_option Elab.async false
set_option linter.all false
set_option maxRecDepth 100000
set_option maxHeartbeats 1000000
/-! promises that are kept where no repr runs around (repr of lists asks it) -/
namespace Ink
open PySem PySem.Spec PyProof.Rows L2 GxR GenW
theorem deeper_guards {A : Around} {env : Env} (h : A.guards = some []) : (A.deeper env).guards = some [] := h
/-- a promise, kept where no guard stands -/
structure FnG (P : Program) (w : World) (K : PySem.W.Frag) (mg : Str → Option Value) (B : Heap) (CX : CXT) (k : Nat) (f : Addr) (fd : FuncData) (ps : List Str) (sp : Sp) : Prop where
  len : ∀ vs H Q E, sp vs H Q E → vs.length = ps.length
  run : ∀ (A : Around) (fr : List Env) (s : Shared) (H : Hp) (ar : Args) (us : List Value) (vs : List V) (Q : VK) (E : XK), Room k A → A.guards = some [] → Env0 P w K mg B A fr s H → BindsTo s fd ar (ps.zip us) → Vals vs us → sp vs H Q E →
    codeAny (model P w) A (.call (.ref f) ar) (CR CX fr P w H s Q E) s
section
variable {CX : CXT} {P : Program} {w : World} {K : PySem.W.Frag} {mg : Str → Option Value} {B : Heap} {k : Nat} {f : Addr} {x qual : Str} {params : Arguments} {body : List Stmt} {scope : Scope} {dvs : List V} {kws : List (Str × V)} {fd : FuncData} {N ps : List Str} {sp : Sp}
theorem fnG_of (F : FunD K x qual params body scope dvs kws f fd) (S : FnScope N ps scope) (len : ∀ vs H Q E, sp vs H Q E → vs.length = ps.length)
    (hb : ∀ (cdv : Value) (A : Around) (fr : List Env) (s : Shared) (H : Hp) (vs : List V) (Q : VK) (E : XK), Room k (A.deeper (envOfC qual scope s.heap.objs.size f cdv)) → A.guards = some [] → sp vs H Q E →
      ∃ t, PSs (cxOf CX P w K mg B N qual scope f cdv A fr s H E) body t ∧ t { nx := fun _ H' => Q .non H', rt := Q } (L2.start N vs) H) : FnG P w K mg B CX (k + 1) f fd ps sp := by
  obtain ⟨oc, od, dV, kV, doc, pm, an, cdv, ct, osl, rfl, lk, hcd, _, _⟩ := F.ex
  constructor
  · exact len
  intro A fr s H ar us vs Q E room gd env0 binds rel want
  have inK : K.In s.heap := env0.mod.kin.keeps fun b o q => (env0.bs b o q).1
  have nolim : s.heap.NoLimit := env0.mod.nolimit.keeps fun b o q => (env0.bs b o q).1
  have kinds : ∀ y ∈ ps.zip us, scope.names.lookup y.1 = some .local ∨ (scope.names.lookup y.1 = some .cell ∧ ((cellsFrom (s.heap.objs.size + 1) scope.names []).lookup y.1).isSome = true) := by
    intro y hy
    have hp := (List.of_mem_zip (show (y.1, y.2) ∈ ps.zip us from hy)).1
    cases S.par y.1 hp with
    | inl z => exact .inl z
    | inr z => exact .inr ⟨z, PySem.W.cellsFrom_some _ _ _ (.inl z)⟩
  apply codeAny_call_function room.depth (inK _ _ lk) rfl S.co S.gen rfl (PySem.W.codeRec_of inK hcd)
  apply binds
  apply wpAny_newFunctionEnv_cells S.kind kinds
  intro env' e1 s1 call
  subst e1
  refine ⟨nolim.keeps call.toInCall.keep, codeAny_func ?_⟩
  obtain ⟨t, rule, reading⟩ := hb cdv A fr s H vs Q E (room.deeper _) gd want
  have inv : Inv (cxOf CX P w K mg B N qual scope f cdv A fr s H E) [] (L2.start N vs) H s1 := inv_start S room.hd env0 (len _ _ _ _ want) rel call
  apply wpAny_mono (rule.run [] s1 (L2.start N vs) H _ inv reading)
  · intro fl s' ends
    have close : ∀ {σ' : L2.St} {H' : Hp} {v : V} {u : Value}, Inv (cxOf CX P w K mg B N qual scope f cdv A fr s H E) [] σ' H' s' → RelV v u → Q v H' → CE fr P w H s Q u s' := fun J r q => ⟨_, _, J.os, J.bare, J.base, J.hok, r, q⟩
    cases fl with
    | ret u =>
      obtain ⟨v, _, _, J, r, q⟩ := ends
      exact close J r q
    | next =>
      obtain ⟨_, _, J, q⟩ := ends
      exact close (v := V.non) (u := Value.none) J rfl q
    | brk => exact (show False from let ⟨_, _, _, z⟩ := ends; z).elim
    | cont => exact (show False from let ⟨_, _, _, z⟩ := ends; z).elim
  · exact fun _ _ z => z
theorem fnG_ok0 {M : Pm} {mb : MS} (F : FunD K x qual params body scope dvs kws f fd) (S : FnScope N ps scope)
    (hb : ∀ (cdv : Value) (A : Around) (fr : List Env) (s : Shared) (H : Hp) (E : XK), Room k (A.deeper (envOfC qual scope s.heap.objs.size f cdv)) → A.guards = some [] → PSs (cxOf (L2.CX P w) P w K mg B N qual scope f cdv A fr s H E).nox body (sM M E0 mb)) : FnG P w K mg B (L2.CX P w) (k + 1) f fd ps (SpM M ps.length fun ds => noEr (fnM N.length mb ds)) :=
  fnG_of F S (fun vs H Q E h => h.1) fun cdv A fr s H vs Q E hr gd h => by
    obtain ⟨_, W, g, ds, I, a, r⟩ := h
    exact ⟨_, (hb cdv A fr s H E hr gd).nox, fn_end I a r.noEr⟩
end
section
variable {X : Cx} {M : Pm} {Wx : WX} {a b c e : Expr} {ma mb mc : ME} {mr : MA} {pos p : Pos} {es : List Expr} {k n : Nat} {f : List D → Mo D} {fa : Addr} {fd : FuncData} {ps : List Str} {x : Str} {sp : Sp}
theorem run_fnG {pins : List (Addr × Obj)} {σ : L2.St} {H : Hp} {s : Shared} {Q : VK} {us : List Value} {vs : List V} {E : XK} (F : FnG X.prog X.w X.K X.mg X.base (L2.CX X.prog X.w) k fa fd ps sp) (hr : Room k X.A) (gd : X.A.guards = some []) (hb : Binds X.K fd ps []) (hx : PassesAt (L2.CX X.prog X.w) X σ E)
    (I : Inv X pins σ H s) (r : Vals vs us) (h : sp vs H Q E) : wpAny (model X.prog X.w) X.A (call (.ref fa) us) (EP X pins σ Q) X.xe s := by
  have l1 : (us ++ ([] : List Value)).length = ps.length := by
    rw [List.append_nil, ← r.length]
    exact F.len _ _ _ _ h
  have bd := hb s us I.kIn l1
  rw [List.append_nil] at bd
  apply wpAny_call
  apply codeAny_mono (F.run X.A X.stack s H ⟨us, []⟩ us vs Q E hr gd I.env0 bd r h)
  intro res s' z
  cases res with
  | error e => exact hx pins H s e s' I z
  | ok fl =>
    cases fl with
    | ret u => exact I.after z
    | next => exact z.elim
    | brk => exact z.elim
    | cont => exact z.elim
theorem pe_callG {E : L2.St → XK} {t : TA} (F : FnG X.prog X.w X.K X.mg X.base (L2.CX X.prog X.w) k fa fd ps sp) (hr : Room k X.A) (gd : X.A.guards = some []) (hg : Gl X x) (hm : X.mg x = some (.ref fa)) (hk : PySem.W.keepIn X.K (.ref fa) = true) (hb : Binds X.K fd ps [])
    (hx : ∀ σ, PassesAt (L2.CX X.prog X.w) X σ (E σ)) (ha : PA X (e :: es) t) (hdb : (x == ("__debug__" : Str)) = false := by decide) (he : starEach (e :: es) X.env = (false, eval e X.env) :: starEach es X.env := by rfl)
    (hpl : (backTo pos (starEach es X.env)).any (·.1) = false := by rfl) : PE X (.Call (.Name x p) (e :: es) [] pos) (tCallS sp E t) := by
  constructor
  intro pins s σ H Q I h
  apply wpAny_Call_Name_kw
  apply ld_glob I hg hm _ hdb
  apply PySem.W.callWith_K (h₀ := X.base) I.ok.mod.kin hk _ he hpl
  apply thn (ha.run pos pins s σ H _ I h)
  intro us s1 hh
  obtain ⟨vs, H1, I1, r, q⟩ := hh
  exact ⟨I1.kIn, run_fnG F hr gd hb (hx σ) I1 r q⟩
theorem pm_callG (tk : Takes X Wx) (F : FnG X.prog X.w X.K X.mg X.base (L2.CX X.prog X.w) k fa fd ps (SpM M n f)) (hr : Room k X.A) (gd : X.A.guards = some []) (hg : Gl X x) (hm : X.mg x = some (.ref fa)) (hk : PySem.W.keepIn X.K (.ref fa) = true) (hb : Binds X.K fd ps [])
    (ha : PA X (e :: es) (tMA M Wx mr)) (hdb : (x == ("__debug__" : Str)) = false := by decide) (he : starEach (e :: es) X.env = (false, eval e X.env) :: starEach es X.env := by rfl) (hpl : (backTo pos (starEach es X.env)).any (·.1) = false := by rfl) :
    PE X (.Call (.Name x p) (e :: es) [] pos) (tM M Wx (mCall n f mr)) := (pe_callG F hr gd hg hm hk hb (fun σ => passAt tk σ) ha hdb he hpl).imp fun _ _ _ => call_imp
/-- f(e), e a new list of three numbers: within, it is the generator's list -/
def mGen (f : List D → Mo D) (m : ME) : ME := fun env => (m env).bind fun d => fun s => match d, s.g, s.own with
  | .lst [.int x, .int y, .int z], none, none => match f [.gen] { s with g := some (x, y, z) } with
    | some (.ok (.bl b), s1) => match s1.own with
      | none => some (.ok (.bl b), { s1 with g := none })
      | some _ => none
    | _ => none
  | _, _, _ => none
def Wd.genW (W : Wd) (p : Addr) (h : W.O = none) : Wd := ⟨fun a => W.B a ∨ a = p, some p, none, fun a z => .inr (Option.some.inj z).symm, nofun⟩
theorem gen_imp {σ : L2.St} {H : Hp} {Q : VK} (h : tM M Wx (mGen f ma) σ H Q) : tCallS (SpM M 1 f) (WE Wx) (fun σ H Q => tMF M Wx ma σ H fun v H1 => Q [v] H1) σ H Q := by
  obtain ⟨W, s, env, I, E0, r⟩ := h
  show tMF M Wx ma σ H fun v H1 => SpM M 1 f [v] H1 Q (WE Wx σ)
  rcases r.split with ⟨d, s1, em, q⟩ | ⟨k, d, s1, em, q⟩
  · refine ⟨W, s, env, I, E0, .ok d, s1, em, fun H1 R1 I1 p xs ds ed hp e1 ax => ?_⟩
    obtain ⟨r', s', er, q⟩ := q
    split at er
    · rename_i x y z eg eo
      cases ed
      split at er
      · rename_i b s2 ef
        split at er
        · rename_i eo2
          cases er
          have hO : W.O = none := by
            have h := I1.o
            rw [eo] at h
            cases hO : W.O with
            | none => rfl
            | some p => rw [hO] at h; exact h.elim
          have hG : W.G = none := by
            have h := I1.g
            rw [eg] at h
            cases hG : W.G with
            | none => rfl
            | some p => rw [hG] at h; exact h.elim
          have exs : xs = [V.int x, V.int y, V.int z] := DqA.ofInts (ns := [x, y, z]) ax
          subst exs
          refine ⟨rfl, W.genW p hO, { s1 with g := some (x, y, z) }, [.gen], ?_, .cons (.gen rfl) .nil, .ok (.bl b), s2, ef, fun H2 R2 I2 v hv => ?_⟩
          · refine ⟨fun a z => z.elim (I1.dom a) fun e => by rw [e, e1]; exact nofun, I1.tab, ⟨.inr rfl, e1⟩, ?_, fun a _ => nofun⟩
            show (match (none : Option Addr), s1.own with
              | none, none => True
              | some p, some ds => (W.B p ∨ _) ∧ ∃ xs, H1 p = some (.lst xs) ∧ DqA M _ H1 ds xs
              | _, _ => False)
            rw [eo]
            trivial
          · cases hv
            have R : Rw M W H H2 := ⟨fun a o n n' eh nt => R2.keep a o (fun z => by
                have e9 : p = a := Option.some.inj z
                rw [← e9, hp] at eh
                cases eh) nofun (R1.keep a o n n' eh nt) nt, fun a z => R2.dom a (R1.dom a z), fun P m t => R2.tab P m (R1.tab P m t)⟩
            refine q H2 R ?_ _ (.bl b)
            refine ⟨fun a z => I2.dom a (.inl z), I2.tab, ?_, ?_, fun a z => by rw [hG] at z; cases z⟩
            · rw [hG]
              trivial
            · show (match W.O, s2.own with
                | none, none => True
                | some p, some ds => W.B p ∧ ∃ xs, H2 p = some (.lst xs) ∧ DqA M W H2 ds xs
                | _, _ => False)
              rw [hO, eo2]
              trivial
        · cases er
      · cases er
    · cases er
  · exact ⟨W, s, env, I, E0, by rw [em]; exact q _ _⟩
theorem pa_oneF {t : TE} (ha : PE X a t) (he : starEach (a :: []) X.env = (false, eval a X.env) :: starEach [] X.env := by rfl) : PA X [a] (fun σ H Q => t σ H fun v H1 => Q [v] H1) := (pa_cons ha pa_nil he).imp fun _ _ _ h => h
theorem pm_gen (tk : Takes X Wx) (F : FnG X.prog X.w X.K X.mg X.base (L2.CX X.prog X.w) k fa fd ps (SpM M 1 f)) (hr : Room k X.A) (gd : X.A.guards = some []) (hg : Gl X x) (hm : X.mg x = some (.ref fa)) (hk : PySem.W.keepIn X.K (.ref fa) = true) (hb : Binds X.K fd ps [])
    (ha : PE X e (tMF M Wx ma)) (hdb : (x == ("__debug__" : Str)) = false := by decide) (he : starEach (e :: []) X.env = (false, eval e X.env) :: starEach [] X.env := by rfl) (hpl : (backTo pos (starEach [] X.env)).any (·.1) = false := by rfl) :
    PE X (.Call (.Name x p) [e] [] pos) (tM M Wx (mGen f ma)) := (pe_callG F hr gd hg hm hk hb (fun σ => passAt tk σ) (pa_oneF ha he) hdb he hpl).imp fun _ _ _ => gen_imp
end
end Ink

set_option Elab.async false
set_option linter.all false
set_option maxRecDepth 100000
set_option maxHeartbeats 1000000
/-! calls by keywords alone, in the other order -/
namespace Ink
open PySem PySem.Spec PyProof.Rows L2 GxR GenW
def mCallR (n : Nat) (f : List D → Mo D) (mr : MA) : ME := fun env => (mr env).bind fun ds => if ds.length = n then f ds.reverse else fun _ => none
section
variable {X : Cx} {M : Pm} {Wx : WX} {e : Expr} {ma : ME} {mr : MA} {pos p : Pos} {k n : Nat} {f : List D → Mo D} {fa : Addr} {fd : FuncData} {ps ks : List Str} {x : Str} {sp : Sp} {kws : List Keyword} {nm : Option Str} {kpos : Pos}
theorem _root_.L2.PK.imp {kws : List Keyword} {t t' : TA} (h : PK X kws t) (f : ∀ σ H Q, t' σ H Q → t σ H Q) : PK X kws t' := ⟨fun pos pins s σ H Q I q => h.run pos pins s σ H Q I (f σ H Q q)⟩
theorem pkm_nil : PK X [] (tMA M Wx mNil) := pk_nil.imp fun σ H Q h => by
  obtain ⟨W, s, env, I, E, r⟩ := h
  exact r.pure I [] .nil
theorem pkm_cons (ha : PE X e (tM M Wx ma)) (hr : PK X kws (tMA M Wx mr)) : PK X (⟨nm, e, kpos⟩ :: kws) (tMA M Wx (mCons ma mr)) := (pk_cons ha hr).imp fun σ H Q h => by
  obtain ⟨W, s, env, I, E, r⟩ := h
  refine tM_bind I E r fun d v s2 H2 I2 R2 E2 hd q => ?_
  refine tMA_bind I2 E2 q fun ds vs s3 H3 I3 R3 E3 hds q3 => ?_
  exact q3.pure I3 _ (.cons (hd.up R3 _ _) hds)
abbrev KBr (K : PySem.W.Frag) (fd : FuncData) (ps ks : List Str) : Prop := KBn K fd ps 0 ks (fun _ ws => ws.reverse) (fun _ zs => zs.reverse)
theorem vals_rev {vs : List V} {us : List Value} (h : Vals vs us) : Vals vs.reverse us.reverse := h.reverse
theorem kbr_of {K : PySem.W.Frag} {x qual : Str} {params : Arguments} {body : List Stmt} {scope : Scope} {kw : List (Str × V)} (F : FunD K x qual params body scope [] kw fa fd)
    (h : ∀ (kV doc pm : Value) (an : Option Addr) (cdv ct : Value) (ws : List Value), ws.length = ks.length → bindArgs (PySem.W.fnOf x qual params body scope .none kV doc pm an cdv ct) ⟨[], ks.zip ws⟩ = pure (ps.zip ws.reverse)) : KBr K fd ps ks := by
  obtain ⟨oc, od, dV, kV, doc, pm, an, cdv, ct, osl, rfl, lk, hcd, hD, hK⟩ := F.ex
  rcases hD with ⟨_, rfl⟩ | ⟨z, _⟩
  · refine ⟨fun s us ws _ l1 l2 => ?_, fun _ r => vals_rev r⟩
    have e0 : us = [] := List.eq_nil_of_length_eq_zero l1
    subst e0
    exact .of_eq (h kV doc pm an cdv ct ws l2)
  · exact absurd rfl z
def tCallR (sp : Sp) (m : Nat) (E : XK) (t : TA) : TE := fun σ H Q => t σ H fun zs H1 => zs.length = m ∧ sp zs.reverse H1 Q E
theorem pe_kw {t : TA} (F : FnOk X.prog X.w X.K X.mg X.base (L2.CX X.prog X.w) k fa fd ps sp) (hr : Room k X.A) (hg : Gl X x) (hm : X.mg x = some (.ref fa)) (hk : PySem.W.keepIn X.K (.ref fa) = true) (hb : KBr X.K fd ps ks) (hkw : PK X kws t)
    (hall : (backToKw pos (keywordEach kws X.env)).all (·.1.isSome) = true := by rfl) (hks : (backToKw pos (keywordEach kws X.env)).filterMap (·.1) = ks := by rfl) (hdb : (x == ("__debug__" : Str)) = false := by decide)
    (hpl : ((backTo pos (starEach [] X.env)).any (·.1) || (backToKw pos (keywordEach kws X.env)).any (·.1.isNone)) = false := by rfl) : PE X (.Call (.Name x p) [] kws pos) (tCallR sp ks.length E0 t) := by
  constructor
  intro pins s σ H Q I h
  apply wpAny_Call_Name_kw
  apply ld_glob I hg hm _ hdb
  apply PySem.W.callWith_KW0 (h₀ := X.base) I.ok.mod.kin hk hall _ hpl
  apply thn (hkw.run pos pins s σ H _ I h)
  intro ws s2 hh
  obtain ⟨zs, H2, I2, rz, l2, q2⟩ := hh
  refine ⟨I2.kIn, ?_⟩
  rw [hks]
  exact run_fnN (us := []) (vs := []) F hr hb passL I2 .nil rz rfl l2 q2
theorem pm_kw (F : FnOk X.prog X.w X.K X.mg X.base (L2.CX X.prog X.w) k fa fd ps (SpM M n f)) (hr : Room k X.A) (hg : Gl X x) (hm : X.mg x = some (.ref fa)) (hk : PySem.W.keepIn X.K (.ref fa) = true) (hb : KBr X.K fd ps ks) (hn : ks.length = n) (hkw : PK X kws (tMA M W0 mr))
    (hall : (backToKw pos (keywordEach kws X.env)).all (·.1.isSome) = true := by rfl) (hks : (backToKw pos (keywordEach kws X.env)).filterMap (·.1) = ks := by rfl) (hdb : (x == ("__debug__" : Str)) = false := by decide)
    (hpl : ((backTo pos (starEach [] X.env)).any (·.1) || (backToKw pos (keywordEach kws X.env)).any (·.1.isNone)) = false := by rfl) : PE X (.Call (.Name x p) [] kws pos) (tM M W0 (mCallR n f mr)) := (pe_kw F hr hg hm hk hb hkw hall hks hdb hpl).imp fun σ H Q h => by
  obtain ⟨W, s, env, I, E, r⟩ := h
  refine tMA_bind I E r fun ds vs s2 H2 I2 R2 E2 hd q => ?_
  by_cases hl : ds.length = n
  · rw [if_pos hl] at q
    exact ⟨by rw [← hd.length, hl, hn], by rw [List.length_reverse, ← hd.length]; exact hl, W, s2, ds.reverse, I2, hd.rev, q⟩
  · rw [if_neg hl] at q
    exact q.none.elim
end
end Ink

set_option Elab.async false
set_option linter.all false
set_option maxRecDepth 100000
set_option maxHeartbeats 1000000
/-! the law's call, its promise kept where no repr runs around -/
namespace Ink
open PySem PySem.Spec PyProof.Rows L2 GxR GenW
/-- what the law's call finds -/
structure Rest (K : PySem.W.Frag) (mg : Str → Option Value) (ts : List (Addr × Addr)) (h : Heap) : Prop where
  kin : K.In h
  glob : h.Ns mainGlobals mg
  blt : ∃ mb, h.Ns builtinsNs mb ∧ ∀ x : Str, x ≠ "__name__" → mb x = bootBuiltins x
  lim : h.NoLimit
  emp : ∀ t ∈ ts, h.get? t.2 = some { cls := .none, data := .fields #[] }
  unk : ∀ t ∈ ts, K.lookup t.2 = none
  cod : ∀ t ∈ ts, PySem.W.CodeHd h t.1 t.2
  mod : ∃ (m : Addr) (o : Obj), mg "__builtins__" = some (.ref m) ∧ m ≠ builtinsNs ∧ h.get? m = some o ∧ o.cls = .type "module" ∧ o.dict = some builtinsNs ∧ o.data = .plain
/-- what is told of the heap: the tables, and the script where the written part does not hold it -/
def told0 (K : PySem.W.Frag) (ts : List (Addr × Addr)) (a : Addr) (o : Obj) (ns : List Int) : Hp := fun b =>
  if b ∈ ts.map (·.2) then some (.tbl #[]) else if b = a ∧ K.lookup a = none then some (.frz o (.lst (ns.map V.int))) else none
section
variable {K : PySem.W.Frag} {mg : Str → Option Value} {ts : List (Addr × Addr)} {h : Heap} {a : Addr} {vs : List Value} {ns : List Int}
abbrev lo (vs : List Value) : Obj := { cls := .type "list", data := .seq vs.toArray }
theorem told_tab {t : Addr × Addr} {o : Obj} (ht : t ∈ ts) : told0 K ts a o ns t.2 = some (.tbl #[]) := if_pos (List.mem_map_of_mem ht)
theorem told_emp (R : Rest K mg ts h) {b : Addr} (hb : b ∈ ts.map (·.2)) : h.get? b = some { cls := .none, data := .fields #[] } := by
  obtain ⟨t, ht, rfl⟩ := List.mem_map.mp hb
  exact R.emp t ht
theorem told_own (R : Rest K mg ts h) (ha : h.get? a = some (lo vs)) : a ∉ ts.map (·.2) := fun z => by
  have e := told_emp R z
  rw [ha] at e
  have e2 : Data.seq vs.toArray _ = Data.fields #[] := congrArg Obj.data (Option.some.inj e)
  cases e2
theorem told_cases {b : Addr} {o : Obj} {u : HO} (e : told0 K ts a o ns b = some u) : (b ∈ ts.map (·.2) ∧ u = .tbl #[]) ∨ (b = a ∧ K.lookup a = none ∧ u = .frz o (.lst (ns.map V.int))) := by
  unfold told0 at e
  by_cases hb : b ∈ ts.map (·.2)
  · rw [if_pos hb] at e
    exact .inl ⟨hb, (Option.some.inj e).symm⟩
  · rw [if_neg hb] at e
    by_cases hc : b = a ∧ K.lookup a = none
    · rw [if_pos hc] at e
      exact .inr ⟨hc.1, hc.2, (Option.some.inj e).symm⟩
    · rw [if_neg hc] at e
      cases e
theorem told_none (R : Rest K mg ts h) (ha : h.get? a = some (lo vs)) {b : Addr} {o : Obj} (e : h.get? b = some o) (n1 : ∀ us n, o.data ≠ .seq us n) (n2 : o.data ≠ .fields #[]) : told0 K ts a (lo vs) ns b = none := by
  cases q : told0 K ts a (lo vs) ns b with
  | none => rfl
  | some u =>
    rcases told_cases q with ⟨hb, _⟩ | ⟨rfl, _⟩
    · rw [told_emp R hb] at e
      cases e
      exact absurd rfl n2
    · rw [ha] at e
      cases e
      exact absurd rfl (n1 _ _)
theorem told_ns (R : Rest K mg ts h) (ha : h.get? a = some (lo vs)) {b : Addr} {m : Str → Option Value} (G : h.Ns b m) : (hidT h (told0 K ts a (lo vs) ns)).Ns b m := by
  obtain ⟨o, es, n, e, d, r⟩ := G
  exact ⟨o, es, n, hidT_get e (told_none R ha e (fun us k z => by rw [d] at z; cases z) fun z => by rw [d] at z; cases z), d, r⟩
theorem told_kin (R : Rest K mg ts h) (ha : h.get? a = some (lo vs)) : K.In (hidT h (told0 K ts a (lo vs) ns)) := fun b o e => by
  refine hidT_get (R.kin b o e) ?_
  cases q : told0 K ts a (lo vs) ns b with
  | none => rfl
  | some u =>
    rcases told_cases q with ⟨hb, _⟩ | ⟨rfl, n, _⟩
    · obtain ⟨t, ht, rfl⟩ := List.mem_map.mp hb
      rw [R.unk t ht] at e
      cases e
    · rw [n] at e
      cases e
theorem told_mod (R : Rest K mg ts h) (ha : h.get? a = some (lo vs)) : L2.Mod K mg (hidT h (told0 K ts a (lo vs) ns)) := by
  obtain ⟨mb, b1, b2⟩ := R.blt
  obtain ⟨mc, c1, c2⟩ := R.lim
  exact ⟨told_kin R ha, told_ns R ha R.glob, ⟨mb, told_ns R ha b1, b2⟩, ⟨mc, told_ns R ha c1, c2⟩⟩
theorem told_tabB (R : Rest K mg ts h) (ha : h.get? a = some (lo vs)) {t : Addr × Addr} (ht : t ∈ ts) : TabB (hidT h (told0 K ts a (lo vs) ns)) mg t.1 t.2 := by
  have e0 := R.emp t ht
  obtain ⟨og, eg, ng, e1, d1, _⟩ := R.glob
  refine ⟨?_, ?_, fun z => ?_⟩
  · obtain ⟨o, us, fl, tf, fg, tg, iF, tx, tt, e, r1, r2, r3, rest⟩ := R.cod t ht
    refine ⟨o, us, fl, tf, fg, tg, iF, tx, tt, hidT_get e (told_none R ha e (fun us k z => ?_) fun z => ?_), r1, r2, r3, rest⟩
    · rw [r2] at z
      cases z
    · rw [r2] at z
      cases z
      simp at r3
  · obtain ⟨m, o, m1, m2, m3, m4, m5, m6⟩ := R.mod
    refine ⟨m, o, m1, m2, fun z => ?_, fun z => ?_, hidT_get m3 (told_none R ha m3 (fun us k z => ?_) fun z => ?_), m4, m5, m6⟩
    · rw [z, e1] at m3
      cases m3
      rw [d1] at m6
      cases m6
    · rw [z, e0] at m3
      cases m3
      cases m6
    · rw [m6] at z
      cases z
    · rw [m6] at z
      cases z
  · rw [z, e0] at e1
    cases e1
    cases d1
theorem told_ok {P : Program} {w : World} (R : Rest K mg ts h) (ha : h.get? a = some (lo vs)) (hi : IntsAre vs ns) (hl : ns.length ≤ sizeLine) : HOk P w (told0 K ts a (lo vs) ns) h := fun b u e => by
  rcases told_cases e with ⟨hb, rfl⟩ | ⟨rfl, _, rfl⟩
  · exact told_emp R hb
  · exact ⟨ha, by rw [List.length_map]; exact hl, vs, _, vals_ints hi, ha⟩
/-- the script, as the law's def meets it -/
theorem told_script (R : Rest K mg ts h) (ha : h.get? a = some (lo vs)) (hi : IntsAre vs ns) (hl : ns.length ≤ sizeLine) : (∃ o, told0 K ts a (lo vs) ns a = some (.frz o (.lst (ns.map V.int)))) ∨ KW K a ns := by
  cases q : K.lookup a with
  | none => exact .inl ⟨lo vs, (if_neg (told_own R ha)).trans (if_pos ⟨rfl, q⟩)⟩
  | some o =>
    have e := R.kin a o q
    rw [ha] at e
    cases e
    exact .inr ⟨_, vs.toArray, _, q, rfl, rfl, rfl, by rw [List.size_toArray, hi.length]; exact hl, vals_ints hi⟩
/-- what stood before stands as it was, but for the tables -/
theorem told_old {P : Program} {w : World} {H' : Hp} {h' : Heap} (R : Rest K mg ts h) (ha : h.get? a = some (lo vs)) (un : Un [] [] (told0 K ts a (lo vs) ns) H' h h') (ok' : HOk P w H' h') : OldK h h' := by
  have stays : ∀ b o, b ∉ ts.map (·.2) → h.get? b = some o → h'.get? b = some o := fun b o nb e => by
    cases q : told0 K ts a (lo vs) ns b with
    | none => exact un.keep b o e q List.not_mem_nil List.not_mem_nil
    | some u =>
      rcases told_cases q with ⟨hb, _⟩ | ⟨rfl, _, rfl⟩
      · exact absurd hb nb
      · have e2 := (ok' _ _ (un.frzs _ _ _ q)).1
        rw [ha] at e
        cases e
        exact e2
  have tabs : ∀ t ∈ ts, ∃ us : Array Value, h'.get? t.2 = some { cls := .none, data := .fields us } := fun t ht => by
    obtain ⟨us, e⟩ := un.tbls t.2 #[] (told_tab ht)
    exact ⟨_, ok' _ _ e⟩
  constructor
  · intro b o e
    by_cases hb : b ∈ ts.map (·.2)
    · obtain ⟨t, ht, rfl⟩ := List.mem_map.mp hb
      obtain ⟨us, e2⟩ := tabs t ht
      have e0 := R.emp t ht
      rw [e0] at e
      cases e
      exact .inr (.inl ⟨((R.cod t ht).tab e0).isCodeTable, rfl, #[], us, rfl, by rw [Array.empty_append]; exact e2⟩)
    · exact .inl (stays b o hb e)
  · intro b o e
    by_cases hb : b ∈ ts.map (·.2)
    · obtain ⟨t, ht, rfl⟩ := List.mem_map.mp hb
      obtain ⟨us, e2⟩ := tabs t ht
      exact ⟨_, e2⟩
    · exact ⟨o, stays b o hb e⟩
end
theorem law_callG {P : Program} {w : World} {K : PySem.W.Frag} {mg : Str → Option Value} {k : Nat} {fa a : Addr} {ts : List (Addr × Addr)} {x : Str} {sp : Sp} {s : Shared} {vs : List Value} {ns : List Int}
    (R : Rest K mg ts s.heap) (hg : s.gens = #[]) (ha : s.heap.get? a = some (lo vs)) (hi : IntsAre vs ns) (hl : ns.length ≤ sizeLine) (hr : Room k callerA)
    (F : ∀ B : Heap, (∀ t ∈ ts, TabB B mg t.1 t.2) → ∃ fd, FnG P w K mg B (L2.CX P w) k fa fd [x] sp ∧ Binds K fd [x] [])
    (hsp : ∀ H : Hp, (∀ t ∈ ts, H t.2 = some (.tbl #[])) → ((∃ o, H a = some (.frz o (.lst (ns.map V.int)))) ∨ KW K a ns) → sp [.ref a] H (fun v _ => v = .bl true) fun _ _ _ => False) :
    codeAny (model P w) callerA (.call (.ref fa) ⟨[.ref a], []⟩) (fun r s' => r = .ok (.ret (.bool true)) ∧ OldK s.heap s'.heap ∧ s'.os = s.os ∧ AllBare s'.gens) s := by
  have hok := told_ok (P := P) (w := w) R ha hi hl
  have ev : Env0 P w K mg (hidT s.heap (told0 K ts a (lo vs) ns)) callerA [] s (told0 K ts a (lo vs) ns) :=
    ⟨rfl, told_mod R ha, fun b o e => of_hidT e, Nat.le_of_eq (hidT_size _ _), trivial, fun b z => absurd z List.not_mem_nil, hok, .of_eq hg⟩
  obtain ⟨fd, D, hb⟩ := F _ fun t ht => told_tabB (ns := ns) R ha ht
  have go := D.run callerA [] s _ ⟨[.ref a], []⟩ [.ref a] [.ref a] _ _ hr rfl ev (hb s [.ref a] R.kin rfl) (.cons rfl .nil) (hsp _ (fun t ht => told_tab ht) (told_script R ha hi hl))
  refine codeAny_mono go fun r s' c => ?_
  cases r with
  | error e =>
    obtain ⟨_, _, _, _, _, _, _, _, _, _, _, _, no⟩ := c
    exact no.elim
  | ok fl =>
    cases fl with
    | ret u =>
      obtain ⟨v, H', os, bare, un, hok', ru, rfl⟩ := c
      cases (show u = Value.bool true from ru)
      exact ⟨rfl, told_old R ha un hok', os, bare⟩
    | next => exact c.elim
    | brk => exact c.elim
    | cont => exact c.elim
end Ink

set_option Elab.async false
set_option linter.all false
set_option maxRecDepth 100000
set_option maxHeartbeats 1000000
namespace K84
open PySem PySem.Spec PyProof.Rows L2 GxR GenW Ink
abbrev PP : Program := (PySem.Challenge.rw_inksays_k84_whole_held_signs).prog
def errN : Nat → Str
  | 0 => "InvalidHeld"
  | 1 => "InvalidNumber"
  | _ => "InvalidText"
def Mk (K : PySem.W.Frag) : Pm := ⟨fun k => He.ga K (errN k), tf.map fun p => (He.cT K p).2, K⟩
/-- what the top has left -/
structure Fx (w : World) (K : PySem.W.Frag) (mg : Str → Option Value) (base : Heap) : Prop where
  d : He.SaysD fa fn K
  gl : ∀ (i : Nat) (x : Str), fa[i]? = some (.glo x) → mg x = some (.ref (He.ga K x))
  fr : ∀ (i : Nat) (x : Str), fa[i]? = some (.free x) → mg x = none
  most : ∃ t, mg "MOST_NUMBER" = some (.int 60 t)
  signs : ∃ t, mg "SIGNS" = some (.str " 0123456789abcdefghijklmnopqrstuvwxyz" t)
  errs : ∀ k, ∃ x fI, ErrC PP K mg x ((Mk K).C k) fI
  err_InvalidHeld : ErrC PP K mg "InvalidHeld" (He.ga K "InvalidHeld") (He.ma K (He.ga K "InvalidHeld") "__init__")
  err_InvalidNumber : ErrC PP K mg "InvalidNumber" (He.ga K "InvalidNumber") (He.ma K (He.ga K "InvalidNumber") "__init__")
  err_InvalidText : ErrC PP K mg "InvalidText" (He.ga K "InvalidText") (He.ma K (He.ga K "InvalidText") "__init__")
  kit : ∀ k, k < 3 → ∀ j, j < 3 → PySem.W.kitOne K (.ref ((Mk K).C j)) (.ref ((Mk K).C k)) = some (decide (j = k))
  sp : PySem.W.specialIn K (.builtin "object.__class__") "__get__" = some (some (.builtin "getset_descriptor.__get__"))
  tk : PySem.W.takesIn K (.builtin "object.__class__") = some true
  exm : ∀ k, PySem.W.exmOne K (.ref ((Mk K).C k)) (.ref (He.ga K "InkError")) = some true
  hP : ∀ (i : Nat) (x : Str), tf[i]? = some (x, none) → (He.cT K (x, none)).2 ∈ (Mk K).T
  tb : ∀ (i : Nat) (x : Str), tf[i]? = some (x, none) → TabB base mg (He.cT K (x, none)).1 (He.cT K (x, none)).2
section
variable (w : World) (K : PySem.W.Frag) (mg : Str → Option Value) (base : Heap)
def Got (x : Str) (k : Nat) (ps : List Str) (f : List D → Mo D) : Prop := ∃ fd, FnOk PP w K mg base (L2.CX PP w) k (He.ga K x) fd ps (SpM (Mk K) ps.length f) ∧ Binds K fd ps [] ∧ PySem.W.keepIn K (.ref (He.ga K x)) = true
def GotK (x : Str) (k : Nat) (ps : List Str) (f : List D → Mo D) (ks : List Str) : Prop := ∃ fd, FnOk PP w K mg base (L2.CX PP w) k (He.ga K x) fd ps (SpM (Mk K) ps.length f) ∧ Binds K fd ps [] ∧ PySem.W.keepIn K (.ref (He.ga K x)) = true ∧ KBr K fd ps ks
def GotF (x : Str) (k : Nat) (ps : List Str) (f : List D → Mo D) : Prop := ∃ fd, FnOk PP w K mg base (L2.CX PP w) k (He.ga K x) fd ps (SpF (Mk K) ps.length f) ∧ Binds K fd ps [] ∧ PySem.W.keepIn K (.ref (He.ga K x)) = true
def GotFK (x : Str) (k : Nat) (ps : List Str) (f : List D → Mo D) (ks : List Str) : Prop := ∃ fd, FnOk PP w K mg base (L2.CX PP w) k (He.ga K x) fd ps (SpF (Mk K) ps.length f) ∧ Binds K fd ps [] ∧ PySem.W.keepIn K (.ref (He.ga K x)) = true ∧ KBr K fd ps ks
def GotG (x : Str) (k : Nat) (ps : List Str) (f : List D → Mo D) : Prop := ∃ fd, FnG PP w K mg base (L2.CX PP w) k (He.ga K x) fd ps (SpM (Mk K) ps.length f) ∧ Binds K fd ps [] ∧ PySem.W.keepIn K (.ref (He.ga K x)) = true
end
theorem hu64 {A : Around} {k : Nat} (hr : Room k A) : A.units + 64 < cLine := by have := hr.un; omega
theorem hu200 {A : Around} {k : Nat} (hr : Room k A) : A.units + 200 < cLine := by have := hr.un; omega
section
variable {w : World} {K : PySem.W.Frag} {mg : Str → Option Value} {base : Heap} {M : Pm} {x : Str} {params : Arguments} {body : List Stmt} {scope : Scope} {dvs : List V} {kws : List (Str × V)} {fd : FuncData} {N ps : List Str} {k : Nat} {mb : MS} {f : Addr} {P : Program}
theorem fn_none : FnOk P w K mg base (L2.CX P w) 0 f fd ps (SpM M ps.length fun _ _ => none) := ⟨fun vs H Q E h => h.1, fun A outer s H args us vs Q E _ _ _ _ h => by
  obtain ⟨_, W, g, ds, _, _, r⟩ := h
  exact r.none.elim⟩
/-- the code object of a def with generator expressions -/
theorem code_of {oc : Value} {od : Option Addr} {osl : Array (Option Value)} {fd : FuncData} {qual : Str} (lk : K.lookup (He.fAd K (x, none)) = some ⟨oc, od, .func fd, osl⟩) (hcd : PySem.W.codeIn K fd.code qual = true) : fd.code = .ref (He.cT K (x, none)).1 := by
  cases e : fd.code with
  | ref c =>
    show Value.ref c = Value.ref (He.codeOf K (x, none))
    rw [He.codeOf_eq lk e]
  | _ =>
    rw [e] at hcd
    simp [PySem.W.codeIn] at hcd
theorem fn_ok0T (F : FunD K x x params body scope dvs kws (He.fAd K (x, none)) fd) (S : FnScope N ps scope)
    (hb : ∀ (cdv : Value) (A : Around) (outer : List Env) (s : Shared) (H : Hp) (E : XK), Room k (A.deeper (envOfC x scope s.heap.objs.size (He.fAd K (x, none)) cdv)) → cdv = .ref (He.cT K (x, none)).1 → PSs (cxOf (L2.CX P w) P w K mg base N x scope (He.fAd K (x, none)) cdv A outer s H E).nox body (sM M E0 mb)) :
    FnOk P w K mg base (L2.CX P w) (k + 1) (He.fAd K (x, none)) fd ps (SpM M ps.length fun ds => noEr (fnM N.length mb ds)) := by
  obtain ⟨oc, od, dV, kV, doc, pm, an, cdv, ct, osl, rfl, lk, hcd, _, _⟩ := F.ex
  have ec := code_of (x := x) lk hcd
  exact fn_of lk hcd S (fun vs H Q E h => h.1) fun A outer s H vs Q E hr h => by
    obtain ⟨_, W, g, ds, I, a, r⟩ := h
    exact ⟨_, (hb cdv A outer s H E hr ec).nox, fn_end I a r.noEr⟩
theorem fn_ok0FT (F : FunD K x x params body scope dvs kws (He.fAd K (x, none)) fd) (S : FnScope N ps scope)
    (hb : ∀ (cdv : Value) (A : Around) (outer : List Env) (s : Shared) (H : Hp) (E : XK), Room k (A.deeper (envOfC x scope s.heap.objs.size (He.fAd K (x, none)) cdv)) → cdv = .ref (He.cT K (x, none)).1 → PSs (cxOf (L2.CX P w) P w K mg base N x scope (He.fAd K (x, none)) cdv A outer s H E).nox body (sMF M E0 mb)) :
    FnOk P w K mg base (L2.CX P w) (k + 1) (He.fAd K (x, none)) fd ps (SpF M ps.length fun ds => noEr (fnF N.length mb ds)) := by
  obtain ⟨oc, od, dV, kV, doc, pm, an, cdv, ct, osl, rfl, lk, hcd, _, _⟩ := F.ex
  have ec := code_of (x := x) lk hcd
  exact fn_of lk hcd S (fun vs H Q E h => h.1) fun A outer s H vs Q E hr h => by
    obtain ⟨_, W, g, ds, I, a, r⟩ := h
    exact ⟨_, (hb cdv A outer s H E hr ec).nox, fn_endF I a r.noEr⟩
end
def tg3 (i j k : Nat) : MTg := fun d env => match d with
  | .tup [a, b, c] => some (((env.set i (some a)).set j (some b)).set k (some c))
  | _ => none
theorem tg_three {M : Pm} {K : PySem.W.Frag} (i j k : Nat) : TgOk M (gTup K 3 (gCons (gName i) (gCons (gName j) (gCons (gName k) gNil)))) (tg3 i j k) [i, j, k] := ⟨fun W s H d v env env' σ Q I E hd e q => by
  unfold tg3 at e
  split at e
  · cases e
    cases hd with
    | tup n ex ax =>
      cases ax with
      | cons h1 ax =>
        obtain ⟨v2, v3, rfl, h2, h3⟩ := ax.two
        refine ⟨_, _, rfl, SqT.of ex, rfl, _, _, rfl, v2, [v3], rfl, v3, [], rfl, rfl, q _ (((E.set i h1).set j h2).set k h3) fun vs hv => ?_⟩
        rw [wipe_set (hv k (by simp)), wipe_set (hv j (by simp)), wipe_set (hv i (by simp))]
  · cases e⟩
theorem psm_par {X : Cx} {M : Pm} {E : XK} {mr : MA} {i j : Nat} {x y : Str} {a b : Expr} {px py pt pos : Pos} {kt k2 : Nat} {pt2 : Pos} (hc : X.calm = true) (hN : X.N.Nodup) (hi : X.N[i]? = some x) (hj : X.N[j]? = some y) (hij : i ≠ j) (hx : X.env.scope.names.lookup x = some .local) (hy : X.env.scope.names.lookup y = some .local) (ha : PA X [a, b] (tMA M (cW E) mr))
    (hw : swappedStores [.Tuple [.Name x px, .Name y py] kt pt] (.Tuple [a, b] k2 pt2) X.env = pure (some [x, y]))
    (hs : swapsWithSole [.Tuple [.Name x px, .Name y py] kt pt] (.Tuple [a, b] k2 pt2) pos.line X.env = pure false := by rfl) :
    PS X (.Assign [.Tuple [.Name x px, .Name y py] kt pt] (.Tuple [a, b] k2 pt2) pos) (sM M E (mPar i j mr)) := (ps_par hc hN hi hj hij hx hy ha hw hs).imp fun _ _ _ => sM_par
end K84

set_option Elab.async false
set_option linter.all false
set_option maxRecDepth 100000
set_option maxHeartbeats 2000000
namespace K84
open PySem PySem.Spec PyProof.Rows L2 GxR GenW Ink
def N_is_count : List Str := ["value", "most"]
theorem sc_is_count : FnScope N_is_count ["value", "most"] (defScope (top 8)) := ⟨rfl, rfl, rfl, by decide +kernel, rfl, by decide +kernel, by decide +kernel⟩
def m_is_count : MS := (mSeq (mIf (mOr (mNot (mB (mUn (isD1 "int") (mVar 0)))) (mOr (mB (mUn (isD1 "bool") (mVar 0))) (mB (mOp ltD (mVar 0) (mC (.int 0)))))) (mRet (mC (.bl false))) mSkip) (mRet (mOrV (mOp isD (mVar 1) (mC .non)) (mOp leD (mVar 0) (mVar 1)))))
def f_is_count (ds : List D) : Mo D := noEr (fnM 2 m_is_count ds)
def N_is_text_of_signs : List Str := ["value", "sign"]
theorem sc_is_text_of_signs : FnScope N_is_text_of_signs ["value"] (defScope (top 9)) := ⟨rfl, rfl, rfl, by decide +kernel, rfl, by decide +kernel, by decide +kernel⟩
def m_is_text_of_signs : MS := (mRet (mAndV (mUn (isD1 "str") (mVar 0)) (mGx true (mIt itsS (mVar 0)) (tgN 1) [1] mYes (mOp inD (mVar 1) (mC (.str " 0123456789abcdefghijklmnopqrstuvwxyz"))))))
def f_is_text_of_signs (ds : List D) : Mo D := noEr (fnM 2 m_is_text_of_signs ds)
def N_is_hold : List Str := ["value"]
theorem sc_is_hold : FnScope N_is_hold ["value"] (defScope (top 10)) := ⟨rfl, rfl, rfl, by decide +kernel, rfl, by decide +kernel, by decide +kernel⟩
def m_is_hold : MS := (mSeq (mIf (mOr (mNot (mB (mUn (isD1 "tuple") (mVar 0)))) (mOr (mB (mOp neD (mBt lenD (mCons (mVar 0) mNil)) (mC (.int 2)))) (mNot (mB (mCall 2 f_is_count (mCons (mOp ixD (mVar 0) (mC (.int 0))) (mCons (mC (.int 60)) mNil))))))) (mRet (mC (.bl false))) mSkip) (mRet (mAndV (mCall 1 f_is_text_of_signs (mCons (mOp ixD (mVar 0) (mC (.int 1))) mNil)) (mOp ltD (mBt lenD (mCons (mOp ixD (mVar 0) (mC (.int 1))) mNil)) (mC (.int 2))))))
def f_is_hold (ds : List D) : Mo D := noEr (fnM 1 m_is_hold ds)
def N_is_held : List Str := ["value", "hold", "at"]
theorem sc_is_held : FnScope N_is_held ["value"] (defScope (top 11)) := ⟨rfl, rfl, rfl, by decide +kernel, rfl, by decide +kernel, by decide +kernel⟩
def m_is_held : MS := (mSeq (mIf (mOr (mNot (mB (mUn (isD1 "list") (mVar 0)))) (mNot (mB (mGx true (mIt itsD (mVar 0)) (tgN 1) [1] mYes (mCall 1 f_is_hold (mCons (mVar 1) mNil)))))) (mRet (mC (.bl false))) mSkip) (mSeq (mIf (mB (mGx false (mIt itsD (mSl (mVar 0) mNoP (mPt (mUn negD (mC (.int 1)))))) (tgN 1) [1] mYes (mOp eqD (mOp ixD (mVar 1) (mC (.int 1))) (mC (.str ""))))) (mRet (mC (.bl false))) mSkip) (mRet (mGx true (mItA rngD (mCons (mOp subD (mBt lenD (mCons (mVar 0) mNil)) (mC (.int 1))) mNil)) (tgN 2) [2] mYes (mOp ltD (mOp ixD (mOp ixD (mVar 0) (mVar 2)) (mC (.int 0))) (mOp ixD (mOp ixD (mVar 0) (mOp addD (mVar 2) (mC (.int 1)))) (mC (.int 0))))))))
def f_is_held (ds : List D) : Mo D := noEr (fnM 3 m_is_held ds)
def N_check_held : List Str := ["held"]
theorem sc_check_held : FnScope N_check_held ["held"] (defScope (top 12)) := ⟨rfl, rfl, rfl, by decide +kernel, rfl, by decide +kernel, by decide +kernel⟩
def m_check_held : MS := (mIf (mNot (mB (mCall 1 f_is_held (mCons (mVar 0) mNil)))) (mRaise 0 (mVar 0)) mSkip)
def f_check_held (ds : List D) : Mo D := fnM 1 m_check_held ds
def N_check_number : List Str := ["number"]
theorem sc_check_number : FnScope N_check_number ["number"] (defScope (top 13)) := ⟨rfl, rfl, rfl, by decide +kernel, rfl, by decide +kernel, by decide +kernel⟩
def m_check_number : MS := (mIf (mNot (mB (mCall 2 f_is_count (mCons (mVar 0) (mCons (mC (.int 60)) mNil))))) (mRaise 1 (mVar 0)) mSkip)
def f_check_number (ds : List D) : Mo D := fnM 1 m_check_number ds
def N_sign_of : List Str := ["text", "number"]
theorem sc_sign_of : FnScope N_sign_of ["text", "number"] (defScope (top 14)) := ⟨rfl, rfl, rfl, by decide +kernel, rfl, by decide +kernel, by decide +kernel⟩
def m_sign_of : MS := (mRet (mSl (mVar 0) (mPt (mVar 1)) (mPt (mOp addD (mVar 1) (mC (.int 1))))))
def f_sign_of (ds : List D) : Mo D := noEr (fnM 2 m_sign_of ds)
def N_keeps_all : List Str := ["held", "text", "number", "sign"]
theorem sc_keeps_all : FnScope N_keeps_all ["held", "text"] (defScope (top 15)) := ⟨rfl, rfl, rfl, by decide +kernel, rfl, by decide +kernel, by decide +kernel⟩
def m_keeps_all : MS := (mRet (mGx true (mIt itsD (mVar 0)) (tgP 2 3) [2, 3] mYes (mOp eqD (mCall 2 f_sign_of (mCons (mVar 1) (mCons (mVar 2) mNil))) (mVar 3))))
def f_keeps_all (ds : List D) : Mo D := noEr (fnM 4 m_keeps_all ds)
def N_keeps : List Str := ["held", "text"]
theorem sc_keeps : FnScope N_keeps ["held", "text"] (defScope (top 16)) := ⟨rfl, rfl, rfl, by decide +kernel, rfl, by decide +kernel, by decide +kernel⟩
def m_keeps : MS := (mSeq (mDrop (mCall 1 f_check_held (mCons (mVar 0) mNil))) (mSeq (mIf (mNot (mB (mCall 1 f_is_text_of_signs (mCons (mVar 1) mNil)))) (mRaise 2 (mVar 1)) mSkip) (mRet (mCall 2 f_keeps_all (mCons (mVar 0) (mCons (mVar 1) mNil))))))
def f_keeps (ds : List D) : Mo D := fnM 2 m_keeps ds
section
variable {w : World} {K : PySem.W.Frag} {mg : Str → Option Value} {base : Heap}
theorem got_is_count (F : Fx w K mg base) : Got w K mg base "is_count" 1 ["value", "most"] f_is_count := by
  obtain ⟨fd, FD⟩ := F.d.def_ 0 (d := dfn "is_count" 8 [.non]) rfl
  have FE : FunD K "is_count" "is_count" (defArgs (top 8)) (defBody (top 8)) (defScope (top 8)) [.non] [] (He.ga K "is_count") fd := FD
  have bi : Binds K fd ["value", "most"] [] := by
    obtain ⟨ds, vd, bi⟩ := FE.binds1 (ps := ["value", "most"]) 2 1 (by show ([V.non] : List V) ≠ []; exact nofun) rfl (fun T kV doc pm an cdv ct us its hl hi => by
      match us, hl, its, hi with
      | [u1, u2], _, [i1], _ =>
        refine ⟨?k, ?e1, ?e2⟩
        case e1 => with_unfolding_all rfl
        case e2 => with_unfolding_all rfl)
    have z : ds = [] := List.eq_nil_of_length_eq_zero vd.length.symm
    rw [z] at bi
    exact bi
  have G : FnOk PP w K mg base (L2.CX PP w) 1 (He.ga K "is_count") fd ["value", "most"] (SpM (Mk K) 2 (fun ds => noEr (fnM N_is_count.length m_is_count ds))) := fn_ok0 (k := 0) (mb := m_is_count) FE sc_is_count (fun cdv A outer s H E hr => (psm_cons (psm_if (PW.pt (pmw_or (pm_notT (pm_val (pm_isi (T := "int") rfl (F.fr 6 "isinstance" rfl) rfl (F.fr 7 "int" rfl) (by decide +kernel) (pm_var 0)))) (pmw_or (pm_val (pm_isi (T := "bool") rfl (F.fr 6 "isinstance" rfl) rfl (F.fr 8 "bool" rfl) (by decide +kernel) (pm_var 0))) (pmw_or1 (pm_cmpT opM_lt (pm_var 0) pm_int (nomark _)))))) (psm_one (psm_ret pm_bl)) psm_nil) (psm_one (psm_ret (pm_or (pm_cmp opM_is (pm_var 1) pm_non (nomark _)) (pm_one (pm_cmp opM_le (pm_var 0) (pm_var 1) (nomark _))))))))
  exact ⟨fd, G, bi, FE.kp⟩
theorem got_is_text_of_signs (F : Fx w K mg base) : Got w K mg base "is_text_of_signs" 4 ["value"] f_is_text_of_signs := by
  obtain ⟨fd, FD⟩ := F.d.def_ 1 (d := dfn "is_text_of_signs" 9) rfl
  have FE : FunD K "is_text_of_signs" "is_text_of_signs" (defArgs (top 9)) (defBody (top 9)) (defScope (top 9)) [] [] (He.ga K "is_text_of_signs") fd := FD
  obtain ⟨_, hsigns⟩ := F.signs
  have G : FnOk PP w K mg base (L2.CX PP w) 4 (He.ga K "is_text_of_signs") fd ["value"] (SpM (Mk K) 1 (fun ds => noEr (fnM N_is_text_of_signs.length m_is_text_of_signs ds))) := fn_ok0T (k := 3) (mb := m_is_text_of_signs) FE sc_is_text_of_signs (fun cdv A outer s H E hr hcode => (psm_one (psm_ret (pm_and (pm_isi (T := "str") rfl (F.fr 6 "isinstance" rfl) rfl (F.fr 9 "str" rfl) (by decide +kernel) (pm_var 0)) (pm_one (pm_all (k := 0) (own := [("sign", 1)]) (F.hP 0 "is_text_of_signs" rfl) (tg_name 1) (by decide) hr rfl (F.fr 13 "all" rfl) rfl sc_is_text_of_signs.nd (F.tb 0 "is_text_of_signs" rfl) hcode (gnOk_by (own := [("sign", 1)]) (N := N_is_text_of_signs) (sc := defScope (top 9)) (by decide +kernel)) (pmi_str (pm_var 0)) (fun _ _ _ _ _ _ _ hr' => (pg_name (i := 1) sc_is_text_of_signs.nd rfl (.inl rfl))) (fun _ _ _ _ _ _ _ hr' => ptsm_nil) (fun _ _ _ _ _ _ _ hr' => (pm_cmp opM_in (pm_var 1) (pm_c (pe_glob (v := .str " 0123456789abcdefghijklmnopqrstuvwxyz") rfl hsigns ⟨_, rfl⟩) fun _ _ => .str _) (by rfl)))))))))
  exact ⟨fd, G, (FE.bindsN fun _ _ _ _ _ _ us hl => match us, hl with | [_], _ => rfl), FE.kp⟩
theorem got_is_hold (F : Fx w K mg base) : Got w K mg base "is_hold" 5 ["value"] f_is_hold := by
  obtain ⟨fd, FD⟩ := F.d.def_ 2 (d := dfn "is_hold" 10) rfl
  have FE : FunD K "is_hold" "is_hold" (defArgs (top 10)) (defBody (top 10)) (defScope (top 10)) [] [] (He.ga K "is_hold") fd := FD
  obtain ⟨_, hmost⟩ := F.most
  obtain ⟨fd_is_count, G_is_count, b_is_count, k_is_count⟩ := got_is_count F
  obtain ⟨fd_is_text_of_signs, G_is_text_of_signs, b_is_text_of_signs, k_is_text_of_signs⟩ := got_is_text_of_signs F
  have G : FnOk PP w K mg base (L2.CX PP w) 5 (He.ga K "is_hold") fd ["value"] (SpM (Mk K) 1 (fun ds => noEr (fnM N_is_hold.length m_is_hold ds))) := fn_ok0 (k := 4) (mb := m_is_hold) FE sc_is_hold (fun cdv A outer s H E hr => (psm_cons (psm_if (PW.pt (pmw_or (pm_notT (pm_val (pm_isi (T := "tuple") rfl (F.fr 6 "isinstance" rfl) rfl (F.fr 11 "tuple" rfl) (by decide +kernel) (pm_var 0)))) (pmw_or (pm_cmpT (opM_ne (hu64 hr)) (pm_callB (callM_len rfl) rfl (F.fr 15 "len" rfl) (by decide +kernel) (pma_cons (pm_var 0) pma_nil)) pm_int (nomark _)) (pmw_or1 (pm_notT (pm_val (pm_call takes0 G_is_count (hr.mono (by decide)) rfl (F.gl 25 "is_count" rfl) k_is_count b_is_count (pma_cons (pm_ix rfl (pm_var 0) pm_int (fun _ _ => rfl)) (pma_cons (pm_c (pe_glob (v := .int 60) rfl hmost ⟨_, rfl⟩) fun _ _ => .int _) pma_nil))))))))) (psm_one (psm_ret pm_bl)) psm_nil) (psm_one (psm_ret (pm_and (pm_call takes0 G_is_text_of_signs (hr.mono (by decide)) rfl (F.gl 26 "is_text_of_signs" rfl) k_is_text_of_signs b_is_text_of_signs (pma_cons (pm_ix rfl (pm_var 0) pm_int (fun _ _ => rfl)) pma_nil)) (pm_one (pm_cmp opM_lt (pm_callB (callM_len rfl) rfl (F.fr 15 "len" rfl) (by decide +kernel) (pma_cons (pm_ix rfl (pm_var 0) pm_int (fun _ _ => rfl)) pma_nil)) pm_int (nomark _))))))))
  exact ⟨fd, G, (FE.bindsN fun _ _ _ _ _ _ us hl => match us, hl with | [_], _ => rfl), FE.kp⟩
theorem got_is_held (F : Fx w K mg base) : GotK w K mg base "is_held" 9 ["value"] f_is_held ["value"] := by
  obtain ⟨fd, FD⟩ := F.d.def_ 3 (d := dfn "is_held" 11) rfl
  have FE : FunD K "is_held" "is_held" (defArgs (top 11)) (defBody (top 11)) (defScope (top 11)) [] [] (He.ga K "is_held") fd := FD
  obtain ⟨fd_is_hold, G_is_hold, b_is_hold, k_is_hold⟩ := got_is_hold F
  have G : FnOk PP w K mg base (L2.CX PP w) 9 (He.ga K "is_held") fd ["value"] (SpM (Mk K) 1 (fun ds => noEr (fnM N_is_held.length m_is_held ds))) := fn_ok0T (k := 8) (mb := m_is_held) FE sc_is_held (fun cdv A outer s H E hr hcode => (psm_cons (psm_if (PW.pt (pmw_or (pm_notT (pm_val (pm_isi (T := "list") rfl (F.fr 6 "isinstance" rfl) rfl (F.fr 10 "list" rfl) (by decide +kernel) (pm_var 0)))) (pmw_or1 (pm_notT (pm_val (pm_all (k := 5) (own := [("hold", 1)]) (F.hP 1 "is_held" rfl) (tg_name 1) (by decide) hr rfl (F.fr 13 "all" rfl) rfl sc_is_held.nd (F.tb 1 "is_held" rfl) hcode (gnOk_by (own := [("hold", 1)]) (N := N_is_held) (sc := defScope (top 11)) (by decide +kernel)) (pmi_list (pm_var 0)) (fun _ _ _ _ _ _ _ hr' => (pg_name (i := 1) sc_is_held.nd rfl (.inl rfl))) (fun _ _ _ _ _ _ _ hr' => ptsm_nil) (fun _ _ _ _ _ _ _ hr' => (pm_call takes0 G_is_hold (hr'.mono (by decide)) rfl (F.gl 27 "is_hold" rfl) k_is_hold b_is_hold (pma_cons (pm_var 1) pma_nil))))))))) (psm_one (psm_ret pm_bl)) psm_nil) (psm_cons (psm_if (pm_val (pm_any (k := 5) (own := [("hold", 1)]) (F.hP 1 "is_held" rfl) (tg_name 1) (by decide) hr rfl (F.fr 14 "any" rfl) rfl sc_is_held.nd (F.tb 1 "is_held" rfl) hcode (gnOk_by (own := [("hold", 1)]) (N := N_is_held) (sc := defScope (top 11)) (by decide +kernel)) (pmi_list (pm_sl rfl (pm_var 0) pmo_none (pmo_some (pm_neg pm_int)))) (fun _ _ _ _ _ _ _ hr' => (pg_name (i := 1) sc_is_held.nd rfl (.inl rfl))) (fun _ _ _ _ _ _ _ hr' => ptsm_nil) (fun _ _ _ _ _ _ _ hr' => (pm_cmp (opM_eq (hu64 hr')) (pm_ix rfl (pm_var 1) pm_int (fun _ _ => rfl)) pm_str (nomark _))))) (psm_one (psm_ret pm_bl)) psm_nil) (psm_one (psm_ret (pm_all (k := 5) (own := [("at", 2)]) (F.hP 1 "is_held" rfl) (tg_name 2) (by decide) hr rfl (F.fr 13 "all" rfl) rfl sc_is_held.nd (F.tb 1 "is_held" rfl) hcode (gnOk_by (own := [("at", 2)]) (N := N_is_held) (sc := defScope (top 11)) (by decide +kernel)) (pmi_range rfl (F.fr 16 "range" rfl) (pma_cons (pm_op opM_sub (pm_callB (callM_len rfl) rfl (F.fr 15 "len" rfl) (by decide +kernel) (pma_cons (pm_var 0) pma_nil)) pm_int) pma_nil)) (fun _ _ _ _ _ _ _ hr' => (pg_name (i := 2) sc_is_held.nd rfl (.inl rfl))) (fun _ _ _ _ _ _ _ hr' => ptsm_nil) (fun _ _ _ _ _ _ _ hr' => (pm_cmp opM_lt (pm_ix rfl (pm_ix rfl (pm_var 0) (pm_var 2) (fun _ _ => rfl)) pm_int (fun _ _ => rfl)) (pm_ix rfl (pm_ix rfl (pm_var 0) (pm_op opM_add (pm_var 2) pm_int) (fun _ _ => rfl)) pm_int (fun _ _ => rfl)) (nomark _)))))))))
  exact ⟨fd, G, (FE.bindsN fun _ _ _ _ _ _ us hl => match us, hl with | [_], _ => rfl), FE.kp, kbr_of (ks := ["value"]) FE fun _ _ _ _ _ _ ws hl => match ws, hl with | [_], _ => rfl⟩
theorem got_check_held (F : Fx w K mg base) : Got w K mg base "check_held" 10 ["held"] f_check_held := by
  obtain ⟨fd, FD⟩ := F.d.def_ 4 (d := dfn "check_held" 12) rfl
  have FE : FunD K "check_held" "check_held" (defArgs (top 12)) (defBody (top 12)) (defScope (top 12)) [] [] (He.ga K "check_held") fd := FD
  obtain ⟨fd_is_held, G_is_held, b_is_held, k_is_held, kb_is_held⟩ := got_is_held F
  have G : FnOk PP w K mg base (L2.CX PP w) 10 (He.ga K "check_held") fd ["held"] (SpM (Mk K) 1 (fun ds => fnM N_check_held.length m_check_held ds)) := fn_okX (k := 9) (mb := m_check_held) FE sc_check_held (fun cdv A outer s H E hr => (psm_one (psm_if (pm_notT (pm_val (pm_call (takes_of rfl rfl rfl rfl) G_is_held (hr.mono (by decide)) rfl (F.gl 28 "is_held" rfl) k_is_held b_is_held (pma_cons (pm_var 0) pma_nil)))) (psm_one (psm_raise (k := 0) rfl rfl (F.err_InvalidHeld) hr (takes_of rfl rfl rfl rfl) (pma_cons (pm_var 0) pma_nil) rfl)) psm_nil)))
  exact ⟨fd, G, (FE.bindsN fun _ _ _ _ _ _ us hl => match us, hl with | [_], _ => rfl), FE.kp⟩
theorem got_check_number (F : Fx w K mg base) : Got w K mg base "check_number" 3 ["number"] f_check_number := by
  obtain ⟨fd, FD⟩ := F.d.def_ 5 (d := dfn "check_number" 13) rfl
  have FE : FunD K "check_number" "check_number" (defArgs (top 13)) (defBody (top 13)) (defScope (top 13)) [] [] (He.ga K "check_number") fd := FD
  obtain ⟨_, hmost⟩ := F.most
  obtain ⟨fd_is_count, G_is_count, b_is_count, k_is_count⟩ := got_is_count F
  have G : FnOk PP w K mg base (L2.CX PP w) 3 (He.ga K "check_number") fd ["number"] (SpM (Mk K) 1 (fun ds => fnM N_check_number.length m_check_number ds)) := fn_okX (k := 2) (mb := m_check_number) FE sc_check_number (fun cdv A outer s H E hr => (psm_one (psm_if (pm_notT (pm_val (pm_call (takes_of rfl rfl rfl rfl) G_is_count (hr.mono (by decide)) rfl (F.gl 25 "is_count" rfl) k_is_count b_is_count (pma_cons (pm_var 0) (pma_cons (pm_c (pe_glob (v := .int 60) rfl hmost ⟨_, rfl⟩) fun _ _ => .int _) pma_nil))))) (psm_one (psm_raise (k := 1) rfl rfl (F.err_InvalidNumber) hr (takes_of rfl rfl rfl rfl) (pma_cons (pm_var 0) pma_nil) rfl)) psm_nil)))
  exact ⟨fd, G, (FE.bindsN fun _ _ _ _ _ _ us hl => match us, hl with | [_], _ => rfl), FE.kp⟩
theorem got_sign_of (F : Fx w K mg base) : Got w K mg base "sign_of" 1 ["text", "number"] f_sign_of := by
  obtain ⟨fd, FD⟩ := F.d.def_ 6 (d := dfn "sign_of" 14) rfl
  have FE : FunD K "sign_of" "sign_of" (defArgs (top 14)) (defBody (top 14)) (defScope (top 14)) [] [] (He.ga K "sign_of") fd := FD
  have G : FnOk PP w K mg base (L2.CX PP w) 1 (He.ga K "sign_of") fd ["text", "number"] (SpM (Mk K) 2 (fun ds => noEr (fnM N_sign_of.length m_sign_of ds))) := fn_ok0 (k := 0) (mb := m_sign_of) FE sc_sign_of (fun cdv A outer s H E hr => (psm_one (psm_ret (pm_sl rfl (pm_var 0) (pmo_some (pm_var 1)) (pmo_some (pm_op opM_add (pm_var 1) pm_int))))))
  exact ⟨fd, G, (FE.bindsN fun _ _ _ _ _ _ us hl => match us, hl with | [_, _], _ => rfl), FE.kp⟩
theorem got_keeps_all (F : Fx w K mg base) : Got w K mg base "keeps_all" 5 ["held", "text"] f_keeps_all := by
  obtain ⟨fd, FD⟩ := F.d.def_ 7 (d := dfn "keeps_all" 15) rfl
  have FE : FunD K "keeps_all" "keeps_all" (defArgs (top 15)) (defBody (top 15)) (defScope (top 15)) [] [] (He.ga K "keeps_all") fd := FD
  obtain ⟨fd_sign_of, G_sign_of, b_sign_of, k_sign_of⟩ := got_sign_of F
  have G : FnOk PP w K mg base (L2.CX PP w) 5 (He.ga K "keeps_all") fd ["held", "text"] (SpM (Mk K) 2 (fun ds => noEr (fnM N_keeps_all.length m_keeps_all ds))) := fn_ok0T (k := 4) (mb := m_keeps_all) FE sc_keeps_all (fun cdv A outer s H E hr hcode => (psm_one (psm_ret (pm_all (k := 1) (own := [("number", 2), ("sign", 3)]) (F.hP 2 "keeps_all" rfl) (tg_pair 2 3) (by decide) hr rfl (F.fr 13 "all" rfl) rfl sc_keeps_all.nd (F.tb 2 "keeps_all" rfl) hcode (gnOk_by (own := [("number", 2), ("sign", 3)]) (N := N_keeps_all) (sc := defScope (top 15)) (by decide +kernel)) (pmi_list (pm_var 0)) (fun _ _ _ _ _ _ _ hr' => (pg_tup rfl (pgs_cons (pg_name (i := 2) sc_keeps_all.nd rfl (.inl rfl)) (pgs_cons (pg_name (i := 3) sc_keeps_all.nd rfl (.inl rfl)) pgs_nil)))) (fun _ _ _ _ _ _ _ hr' => ptsm_nil) (fun _ _ _ _ _ _ _ hr' => (pm_cmp (opM_eq (hu64 hr')) (pm_call takes0 G_sign_of (hr'.mono (by decide)) rfl (F.gl 31 "sign_of" rfl) k_sign_of b_sign_of (pma_cons (pm_var 1) (pma_cons (pm_var 2) pma_nil))) (pm_var 3) (nomark _)))))))
  exact ⟨fd, G, (FE.bindsN fun _ _ _ _ _ _ us hl => match us, hl with | [_, _], _ => rfl), FE.kp⟩
theorem got_keeps (F : Fx w K mg base) : GotK w K mg base "keeps" 11 ["held", "text"] f_keeps ["text", "held"] := by
  obtain ⟨fd, FD⟩ := F.d.def_ 8 (d := dfn "keeps" 16) rfl
  have FE : FunD K "keeps" "keeps" (defArgs (top 16)) (defBody (top 16)) (defScope (top 16)) [] [] (He.ga K "keeps") fd := FD
  obtain ⟨fd_check_held, G_check_held, b_check_held, k_check_held⟩ := got_check_held F
  obtain ⟨fd_is_text_of_signs, G_is_text_of_signs, b_is_text_of_signs, k_is_text_of_signs⟩ := got_is_text_of_signs F
  obtain ⟨fd_keeps_all, G_keeps_all, b_keeps_all, k_keeps_all⟩ := got_keeps_all F
  have G : FnOk PP w K mg base (L2.CX PP w) 11 (He.ga K "keeps") fd ["held", "text"] (SpM (Mk K) 2 (fun ds => fnM N_keeps.length m_keeps ds)) := fn_okX (k := 10) (mb := m_keeps) FE sc_keeps (fun cdv A outer s H E hr => (psm_cons (psm_expr (pm_call (takes_of rfl rfl rfl rfl) G_check_held (hr.mono (by decide)) rfl (F.gl 29 "check_held" rfl) k_check_held b_check_held (pma_cons (pm_var 0) pma_nil))) (psm_cons (psm_if (pm_notT (pm_val (pm_call (takes_of rfl rfl rfl rfl) G_is_text_of_signs (hr.mono (by decide)) rfl (F.gl 26 "is_text_of_signs" rfl) k_is_text_of_signs b_is_text_of_signs (pma_cons (pm_var 1) pma_nil)))) (psm_one (psm_raise (k := 2) rfl rfl (F.err_InvalidText) hr (takes_of rfl rfl rfl rfl) (pma_cons (pm_var 1) pma_nil) rfl)) psm_nil) (psm_one (psm_ret (pm_call (takes_of rfl rfl rfl rfl) G_keeps_all (hr.mono (by decide)) rfl (F.gl 32 "keeps_all" rfl) k_keeps_all b_keeps_all (pma_cons (pm_var 0) (pma_cons (pm_var 1) pma_nil))))))))
  exact ⟨fd, G, (FE.bindsN fun _ _ _ _ _ _ us hl => match us, hl with | [_, _], _ => rfl), FE.kp, kbr_of (ks := ["text", "held"]) FE fun _ _ _ _ _ _ ws hl => match ws, hl with | [_, _], _ => rfl⟩
end
end K84

set_option Elab.async false
set_option linter.all false
set_option maxRecDepth 100000
set_option maxHeartbeats 2000000
namespace K84
open PySem PySem.Spec PyProof.Rows L2 GxR GenW Ink
def N_with_hold : List Str := ["held", "number", "sign", "left", "hold"]
theorem sc_with_hold : FnScope N_with_hold ["held", "number", "sign"] (defScope (top 17)) := ⟨rfl, rfl, rfl, by decide +kernel, rfl, by decide +kernel, by decide +kernel⟩
def m_with_hold : MS := (mSeq (mIf (mB (mOp eqD (mVar 2) (mC (.str "")))) (mSeq (mIf (mB (mGx false (mIt itsD (mVar 0)) (tgN 4) [4] mYes (mAndV (mOp eqD (mOp ixD (mVar 4) (mC (.int 1))) (mC (.str ""))) (mOp ltD (mOp ixD (mVar 4) (mC (.int 0))) (mVar 1))))) (mRet (mBt listD (mCons (mVar 0) mNil))) mSkip) (mRet (mOp catD (mLc (mIt itsD (mVar 0)) (tgN 4) [4] (mB (mOp ltD (mOp ixD (mVar 4) (mC (.int 0))) (mVar 1))) (mVar 4)) (mLst (mCons (mTup (mCons (mVar 1) (mCons (mVar 2) mNil))) mNil))))) mSkip) (mSeq (noRt (mSet 3 (mLc (mIt itsD (mVar 0)) (tgN 4) [4] (mAnd (mB (mOp neD (mOp ixD (mVar 4) (mC (.int 0))) (mVar 1))) (mNot (mAnd (mB (mOp eqD (mOp ixD (mVar 4) (mC (.int 1))) (mC (.str "")))) (mB (mOp leD (mOp ixD (mVar 4) (mC (.int 0))) (mVar 1)))))) (mVar 4)))) (mRet (mBt sortD (mCons (mOp addD (mVar 3) (mLst (mCons (mTup (mCons (mVar 1) (mCons (mVar 2) mNil))) mNil))) mNil)))))
def f_with_hold (ds : List D) : Mo D := noEr (fnF 5 m_with_hold ds)
def N_held_with : List Str := ["held", "number", "sign"]
theorem sc_held_with : FnScope N_held_with ["held", "number", "sign"] (defScope (top 18)) := ⟨rfl, rfl, rfl, by decide +kernel, rfl, by decide +kernel, by decide +kernel⟩
def m_held_with : MS := (mSeq (noRt (mDrop (mCall 1 f_check_held (mCons (mVar 0) mNil)))) (mSeq (noRt (mDrop (mCall 1 f_check_number (mCons (mVar 1) mNil)))) (mSeq (mIf (mOr (mNot (mB (mCall 1 f_is_text_of_signs (mCons (mVar 2) mNil)))) (mB (mOp gtD (mBt lenD (mCons (mVar 2) mNil)) (mC (.int 1))))) (noRt (mRaise 2 (mVar 2))) mSkip) (mRet (mCall 3 f_with_hold (mCons (mVar 0) (mCons (mVar 1) (mCons (mVar 2) mNil))))))))
def f_held_with (ds : List D) : Mo D := fnF 3 m_held_with ds
def N_held_without : List Str := ["held", "number", "hold"]
theorem sc_held_without : FnScope N_held_without ["held", "number"] (defScope (top 19)) := ⟨rfl, rfl, rfl, by decide +kernel, rfl, by decide +kernel, by decide +kernel⟩
def m_held_without : MS := (mSeq (noRt (mDrop (mCall 1 f_check_held (mCons (mVar 0) mNil)))) (mSeq (noRt (mDrop (mCall 1 f_check_number (mCons (mVar 1) mNil)))) (mRet (mLc (mIt itsD (mVar 0)) (tgN 2) [2] (mB (mOp neD (mOp ixD (mVar 2) (mC (.int 0))) (mVar 1))) (mVar 2)))))
def f_held_without (ds : List D) : Mo D := fnF 3 m_held_without ds
def N_law_hash : List Str := ["seed", "index", "mixed"]
theorem sc_law_hash : FnScope N_law_hash ["seed", "index"] (defScope (top 21)) := ⟨rfl, rfl, rfl, by decide +kernel, rfl, by decide +kernel, by decide +kernel⟩
def m_law_hash : MS := (mSeq (mSet 2 (mOp modD (mBt intD (mCons (mOp addD (mOp addD (mOp addD (mOp mulD (mVar 0) (mC (.int 1140671))) (mOp mulD (mOp mulD (mC (.int 27644437)) (mVar 1)) (mVar 1))) (mOp mulD (mC (.int 131)) (mVar 1))) (mC (.int 19))) mNil)) (mC (.int 2147483629)))) (mSeq (mSet 2 (mOp modD (mBt intD (mCons (mOp addD (mOp addD (mOp mulD (mVar 2) (mVar 2)) (mOp mulD (mC (.int 62089)) (mVar 1))) (mC (.int 32416187))) mNil)) (mC (.int 2147483587)))) (mRet (mOp modD (mBt intD (mCons (mOp mulD (mVar 2) (mC (.int 48271))) mNil)) (mC (.int 2147483647))))))
def f_law_hash (ds : List D) : Mo D := noEr (fnM 3 m_law_hash ds)
def N_law_random : List Str := ["generator", "bound", "drawn", "turn"]
theorem sc_law_random : FnScope N_law_random ["generator", "bound"] (defScope (top 22)) := ⟨rfl, rfl, rfl, by decide +kernel, rfl, by decide +kernel, by decide +kernel⟩
def m_law_random : MS := (mSeq (mIf (mB (mOp gtD (mGi 0 0) (mC (.int 0)))) (mSeq (mSet 2 (mOp modD (mBt intD (mCons (mGi 0 0) mNil)) (mVar 1))) (mSeq (mSg 0 0 (mOp divD (mGi 0 0) (mVar 1))) (mRet (mVar 2)))) mSkip) (mSeq (mSet 2 (mC (.int 0))) (mSeq (mFor (mItA rngD (mCons (mOp addD (mC (.int 1)) (mOp divD (mUn bitsD (mVar 1)) (mC (.int 30)))) mNil)) (tgN 3) (mSeq (mSg 0 2 (mOp addD (mGi 0 2) (mC (.int 1)))) (mSet 2 (mOp addD (mOp mulD (mVar 2) (mC (.int 2147483587))) (mCall 2 f_law_hash (mCons (mGi 0 1) (mCons (mGi 0 2) mNil))))))) (mRet (mOp modD (mBt intD (mCons (mVar 2) mNil)) (mVar 1))))))
def f_law_random (ds : List D) : Mo D := noEr (fnM 4 m_law_random ds)
def N_law_cell : List Str := ["script", "index"]
theorem sc_law_cell : FnScope N_law_cell ["script", "index"] (defScope (top 23)) := ⟨rfl, rfl, rfl, by decide +kernel, rfl, by decide +kernel, by decide +kernel⟩
def m_law_cell : MS := (mSeq (mIf (mB (mOp ltD (mVar 1) (mBt lenD (mCons (mVar 0) mNil)))) (mRet (mOp ixD (mVar 0) (mVar 1))) mSkip) (mRet (mOp modD (mBt sumD (mCons (mSl (mVar 0) mNoP (mPt (mC (.int 1)))) mNil)) (mC (.int 1000003)))))
def f_law_cell (ds : List D) : Mo D := noEr (fnM 2 m_law_cell ds)
def N_law_generator : List Str := ["script", "index", "seed"]
theorem sc_law_generator : FnScope N_law_generator ["script", "index"] (defScope (top 24)) := ⟨rfl, rfl, rfl, by decide +kernel, rfl, by decide +kernel, by decide +kernel⟩
def m_law_generator : MS := (mSeq (noRt (mSet 2 (mCall 2 f_law_cell (mCons (mVar 0) (mCons (mVar 1) mNil))))) (mRet (mLst (mCons (mOp modD (mBt intD (mCons (mBt max2D (mCons (mOp subD (mVar 2) (mOp powD (mC (.int 10)) (mC (.int 18)))) (mCons (mC (.int 0)) mNil))) mNil)) (mOp powD (mOp powD (mC (.int 10)) (mC (.int 60))) (mC (.int 10)))) (mCons (mOp modD (mBt intD (mCons (mVar 2) mNil)) (mC (.int 2147483647))) (mCons (mOp mulD (mC (.int 1000)) (mVar 1)) mNil))))))
def f_law_generator (ds : List D) : Mo D := noEr (fnF 3 m_law_generator ds)
def N_law_same : List Str := ["told", "due", "is_like", "one", "other"]
theorem sc_law_same : FnScope N_law_same ["told", "due"] (defScope (top 25)) := ⟨rfl, rfl, rfl, by decide +kernel, rfl, by decide +kernel, by decide +kernel⟩
def mb_law_same (g : List D → Mo D) : MS := (mSeq (mIf (mB (mUn isD2 (mVar 1))) (mSeq (mSet 2 (mAndV (mOp eqD (mUn (isD1 "list") (mVar 0)) (mUn (isD1 "list") (mVar 1))) (mOp eqD (mUn (isD1 "tuple") (mVar 0)) (mUn (isD1 "tuple") (mVar 1))))) (mRet (mAndV (mVar 2) (mAndV (mOp eqD (mBt lenD (mCons (mVar 0) mNil)) (mBt lenD (mCons (mVar 1) mNil))) (mBt allD (mCons (mLc (mItA zipD (mCons (mVar 0) (mCons (mVar 1) mNil))) (tgP 3 4) [3, 4] mYes (mCall 2 g (mCons (mVar 3) (mCons (mVar 4) mNil)))) mNil)))))) mSkip) (mSeq (mIf (mOr (mB (mUn isD2 (mVar 0))) (mB (mOp neD (mOp isD (mVar 0) (mC .non)) (mOp isD (mVar 1) (mC .non))))) (mRet (mC (.bl false))) mSkip) (mSeq (mSet 2 (mAndV (mOp eqD (mUn (isD1 "bool") (mVar 0)) (mUn (isD1 "bool") (mVar 1))) (mOp eqD (mUn (isD1 "int") (mVar 0)) (mUn (isD1 "int") (mVar 1))))) (mRet (mAndV (mVar 2) (mAndV (mOp eqD (mUn (isD1 "str") (mVar 0)) (mUn (isD1 "str") (mVar 1))) (mOp eqD (mVar 0) (mVar 1))))))))
def f_law_same : Nat → List D → Mo D
  | 0 => fun _ _ => none
  | n + 1 => fun ds => noEr (fnM 5 (mb_law_same (f_law_same n)) ds)
def N_law_sign : List Str := ["generator"]
theorem sc_law_sign : FnScope N_law_sign ["generator"] (defScope (top 26)) := ⟨rfl, rfl, rfl, by decide +kernel, rfl, by decide +kernel, by decide +kernel⟩
def m_law_sign : MS := (mSeq (mIf (mB (mOp gtD (mCall 2 f_law_random (mCons (mVar 0) (mCons (mC (.int 3)) mNil))) (mC (.int 0)))) (mRet (mOp ixD (mC (.str "ab 0")) (mCall 2 f_law_random (mCons (mVar 0) (mCons (mC (.int 4)) mNil))))) mSkip) (mRet (mOp ixD (mC (.str " 0123456789abcdefghijklmnopqrstuvwxyz")) (mCall 2 f_law_random (mCons (mVar 0) (mCons (mC (.int 37)) mNil))))))
def f_law_sign (ds : List D) : Mo D := noEr (fnM 1 m_law_sign ds)
section
variable {w : World} {K : PySem.W.Frag} {mg : Str → Option Value} {base : Heap}
theorem got_with_hold (F : Fx w K mg base) : GotF w K mg base "with_hold" 4 ["held", "number", "sign"] f_with_hold := by
  obtain ⟨fd, FD⟩ := F.d.def_ 9 (d := dfn "with_hold" 17) rfl
  have FE : FunD K "with_hold" "with_hold" (defArgs (top 17)) (defBody (top 17)) (defScope (top 17)) [] [] (He.ga K "with_hold") fd := FD
  have G : FnOk PP w K mg base (L2.CX PP w) 4 (He.ga K "with_hold") fd ["held", "number", "sign"] (SpF (Mk K) 3 (fun ds => noEr (fnF N_with_hold.length m_with_hold ds))) := fn_ok0FT (k := 3) (mb := m_with_hold) FE sc_with_hold (fun cdv A outer s H E hr hcode => (psf_cons (psf_if (pm_cmpT (opM_eq (hu64 hr)) (pm_var 2) pm_str (nomark _)) (psf_cons (psf_if (pm_val (pm_any (k := 0) (own := [("hold", 4)]) (F.hP 3 "with_hold" rfl) (tg_name 4) (by decide) hr rfl (F.fr 14 "any" rfl) rfl sc_with_hold.nd (F.tb 3 "with_hold" rfl) hcode (gnOk_by (own := [("hold", 4)]) (N := N_with_hold) (sc := defScope (top 17)) (by decide +kernel)) (pmi_list (pm_var 0)) (fun _ _ _ _ _ _ _ hr' => (pg_name (i := 4) sc_with_hold.nd rfl (.inl rfl))) (fun _ _ _ _ _ _ _ hr' => ptsm_nil) (fun _ _ _ _ _ _ _ hr' => (pm_and (pm_cmp (opM_eq (hu64 hr')) (pm_ix rfl (pm_var 4) pm_int (fun _ _ => rfl)) pm_str (nomark _)) (pm_one (pm_cmp opM_lt (pm_ix rfl (pm_var 4) pm_int (fun _ _ => rfl)) (pm_var 1) (nomark _))))))) (psf_one (psf_ret (pm_callTyF callM_list rfl (F.fr 10 "list" rfl) (by decide +kernel) (pma_cons (pm_var 0) pma_nil)))) psf_nil) (psf_one (psf_ret (pm_catF (PE.m (pm_lcF (own := [("hold", 4)]) (tg_name 4) (by decide) rfl sc_with_hold.nd (pmi_list (pm_var 0)) (blkOk_by (own := [("hold", 4)]) (N := N_with_hold) (sc := defScope (top 17)) (by decide +kernel)) (fun _ _ _ _ _ => (pg_name (i := 4) sc_with_hold.nd rfl (.inl rfl))) (fun _ _ _ _ _ => (ptsm_one (pm_cmpT opM_lt (pm_ix rfl (pm_var 4) pm_int (fun _ _ => rfl)) (pm_var 1) (nomark _)))) (fun _ _ _ _ _ => (pm_var 4)))) (pm_lst (pma_cons (pm_tup (pma_cons (pm_var 1) (pma_cons (pm_var 2) pma_nil))) pma_nil)))))) psf_nil) (psf_cons (PS.f (psm_setLc (i := 3) (own := [("hold", 4)]) (tg_name 4) (by decide) rfl sc_with_hold.nd rfl rfl (sw_true rfl rfl rfl (by decide +kernel)) (pmi_list (pm_var 0)) (blkOk_by (own := [("hold", 4)]) (N := N_with_hold) (sc := defScope (top 17)) (by decide +kernel)) (fun _ _ _ _ _ => (pg_name (i := 4) sc_with_hold.nd rfl (.inl rfl))) (fun _ _ _ _ _ => (ptsm_one (PW.pt (pmw_and (pm_cmpT (opM_ne (hu64 hr)) (pm_ix rfl (pm_var 4) pm_int (fun _ _ => rfl)) (pm_var 1) (nomark _)) (pmw_and1 (pm_notT (PW.pt (pmw_and (pm_cmpT (opM_eq (hu64 hr)) (pm_ix rfl (pm_var 4) pm_int (fun _ _ => rfl)) pm_str (nomark _)) (pmw_and1 (pm_cmpT opM_le (pm_ix rfl (pm_var 4) pm_int (fun _ _ => rfl)) (pm_var 1) (nomark _))))))))))) (fun _ _ _ _ _ => (pm_var 4)))) (psf_one (psf_ret (pm_callBF callM_sorted rfl (F.fr 20 "sorted" rfl) (by decide +kernel) (pma_cons (pm_op opM_add (pm_var 3) (pm_lst (pma_cons (pm_tup (pma_cons (pm_var 1) (pma_cons (pm_var 2) pma_nil))) pma_nil))) pma_nil)))))))
  exact ⟨fd, G, (FE.bindsN fun _ _ _ _ _ _ us hl => match us, hl with | [_, _, _], _ => rfl), FE.kp⟩
theorem got_held_with (F : Fx w K mg base) : GotFK w K mg base "held_with" 11 ["held", "number", "sign"] f_held_with ["sign", "number", "held"] := by
  obtain ⟨fd, FD⟩ := F.d.def_ 10 (d := dfn "held_with" 18) rfl
  have FE : FunD K "held_with" "held_with" (defArgs (top 18)) (defBody (top 18)) (defScope (top 18)) [] [] (He.ga K "held_with") fd := FD
  obtain ⟨fd_check_held, G_check_held, b_check_held, k_check_held⟩ := got_check_held F
  obtain ⟨fd_check_number, G_check_number, b_check_number, k_check_number⟩ := got_check_number F
  obtain ⟨fd_is_text_of_signs, G_is_text_of_signs, b_is_text_of_signs, k_is_text_of_signs⟩ := got_is_text_of_signs F
  obtain ⟨fd_with_hold, G_with_hold, b_with_hold, k_with_hold⟩ := got_with_hold F
  have G : FnOk PP w K mg base (L2.CX PP w) 11 (He.ga K "held_with") fd ["held", "number", "sign"] (SpF (Mk K) 3 (fun ds => fnF N_held_with.length m_held_with ds)) := fn_okXF (k := 10) (mb := m_held_with) FE sc_held_with (fun cdv A outer s H E hr => (psf_cons (PS.f (psm_expr (pm_call (takes_of rfl rfl rfl rfl) G_check_held (hr.mono (by decide)) rfl (F.gl 29 "check_held" rfl) k_check_held b_check_held (pma_cons (pm_var 0) pma_nil)))) (psf_cons (PS.f (psm_expr (pm_call (takes_of rfl rfl rfl rfl) G_check_number (hr.mono (by decide)) rfl (F.gl 30 "check_number" rfl) k_check_number b_check_number (pma_cons (pm_var 1) pma_nil)))) (psf_cons (psf_if (PW.pt (pmw_or (pm_notT (pm_val (pm_call (takes_of rfl rfl rfl rfl) G_is_text_of_signs (hr.mono (by decide)) rfl (F.gl 26 "is_text_of_signs" rfl) k_is_text_of_signs b_is_text_of_signs (pma_cons (pm_var 2) pma_nil)))) (pmw_or1 (pm_cmpT opM_gt (pm_callB (callM_len rfl) rfl (F.fr 15 "len" rfl) (by decide +kernel) (pma_cons (pm_var 2) pma_nil)) pm_int (nomark _))))) (psf_one (PS.f (psm_raise (k := 2) rfl rfl (F.err_InvalidText) hr (takes_of rfl rfl rfl rfl) (pma_cons (pm_var 2) pma_nil) rfl))) psf_nil) (psf_one (psf_ret (pm_callF (takes_of rfl rfl rfl rfl) G_with_hold (hr.mono (by decide)) rfl (F.gl 34 "with_hold" rfl) k_with_hold b_with_hold (pma_cons (pm_var 0) (pma_cons (pm_var 1) (pma_cons (pm_var 2) pma_nil))))))))))
  exact ⟨fd, G, (FE.bindsN fun _ _ _ _ _ _ us hl => match us, hl with | [_, _, _], _ => rfl), FE.kp, kbr_of (ks := ["sign", "number", "held"]) FE fun _ _ _ _ _ _ ws hl => match ws, hl with | [_, _, _], _ => rfl⟩
theorem got_held_without (F : Fx w K mg base) : GotFK w K mg base "held_without" 11 ["held", "number"] f_held_without ["number", "held"] := by
  obtain ⟨fd, FD⟩ := F.d.def_ 11 (d := dfn "held_without" 19) rfl
  have FE : FunD K "held_without" "held_without" (defArgs (top 19)) (defBody (top 19)) (defScope (top 19)) [] [] (He.ga K "held_without") fd := FD
  obtain ⟨fd_check_held, G_check_held, b_check_held, k_check_held⟩ := got_check_held F
  obtain ⟨fd_check_number, G_check_number, b_check_number, k_check_number⟩ := got_check_number F
  have G : FnOk PP w K mg base (L2.CX PP w) 11 (He.ga K "held_without") fd ["held", "number"] (SpF (Mk K) 2 (fun ds => fnF N_held_without.length m_held_without ds)) := fn_okXF (k := 10) (mb := m_held_without) FE sc_held_without (fun cdv A outer s H E hr => (psf_cons (PS.f (psm_expr (pm_call (takes_of rfl rfl rfl rfl) G_check_held (hr.mono (by decide)) rfl (F.gl 29 "check_held" rfl) k_check_held b_check_held (pma_cons (pm_var 0) pma_nil)))) (psf_cons (PS.f (psm_expr (pm_call (takes_of rfl rfl rfl rfl) G_check_number (hr.mono (by decide)) rfl (F.gl 30 "check_number" rfl) k_check_number b_check_number (pma_cons (pm_var 1) pma_nil)))) (psf_one (psf_ret (pm_lcF (own := [("hold", 2)]) (tg_name 2) (by decide) rfl sc_held_without.nd (pmi_list (pm_var 0)) (blkOk_by (own := [("hold", 2)]) (N := N_held_without) (sc := defScope (top 19)) (by decide +kernel)) (fun _ _ _ _ _ => (pg_name (i := 2) sc_held_without.nd rfl (.inl rfl))) (fun _ _ _ _ _ => (ptsm_one (pm_cmpT (opM_ne (hu64 hr)) (pm_ix rfl (pm_var 2) pm_int (fun _ _ => rfl)) (pm_var 1) (nomark _)))) (fun _ _ _ _ _ => (pm_var 2))))))))
  exact ⟨fd, G, (FE.bindsN fun _ _ _ _ _ _ us hl => match us, hl with | [_, _], _ => rfl), FE.kp, kbr_of (ks := ["number", "held"]) FE fun _ _ _ _ _ _ ws hl => match ws, hl with | [_, _], _ => rfl⟩
theorem got_law_hash (F : Fx w K mg base) : Got w K mg base "_law_hash" 1 ["seed", "index"] f_law_hash := by
  obtain ⟨fd, FD⟩ := F.d.def_ 12 (d := dfn "_law_hash" 21) rfl
  have FE : FunD K "_law_hash" "_law_hash" (defArgs (top 21)) (defBody (top 21)) (defScope (top 21)) [] [] (He.ga K "_law_hash") fd := FD
  have G : FnOk PP w K mg base (L2.CX PP w) 1 (He.ga K "_law_hash") fd ["seed", "index"] (SpM (Mk K) 2 (fun ds => noEr (fnM N_law_hash.length m_law_hash ds))) := fn_ok0 (k := 0) (mb := m_law_hash) FE sc_law_hash (fun cdv A outer s H E hr => (psm_cons (psm_set (i := 2) sc_law_hash.nd rfl (by first | exact .inl rfl | exact .inr rfl) (pm_op opM_mod (pm_callTy callM_int rfl (F.fr 7 "int" rfl) (by decide +kernel) (pma_cons (pm_op opM_add (pm_op opM_add (pm_op opM_add (pm_op opM_mul (pm_var 0) pm_int) (pm_op opM_mul (pm_op opM_mul pm_int (pm_var 1)) (pm_var 1))) (pm_op opM_mul pm_int (pm_var 1))) pm_int) pma_nil)) pm_int)) (psm_cons (psm_set (i := 2) sc_law_hash.nd rfl (by first | exact .inl rfl | exact .inr rfl) (pm_op opM_mod (pm_callTy callM_int rfl (F.fr 7 "int" rfl) (by decide +kernel) (pma_cons (pm_op opM_add (pm_op opM_add (pm_op opM_mul (pm_var 2) (pm_var 2)) (pm_op opM_mul pm_int (pm_var 1))) pm_int) pma_nil)) pm_int)) (psm_one (psm_ret (pm_op opM_mod (pm_callTy callM_int rfl (F.fr 7 "int" rfl) (by decide +kernel) (pma_cons (pm_op opM_mul (pm_var 2) pm_int) pma_nil)) pm_int))))))
  exact ⟨fd, G, (FE.bindsN fun _ _ _ _ _ _ us hl => match us, hl with | [_, _], _ => rfl), FE.kp⟩
theorem got_law_random (F : Fx w K mg base) : Got w K mg base "_law_random" 2 ["generator", "bound"] f_law_random := by
  obtain ⟨fd, FD⟩ := F.d.def_ 13 (d := dfn "_law_random" 22) rfl
  have FE : FunD K "_law_random" "_law_random" (defArgs (top 22)) (defBody (top 22)) (defScope (top 22)) [] [] (He.ga K "_law_random") fd := FD
  obtain ⟨fd_law_hash, G_law_hash, b_law_hash, k_law_hash⟩ := got_law_hash F
  have G : FnOk PP w K mg base (L2.CX PP w) 2 (He.ga K "_law_random") fd ["generator", "bound"] (SpM (Mk K) 2 (fun ds => noEr (fnM N_law_random.length m_law_random ds))) := fn_ok0 (k := 1) (mb := m_law_random) FE sc_law_random (fun cdv A outer s H E hr => (psm_cons (psm_if (pm_cmpT opM_gt (pm_gi 0 0 (by decide)) pm_int (nomark _)) (psm_cons (psm_set (i := 2) sc_law_random.nd rfl (by first | exact .inl rfl | exact .inr rfl) (pm_op opM_mod (pm_callTy callM_int rfl (F.fr 7 "int" rfl) (by decide +kernel) (pma_cons (pm_gi 0 0 (by decide)) pma_nil)) (pm_var 1))) (psm_cons (psm_sg 0 0 (by decide) (pm_op opM_div (pm_gi 0 0 (by decide)) (pm_var 1))) (psm_one (psm_ret (pm_var 2))))) psm_nil) (psm_cons (psm_set (i := 2) sc_law_random.nd rfl (by first | exact .inl rfl | exact .inr rfl) pm_int) (psm_cons (psm_for (tg_name 3) PassesOwn.never rfl (pmi_range rfl (F.fr 16 "range" rfl) (pma_cons (pm_op opM_add pm_int (pm_op opM_div (pm_bits (pm_var 1)) pm_int)) pma_nil)) (pg_name (i := 3) sc_law_random.nd rfl (.inl rfl)) (psm_cons (psm_sg 0 2 (by decide) (pm_op opM_add (pm_gi 0 2 (by decide)) pm_int)) (psm_one (psm_set (i := 2) sc_law_random.nd rfl (by first | exact .inl rfl | exact .inr rfl) (pm_op opM_add (pm_op opM_mul (pm_var 2) pm_int) (pm_call takes0 G_law_hash (hr.mono (by decide)) rfl (F.gl 37 "_law_hash" rfl) k_law_hash b_law_hash (pma_cons (pm_gi 0 1 (by decide)) (pma_cons (pm_gi 0 2 (by decide)) pma_nil)))))))) (psm_one (psm_ret (pm_op opM_mod (pm_callTy callM_int rfl (F.fr 7 "int" rfl) (by decide +kernel) (pma_cons (pm_var 2) pma_nil)) (pm_var 1))))))))
  exact ⟨fd, G, (FE.bindsN fun _ _ _ _ _ _ us hl => match us, hl with | [_, _], _ => rfl), FE.kp⟩
theorem got_law_cell (F : Fx w K mg base) : Got w K mg base "_law_cell" 1 ["script", "index"] f_law_cell := by
  obtain ⟨fd, FD⟩ := F.d.def_ 14 (d := dfn "_law_cell" 23) rfl
  have FE : FunD K "_law_cell" "_law_cell" (defArgs (top 23)) (defBody (top 23)) (defScope (top 23)) [] [] (He.ga K "_law_cell") fd := FD
  have G : FnOk PP w K mg base (L2.CX PP w) 1 (He.ga K "_law_cell") fd ["script", "index"] (SpM (Mk K) 2 (fun ds => noEr (fnM N_law_cell.length m_law_cell ds))) := fn_ok0 (k := 0) (mb := m_law_cell) FE sc_law_cell (fun cdv A outer s H E hr => (psm_cons (psm_if (pm_cmpT opM_lt (pm_var 1) (pm_callB (callM_len rfl) rfl (F.fr 15 "len" rfl) (by decide +kernel) (pma_cons (pm_var 0) pma_nil)) (nomark _)) (psm_one (psm_ret (pm_ix rfl (pm_var 0) (pm_var 1) (fun _ _ => rfl)))) psm_nil) (psm_one (psm_ret (pm_op opM_mod (pm_callB (callM_sum rfl) rfl (F.fr 17 "sum" rfl) (by decide +kernel) (pma_cons (pm_sl rfl (pm_var 0) pmo_none (pmo_some pm_int)) pma_nil)) pm_int)))))
  exact ⟨fd, G, (FE.bindsN fun _ _ _ _ _ _ us hl => match us, hl with | [_, _], _ => rfl), FE.kp⟩
theorem got_law_generator (F : Fx w K mg base) : GotF w K mg base "_law_generator" 2 ["script", "index"] f_law_generator := by
  obtain ⟨fd, FD⟩ := F.d.def_ 15 (d := dfn "_law_generator" 24) rfl
  have FE : FunD K "_law_generator" "_law_generator" (defArgs (top 24)) (defBody (top 24)) (defScope (top 24)) [] [] (He.ga K "_law_generator") fd := FD
  obtain ⟨fd_law_cell, G_law_cell, b_law_cell, k_law_cell⟩ := got_law_cell F
  have G : FnOk PP w K mg base (L2.CX PP w) 2 (He.ga K "_law_generator") fd ["script", "index"] (SpF (Mk K) 2 (fun ds => noEr (fnF N_law_generator.length m_law_generator ds))) := fn_ok0F (k := 1) (mb := m_law_generator) FE sc_law_generator (fun cdv A outer s H E hr => (psf_cons (PS.f (psm_set (i := 2) sc_law_generator.nd rfl (by first | exact .inl rfl | exact .inr rfl) (pm_call takes0 G_law_cell (hr.mono (by decide)) rfl (F.gl 39 "_law_cell" rfl) k_law_cell b_law_cell (pma_cons (pm_var 0) (pma_cons (pm_var 1) pma_nil))))) (psf_one (psf_ret (pm_lstF (pma_cons (pm_op opM_mod (pm_callTy callM_int rfl (F.fr 7 "int" rfl) (by decide +kernel) (pma_cons (pm_callB (callM_max2 rfl) rfl (F.fr 18 "max" rfl) (by decide +kernel) (pma_cons (pm_op opM_sub (pm_var 2) (pm_op opM_pow pm_int pm_int)) (pma_cons pm_int pma_nil))) pma_nil)) (pm_op opM_pow (pm_op opM_pow pm_int pm_int) pm_int)) (pma_cons (pm_op opM_mod (pm_callTy callM_int rfl (F.fr 7 "int" rfl) (by decide +kernel) (pma_cons (pm_var 2) pma_nil)) pm_int) (pma_cons (pm_op opM_mul pm_int (pm_var 1)) pma_nil))))))))
  exact ⟨fd, G, (FE.bindsN fun _ _ _ _ _ _ us hl => match us, hl with | [_, _], _ => rfl), FE.kp⟩
theorem got_law_same (F : Fx w K mg base) (n : Nat) : Got w K mg base "_law_same" n ["told", "due"] (f_law_same n) := by
  obtain ⟨fd, FD⟩ := F.d.def_ 16 (d := dfn "_law_same" 25) rfl
  have FE : FunD K "_law_same" "_law_same" (defArgs (top 25)) (defBody (top 25)) (defScope (top 25)) [] [] (He.ga K "_law_same") fd := FD
  have b_law_same : Binds K fd ["told", "due"] [] := (FE.bindsN fun _ _ _ _ _ _ us hl => match us, hl with | [_, _], _ => rfl)
  have k_law_same := FE.kp
  refine ⟨fd, ?_, b_law_same, k_law_same⟩
  induction n with
  | zero => exact fn_none
  | succ n G_law_same =>
    have G : FnOk PP w K mg base (L2.CX PP w) (n + 1) (He.ga K "_law_same") fd ["told", "due"] (SpM (Mk K) 2 (fun ds => noEr (fnM N_law_same.length (mb_law_same (f_law_same n)) ds))) := fn_ok0 (k := n) (mb := mb_law_same (f_law_same n)) FE sc_law_same (fun cdv A outer s H E hr => (psm_cons (psm_if (pm_val (pm_isi2 rfl (F.fr 6 "isinstance" rfl) rfl (F.fr 10 "list" rfl) rfl (F.fr 11 "tuple" rfl) (pm_var 1))) (psm_cons (psm_set (i := 2) sc_law_same.nd rfl (by first | exact .inl rfl | exact .inr rfl) (pm_and (pm_cmp (opM_eq (hu64 hr)) (pm_isi (T := "list") rfl (F.fr 6 "isinstance" rfl) rfl (F.fr 10 "list" rfl) (by decide +kernel) (pm_var 0)) (pm_isi (T := "list") rfl (F.fr 6 "isinstance" rfl) rfl (F.fr 10 "list" rfl) (by decide +kernel) (pm_var 1)) (nomark _)) (pm_one (pm_cmp (opM_eq (hu64 hr)) (pm_isi (T := "tuple") rfl (F.fr 6 "isinstance" rfl) rfl (F.fr 11 "tuple" rfl) (by decide +kernel) (pm_var 0)) (pm_isi (T := "tuple") rfl (F.fr 6 "isinstance" rfl) rfl (F.fr 11 "tuple" rfl) (by decide +kernel) (pm_var 1)) (nomark _))))) (psm_one (psm_ret (pm_and (pm_var 2) (pm_and (pm_cmp (opM_eq (hu64 hr)) (pm_callB (callM_len rfl) rfl (F.fr 15 "len" rfl) (by decide +kernel) (pma_cons (pm_var 0) pma_nil)) (pm_callB (callM_len rfl) rfl (F.fr 15 "len" rfl) (by decide +kernel) (pma_cons (pm_var 1) pma_nil)) (nomark _)) (pm_one (pm_callB (callM_all rfl) rfl (F.fr 13 "all" rfl) (by decide +kernel) (pma_cons (PE.m (pm_lcF (own := [("one", 3), ("other", 4)]) (tg_pair 3 4) (by decide) rfl sc_law_same.nd (pmi_zip rfl (F.fr 22 "zip" rfl) (pma_cons (pm_var 0) (pma_cons (pm_var 1) pma_nil))) (blkOk_by (own := [("one", 3), ("other", 4)]) (N := N_law_same) (sc := defScope (top 25)) (by decide +kernel)) (fun _ _ _ _ _ => (pg_tup rfl (pgs_cons (pg_name (i := 3) sc_law_same.nd rfl (.inl rfl)) (pgs_cons (pg_name (i := 4) sc_law_same.nd rfl (.inl rfl)) pgs_nil)))) (fun _ _ _ _ _ => ptsm_nil) (fun _ _ _ _ _ => (pm_call takes0 G_law_same hr rfl (F.gl 41 "_law_same" rfl) k_law_same b_law_same (pma_cons (pm_var 3) (pma_cons (pm_var 4) pma_nil)))))) pma_nil)))))))) psm_nil) (psm_cons (psm_if (PW.pt (pmw_or (pm_val (pm_isi2 rfl (F.fr 6 "isinstance" rfl) rfl (F.fr 10 "list" rfl) rfl (F.fr 11 "tuple" rfl) (pm_var 0))) (pmw_or1 (pm_cmpT (opM_ne (hu64 hr)) (pm_cmp opM_is (pm_var 0) pm_non (nomark _)) (pm_cmp opM_is (pm_var 1) pm_non (nomark _)) (nomark _))))) (psm_one (psm_ret pm_bl)) psm_nil) (psm_cons (psm_set (i := 2) sc_law_same.nd rfl (by first | exact .inl rfl | exact .inr rfl) (pm_and (pm_cmp (opM_eq (hu64 hr)) (pm_isi (T := "bool") rfl (F.fr 6 "isinstance" rfl) rfl (F.fr 8 "bool" rfl) (by decide +kernel) (pm_var 0)) (pm_isi (T := "bool") rfl (F.fr 6 "isinstance" rfl) rfl (F.fr 8 "bool" rfl) (by decide +kernel) (pm_var 1)) (nomark _)) (pm_one (pm_cmp (opM_eq (hu64 hr)) (pm_isi (T := "int") rfl (F.fr 6 "isinstance" rfl) rfl (F.fr 7 "int" rfl) (by decide +kernel) (pm_var 0)) (pm_isi (T := "int") rfl (F.fr 6 "isinstance" rfl) rfl (F.fr 7 "int" rfl) (by decide +kernel) (pm_var 1)) (nomark _))))) (psm_one (psm_ret (pm_and (pm_var 2) (pm_and (pm_cmp (opM_eq (hu64 hr)) (pm_isi (T := "str") rfl (F.fr 6 "isinstance" rfl) rfl (F.fr 9 "str" rfl) (by decide +kernel) (pm_var 0)) (pm_isi (T := "str") rfl (F.fr 6 "isinstance" rfl) rfl (F.fr 9 "str" rfl) (by decide +kernel) (pm_var 1)) (nomark _)) (pm_one (pm_cmp (opM_eq (hu64 hr)) (pm_var 0) (pm_var 1) (nomark _)))))))))))
    exact G
theorem got_law_sign (F : Fx w K mg base) : Got w K mg base "_law_sign" 3 ["generator"] f_law_sign := by
  obtain ⟨fd, FD⟩ := F.d.def_ 17 (d := dfn "_law_sign" 26) rfl
  have FE : FunD K "_law_sign" "_law_sign" (defArgs (top 26)) (defBody (top 26)) (defScope (top 26)) [] [] (He.ga K "_law_sign") fd := FD
  obtain ⟨fd_law_random, G_law_random, b_law_random, k_law_random⟩ := got_law_random F
  have G : FnOk PP w K mg base (L2.CX PP w) 3 (He.ga K "_law_sign") fd ["generator"] (SpM (Mk K) 1 (fun ds => noEr (fnM N_law_sign.length m_law_sign ds))) := fn_ok0 (k := 2) (mb := m_law_sign) FE sc_law_sign (fun cdv A outer s H E hr => (psm_cons (psm_if (pm_cmpT opM_gt (pm_call takes0 G_law_random (hr.mono (by decide)) rfl (F.gl 38 "_law_random" rfl) k_law_random b_law_random (pma_cons (pm_var 0) (pma_cons pm_int pma_nil))) pm_int (nomark _)) (psm_one (psm_ret (pm_ix rfl pm_str (pm_call takes0 G_law_random (hr.mono (by decide)) rfl (F.gl 38 "_law_random" rfl) k_law_random b_law_random (pma_cons (pm_var 0) (pma_cons pm_int pma_nil))) (fun _ _ => rfl)))) psm_nil) (psm_one (psm_ret (pm_ix rfl pm_str (pm_call takes0 G_law_random (hr.mono (by decide)) rfl (F.gl 38 "_law_random" rfl) k_law_random b_law_random (pma_cons (pm_var 0) (pma_cons pm_int pma_nil))) (fun _ _ => rfl))))))
  exact ⟨fd, G, (FE.bindsN fun _ _ _ _ _ _ us hl => match us, hl with | [_], _ => rfl), FE.kp⟩
end
end K84

set_option Elab.async false
set_option linter.all false
set_option maxRecDepth 100000
set_option maxHeartbeats 2000000
namespace K84
open PySem PySem.Spec PyProof.Rows L2 GxR GenW Ink
def N_law_drawn : List Str := ["generator", "turn", "held", "number"]
theorem sc_law_drawn : FnScope N_law_drawn ["generator"] (defScope (top 27)) := ⟨rfl, rfl, rfl, by decide +kernel, rfl, by decide +kernel, by decide +kernel⟩
def m_law_drawn : MS := (mOwn 2 3 (mOp subD (mC (.int 0)) (mC (.int 1))) (mSeq (mFor (mItA rngD (mCons (mCall 2 f_law_random (mCons (mVar 0) (mCons (mC (.int 7)) mNil))) mNil)) (tgN 1) (mSeq (mSet 3 (mOp addD (mOp addD (mVar 3) (mC (.int 1))) (mCall 2 f_law_random (mCons (mVar 0) (mCons (mOp ixD (mLst (mCons (mC (.int 1)) (mCons (mC (.int 2)) (mCons (mC (.int 20)) mNil)))) (mCall 2 f_law_random (mCons (mVar 0) (mCons (mC (.int 3)) mNil)))) mNil))))) (mIf (mB (mOp ltD (mVar 3) (mC (.int 61)))) (mDrop (mApp 2 (mTup (mCons (mVar 3) (mCons (mCall 1 f_law_sign (mCons (mVar 0) mNil)) mNil))))) mSkip))) (mSeq (mIf (mAnd (mB (mOp ltD (mVar 3) (mC (.int 60)))) (mB (mOp eqD (mCall 2 f_law_random (mCons (mVar 0) (mCons (mC (.int 3)) mNil))) (mC (.int 0))))) (mDrop (mApp 2 (mTup (mCons (mOp addD (mOp addD (mVar 3) (mC (.int 1))) (mCall 2 f_law_random (mCons (mVar 0) (mCons (mOp subD (mC (.int 60)) (mVar 3)) mNil)))) (mCons (mC (.str "")) mNil))))) mSkip) (mRet (mVar 2)))))
def f_law_drawn (ds : List D) : Mo D := noEr (fnM 4 m_law_drawn ds)
def N_law_is : List Str := ["value", "last", "at", "hold", "number", "sign"]
theorem sc_law_is : FnScope N_law_is ["value"] (defScope (top 28)) := ⟨rfl, rfl, rfl, by decide +kernel, rfl, by decide +kernel, by decide +kernel⟩
def m_law_is : MS := (mSeq (mSet 1 (mOp subD (mC (.int 0)) (mC (.int 1)))) (mSeq (mIf (mNot (mB (mUn (isD1 "list") (mVar 0)))) (mRet (mC (.bl false))) mSkip) (mSeq (mFor (mItA enumD (mCons (mVar 0) mNil)) (tgP 2 3) (mSeq (mIf (mOr (mNot (mB (mUn (isD1 "tuple") (mVar 3)))) (mB (mOp neD (mBt lenD (mCons (mVar 3) mNil)) (mC (.int 2))))) (mRet (mC (.bl false))) mSkip) (mSeq (mAsg (tgP 4 5) (mVar 3)) (mSeq (mIf (mOr (mNot (mB (mUn (isD1 "int") (mVar 4)))) (mOr (mB (mUn (isD1 "bool") (mVar 4))) (mOr (mNot (mB (mChain ltD ltD (mVar 1) (mVar 4) (mC (.int 61))))) (mNot (mB (mUn (isD1 "str") (mVar 5))))))) (mRet (mC (.bl false))) mSkip) (mSeq (mIf (mOr (mB (mOp gtD (mBt lenD (mCons (mVar 5) mNil)) (mC (.int 1)))) (mOr (mAnd (mB (mOp neD (mVar 5) (mC (.str "")))) (mB (mOp notInD (mVar 5) (mC (.str " 0123456789abcdefghijklmnopqrstuvwxyz"))))) (mAnd (mB (mOp eqD (mVar 5) (mC (.str "")))) (mB (mOp ltD (mOp addD (mVar 2) (mC (.int 1))) (mBt lenD (mCons (mVar 0) mNil))))))) (mRet (mC (.bl false))) mSkip) (mSet 1 (mVar 4))))))) (mRet (mC (.bl true))))))
def f_law_is (ds : List D) : Mo D := noEr (fnM 6 m_law_is ds)
def N_law_keeps : List Str := ["held", "text", "number", "sign"]
theorem sc_law_keeps : FnScope N_law_keeps ["held", "text"] (defScope (top 29)) := ⟨rfl, rfl, rfl, by decide +kernel, rfl, by decide +kernel, by decide +kernel⟩
def m_law_keeps : MS := (mRet (mOp eqD (mLc (mIt itsD (mVar 0)) (tgP 2 3) [2, 3] (mB (mOp neD (mSl (mVar 1) (mPt (mVar 2)) (mPt (mOp addD (mVar 2) (mC (.int 1))))) (mVar 3))) (mC (.int 1))) (mLst mNil)))
def f_law_keeps (ds : List D) : Mo D := noEr (fnM 4 m_law_keeps ds)
def N_law_with : List Str := ["held", "number", "sign", "found", "hold", "stands", "other", "told"]
theorem sc_law_with : FnScope N_law_with ["held", "number", "sign"] (defScope (top 30)) := ⟨rfl, rfl, rfl, by decide +kernel, rfl, by decide +kernel, by decide +kernel⟩
def m_law_with : MS := (mSeq (mSet 3 (mLst mNil)) (mSeq (mIf (mAnd (mB (mOp eqD (mVar 2) (mC (.str "")))) (mB (mOp neD (mLc (mIt itsD (mVar 0)) (tgP 6 7) [6, 7] (mAnd (mB (mOp eqD (mVar 7) (mC (.str "")))) (mB (mOp ltD (mVar 6) (mVar 1)))) (mC (.int 1))) (mLst mNil)))) (mRet (mBt listD (mCons (mVar 0) mNil))) mSkip) (mSeq (mFor (mIt itsD (mVar 0)) (tgN 4) (mSeq (mSet 5 (mAndV (mOp neD (mOp ixD (mVar 4) (mC (.int 0))) (mVar 1)) (mOrV (mOp neD (mOp ixD (mVar 4) (mC (.int 1))) (mC (.str ""))) (mOp gtD (mOp ixD (mVar 4) (mC (.int 0))) (mVar 1))))) (mSeq (mIf (mB (mOp eqD (mVar 2) (mC (.str "")))) (mSet 5 (mAndV (mOp ltD (mOp ixD (mVar 4) (mC (.int 0))) (mVar 1)) (mOp neD (mOp ixD (mVar 4) (mC (.int 1))) (mC (.str ""))))) mSkip) (mSet 3 (mOp addD (mVar 3) (mOp mulD (mLst (mCons (mVar 4) mNil)) (mBt intD (mCons (mVar 5) mNil)))))))) (mRet (mBt sortD (mCons (mOp addD (mVar 3) (mLst (mCons (mTup (mCons (mVar 1) (mCons (mVar 2) mNil))) mNil))) mNil))))))
def f_law_with (ds : List D) : Mo D := noEr (fnM 8 m_law_with ds)
def N_law_text : List Str := ["generator", "held", "size", "number", "told", "text", "sign"]
theorem sc_law_text : FnScope N_law_text ["generator", "held"] (defScope (top 31)) := ⟨rfl, rfl, rfl, by decide +kernel, rfl, by decide +kernel, by decide +kernel⟩
def m_law_text : MS := (mSeq (mPar 4 5 (mCons (mBt dictD (mCons (mVar 1) mNil)) (mCons (mC (.str "")) mNil))) (mSeq (mSet 2 (mOp ixD (mLst (mCons (mCall 2 f_law_random (mCons (mVar 0) (mCons (mC (.int 5)) mNil))) (mCons (mCall 2 f_law_random (mCons (mVar 0) (mCons (mC (.int 61)) mNil))) (mCons (mBt minD (mCons (mOp addD (mLc (mIt itsD (mVar 1)) (tgP 3 6) [3, 6] (mB (mOp eqD (mVar 6) (mC (.str "")))) (mVar 3)) (mLst (mCons (mC (.int 60)) mNil))) mNil)) mNil)))) (mCall 2 f_law_random (mCons (mVar 0) (mCons (mC (.int 3)) mNil))))) (mSeq (mFor (mItA rngD (mCons (mVar 2) mNil)) (tgN 3) (mSeq (mSet 6 (mGet (mVar 4) (mVar 3) (mC (.str "")))) (mSet 5 (mOp addD (mVar 5) (mIfE (mAnd (mB (mOp neD (mVar 6) (mC (.str "")))) (mB (mOp gtD (mCall 2 f_law_random (mCons (mVar 0) (mCons (mC (.int 30)) mNil))) (mC (.int 0))))) (mVar 6) (mCall 1 f_law_sign (mCons (mVar 0) mNil))))))) (mRet (mVar 5)))))
def f_law_text (ds : List D) : Mo D := noEr (fnM 7 m_law_text ds)
def N_law_bent : List Str := ["generator", "held", "at", "odd", "found"]
theorem sc_law_bent : FnScope N_law_bent ["generator", "held"] (defScope (top 32)) := ⟨rfl, rfl, rfl, by decide +kernel, rfl, by decide +kernel, by decide +kernel⟩
def m_law_bent : MS := (mSeq (mSet 2 (mCall 2 f_law_random (mCons (mVar 0) (mCons (mOp addD (mBt lenD (mCons (mVar 1) mNil)) (mC (.int 1))) mNil)))) (mSeq (mSet 3 (mLst (mCons (mTup (mCons (mC (.int 61)) (mCons (mC (.str "a")) mNil))) (mCons (mTup (mCons (mOp subD (mC (.int 0)) (mC (.int 1))) (mCons (mC (.str "a")) mNil))) (mCons (mTup (mCons (mC (.bl true)) (mCons (mC (.str "a")) mNil))) (mCons (mTup (mCons (mC (.str "0")) (mCons (mC (.str "a")) mNil))) (mCons (mTup (mCons (mC (.int 0)) (mCons (mC (.str "ab")) mNil))) (mCons (mTup (mCons (mC (.int 0)) (mCons (mC (.str "A")) mNil))) (mCons (mTup (mCons (mC (.int 0)) (mCons (mC .non) mNil))) (mCons (mLst (mCons (mC (.int 0)) (mCons (mC (.str "a")) mNil))) (mCons (mTup (mCons (mC (.int 0)) (mCons (mC (.str "a")) (mCons (mC (.int 0)) mNil)))) (mCons (mTup (mCons (mC (.int 0)) mNil)) (mCons (mC .non) (mCons (mTup (mCons (mC (.int 0)) (mCons (mC (.str "-")) mNil))) (mCons (mTup (mCons (mC .non) (mCons (mC (.str "a")) mNil))) mNil))))))))))))))) (mSeq (mSet 4 (mLst (mCons (mOp addD (mOp addD (mSl (mVar 1) mNoP (mPt (mVar 2))) (mLst (mCons (mOp ixD (mVar 3) (mCall 2 f_law_random (mCons (mVar 0) (mCons (mC (.int 13)) mNil)))) mNil))) (mSl (mVar 1) (mPt (mVar 2)) mNoP)) (mCons (mUn revD (mVar 1)) (mCons (mBt tupleD (mCons (mVar 1) mNil)) (mCons (mOp addD (mVar 1) (mSl (mVar 1) (mPt (mUn negD (mC (.int 1)))) mNoP)) (mCons (mOp addD (mOp addD (mSl (mVar 1) mNoP (mPt (mVar 2))) (mLst (mCons (mTup (mCons (mC (.int 5)) (mCons (mC (.str "")) mNil))) mNil))) (mSl (mVar 1) (mPt (mVar 2)) mNoP)) mNil))))))) (mRet (mOp addD (mVar 4) (mLst (mCons (mC .non) (mCons mDic0 (mCons (mC (.str "")) (mCons (mC (.int 7)) (mCons (mLst (mCons (mVar 1) mNil)) (mCons (mLst (mCons (mTup (mCons (mC (.int 0)) (mCons (mC (.str "")) mNil))) (mCons (mTup (mCons (mC (.int 1)) (mCons (mC (.str "")) mNil))) mNil))) (mCons (mLst (mCons (mTup (mCons (mC (.int 1)) (mCons (mC (.str "")) mNil))) (mCons (mTup (mCons (mC (.int 0)) (mCons (mC (.str "a")) mNil))) mNil))) (mCons (mOp addD (mVar 1) (mLst (mCons (mTup (mCons (mC (.int 60)) (mCons (mC (.str "z")) mNil))) mNil))) (mCons (mOp addD (mSl (mVar 1) (mPt (mVar 2)) mNoP) (mSl (mVar 1) mNoP (mPt (mVar 2)))) mNil)))))))))))))))
def f_law_bent (ds : List D) : Mo D := noEr (fnM 5 m_law_bent ds)
section
variable {w : World} {K : PySem.W.Frag} {mg : Str → Option Value} {base : Heap}
theorem got_law_drawn (F : Fx w K mg base) : Got w K mg base "_law_drawn" 4 ["generator"] f_law_drawn := by
  obtain ⟨fd, FD⟩ := F.d.def_ 18 (d := dfn "_law_drawn" 27) rfl
  have FE : FunD K "_law_drawn" "_law_drawn" (defArgs (top 27)) (defBody (top 27)) (defScope (top 27)) [] [] (He.ga K "_law_drawn") fd := FD
  obtain ⟨fd_law_random, G_law_random, b_law_random, k_law_random⟩ := got_law_random F
  obtain ⟨fd_law_sign, G_law_sign, b_law_sign, k_law_sign⟩ := got_law_sign F
  have G : FnOk PP w K mg base (L2.CX PP w) 4 (He.ga K "_law_drawn") fd ["generator"] (SpM (Mk K) 1 (fun ds => noEr (fnM N_law_drawn.length m_law_drawn ds))) := fn_ok0 (k := 3) (mb := m_law_drawn) FE sc_law_drawn (fun cdv A outer s H E hr => (psm_own rfl sc_law_drawn.nd rfl rfl (by decide) rfl rfl (pm_op opM_sub pm_int pm_int) (psm_cons (psm_for (tg_name 1) PassesOwn.never rfl (pmi_range rfl (F.fr 16 "range" rfl) (pma_cons (pm_call takes0 G_law_random (hr.mono (by decide)) rfl (F.gl 38 "_law_random" rfl) k_law_random b_law_random (pma_cons (pm_var 0) (pma_cons pm_int pma_nil))) pma_nil)) (pg_name (i := 1) sc_law_drawn.nd rfl (.inl rfl)) (psm_cons (psm_set (i := 3) sc_law_drawn.nd rfl (by first | exact .inl rfl | exact .inr rfl) (pm_op opM_add (pm_op opM_add (pm_var 3) pm_int) (pm_call takes0 G_law_random (hr.mono (by decide)) rfl (F.gl 38 "_law_random" rfl) k_law_random b_law_random (pma_cons (pm_var 0) (pma_cons (pm_ix rfl (pm_lst (pma_cons pm_int (pma_cons pm_int (pma_cons pm_int pma_nil)))) (pm_call takes0 G_law_random (hr.mono (by decide)) rfl (F.gl 38 "_law_random" rfl) k_law_random b_law_random (pma_cons (pm_var 0) (pma_cons pm_int pma_nil))) (fun _ _ => rfl)) pma_nil))))) (psm_one (psm_if (pm_cmpT opM_lt (pm_var 3) pm_int (nomark _)) (psm_one (psm_expr (pm_app 2 (pm_tup (pma_cons (pm_var 3) (pma_cons (pm_call takes0 G_law_sign (hr.mono (by decide)) rfl (F.gl 42 "_law_sign" rfl) k_law_sign b_law_sign (pma_cons (pm_var 0) pma_nil)) pma_nil)))))) psm_nil)))) (psm_cons (psm_if (PW.pt (pmw_and (pm_cmpT opM_lt (pm_var 3) pm_int (nomark _)) (pmw_and1 (pm_cmpT (opM_eq (hu64 hr)) (pm_call takes0 G_law_random (hr.mono (by decide)) rfl (F.gl 38 "_law_random" rfl) k_law_random b_law_random (pma_cons (pm_var 0) (pma_cons pm_int pma_nil))) pm_int (nomark _))))) (psm_one (psm_expr (pm_app 2 (pm_tup (pma_cons (pm_op opM_add (pm_op opM_add (pm_var 3) pm_int) (pm_call takes0 G_law_random (hr.mono (by decide)) rfl (F.gl 38 "_law_random" rfl) k_law_random b_law_random (pma_cons (pm_var 0) (pma_cons (pm_op opM_sub pm_int (pm_var 3)) pma_nil)))) (pma_cons pm_str pma_nil)))))) psm_nil) (psm_one (psm_ret (pm_var 2))))) (by rfl)))
  exact ⟨fd, G, (FE.bindsN fun _ _ _ _ _ _ us hl => match us, hl with | [_], _ => rfl), FE.kp⟩
theorem got_law_is (F : Fx w K mg base) : Got w K mg base "_law_is" 1 ["value"] f_law_is := by
  obtain ⟨fd, FD⟩ := F.d.def_ 19 (d := dfn "_law_is" 28) rfl
  have FE : FunD K "_law_is" "_law_is" (defArgs (top 28)) (defBody (top 28)) (defScope (top 28)) [] [] (He.ga K "_law_is") fd := FD
  have G : FnOk PP w K mg base (L2.CX PP w) 1 (He.ga K "_law_is") fd ["value"] (SpM (Mk K) 1 (fun ds => noEr (fnM N_law_is.length m_law_is ds))) := fn_ok0 (k := 0) (mb := m_law_is) FE sc_law_is (fun cdv A outer s H E hr => (psm_cons (psm_set (i := 1) sc_law_is.nd rfl (by first | exact .inl rfl | exact .inr rfl) (pm_op opM_sub pm_int pm_int)) (psm_cons (psm_if (pm_notT (pm_val (pm_isi (T := "list") rfl (F.fr 6 "isinstance" rfl) rfl (F.fr 10 "list" rfl) (by decide +kernel) (pm_var 0)))) (psm_one (psm_ret pm_bl)) psm_nil) (psm_cons (psm_for (tg_pair 2 3) PassesOwn.never rfl (pmi_enum rfl (F.fr 21 "enumerate" rfl) (pma_cons (pm_var 0) pma_nil)) (pg_tup rfl (pgs_cons (pg_name (i := 2) sc_law_is.nd rfl (.inl rfl)) (pgs_cons (pg_name (i := 3) sc_law_is.nd rfl (.inl rfl)) pgs_nil))) (psm_cons (psm_if (PW.pt (pmw_or (pm_notT (pm_val (pm_isi (T := "tuple") rfl (F.fr 6 "isinstance" rfl) rfl (F.fr 11 "tuple" rfl) (by decide +kernel) (pm_var 3)))) (pmw_or1 (pm_cmpT (opM_ne (hu64 hr)) (pm_callB (callM_len rfl) rfl (F.fr 15 "len" rfl) (by decide +kernel) (pma_cons (pm_var 3) pma_nil)) pm_int (nomark _))))) (psm_one (psm_ret pm_bl)) psm_nil) (psm_cons (psm_asg (tg_pair 4 5) (pm_var 3) (pg_tup rfl (pgs_cons (pg_name (i := 4) sc_law_is.nd rfl (.inl rfl)) (pgs_cons (pg_name (i := 5) sc_law_is.nd rfl (.inl rfl)) pgs_nil)))) (psm_cons (psm_if (PW.pt (pmw_or (pm_notT (pm_val (pm_isi (T := "int") rfl (F.fr 6 "isinstance" rfl) rfl (F.fr 7 "int" rfl) (by decide +kernel) (pm_var 4)))) (pmw_or (pm_val (pm_isi (T := "bool") rfl (F.fr 6 "isinstance" rfl) rfl (F.fr 8 "bool" rfl) (by decide +kernel) (pm_var 4))) (pmw_or (pm_notT (pm_chainT opM_lt opM_lt (pm_var 1) (pm_var 4) pm_int)) (pmw_or1 (pm_notT (pm_val (pm_isi (T := "str") rfl (F.fr 6 "isinstance" rfl) rfl (F.fr 9 "str" rfl) (by decide +kernel) (pm_var 5))))))))) (psm_one (psm_ret pm_bl)) psm_nil) (psm_cons (psm_if (PW.pt (pmw_or (pm_cmpT opM_gt (pm_callB (callM_len rfl) rfl (F.fr 15 "len" rfl) (by decide +kernel) (pma_cons (pm_var 5) pma_nil)) pm_int (nomark _)) (pmw_or (PW.pt (pmw_and (pm_cmpT (opM_ne (hu64 hr)) (pm_var 5) pm_str (nomark _)) (pmw_and1 (pm_cmpT opM_notIn (pm_var 5) pm_str (by rfl))))) (pmw_or1 (PW.pt (pmw_and (pm_cmpT (opM_eq (hu64 hr)) (pm_var 5) pm_str (nomark _)) (pmw_and1 (pm_cmpT opM_lt (pm_op opM_add (pm_var 2) pm_int) (pm_callB (callM_len rfl) rfl (F.fr 15 "len" rfl) (by decide +kernel) (pma_cons (pm_var 0) pma_nil)) (nomark _))))))))) (psm_one (psm_ret pm_bl)) psm_nil) (psm_one (psm_set (i := 1) sc_law_is.nd rfl (by first | exact .inl rfl | exact .inr rfl) (pm_var 4)))))))) (psm_one (psm_ret pm_bl))))))
  exact ⟨fd, G, (FE.bindsN fun _ _ _ _ _ _ us hl => match us, hl with | [_], _ => rfl), FE.kp⟩
theorem got_law_keeps (F : Fx w K mg base) : Got w K mg base "_law_keeps" 1 ["held", "text"] f_law_keeps := by
  obtain ⟨fd, FD⟩ := F.d.def_ 20 (d := dfn "_law_keeps" 29) rfl
  have FE : FunD K "_law_keeps" "_law_keeps" (defArgs (top 29)) (defBody (top 29)) (defScope (top 29)) [] [] (He.ga K "_law_keeps") fd := FD
  have G : FnOk PP w K mg base (L2.CX PP w) 1 (He.ga K "_law_keeps") fd ["held", "text"] (SpM (Mk K) 2 (fun ds => noEr (fnM N_law_keeps.length m_law_keeps ds))) := fn_ok0 (k := 0) (mb := m_law_keeps) FE sc_law_keeps (fun cdv A outer s H E hr => (psm_one (psm_ret (pm_cmp (opM_eq (hu64 hr)) (PE.m (pm_lcF (own := [("number", 2), ("sign", 3)]) (tg_pair 2 3) (by decide) rfl sc_law_keeps.nd (pmi_list (pm_var 0)) (blkOk_by (own := [("number", 2), ("sign", 3)]) (N := N_law_keeps) (sc := defScope (top 29)) (by decide +kernel)) (fun _ _ _ _ _ => (pg_tup rfl (pgs_cons (pg_name (i := 2) sc_law_keeps.nd rfl (.inl rfl)) (pgs_cons (pg_name (i := 3) sc_law_keeps.nd rfl (.inl rfl)) pgs_nil)))) (fun _ _ _ _ _ => (ptsm_one (pm_cmpT (opM_ne (hu64 hr)) (pm_sl rfl (pm_var 1) (pmo_some (pm_var 2)) (pmo_some (pm_op opM_add (pm_var 2) pm_int))) (pm_var 3) (nomark _)))) (fun _ _ _ _ _ => pm_int))) (pm_lst pma_nil) (nomark _)))))
  exact ⟨fd, G, (FE.bindsN fun _ _ _ _ _ _ us hl => match us, hl with | [_, _], _ => rfl), FE.kp⟩
theorem got_law_with (F : Fx w K mg base) : Got w K mg base "_law_with" 1 ["held", "number", "sign"] f_law_with := by
  obtain ⟨fd, FD⟩ := F.d.def_ 21 (d := dfn "_law_with" 30) rfl
  have FE : FunD K "_law_with" "_law_with" (defArgs (top 30)) (defBody (top 30)) (defScope (top 30)) [] [] (He.ga K "_law_with") fd := FD
  have G : FnOk PP w K mg base (L2.CX PP w) 1 (He.ga K "_law_with") fd ["held", "number", "sign"] (SpM (Mk K) 3 (fun ds => noEr (fnM N_law_with.length m_law_with ds))) := fn_ok0 (k := 0) (mb := m_law_with) FE sc_law_with (fun cdv A outer s H E hr => (psm_cons (psm_set (i := 3) sc_law_with.nd rfl (by first | exact .inl rfl | exact .inr rfl) (pm_lst pma_nil)) (psm_cons (psm_if (PW.pt (pmw_and (pm_cmpT (opM_eq (hu64 hr)) (pm_var 2) pm_str (nomark _)) (pmw_and1 (pm_cmpT (opM_ne (hu64 hr)) (PE.m (pm_lcF (own := [("other", 6), ("told", 7)]) (tg_pair 6 7) (by decide) rfl sc_law_with.nd (pmi_list (pm_var 0)) (blkOk_by (own := [("other", 6), ("told", 7)]) (N := N_law_with) (sc := defScope (top 30)) (by decide +kernel)) (fun _ _ _ _ _ => (pg_tup rfl (pgs_cons (pg_name (i := 6) sc_law_with.nd rfl (.inl rfl)) (pgs_cons (pg_name (i := 7) sc_law_with.nd rfl (.inl rfl)) pgs_nil)))) (fun _ _ _ _ _ => (ptsm_one (PW.pt (pmw_and (pm_cmpT (opM_eq (hu64 hr)) (pm_var 7) pm_str (nomark _)) (pmw_and1 (pm_cmpT opM_lt (pm_var 6) (pm_var 1) (nomark _))))))) (fun _ _ _ _ _ => pm_int))) (pm_lst pma_nil) (nomark _))))) (psm_one (psm_ret (PE.m (pm_callTyF callM_list rfl (F.fr 10 "list" rfl) (by decide +kernel) (pma_cons (pm_var 0) pma_nil))))) psm_nil) (psm_cons (psm_for (tg_name 4) PassesOwn.never rfl (pmi_list (pm_var 0)) (pg_name (i := 4) sc_law_with.nd rfl (.inl rfl)) (psm_cons (psm_set (i := 5) sc_law_with.nd rfl (by first | exact .inl rfl | exact .inr rfl) (pm_and (pm_cmp (opM_ne (hu64 hr)) (pm_ix rfl (pm_var 4) pm_int (fun _ _ => rfl)) (pm_var 1) (nomark _)) (pm_one (pm_or (pm_cmp (opM_ne (hu64 hr)) (pm_ix rfl (pm_var 4) pm_int (fun _ _ => rfl)) pm_str (nomark _)) (pm_one (pm_cmp opM_gt (pm_ix rfl (pm_var 4) pm_int (fun _ _ => rfl)) (pm_var 1) (nomark _))))))) (psm_cons (psm_if (pm_cmpT (opM_eq (hu64 hr)) (pm_var 2) pm_str (nomark _)) (psm_one (psm_set (i := 5) sc_law_with.nd rfl (by first | exact .inl rfl | exact .inr rfl) (pm_and (pm_cmp opM_lt (pm_ix rfl (pm_var 4) pm_int (fun _ _ => rfl)) (pm_var 1) (nomark _)) (pm_one (pm_cmp (opM_ne (hu64 hr)) (pm_ix rfl (pm_var 4) pm_int (fun _ _ => rfl)) pm_str (nomark _)))))) psm_nil) (psm_one (psm_set (i := 3) sc_law_with.nd rfl (by first | exact .inl rfl | exact .inr rfl) (pm_op opM_add (pm_var 3) (pm_op opM_mul (pm_lst (pma_cons (pm_var 4) pma_nil)) (pm_callTy callM_int rfl (F.fr 7 "int" rfl) (by decide +kernel) (pma_cons (pm_var 5) pma_nil))))))))) (psm_one (psm_ret (PE.m (pm_callBF callM_sorted rfl (F.fr 20 "sorted" rfl) (by decide +kernel) (pma_cons (pm_op opM_add (pm_var 3) (pm_lst (pma_cons (pm_tup (pma_cons (pm_var 1) (pma_cons (pm_var 2) pma_nil))) pma_nil))) pma_nil)))))))))
  exact ⟨fd, G, (FE.bindsN fun _ _ _ _ _ _ us hl => match us, hl with | [_, _, _], _ => rfl), FE.kp⟩
theorem got_law_text (F : Fx w K mg base) : Got w K mg base "_law_text" 4 ["generator", "held"] f_law_text := by
  obtain ⟨fd, FD⟩ := F.d.def_ 22 (d := dfn "_law_text" 31) rfl
  have FE : FunD K "_law_text" "_law_text" (defArgs (top 31)) (defBody (top 31)) (defScope (top 31)) [] [] (He.ga K "_law_text") fd := FD
  obtain ⟨fd_law_random, G_law_random, b_law_random, k_law_random⟩ := got_law_random F
  obtain ⟨fd_law_sign, G_law_sign, b_law_sign, k_law_sign⟩ := got_law_sign F
  have G : FnOk PP w K mg base (L2.CX PP w) 4 (He.ga K "_law_text") fd ["generator", "held"] (SpM (Mk K) 2 (fun ds => noEr (fnM N_law_text.length m_law_text ds))) := fn_ok0 (k := 3) (mb := m_law_text) FE sc_law_text (fun cdv A outer s H E hr => (psm_cons (psm_par (i := 4) (j := 5) rfl sc_law_text.nd rfl rfl (by decide) rfl rfl (pma_cons (pm_callTy (callM_dict rfl) rfl (F.fr 12 "dict" rfl) (by decide +kernel) (pma_cons (pm_var 1) pma_nil)) (pma_cons pm_str pma_nil)) (by rfl)) (psm_cons (psm_set (i := 2) sc_law_text.nd rfl (by first | exact .inl rfl | exact .inr rfl) (pm_ix rfl (pm_lst (pma_cons (pm_call takes0 G_law_random (hr.mono (by decide)) rfl (F.gl 38 "_law_random" rfl) k_law_random b_law_random (pma_cons (pm_var 0) (pma_cons pm_int pma_nil))) (pma_cons (pm_call takes0 G_law_random (hr.mono (by decide)) rfl (F.gl 38 "_law_random" rfl) k_law_random b_law_random (pma_cons (pm_var 0) (pma_cons pm_int pma_nil))) (pma_cons (pm_callB (callM_min rfl) rfl (F.fr 19 "min" rfl) (by decide +kernel) (pma_cons (pm_op opM_add (PE.m (pm_lcF (own := [("number", 3), ("sign", 6)]) (tg_pair 3 6) (by decide) rfl sc_law_text.nd (pmi_list (pm_var 1)) (blkOk_by (own := [("number", 3), ("sign", 6)]) (N := N_law_text) (sc := defScope (top 31)) (by decide +kernel)) (fun _ _ _ _ _ => (pg_tup rfl (pgs_cons (pg_name (i := 3) sc_law_text.nd rfl (.inl rfl)) (pgs_cons (pg_name (i := 6) sc_law_text.nd rfl (.inl rfl)) pgs_nil)))) (fun _ _ _ _ _ => (ptsm_one (pm_cmpT (opM_eq (hu64 hr)) (pm_var 6) pm_str (nomark _)))) (fun _ _ _ _ _ => (pm_var 3)))) (pm_lst (pma_cons pm_int pma_nil))) pma_nil)) pma_nil)))) (pm_call takes0 G_law_random (hr.mono (by decide)) rfl (F.gl 38 "_law_random" rfl) k_law_random b_law_random (pma_cons (pm_var 0) (pma_cons pm_int pma_nil))) (fun _ _ => rfl))) (psm_cons (psm_for (tg_name 3) PassesOwn.never rfl (pmi_range rfl (F.fr 16 "range" rfl) (pma_cons (pm_var 2) pma_nil)) (pg_name (i := 3) sc_law_text.nd rfl (.inl rfl)) (psm_cons (psm_set (i := 6) sc_law_text.nd rfl (by first | exact .inl rfl | exact .inr rfl) (pm_get (hu_of hr) (pm_var 4) (pm_var 3) pm_str ⟨rfl, rfl, rfl, rfl⟩)) (psm_one (psm_set (i := 5) sc_law_text.nd rfl (by first | exact .inl rfl | exact .inr rfl) (pm_op opM_add (pm_var 5) (pm_ifE (PW.pt (pmw_and (pm_cmpT (opM_ne (hu64 hr)) (pm_var 6) pm_str (nomark _)) (pmw_and1 (pm_cmpT opM_gt (pm_call takes0 G_law_random (hr.mono (by decide)) rfl (F.gl 38 "_law_random" rfl) k_law_random b_law_random (pma_cons (pm_var 0) (pma_cons pm_int pma_nil))) pm_int (nomark _))))) (pm_var 6) (pm_call takes0 G_law_sign (hr.mono (by decide)) rfl (F.gl 42 "_law_sign" rfl) k_law_sign b_law_sign (pma_cons (pm_var 0) pma_nil)))))))) (psm_one (psm_ret (pm_var 5)))))))
  exact ⟨fd, G, (FE.bindsN fun _ _ _ _ _ _ us hl => match us, hl with | [_, _], _ => rfl), FE.kp⟩
theorem got_law_bent (F : Fx w K mg base) : Got w K mg base "_law_bent" 3 ["generator", "held"] f_law_bent := by
  obtain ⟨fd, FD⟩ := F.d.def_ 23 (d := dfn "_law_bent" 32) rfl
  have FE : FunD K "_law_bent" "_law_bent" (defArgs (top 32)) (defBody (top 32)) (defScope (top 32)) [] [] (He.ga K "_law_bent") fd := FD
  obtain ⟨fd_law_random, G_law_random, b_law_random, k_law_random⟩ := got_law_random F
  have G : FnOk PP w K mg base (L2.CX PP w) 3 (He.ga K "_law_bent") fd ["generator", "held"] (SpM (Mk K) 2 (fun ds => noEr (fnM N_law_bent.length m_law_bent ds))) := fn_ok0 (k := 2) (mb := m_law_bent) FE sc_law_bent (fun cdv A outer s H E hr => (psm_cons (psm_set (i := 2) sc_law_bent.nd rfl (by first | exact .inl rfl | exact .inr rfl) (pm_call takes0 G_law_random (hr.mono (by decide)) rfl (F.gl 38 "_law_random" rfl) k_law_random b_law_random (pma_cons (pm_var 0) (pma_cons (pm_op opM_add (pm_callB (callM_len rfl) rfl (F.fr 15 "len" rfl) (by decide +kernel) (pma_cons (pm_var 1) pma_nil)) pm_int) pma_nil)))) (psm_cons (psm_set (i := 3) sc_law_bent.nd rfl (by first | exact .inl rfl | exact .inr rfl) (pm_lst (pma_cons (pm_tup (pma_cons pm_int (pma_cons pm_str pma_nil))) (pma_cons (pm_tup (pma_cons (pm_op opM_sub pm_int pm_int) (pma_cons pm_str pma_nil))) (pma_cons (pm_tup (pma_cons pm_bl (pma_cons pm_str pma_nil))) (pma_cons (pm_tup (pma_cons pm_str (pma_cons pm_str pma_nil))) (pma_cons (pm_tup (pma_cons pm_int (pma_cons pm_str pma_nil))) (pma_cons (pm_tup (pma_cons pm_int (pma_cons pm_str pma_nil))) (pma_cons (pm_tup (pma_cons pm_int (pma_cons pm_non pma_nil))) (pma_cons (pm_lst (pma_cons pm_int (pma_cons pm_str pma_nil))) (pma_cons (pm_tup (pma_cons pm_int (pma_cons pm_str (pma_cons pm_int pma_nil)))) (pma_cons (pm_tup (pma_cons pm_int pma_nil)) (pma_cons pm_non (pma_cons (pm_tup (pma_cons pm_int (pma_cons pm_str pma_nil))) (pma_cons (pm_tup (pma_cons pm_non (pma_cons pm_str pma_nil))) pma_nil))))))))))))))) (psm_cons (psm_set (i := 4) sc_law_bent.nd rfl (by first | exact .inl rfl | exact .inr rfl) (pm_lst (pma_cons (pm_op opM_add (pm_op opM_add (pm_sl rfl (pm_var 1) pmo_none (pmo_some (pm_var 2))) (pm_lst (pma_cons (pm_ix rfl (pm_var 3) (pm_call takes0 G_law_random (hr.mono (by decide)) rfl (F.gl 38 "_law_random" rfl) k_law_random b_law_random (pma_cons (pm_var 0) (pma_cons pm_int pma_nil))) (fun _ _ => rfl)) pma_nil))) (pm_sl rfl (pm_var 1) (pmo_some (pm_var 2)) pmo_none)) (pma_cons (pm_rev (pm_var 1)) (pma_cons (pm_callTy callM_tuple rfl (F.fr 11 "tuple" rfl) (by decide +kernel) (pma_cons (pm_var 1) pma_nil)) (pma_cons (pm_op opM_add (pm_var 1) (pm_sl rfl (pm_var 1) (pmo_some (pm_neg pm_int)) pmo_none)) (pma_cons (pm_op opM_add (pm_op opM_add (pm_sl rfl (pm_var 1) pmo_none (pmo_some (pm_var 2))) (pm_lst (pma_cons (pm_tup (pma_cons pm_int (pma_cons pm_str pma_nil))) pma_nil))) (pm_sl rfl (pm_var 1) (pmo_some (pm_var 2)) pmo_none)) pma_nil))))))) (psm_one (psm_ret (pm_op opM_add (pm_var 4) (pm_lst (pma_cons pm_non (pma_cons pm_dic0 (pma_cons pm_str (pma_cons pm_int (pma_cons (pm_lst (pma_cons (pm_var 1) pma_nil)) (pma_cons (pm_lst (pma_cons (pm_tup (pma_cons pm_int (pma_cons pm_str pma_nil))) (pma_cons (pm_tup (pma_cons pm_int (pma_cons pm_str pma_nil))) pma_nil))) (pma_cons (pm_lst (pma_cons (pm_tup (pma_cons pm_int (pma_cons pm_str pma_nil))) (pma_cons (pm_tup (pma_cons pm_int (pma_cons pm_str pma_nil))) pma_nil))) (pma_cons (pm_op opM_add (pm_var 1) (pm_lst (pma_cons (pm_tup (pma_cons pm_int (pma_cons pm_str pma_nil))) pma_nil))) (pma_cons (pm_op opM_add (pm_sl rfl (pm_var 1) (pmo_some (pm_var 2)) pmo_none) (pm_sl rfl (pm_var 1) pmo_none (pmo_some (pm_var 2)))) pma_nil)))))))))))))))))
  exact ⟨fd, G, (FE.bindsN fun _ _ _ _ _ _ us hl => match us, hl with | [_, _], _ => rfl), FE.kp⟩
end
end K84

set_option Elab.async false
set_option linter.all false
set_option maxRecDepth 100000
set_option maxHeartbeats 2000000
namespace K84
open PySem PySem.Spec PyProof.Rows L2 GxR GenW Ink
def N_law_called : List Str := ["door", "one", "other", "third"]
theorem sc_law_called : FnScope N_law_called ["door", "one", "other", "third"] (defScope (top 33)) := ⟨rfl, rfl, rfl, by decide +kernel, rfl, by decide +kernel, by decide +kernel⟩
def m_law_called : MS := (mSeq (mIf (mB (mOp eqD (mVar 0) (mC (.int 0)))) (mRet (mCall 2 f_keeps (mCons (mVar 1) (mCons (mVar 2) mNil)))) mSkip) (mRet (mIfE (mB (mOp eqD (mVar 0) (mC (.int 1)))) (mCall 3 f_held_with (mCons (mVar 1) (mCons (mVar 2) (mCons (mVar 3) mNil)))) (mCall 2 f_held_without (mCons (mVar 1) (mCons (mVar 2) mNil))))))
def f_law_called (ds : List D) : Mo D := fnM 4 m_law_called ds
def N_law_caught : List Str := ["door", "one", "other", "third", "caught", "error", "kinds"]
theorem sc_law_caught : FnScope N_law_caught ["door", "one", "other", "third"] (defScope (top 34)) := ⟨rfl, rfl, rfl, by decide +kernel, rfl, by decide +kernel, by decide +kernel⟩
def m_law_caught : MS := (mSeq (mSet 4 (mC .non)) (mSeq (mTry 5 4 (mCall 4 f_law_called (mCons (mVar 0) (mCons (mVar 1) (mCons (mVar 2) (mCons (mVar 3) mNil)))))) (mSeq (mSet 6 (mLst (mCons (mIsE 0 (mVar 4)) (mCons (mIsE 1 (mVar 4)) (mCons (mIsE 2 (mVar 4)) mNil))))) (mRet (mOp addD (mVar 6) (mLst (mCons (mIfE (mB (mOp isD (mVar 4) (mC .non))) (mC .non) (mBt reprD (mCons (mVal (mVar 4)) mNil))) mNil)))))))
def f_law_caught (ds : List D) : Mo D := noEr (fnM 7 m_law_caught ds)
def N_law_refused : List Str := ["generator", "held", "text", "wrong", "sign", "line", "due", "found", "bad", "number", "value"]
theorem sc_law_refused : FnScope N_law_refused ["generator", "held", "text"] (defScope (top 35)) := ⟨rfl, rfl, rfl, by decide +kernel, rfl, by decide +kernel, by decide +kernel⟩
def m_law_refused : MS := (mSeq (mSet 3 (mLc (mIt itsD (mCall 2 f_law_bent (mCons (mVar 0) (mCons (mVar 1) mNil)))) (tgN 10) [10] (mNot (mB (mCall 1 f_law_is (mCons (mVar 10) mNil)))) (mVar 10))) (mSeq (mPar 8 9 (mCons (mOp ixD (mVar 3) (mCall 2 f_law_random (mCons (mVar 0) (mCons (mBt lenD (mCons (mVar 3) mNil)) mNil)))) (mCons (mOp ixD (mLst (mCons (mC .non) (mCons (mOp subD (mC (.int 0)) (mC (.int 1))) (mCons (mC (.int 61)) (mCons (mC (.bl true)) (mCons (mC (.str "1")) (mCons (mLst (mCons (mC (.int 1)) mNil)) (mCons (mOp powD (mC (.int 10)) (mC (.int 39))) mNil)))))))) (mCall 2 f_law_random (mCons (mVar 0) (mCons (mC (.int 7)) mNil)))) mNil))) (mSeq (mSet 4 (mOp ixD (mLst (mCons (mC .non) (mCons (mC (.str "ab")) (mCons (mC (.str "A")) (mCons (mC (.int 3)) (mCons (mLst (mCons (mC (.str "a")) mNil)) (mCons (mC (.str "-")) (mCons (mC (.bl true)) mNil)))))))) (mCall 2 f_law_random (mCons (mVar 0) (mCons (mC (.int 7)) mNil))))) (mSeq (mSet 5 (mOp ixD (mLst (mCons (mC .non) (mCons (mC (.str "A")) (mCons (mC (.str "a\n")) (mCons (mC (.int 3)) (mCons (mLst (mCons (mC (.str "a")) mNil)) (mCons (mC (.str "a-b")) (mCons (mOp addD (mVar 2) (mC (.str "?"))) mNil)))))))) (mCall 2 f_law_random (mCons (mVar 0) (mCons (mC (.int 7)) mNil))))) (mSeq (mSet 6 (mLst (mCons (mLst (mCons (mC (.bl true)) (mCons (mC (.bl false)) (mCons (mC (.bl false)) (mCons (mBt reprD (mCons (mVar 8) mNil)) mNil))))) (mCons (mLst (mCons (mC (.bl false)) (mCons (mC (.bl true)) (mCons (mC (.bl false)) (mCons (mBt reprD (mCons (mVar 9) mNil)) mNil))))) (mCons (mLst (mCons (mC (.bl false)) (mCons (mC (.bl false)) (mCons (mC (.bl true)) (mCons (mBt reprD (mCons (mVar 4) mNil)) mNil))))) (mCons (mLst (mCons (mC (.bl false)) (mCons (mC (.bl false)) (mCons (mC (.bl true)) (mCons (mBt reprD (mCons (mVar 5) mNil)) mNil))))) mNil)))))) (mSeq (mSet 7 (mLst (mCons (mCall 4 f_law_caught (mCons (mC (.int 0)) (mCons (mVar 8) (mCons (mVar 2) (mCons (mC .non) mNil))))) (mCons (mCall 4 f_law_caught (mCons (mC (.int 1)) (mCons (mVar 8) (mCons (mC (.int 0)) (mCons (mC (.str "a")) mNil))))) (mCons (mCall 4 f_law_caught (mCons (mC (.int 2)) (mCons (mVar 8) (mCons (mC (.int 0)) (mCons (mC .non) mNil))))) mNil))))) (mSeq (mSet 7 (mOp addD (mVar 7) (mLst (mCons (mCall 4 f_law_caught (mCons (mC (.int 0)) (mCons (mVar 8) (mCons (mVar 5) (mCons (mC .non) mNil))))) (mCons (mCall 4 f_law_caught (mCons (mC (.int 1)) (mCons (mVar 8) (mCons (mVar 9) (mCons (mVar 4) mNil))))) (mCons (mCall 4 f_law_caught (mCons (mC (.int 2)) (mCons (mVar 8) (mCons (mVar 9) (mCons (mC .non) mNil))))) mNil)))))) (mSeq (mIf (mB (mOp neD (mVar 7) (mOp mulD (mLst (mCons (mOp ixD (mVar 6) (mC (.int 0))) mNil)) (mC (.int 6))))) (mRet (mC (.bl false))) mSkip) (mSeq (mIf (mB (mOp neD (mLst (mCons (mCall 4 f_law_caught (mCons (mC (.int 1)) (mCons (mVar 1) (mCons (mVar 9) (mCons (mC (.str "a")) mNil))))) (mCons (mCall 4 f_law_caught (mCons (mC (.int 1)) (mCons (mVar 1) (mCons (mVar 9) (mCons (mVar 4) mNil))))) (mCons (mCall 4 f_law_caught (mCons (mC (.int 2)) (mCons (mVar 1) (mCons (mVar 9) (mCons (mC .non) mNil))))) mNil)))) (mOp mulD (mLst (mCons (mOp ixD (mVar 6) (mC (.int 1))) mNil)) (mC (.int 3))))) (mRet (mC (.bl false))) mSkip) (mRet (mOp eqD (mLst (mCons (mCall 4 f_law_caught (mCons (mC (.int 1)) (mCons (mVar 1) (mCons (mC (.int 3)) (mCons (mVar 4) mNil))))) (mCons (mCall 4 f_law_caught (mCons (mC (.int 0)) (mCons (mVar 1) (mCons (mVar 5) (mCons (mC .non) mNil))))) mNil))) (mSl (mVar 6) (mPt (mC (.int 2))) mNoP))))))))))))
def f_law_refused (ds : List D) : Mo D := noEr (fnM 11 m_law_refused ds)
def N_law_right : List Str := ["generator", "held", "value", "text", "told", "less", "kept", "number", "sign", "more", "due", "given", "turn", "hold"]
theorem sc_law_right : FnScope N_law_right ["generator"] (defScope (top 36)) := ⟨rfl, rfl, rfl, by decide +kernel, rfl, by decide +kernel, by decide +kernel⟩
def m_law_right : MS := (mSeq (mSet 1 (mCall 1 f_law_drawn (mCons (mVar 0) mNil))) (mSeq (mAsg (tg3 6 7 8) (mTup (mCons (mBt listD (mCons (mVar 1) mNil)) (mCons (mCall 2 f_law_random (mCons (mVar 0) (mCons (mOp ixD (mLst (mCons (mC (.int 3)) (mCons (mC (.int 61)) mNil))) (mCall 2 f_law_random (mCons (mVar 0) (mCons (mC (.int 2)) mNil)))) mNil))) (mCons (mCall 1 f_law_sign (mCons (mVar 0) mNil)) mNil))))) (mSeq (mFor (mIt itsD (mOp addD (mLst (mCons (mVar 1) mNil)) (mCall 2 f_law_bent (mCons (mVar 0) (mCons (mVar 1) mNil))))) (tgN 2) (mSeq (mPar 10 11 (mCons (mCall 1 f_law_is (mCons (mVar 2) mNil)) (mCons (mBt reprD (mCons (mVar 2) mNil)) mNil))) (mIf (mOr (mNot (mB (mCall 2 (f_law_same 5) (mCons (mLst (mCons (mCall 1 f_is_held (mCons (mVar 2) mNil)) (mCons (mCallR 1 f_is_held (mCons (mVar 2) mNil)) mNil))) (mCons (mLst (mCons (mVar 10) (mCons (mVar 10) mNil))) mNil))))) (mB (mOp neD (mBt reprD (mCons (mVar 2) mNil)) (mVar 11)))) (mRet (mC (.bl false))) mSkip))) (mSeq (mFor (mIt itsD (mOp addD (mLc (mItA rngD (mCons (mC (.int 3)) mNil)) (tgN 12) [12] mYes (mCall 2 f_law_text (mCons (mVar 0) (mCons (mVar 1) mNil)))) (mLst (mCons (mC (.str "")) (mCons (mC (.str "a")) (mCons (mC (.str "b")) (mCons (mC (.str "ab")) (mCons (mC (.str "ba")) (mCons (mC (.str "aab")) mNil))))))))) (tgN 3) (mIf (mOr (mNot (mB (mCall 2 (f_law_same 5) (mCons (mCall 2 f_keeps (mCons (mVar 1) (mCons (mVar 3) mNil))) (mCons (mCall 2 f_law_keeps (mCons (mVar 1) (mCons (mVar 3) mNil))) mNil))))) (mNot (mB (mCall 2 (f_law_same 5) (mCons (mCallR 2 f_keeps (mCons (mVar 3) (mCons (mVar 1) mNil))) (mCons (mCall 2 f_law_keeps (mCons (mVar 1) (mCons (mVar 3) mNil))) mNil)))))) (mRet (mC (.bl false))) mSkip)) (mSeq (mFor (mIt itsD (mLst (mCons (mVar 8) (mCons (mC (.str "")) (mCons (mVar 8) mNil))))) (tgN 4) (mDropB 9 (mCall 3 f_held_with (mCons (mVar 1) (mCons (mVar 7) (mCons (mVar 4) mNil)))) (mOr (mNot (mB (mCall 2 (f_law_same 5) (mCons (mVar 9) (mCons (mCall 3 f_law_with (mCons (mVar 1) (mCons (mVar 7) (mCons (mVar 4) mNil)))) mNil))))) (mNot (mB (mCall 1 f_law_is (mCons (mVar 9) mNil))))) (mC (.bl false)) (mIf (mNot (mB (mCall 2 (f_law_same 5) (mCons (mCallR 3 f_held_with (mCons (mVar 4) (mCons (mVar 7) (mCons (mVar 1) mNil)))) (mCons (mCall 3 f_law_with (mCons (mVar 1) (mCons (mVar 7) (mCons (mVar 4) mNil)))) mNil))))) (mRet (mC (.bl false))) mSkip))) (mDropB 5 (mCall 2 f_held_without (mCons (mVar 1) (mCons (mVar 7) mNil))) (mNot (mB (mCall 2 (f_law_same 5) (mCons (mVar 5) (mCons (mLc (mIt itsD (mVar 1)) (tgN 13) [13] (mB (mOp neD (mOp ixD (mVar 13) (mC (.int 0))) (mVar 7))) (mVar 13)) mNil))))) (mC (.bl false)) (mSeq (mIf (mOr (mNot (mB (mCall 2 (f_law_same 5) (mCons (mCallR 2 f_held_without (mCons (mVar 7) (mCons (mVar 1) mNil))) (mCons (mLc (mIt itsD (mVar 1)) (tgN 13) [13] (mB (mOp neD (mOp ixD (mVar 13) (mC (.int 0))) (mVar 7))) (mVar 13)) mNil))))) (mB (mOp neD (mVar 1) (mVar 6)))) (mRet (mC (.bl false))) mSkip) (mRet (mAndV (mCall 3 f_law_refused (mCons (mVar 0) (mCons (mVar 1) (mCons (mCall 2 f_law_text (mCons (mVar 0) (mCons (mVar 1) mNil))) mNil)))) (mOp eqD (mVar 1) (mVar 6)))))))))))
def f_law_right (ds : List D) : Mo D := noEr (fnM 14 m_law_right ds)
def N_law : List Str := ["script", "index", "told", "due"]
theorem sc_law : FnScope N_law ["script"] (defScope (top 37)) := ⟨rfl, rfl, rfl, by decide +kernel, rfl, by decide +kernel, by decide +kernel⟩
def m_law : MS := (mSeq (mFor (mItA rngD (mCons (mC (.int 3)) mNil)) (tgN 1) (mIf (mNot (mB (mGen f_law_right (mCall 2 f_law_generator (mCons (mVar 0) (mCons (mVar 1) mNil)))))) (mRet (mC (.bl false))) mSkip)) (mSeq (mSet 2 (mLst (mCons (mCall 3 f_held_with (mCons (mLst (mCons (mTup (mCons (mC (.int 0)) (mCons (mC (.str "a")) mNil))) (mCons (mTup (mCons (mC (.int 4)) (mCons (mC (.str "")) mNil))) mNil))) (mCons (mC (.int 2)) (mCons (mC (.str "b")) mNil)))) (mCons (mCall 3 f_held_with (mCons (mLst (mCons (mTup (mCons (mC (.int 0)) (mCons (mC (.str "a")) mNil))) (mCons (mTup (mCons (mC (.int 4)) (mCons (mC (.str "")) mNil))) mNil))) (mCons (mC (.int 4)) (mCons (mC (.str "b")) mNil)))) (mCons (mCall 3 f_held_with (mCons (mLst (mCons (mTup (mCons (mC (.int 0)) (mCons (mC (.str "a")) mNil))) (mCons (mTup (mCons (mC (.int 4)) (mCons (mC (.str "")) mNil))) mNil))) (mCons (mC (.int 9)) (mCons (mC (.str "b")) mNil)))) (mCons (mCall 3 f_held_with (mCons (mLst (mCons (mTup (mCons (mC (.int 0)) (mCons (mC (.str "a")) mNil))) (mCons (mTup (mCons (mC (.int 2)) (mCons (mC (.str "c")) mNil))) mNil))) (mCons (mC (.int 1)) (mCons (mC (.str "")) mNil)))) mNil)))))) (mSeq (mSet 3 (mLst (mCons (mLst (mCons (mTup (mCons (mC (.int 0)) (mCons (mC (.str "a")) mNil))) (mCons (mTup (mCons (mC (.int 2)) (mCons (mC (.str "b")) mNil))) (mCons (mTup (mCons (mC (.int 4)) (mCons (mC (.str "")) mNil))) mNil)))) (mCons (mLst (mCons (mTup (mCons (mC (.int 0)) (mCons (mC (.str "a")) mNil))) (mCons (mTup (mCons (mC (.int 4)) (mCons (mC (.str "b")) mNil))) mNil))) (mCons (mLst (mCons (mTup (mCons (mC (.int 0)) (mCons (mC (.str "a")) mNil))) (mCons (mTup (mCons (mC (.int 9)) (mCons (mC (.str "b")) mNil))) mNil))) (mCons (mLst (mCons (mTup (mCons (mC (.int 0)) (mCons (mC (.str "a")) mNil))) (mCons (mTup (mCons (mC (.int 1)) (mCons (mC (.str "")) mNil))) mNil))) mNil)))))) (mSeq (mSet 2 (mOp addD (mVar 2) (mLst (mCons (mCall 3 f_held_with (mCons (mLst (mCons (mTup (mCons (mC (.int 3)) (mCons (mC (.str "")) mNil))) mNil)) (mCons (mC (.int 5)) (mCons (mC (.str "")) mNil)))) (mCons (mCall 3 f_held_with (mCons (mLst (mCons (mTup (mCons (mC (.int 3)) (mCons (mC (.str "")) mNil))) mNil)) (mCons (mC (.int 2)) (mCons (mC (.str "")) mNil)))) (mCons (mCall 3 f_held_with (mCons (mLst mNil) (mCons (mC (.int 60)) (mCons (mC (.str "")) mNil)))) (mCons (mCall 2 f_held_without (mCons (mLst (mCons (mTup (mCons (mC (.int 3)) (mCons (mC (.str "")) mNil))) mNil)) (mCons (mC (.int 3)) mNil))) (mCons (mCall 2 f_held_without (mCons (mLst (mCons (mTup (mCons (mC (.int 3)) (mCons (mC (.str "")) mNil))) mNil)) (mCons (mC (.int 4)) mNil))) mNil)))))))) (mRet (mAndV (mCall 2 (f_law_same 5) (mCons (mVar 2) (mCons (mOp addD (mVar 3) (mLst (mCons (mLst (mCons (mTup (mCons (mC (.int 3)) (mCons (mC (.str "")) mNil))) mNil)) (mCons (mLst (mCons (mTup (mCons (mC (.int 2)) (mCons (mC (.str "")) mNil))) mNil)) (mCons (mLst (mCons (mTup (mCons (mC (.int 60)) (mCons (mC (.str "")) mNil))) mNil)) (mCons (mLst mNil) (mCons (mLst (mCons (mTup (mCons (mC (.int 3)) (mCons (mC (.str "")) mNil))) mNil)) mNil))))))) mNil))) (mAndV (mOp isD (mCall 2 f_keeps (mCons (mLst (mCons (mTup (mCons (mC (.int 60)) (mCons (mC (.str "")) mNil))) mNil)) (mCons (mOp mulS (mC (.str "a")) (mC (.int 60))) mNil))) (mC (.bl true))) (mOp isD (mCall 2 f_keeps (mCons (mLst (mCons (mTup (mCons (mC (.int 59)) (mCons (mC (.str "a")) mNil))) mNil)) (mCons (mOp mulS (mC (.str "a")) (mC (.int 60))) mNil))) (mC (.bl true))))))))))
def f_law (ds : List D) : Mo D := noEr (fnM 4 m_law ds)
section
variable {w : World} {K : PySem.W.Frag} {mg : Str → Option Value} {base : Heap}
theorem got_law_called (F : Fx w K mg base) : Got w K mg base "_law_called" 12 ["door", "one", "other", "third"] f_law_called := by
  obtain ⟨fd, FD⟩ := F.d.def_ 24 (d := dfn "_law_called" 33) rfl
  have FE : FunD K "_law_called" "_law_called" (defArgs (top 33)) (defBody (top 33)) (defScope (top 33)) [] [] (He.ga K "_law_called") fd := FD
  obtain ⟨fd_keeps, G_keeps, b_keeps, k_keeps, kb_keeps⟩ := got_keeps F
  obtain ⟨fd_held_with, G_held_with, b_held_with, k_held_with, kb_held_with⟩ := got_held_with F
  obtain ⟨fd_held_without, G_held_without, b_held_without, k_held_without, kb_held_without⟩ := got_held_without F
  have G : FnOk PP w K mg base (L2.CX PP w) 12 (He.ga K "_law_called") fd ["door", "one", "other", "third"] (SpM (Mk K) 4 (fun ds => fnM N_law_called.length m_law_called ds)) := fn_okX (k := 11) (mb := m_law_called) FE sc_law_called (fun cdv A outer s H E hr => (psm_cons (psm_if (pm_cmpT (opM_eq (hu64 hr)) (pm_var 0) pm_int (nomark _)) (psm_one (psm_ret (pm_call (takes_of rfl rfl rfl rfl) G_keeps (hr.mono (by decide)) rfl (F.gl 33 "keeps" rfl) k_keeps b_keeps (pma_cons (pm_var 1) (pma_cons (pm_var 2) pma_nil))))) psm_nil) (psm_one (psm_ret (pm_ifE (pm_cmpT (opM_eq (hu64 hr)) (pm_var 0) pm_int (nomark _)) (pm_call (takes_of rfl rfl rfl rfl) (G_held_with.imp (fun _ _ _ _ h => h.toF)) (hr.mono (by decide)) rfl (F.gl 35 "held_with" rfl) k_held_with b_held_with (pma_cons (pm_var 1) (pma_cons (pm_var 2) (pma_cons (pm_var 3) pma_nil)))) (pm_call (takes_of rfl rfl rfl rfl) (G_held_without.imp (fun _ _ _ _ h => h.toF)) (hr.mono (by decide)) rfl (F.gl 36 "held_without" rfl) k_held_without b_held_without (pma_cons (pm_var 1) (pma_cons (pm_var 2) pma_nil))))))))
  exact ⟨fd, G, (FE.bindsN fun _ _ _ _ _ _ us hl => match us, hl with | [_, _, _, _], _ => rfl), FE.kp⟩
theorem got_law_caught (F : Fx w K mg base) : GotG w K mg base "_law_caught" 13 ["door", "one", "other", "third"] f_law_caught := by
  obtain ⟨fd, FD⟩ := F.d.def_ 25 (d := dfn "_law_caught" 34) rfl
  have FE : FunD K "_law_caught" "_law_caught" (defArgs (top 34)) (defBody (top 34)) (defScope (top 34)) [] [] (He.ga K "_law_caught") fd := FD
  obtain ⟨fd_law_called, G_law_called, b_law_called, k_law_called⟩ := got_law_called F
  have G : FnG PP w K mg base (L2.CX PP w) 13 (He.ga K "_law_caught") fd ["door", "one", "other", "third"] (SpM (Mk K) 4 (fun ds => noEr (fnM N_law_caught.length m_law_caught ds))) := fnG_ok0 (k := 12) (mb := m_law_caught) FE sc_law_caught (fun cdv A outer s H E hr gd => (psm_cons (psm_set (i := 4) sc_law_caught.nd rfl (by first | exact .inl rfl | exact .inr rfl) pm_non) (psm_cons (psm_try (cc := .ref (He.ga K "InkError")) rfl rfl sc_law_caught.nd rfl rfl ⟨rfl, by decide, .inl (F.gl 2 "InkError" rfl)⟩ rfl rfl rfl rfl F.exm (fun _ _ _ tk' => (pm_call tk' G_law_called (hr.mono (by decide)) rfl (F.gl 49 "_law_called" rfl) k_law_called b_law_called (pma_cons (pm_var 0) (pma_cons (pm_var 1) (pma_cons (pm_var 2) (pma_cons (pm_var 3) pma_nil)))))) (by decide)) (psm_cons (psm_set (i := 6) sc_law_caught.nd rfl (by first | exact .inl rfl | exact .inr rfl) (pm_lst (pma_cons (pm_isE (k := 0) F.errs (F.kit 0 (by decide)) F.sp F.tk rfl (F.fr 6 "isinstance" rfl) rfl (F.gl 5 "InvalidHeld" rfl) (pm_var 4)) (pma_cons (pm_isE (k := 1) F.errs (F.kit 1 (by decide)) F.sp F.tk rfl (F.fr 6 "isinstance" rfl) rfl (F.gl 3 "InvalidNumber" rfl) (pm_var 4)) (pma_cons (pm_isE (k := 2) F.errs (F.kit 2 (by decide)) F.sp F.tk rfl (F.fr 6 "isinstance" rfl) rfl (F.gl 4 "InvalidText" rfl) (pm_var 4)) pma_nil))))) (psm_one (psm_ret (pm_op opM_add (pm_var 6) (pm_lst (pma_cons (pm_ifE (pm_cmpT opM_is (pm_var 4) pm_non (nomark _)) pm_non (pm_callB (callM_repr gd (hu200 hr)) rfl (F.fr 23 "repr" rfl) (by decide +kernel) (pma_cons (pm_valE F.errs (pm_var 4)) pma_nil))) pma_nil)))))))))
  exact ⟨fd, G, (FE.bindsN fun _ _ _ _ _ _ us hl => match us, hl with | [_, _, _, _], _ => rfl), FE.kp⟩
theorem got_law_refused (F : Fx w K mg base) : GotG w K mg base "_law_refused" 14 ["generator", "held", "text"] f_law_refused := by
  obtain ⟨fd, FD⟩ := F.d.def_ 26 (d := dfn "_law_refused" 35) rfl
  have FE : FunD K "_law_refused" "_law_refused" (defArgs (top 35)) (defBody (top 35)) (defScope (top 35)) [] [] (He.ga K "_law_refused") fd := FD
  obtain ⟨fd_law_bent, G_law_bent, b_law_bent, k_law_bent⟩ := got_law_bent F
  obtain ⟨fd_law_is, G_law_is, b_law_is, k_law_is⟩ := got_law_is F
  obtain ⟨fd_law_random, G_law_random, b_law_random, k_law_random⟩ := got_law_random F
  obtain ⟨fd_law_caught, G_law_caught, b_law_caught, k_law_caught⟩ := got_law_caught F
  have G : FnG PP w K mg base (L2.CX PP w) 14 (He.ga K "_law_refused") fd ["generator", "held", "text"] (SpM (Mk K) 3 (fun ds => noEr (fnM N_law_refused.length m_law_refused ds))) := fnG_ok0 (k := 13) (mb := m_law_refused) FE sc_law_refused (fun cdv A outer s H E hr gd => (psm_cons (psm_setLc (i := 3) (own := [("value", 10)]) (tg_name 10) (by decide) rfl sc_law_refused.nd rfl rfl (sw_true rfl rfl rfl (by decide +kernel)) (pmi_list (pm_call takes0 G_law_bent (hr.mono (by decide)) rfl (F.gl 48 "_law_bent" rfl) k_law_bent b_law_bent (pma_cons (pm_var 0) (pma_cons (pm_var 1) pma_nil)))) (blkOk_by (own := [("value", 10)]) (N := N_law_refused) (sc := defScope (top 35)) (by decide +kernel)) (fun _ _ _ _ _ => (pg_name (i := 10) sc_law_refused.nd rfl (.inl rfl))) (fun _ _ _ _ _ => (ptsm_one (pm_notT (pm_val (pm_call takes0 G_law_is (hr.mono (by decide)) rfl (F.gl 44 "_law_is" rfl) k_law_is b_law_is (pma_cons (pm_var 10) pma_nil)))))) (fun _ _ _ _ _ => (pm_var 10))) (psm_cons (psm_par (i := 8) (j := 9) rfl sc_law_refused.nd rfl rfl (by decide) rfl rfl (pma_cons (pm_ix rfl (pm_var 3) (pm_call takes0 G_law_random (hr.mono (by decide)) rfl (F.gl 38 "_law_random" rfl) k_law_random b_law_random (pma_cons (pm_var 0) (pma_cons (pm_callB (callM_len rfl) rfl (F.fr 15 "len" rfl) (by decide +kernel) (pma_cons (pm_var 3) pma_nil)) pma_nil))) (fun _ _ => rfl)) (pma_cons (pm_ix rfl (pm_lst (pma_cons pm_non (pma_cons (pm_op opM_sub pm_int pm_int) (pma_cons pm_int (pma_cons pm_bl (pma_cons pm_str (pma_cons (pm_lst (pma_cons pm_int pma_nil)) (pma_cons (pm_op opM_pow pm_int pm_int) pma_nil)))))))) (pm_call takes0 G_law_random (hr.mono (by decide)) rfl (F.gl 38 "_law_random" rfl) k_law_random b_law_random (pma_cons (pm_var 0) (pma_cons pm_int pma_nil))) (fun _ _ => rfl)) pma_nil)) (by rfl)) (psm_cons (psm_set (i := 4) sc_law_refused.nd rfl (by first | exact .inl rfl | exact .inr rfl) (pm_ix rfl (pm_lst (pma_cons pm_non (pma_cons pm_str (pma_cons pm_str (pma_cons pm_int (pma_cons (pm_lst (pma_cons pm_str pma_nil)) (pma_cons pm_str (pma_cons pm_bl pma_nil)))))))) (pm_call takes0 G_law_random (hr.mono (by decide)) rfl (F.gl 38 "_law_random" rfl) k_law_random b_law_random (pma_cons (pm_var 0) (pma_cons pm_int pma_nil))) (fun _ _ => rfl))) (psm_cons (psm_set (i := 5) sc_law_refused.nd rfl (by first | exact .inl rfl | exact .inr rfl) (pm_ix rfl (pm_lst (pma_cons pm_non (pma_cons pm_str (pma_cons pm_str (pma_cons pm_int (pma_cons (pm_lst (pma_cons pm_str pma_nil)) (pma_cons pm_str (pma_cons (pm_op opM_add (pm_var 2) pm_str) pma_nil)))))))) (pm_call takes0 G_law_random (hr.mono (by decide)) rfl (F.gl 38 "_law_random" rfl) k_law_random b_law_random (pma_cons (pm_var 0) (pma_cons pm_int pma_nil))) (fun _ _ => rfl))) (psm_cons (psm_set (i := 6) sc_law_refused.nd rfl (by first | exact .inl rfl | exact .inr rfl) (pm_lst (pma_cons (pm_lst (pma_cons pm_bl (pma_cons pm_bl (pma_cons pm_bl (pma_cons (pm_callB (callM_repr gd (hu200 hr)) rfl (F.fr 23 "repr" rfl) (by decide +kernel) (pma_cons (pm_var 8) pma_nil)) pma_nil))))) (pma_cons (pm_lst (pma_cons pm_bl (pma_cons pm_bl (pma_cons pm_bl (pma_cons (pm_callB (callM_repr gd (hu200 hr)) rfl (F.fr 23 "repr" rfl) (by decide +kernel) (pma_cons (pm_var 9) pma_nil)) pma_nil))))) (pma_cons (pm_lst (pma_cons pm_bl (pma_cons pm_bl (pma_cons pm_bl (pma_cons (pm_callB (callM_repr gd (hu200 hr)) rfl (F.fr 23 "repr" rfl) (by decide +kernel) (pma_cons (pm_var 4) pma_nil)) pma_nil))))) (pma_cons (pm_lst (pma_cons pm_bl (pma_cons pm_bl (pma_cons pm_bl (pma_cons (pm_callB (callM_repr gd (hu200 hr)) rfl (F.fr 23 "repr" rfl) (by decide +kernel) (pma_cons (pm_var 5) pma_nil)) pma_nil))))) pma_nil)))))) (psm_cons (psm_set (i := 7) sc_law_refused.nd rfl (by first | exact .inl rfl | exact .inr rfl) (pm_lst (pma_cons (pm_callG takes0 G_law_caught (hr.mono (by decide)) gd rfl (F.gl 50 "_law_caught" rfl) k_law_caught b_law_caught (pma_cons pm_int (pma_cons (pm_var 8) (pma_cons (pm_var 2) (pma_cons pm_non pma_nil))))) (pma_cons (pm_callG takes0 G_law_caught (hr.mono (by decide)) gd rfl (F.gl 50 "_law_caught" rfl) k_law_caught b_law_caught (pma_cons pm_int (pma_cons (pm_var 8) (pma_cons pm_int (pma_cons pm_str pma_nil))))) (pma_cons (pm_callG takes0 G_law_caught (hr.mono (by decide)) gd rfl (F.gl 50 "_law_caught" rfl) k_law_caught b_law_caught (pma_cons pm_int (pma_cons (pm_var 8) (pma_cons pm_int (pma_cons pm_non pma_nil))))) pma_nil))))) (psm_cons (psm_set (i := 7) sc_law_refused.nd rfl (by first | exact .inl rfl | exact .inr rfl) (pm_op opM_add (pm_var 7) (pm_lst (pma_cons (pm_callG takes0 G_law_caught (hr.mono (by decide)) gd rfl (F.gl 50 "_law_caught" rfl) k_law_caught b_law_caught (pma_cons pm_int (pma_cons (pm_var 8) (pma_cons (pm_var 5) (pma_cons pm_non pma_nil))))) (pma_cons (pm_callG takes0 G_law_caught (hr.mono (by decide)) gd rfl (F.gl 50 "_law_caught" rfl) k_law_caught b_law_caught (pma_cons pm_int (pma_cons (pm_var 8) (pma_cons (pm_var 9) (pma_cons (pm_var 4) pma_nil))))) (pma_cons (pm_callG takes0 G_law_caught (hr.mono (by decide)) gd rfl (F.gl 50 "_law_caught" rfl) k_law_caught b_law_caught (pma_cons pm_int (pma_cons (pm_var 8) (pma_cons (pm_var 9) (pma_cons pm_non pma_nil))))) pma_nil)))))) (psm_cons (psm_if (pm_cmpT (opM_ne (hu64 hr)) (pm_var 7) (pm_op opM_mul (pm_lst (pma_cons (pm_ix rfl (pm_var 6) pm_int (fun _ _ => rfl)) pma_nil)) pm_int) (nomark _)) (psm_one (psm_ret pm_bl)) psm_nil) (psm_cons (psm_if (pm_cmpT (opM_ne (hu64 hr)) (pm_lst (pma_cons (pm_callG takes0 G_law_caught (hr.mono (by decide)) gd rfl (F.gl 50 "_law_caught" rfl) k_law_caught b_law_caught (pma_cons pm_int (pma_cons (pm_var 1) (pma_cons (pm_var 9) (pma_cons pm_str pma_nil))))) (pma_cons (pm_callG takes0 G_law_caught (hr.mono (by decide)) gd rfl (F.gl 50 "_law_caught" rfl) k_law_caught b_law_caught (pma_cons pm_int (pma_cons (pm_var 1) (pma_cons (pm_var 9) (pma_cons (pm_var 4) pma_nil))))) (pma_cons (pm_callG takes0 G_law_caught (hr.mono (by decide)) gd rfl (F.gl 50 "_law_caught" rfl) k_law_caught b_law_caught (pma_cons pm_int (pma_cons (pm_var 1) (pma_cons (pm_var 9) (pma_cons pm_non pma_nil))))) pma_nil)))) (pm_op opM_mul (pm_lst (pma_cons (pm_ix rfl (pm_var 6) pm_int (fun _ _ => rfl)) pma_nil)) pm_int) (nomark _)) (psm_one (psm_ret pm_bl)) psm_nil) (psm_one (psm_ret (pm_cmp (opM_eq (hu64 hr)) (pm_lst (pma_cons (pm_callG takes0 G_law_caught (hr.mono (by decide)) gd rfl (F.gl 50 "_law_caught" rfl) k_law_caught b_law_caught (pma_cons pm_int (pma_cons (pm_var 1) (pma_cons pm_int (pma_cons (pm_var 4) pma_nil))))) (pma_cons (pm_callG takes0 G_law_caught (hr.mono (by decide)) gd rfl (F.gl 50 "_law_caught" rfl) k_law_caught b_law_caught (pma_cons pm_int (pma_cons (pm_var 1) (pma_cons (pm_var 5) (pma_cons pm_non pma_nil))))) pma_nil))) (pm_sl rfl (pm_var 6) (pmo_some pm_int) pmo_none) (nomark _))))))))))))))
  exact ⟨fd, G, (FE.bindsN fun _ _ _ _ _ _ us hl => match us, hl with | [_, _, _], _ => rfl), FE.kp⟩
theorem got_law_right (F : Fx w K mg base) : GotG w K mg base "_law_right" 15 ["generator"] f_law_right := by
  obtain ⟨fd, FD⟩ := F.d.def_ 27 (d := dfn "_law_right" 36) rfl
  have FE : FunD K "_law_right" "_law_right" (defArgs (top 36)) (defBody (top 36)) (defScope (top 36)) [] [] (He.ga K "_law_right") fd := FD
  obtain ⟨fd_law_drawn, G_law_drawn, b_law_drawn, k_law_drawn⟩ := got_law_drawn F
  obtain ⟨fd_law_sign, G_law_sign, b_law_sign, k_law_sign⟩ := got_law_sign F
  obtain ⟨fd_law_random, G_law_random, b_law_random, k_law_random⟩ := got_law_random F
  obtain ⟨fd_law_bent, G_law_bent, b_law_bent, k_law_bent⟩ := got_law_bent F
  obtain ⟨fd_law_is, G_law_is, b_law_is, k_law_is⟩ := got_law_is F
  obtain ⟨fd_law_same, G_law_same, b_law_same, k_law_same⟩ := got_law_same F 5
  obtain ⟨fd_is_held, G_is_held, b_is_held, k_is_held, kb_is_held⟩ := got_is_held F
  obtain ⟨fd_law_text, G_law_text, b_law_text, k_law_text⟩ := got_law_text F
  obtain ⟨fd_law_keeps, G_law_keeps, b_law_keeps, k_law_keeps⟩ := got_law_keeps F
  obtain ⟨fd_keeps, G_keeps, b_keeps, k_keeps, kb_keeps⟩ := got_keeps F
  obtain ⟨fd_held_with, G_held_with, b_held_with, k_held_with, kb_held_with⟩ := got_held_with F
  obtain ⟨fd_law_with, G_law_with, b_law_with, k_law_with⟩ := got_law_with F
  obtain ⟨fd_held_without, G_held_without, b_held_without, k_held_without, kb_held_without⟩ := got_held_without F
  obtain ⟨fd_law_refused, G_law_refused, b_law_refused, k_law_refused⟩ := got_law_refused F
  have G : FnG PP w K mg base (L2.CX PP w) 15 (He.ga K "_law_right") fd ["generator"] (SpM (Mk K) 1 (fun ds => noEr (fnM N_law_right.length m_law_right ds))) := fnG_ok0 (k := 14) (mb := m_law_right) FE sc_law_right (fun cdv A outer s H E hr gd => (psm_cons (psm_set (i := 1) sc_law_right.nd rfl (by first | exact .inl rfl | exact .inr rfl) (pm_call takes0 G_law_drawn (hr.mono (by decide)) rfl (F.gl 43 "_law_drawn" rfl) k_law_drawn b_law_drawn (pma_cons (pm_var 0) pma_nil))) (psm_cons (psm_asg (tg_three 6 7 8) (pm_tup (pma_cons (PE.m (pm_callTyF callM_list rfl (F.fr 10 "list" rfl) (by decide +kernel) (pma_cons (pm_var 1) pma_nil))) (pma_cons (pm_call takes0 G_law_random (hr.mono (by decide)) rfl (F.gl 38 "_law_random" rfl) k_law_random b_law_random (pma_cons (pm_var 0) (pma_cons (pm_ix rfl (pm_lst (pma_cons pm_int (pma_cons pm_int pma_nil))) (pm_call takes0 G_law_random (hr.mono (by decide)) rfl (F.gl 38 "_law_random" rfl) k_law_random b_law_random (pma_cons (pm_var 0) (pma_cons pm_int pma_nil))) (fun _ _ => rfl)) pma_nil))) (pma_cons (pm_call takes0 G_law_sign (hr.mono (by decide)) rfl (F.gl 42 "_law_sign" rfl) k_law_sign b_law_sign (pma_cons (pm_var 0) pma_nil)) pma_nil)))) (pg_tup rfl (pgs_cons (pg_name (i := 6) sc_law_right.nd rfl (by first | exact .inl rfl | exact .inr rfl)) (pgs_cons (pg_name (i := 7) sc_law_right.nd rfl (by first | exact .inl rfl | exact .inr rfl)) (pgs_cons (pg_name (i := 8) sc_law_right.nd rfl (by first | exact .inl rfl | exact .inr rfl)) pgs_nil))))) (psm_cons (psm_for (tg_name 2) PassesOwn.never rfl (pmi_list (pm_op opM_add (pm_lst (pma_cons (pm_var 1) pma_nil)) (pm_call takes0 G_law_bent (hr.mono (by decide)) rfl (F.gl 48 "_law_bent" rfl) k_law_bent b_law_bent (pma_cons (pm_var 0) (pma_cons (pm_var 1) pma_nil))))) (pg_name (i := 2) sc_law_right.nd rfl (.inl rfl)) (psm_cons (psm_par (i := 10) (j := 11) rfl sc_law_right.nd rfl rfl (by decide) rfl rfl (pma_cons (pm_call takes0 G_law_is (hr.mono (by decide)) rfl (F.gl 44 "_law_is" rfl) k_law_is b_law_is (pma_cons (pm_var 2) pma_nil)) (pma_cons (pm_callB (callM_repr gd (hu200 hr)) rfl (F.fr 23 "repr" rfl) (by decide +kernel) (pma_cons (pm_var 2) pma_nil)) pma_nil)) (by rfl)) (psm_one (psm_if (PW.pt (pmw_or (pm_notT (pm_val (pm_call takes0 G_law_same (hr.mono (by decide)) rfl (F.gl 41 "_law_same" rfl) k_law_same b_law_same (pma_cons (pm_lst (pma_cons (pm_call takes0 G_is_held (hr.mono (by decide)) rfl (F.gl 28 "is_held" rfl) k_is_held b_is_held (pma_cons (pm_var 2) pma_nil)) (pma_cons (pm_kw (G_is_held) (hr.mono (by decide)) rfl (F.gl 28 "is_held" rfl) k_is_held kb_is_held rfl (pkm_cons (pm_var 2) pkm_nil)) pma_nil))) (pma_cons (pm_lst (pma_cons (pm_var 10) (pma_cons (pm_var 10) pma_nil))) pma_nil))))) (pmw_or1 (pm_cmpT (opM_ne (hu64 hr)) (pm_callB (callM_repr gd (hu200 hr)) rfl (F.fr 23 "repr" rfl) (by decide +kernel) (pma_cons (pm_var 2) pma_nil)) (pm_var 11) (nomark _))))) (psm_one (psm_ret pm_bl)) psm_nil)))) (psm_cons (psm_for (tg_name 3) PassesOwn.never rfl (pmi_list (pm_op opM_add (PE.m (pm_lcF (own := [("turn", 12)]) (tg_name 12) (by decide) rfl sc_law_right.nd (pmi_range rfl (F.fr 16 "range" rfl) (pma_cons pm_int pma_nil)) (blkOk_by (own := [("turn", 12)]) (N := N_law_right) (sc := defScope (top 36)) (by decide +kernel)) (fun _ _ _ _ _ => (pg_name (i := 12) sc_law_right.nd rfl (.inl rfl))) (fun _ _ _ _ _ => ptsm_nil) (fun _ _ _ _ _ => (pm_call takes0 G_law_text (hr.mono (by decide)) rfl (F.gl 47 "_law_text" rfl) k_law_text b_law_text (pma_cons (pm_var 0) (pma_cons (pm_var 1) pma_nil)))))) (pm_lst (pma_cons pm_str (pma_cons pm_str (pma_cons pm_str (pma_cons pm_str (pma_cons pm_str (pma_cons pm_str pma_nil))))))))) (pg_name (i := 3) sc_law_right.nd rfl (.inl rfl)) (psm_one (psm_if (PW.pt (pmw_or (pm_notT (pm_val (pm_call takes0 G_law_same (hr.mono (by decide)) rfl (F.gl 41 "_law_same" rfl) k_law_same b_law_same (pma_cons (pm_call takes0 G_keeps (hr.mono (by decide)) rfl (F.gl 33 "keeps" rfl) k_keeps b_keeps (pma_cons (pm_var 1) (pma_cons (pm_var 3) pma_nil))) (pma_cons (pm_call takes0 G_law_keeps (hr.mono (by decide)) rfl (F.gl 45 "_law_keeps" rfl) k_law_keeps b_law_keeps (pma_cons (pm_var 1) (pma_cons (pm_var 3) pma_nil))) pma_nil))))) (pmw_or1 (pm_notT (pm_val (pm_call takes0 G_law_same (hr.mono (by decide)) rfl (F.gl 41 "_law_same" rfl) k_law_same b_law_same (pma_cons (pm_kw (G_keeps) (hr.mono (by decide)) rfl (F.gl 33 "keeps" rfl) k_keeps kb_keeps rfl (pkm_cons (pm_var 3) (pkm_cons (pm_var 1) pkm_nil))) (pma_cons (pm_call takes0 G_law_keeps (hr.mono (by decide)) rfl (F.gl 45 "_law_keeps" rfl) k_law_keeps b_law_keeps (pma_cons (pm_var 1) (pma_cons (pm_var 3) pma_nil))) pma_nil)))))))) (psm_one (psm_ret pm_bl)) psm_nil))) (psm_cons (psm_for (tg_name 4) PassesOwn.never rfl (pmi_list (pm_lst (pma_cons (pm_var 8) (pma_cons pm_str (pma_cons (pm_var 8) pma_nil))))) (pg_name (i := 4) sc_law_right.nd rfl (.inl rfl)) (psm_drop sc_law_right.nd rfl rfl (pm_callF takes0 G_held_with (hr.mono (by decide)) rfl (F.gl 35 "held_with" rfl) k_held_with b_held_with (pma_cons (pm_var 1) (pma_cons (pm_var 7) (pma_cons (pm_var 4) pma_nil)))) (PW.pt (pmw_or (pm_notT (pm_val (pm_call takes0 G_law_same (hr.mono (by decide)) rfl (F.gl 41 "_law_same" rfl) k_law_same b_law_same (pma_cons (pm_var 9) (pma_cons (pm_call takes0 G_law_with (hr.mono (by decide)) rfl (F.gl 46 "_law_with" rfl) k_law_with b_law_with (pma_cons (pm_var 1) (pma_cons (pm_var 7) (pma_cons (pm_var 4) pma_nil)))) pma_nil))))) (pmw_or1 (pm_notT (pm_val (pm_call takes0 G_law_is (hr.mono (by decide)) rfl (F.gl 44 "_law_is" rfl) k_law_is b_law_is (pma_cons (pm_var 9) pma_nil))))))) pm_bl (psm_one (psm_if (pm_notT (pm_val (pm_call takes0 G_law_same (hr.mono (by decide)) rfl (F.gl 41 "_law_same" rfl) k_law_same b_law_same (pma_cons (pm_kw (G_held_with.imp (fun _ _ _ _ h => h.toF)) (hr.mono (by decide)) rfl (F.gl 35 "held_with" rfl) k_held_with kb_held_with rfl (pkm_cons (pm_var 4) (pkm_cons (pm_var 7) (pkm_cons (pm_var 1) pkm_nil)))) (pma_cons (pm_call takes0 G_law_with (hr.mono (by decide)) rfl (F.gl 46 "_law_with" rfl) k_law_with b_law_with (pma_cons (pm_var 1) (pma_cons (pm_var 7) (pma_cons (pm_var 4) pma_nil)))) pma_nil))))) (psm_one (psm_ret pm_bl)) psm_nil)))) (psm_drop sc_law_right.nd rfl rfl (pm_callF takes0 G_held_without (hr.mono (by decide)) rfl (F.gl 36 "held_without" rfl) k_held_without b_held_without (pma_cons (pm_var 1) (pma_cons (pm_var 7) pma_nil))) (pm_notT (pm_val (pm_call takes0 G_law_same (hr.mono (by decide)) rfl (F.gl 41 "_law_same" rfl) k_law_same b_law_same (pma_cons (pm_var 5) (pma_cons (PE.m (pm_lcF (own := [("hold", 13)]) (tg_name 13) (by decide) rfl sc_law_right.nd (pmi_list (pm_var 1)) (blkOk_by (own := [("hold", 13)]) (N := N_law_right) (sc := defScope (top 36)) (by decide +kernel)) (fun _ _ _ _ _ => (pg_name (i := 13) sc_law_right.nd rfl (.inl rfl))) (fun _ _ _ _ _ => (ptsm_one (pm_cmpT (opM_ne (hu64 hr)) (pm_ix rfl (pm_var 13) pm_int (fun _ _ => rfl)) (pm_var 7) (nomark _)))) (fun _ _ _ _ _ => (pm_var 13)))) pma_nil))))) pm_bl (psm_cons (psm_if (PW.pt (pmw_or (pm_notT (pm_val (pm_call takes0 G_law_same (hr.mono (by decide)) rfl (F.gl 41 "_law_same" rfl) k_law_same b_law_same (pma_cons (pm_kw (G_held_without.imp (fun _ _ _ _ h => h.toF)) (hr.mono (by decide)) rfl (F.gl 36 "held_without" rfl) k_held_without kb_held_without rfl (pkm_cons (pm_var 7) (pkm_cons (pm_var 1) pkm_nil))) (pma_cons (PE.m (pm_lcF (own := [("hold", 13)]) (tg_name 13) (by decide) rfl sc_law_right.nd (pmi_list (pm_var 1)) (blkOk_by (own := [("hold", 13)]) (N := N_law_right) (sc := defScope (top 36)) (by decide +kernel)) (fun _ _ _ _ _ => (pg_name (i := 13) sc_law_right.nd rfl (.inl rfl))) (fun _ _ _ _ _ => (ptsm_one (pm_cmpT (opM_ne (hu64 hr)) (pm_ix rfl (pm_var 13) pm_int (fun _ _ => rfl)) (pm_var 7) (nomark _)))) (fun _ _ _ _ _ => (pm_var 13)))) pma_nil))))) (pmw_or1 (pm_cmpT (opM_ne (hu64 hr)) (pm_var 1) (pm_var 6) (nomark _))))) (psm_one (psm_ret pm_bl)) psm_nil) (psm_one (psm_ret (pm_and (pm_callG takes0 G_law_refused (hr.mono (by decide)) gd rfl (F.gl 51 "_law_refused" rfl) k_law_refused b_law_refused (pma_cons (pm_var 0) (pma_cons (pm_var 1) (pma_cons (pm_call takes0 G_law_text (hr.mono (by decide)) rfl (F.gl 47 "_law_text" rfl) k_law_text b_law_text (pma_cons (pm_var 0) (pma_cons (pm_var 1) pma_nil))) pma_nil)))) (pm_one (pm_cmp (opM_eq (hu64 hr)) (pm_var 1) (pm_var 6) (nomark _))))))))))))))
  exact ⟨fd, G, (FE.bindsN fun _ _ _ _ _ _ us hl => match us, hl with | [_], _ => rfl), FE.kp⟩
theorem got_law (F : Fx w K mg base) : GotG w K mg base "law" 16 ["script"] f_law := by
  obtain ⟨fd, FD⟩ := F.d.def_ 28 (d := dfn "law" 37) rfl
  have FE : FunD K "law" "law" (defArgs (top 37)) (defBody (top 37)) (defScope (top 37)) [] [] (He.ga K "law") fd := FD
  obtain ⟨fd_law_right, G_law_right, b_law_right, k_law_right⟩ := got_law_right F
  obtain ⟨fd_law_generator, G_law_generator, b_law_generator, k_law_generator⟩ := got_law_generator F
  obtain ⟨fd_held_with, G_held_with, b_held_with, k_held_with, kb_held_with⟩ := got_held_with F
  obtain ⟨fd_held_without, G_held_without, b_held_without, k_held_without, kb_held_without⟩ := got_held_without F
  obtain ⟨fd_law_same, G_law_same, b_law_same, k_law_same⟩ := got_law_same F 5
  obtain ⟨fd_keeps, G_keeps, b_keeps, k_keeps, kb_keeps⟩ := got_keeps F
  have G : FnG PP w K mg base (L2.CX PP w) 16 (He.ga K "law") fd ["script"] (SpM (Mk K) 1 (fun ds => noEr (fnM N_law.length m_law ds))) := fnG_ok0 (k := 15) (mb := m_law) FE sc_law (fun cdv A outer s H E hr gd => (psm_cons (psm_for (tg_name 1) PassesOwn.never rfl (pmi_range rfl (F.fr 16 "range" rfl) (pma_cons pm_int pma_nil)) (pg_name (i := 1) sc_law.nd rfl (.inl rfl)) (psm_one (psm_if (pm_notT (pm_val (pm_gen takes0 G_law_right (hr.mono (by decide)) gd rfl (F.gl 52 "_law_right" rfl) k_law_right b_law_right (pm_callF takes0 G_law_generator (hr.mono (by decide)) rfl (F.gl 40 "_law_generator" rfl) k_law_generator b_law_generator (pma_cons (pm_var 0) (pma_cons (pm_var 1) pma_nil)))))) (psm_one (psm_ret pm_bl)) psm_nil))) (psm_cons (psm_set (i := 2) sc_law.nd rfl (by first | exact .inl rfl | exact .inr rfl) (pm_lst (pma_cons (pm_call takes0 (G_held_with.imp (fun _ _ _ _ h => h.toF)) (hr.mono (by decide)) rfl (F.gl 35 "held_with" rfl) k_held_with b_held_with (pma_cons (pm_lst (pma_cons (pm_tup (pma_cons pm_int (pma_cons pm_str pma_nil))) (pma_cons (pm_tup (pma_cons pm_int (pma_cons pm_str pma_nil))) pma_nil))) (pma_cons pm_int (pma_cons pm_str pma_nil)))) (pma_cons (pm_call takes0 (G_held_with.imp (fun _ _ _ _ h => h.toF)) (hr.mono (by decide)) rfl (F.gl 35 "held_with" rfl) k_held_with b_held_with (pma_cons (pm_lst (pma_cons (pm_tup (pma_cons pm_int (pma_cons pm_str pma_nil))) (pma_cons (pm_tup (pma_cons pm_int (pma_cons pm_str pma_nil))) pma_nil))) (pma_cons pm_int (pma_cons pm_str pma_nil)))) (pma_cons (pm_call takes0 (G_held_with.imp (fun _ _ _ _ h => h.toF)) (hr.mono (by decide)) rfl (F.gl 35 "held_with" rfl) k_held_with b_held_with (pma_cons (pm_lst (pma_cons (pm_tup (pma_cons pm_int (pma_cons pm_str pma_nil))) (pma_cons (pm_tup (pma_cons pm_int (pma_cons pm_str pma_nil))) pma_nil))) (pma_cons pm_int (pma_cons pm_str pma_nil)))) (pma_cons (pm_call takes0 (G_held_with.imp (fun _ _ _ _ h => h.toF)) (hr.mono (by decide)) rfl (F.gl 35 "held_with" rfl) k_held_with b_held_with (pma_cons (pm_lst (pma_cons (pm_tup (pma_cons pm_int (pma_cons pm_str pma_nil))) (pma_cons (pm_tup (pma_cons pm_int (pma_cons pm_str pma_nil))) pma_nil))) (pma_cons pm_int (pma_cons pm_str pma_nil)))) pma_nil)))))) (psm_cons (psm_set (i := 3) sc_law.nd rfl (by first | exact .inl rfl | exact .inr rfl) (pm_lst (pma_cons (pm_lst (pma_cons (pm_tup (pma_cons pm_int (pma_cons pm_str pma_nil))) (pma_cons (pm_tup (pma_cons pm_int (pma_cons pm_str pma_nil))) (pma_cons (pm_tup (pma_cons pm_int (pma_cons pm_str pma_nil))) pma_nil)))) (pma_cons (pm_lst (pma_cons (pm_tup (pma_cons pm_int (pma_cons pm_str pma_nil))) (pma_cons (pm_tup (pma_cons pm_int (pma_cons pm_str pma_nil))) pma_nil))) (pma_cons (pm_lst (pma_cons (pm_tup (pma_cons pm_int (pma_cons pm_str pma_nil))) (pma_cons (pm_tup (pma_cons pm_int (pma_cons pm_str pma_nil))) pma_nil))) (pma_cons (pm_lst (pma_cons (pm_tup (pma_cons pm_int (pma_cons pm_str pma_nil))) (pma_cons (pm_tup (pma_cons pm_int (pma_cons pm_str pma_nil))) pma_nil))) pma_nil)))))) (psm_cons (psm_set (i := 2) sc_law.nd rfl (by first | exact .inl rfl | exact .inr rfl) (pm_op opM_add (pm_var 2) (pm_lst (pma_cons (pm_call takes0 (G_held_with.imp (fun _ _ _ _ h => h.toF)) (hr.mono (by decide)) rfl (F.gl 35 "held_with" rfl) k_held_with b_held_with (pma_cons (pm_lst (pma_cons (pm_tup (pma_cons pm_int (pma_cons pm_str pma_nil))) pma_nil)) (pma_cons pm_int (pma_cons pm_str pma_nil)))) (pma_cons (pm_call takes0 (G_held_with.imp (fun _ _ _ _ h => h.toF)) (hr.mono (by decide)) rfl (F.gl 35 "held_with" rfl) k_held_with b_held_with (pma_cons (pm_lst (pma_cons (pm_tup (pma_cons pm_int (pma_cons pm_str pma_nil))) pma_nil)) (pma_cons pm_int (pma_cons pm_str pma_nil)))) (pma_cons (pm_call takes0 (G_held_with.imp (fun _ _ _ _ h => h.toF)) (hr.mono (by decide)) rfl (F.gl 35 "held_with" rfl) k_held_with b_held_with (pma_cons (pm_lst pma_nil) (pma_cons pm_int (pma_cons pm_str pma_nil)))) (pma_cons (pm_call takes0 (G_held_without.imp (fun _ _ _ _ h => h.toF)) (hr.mono (by decide)) rfl (F.gl 36 "held_without" rfl) k_held_without b_held_without (pma_cons (pm_lst (pma_cons (pm_tup (pma_cons pm_int (pma_cons pm_str pma_nil))) pma_nil)) (pma_cons pm_int pma_nil))) (pma_cons (pm_call takes0 (G_held_without.imp (fun _ _ _ _ h => h.toF)) (hr.mono (by decide)) rfl (F.gl 36 "held_without" rfl) k_held_without b_held_without (pma_cons (pm_lst (pma_cons (pm_tup (pma_cons pm_int (pma_cons pm_str pma_nil))) pma_nil)) (pma_cons pm_int pma_nil))) pma_nil)))))))) (psm_one (psm_ret (pm_and (pm_call takes0 G_law_same (hr.mono (by decide)) rfl (F.gl 41 "_law_same" rfl) k_law_same b_law_same (pma_cons (pm_var 2) (pma_cons (pm_op opM_add (pm_var 3) (pm_lst (pma_cons (pm_lst (pma_cons (pm_tup (pma_cons pm_int (pma_cons pm_str pma_nil))) pma_nil)) (pma_cons (pm_lst (pma_cons (pm_tup (pma_cons pm_int (pma_cons pm_str pma_nil))) pma_nil)) (pma_cons (pm_lst (pma_cons (pm_tup (pma_cons pm_int (pma_cons pm_str pma_nil))) pma_nil)) (pma_cons (pm_lst pma_nil) (pma_cons (pm_lst (pma_cons (pm_tup (pma_cons pm_int (pma_cons pm_str pma_nil))) pma_nil)) pma_nil))))))) pma_nil))) (pm_and (pm_cmp opM_is (pm_call takes0 G_keeps (hr.mono (by decide)) rfl (F.gl 33 "keeps" rfl) k_keeps b_keeps (pma_cons (pm_lst (pma_cons (pm_tup (pma_cons pm_int (pma_cons pm_str pma_nil))) pma_nil)) (pma_cons (pm_op opM_mulS pm_str pm_int) pma_nil))) pm_bl (nomark _)) (pm_one (pm_cmp opM_is (pm_call takes0 G_keeps (hr.mono (by decide)) rfl (F.gl 33 "keeps" rfl) k_keeps b_keeps (pma_cons (pm_lst (pma_cons (pm_tup (pma_cons pm_int (pma_cons pm_str pma_nil))) pma_nil)) (pma_cons (pm_op opM_mulS pm_str pm_int) pma_nil))) pm_bl (nomark _))))))))))))
  exact ⟨fd, G, (FE.bindsN fun _ _ _ _ _ _ us hl => match us, hl with | [_], _ => rfl), FE.kp⟩
end
end K84

set_option Elab.async false
set_option linter.all false
set_option maxRecDepth 100000
set_option maxHeartbeats 1000000
namespace K84
open PySem PySem.Spec PyProof.Rows L2 GxR GenW Ink
theorem pure_bind' {α β : Type} (a : α) (f : α → Mo β) : (Mo.pure a).bind f = f a := rfl
theorem ofO_some {α : Type} (a : α) : Mo.ofO (some a) = Mo.pure a := rfl
def Mo.er {α : Type} (k : Nat) (d : D) : Mo α := fun s => some (.er k d, s)
theorem er_bind {α β : Type} (k : Nat) (d : D) (f : α → Mo β) : (Mo.er k d : Mo α).bind f = Mo.er k d := rfl
theorem er_fold {α : Type} (k : Nat) (d : D) : (fun s => some ((.er k d : Rs α), s)) = Mo.er k d := rfl
theorem assoc' {α β γ : Type} (x : Mo α) (f : α → Mo β) (g : β → Mo γ) : (x.bind f).bind g = x.bind fun a => (f a).bind g := by
  funext s
  unfold Mo.bind
  cases x s with
  | none => rfl
  | some p =>
    obtain ⟨r, s1⟩ := p
    cases r <;> rfl
theorem noEr_pure {α : Type} (a : α) : noEr (Mo.pure a) = Mo.pure a := rfl
theorem join_ss {d : D} : (some (some d)).join = some d := rfl
theorem asB_bl (b : Bool) : (D.bl b).asB = some b := rfl
theorem asI_int (b : Int) : (D.int b).asI = some b := rfl
theorem kit_NoneType_int : L2.kitB "NoneType" "int" = some false := by decide +kernel
theorem kit_bool_int : L2.kitB "bool" "int" = some true := by decide +kernel
theorem kit_int_int : L2.kitB "int" "int" = some true := by decide +kernel
theorem kit_str_int : L2.kitB "str" "int" = some false := by decide +kernel
theorem kit_list_int : L2.kitB "list" "int" = some false := by decide +kernel
theorem kit_tuple_int : L2.kitB "tuple" "int" = some false := by decide +kernel
theorem kit_dict_int : L2.kitB "dict" "int" = some false := by decide +kernel
theorem kit_NoneType_bool : L2.kitB "NoneType" "bool" = some false := by decide +kernel
theorem kit_bool_bool : L2.kitB "bool" "bool" = some true := by decide +kernel
theorem kit_int_bool : L2.kitB "int" "bool" = some false := by decide +kernel
theorem kit_str_bool : L2.kitB "str" "bool" = some false := by decide +kernel
theorem kit_list_bool : L2.kitB "list" "bool" = some false := by decide +kernel
theorem kit_tuple_bool : L2.kitB "tuple" "bool" = some false := by decide +kernel
theorem kit_dict_bool : L2.kitB "dict" "bool" = some false := by decide +kernel
theorem kit_NoneType_str : L2.kitB "NoneType" "str" = some false := by decide +kernel
theorem kit_bool_str : L2.kitB "bool" "str" = some false := by decide +kernel
theorem kit_int_str : L2.kitB "int" "str" = some false := by decide +kernel
theorem kit_str_str : L2.kitB "str" "str" = some true := by decide +kernel
theorem kit_list_str : L2.kitB "list" "str" = some false := by decide +kernel
theorem kit_tuple_str : L2.kitB "tuple" "str" = some false := by decide +kernel
theorem kit_dict_str : L2.kitB "dict" "str" = some false := by decide +kernel
theorem kit_NoneType_list : L2.kitB "NoneType" "list" = some false := by decide +kernel
theorem kit_bool_list : L2.kitB "bool" "list" = some false := by decide +kernel
theorem kit_int_list : L2.kitB "int" "list" = some false := by decide +kernel
theorem kit_str_list : L2.kitB "str" "list" = some false := by decide +kernel
theorem kit_list_list : L2.kitB "list" "list" = some true := by decide +kernel
theorem kit_tuple_list : L2.kitB "tuple" "list" = some false := by decide +kernel
theorem kit_dict_list : L2.kitB "dict" "list" = some false := by decide +kernel
theorem kit_NoneType_tuple : L2.kitB "NoneType" "tuple" = some false := by decide +kernel
theorem kit_bool_tuple : L2.kitB "bool" "tuple" = some false := by decide +kernel
theorem kit_int_tuple : L2.kitB "int" "tuple" = some false := by decide +kernel
theorem kit_str_tuple : L2.kitB "str" "tuple" = some false := by decide +kernel
theorem kit_list_tuple : L2.kitB "list" "tuple" = some false := by decide +kernel
theorem kit_tuple_tuple : L2.kitB "tuple" "tuple" = some true := by decide +kernel
theorem kit_dict_tuple : L2.kitB "dict" "tuple" = some false := by decide +kernel
theorem isi_NoneType_int : isD1 "int" .non = some (.bl false) := by
  unfold isD1
  rw [if_neg (by simp [D.ty])]
  simp only [D.ty]
  rw [kit_NoneType_int]
  rfl
theorem isi_bool_int (b : Bool) : isD1 "int" (.bl b) = some (.bl true) := by
  unfold isD1
  rw [if_neg (by simp [D.ty])]
  simp only [D.ty]
  rw [kit_bool_int]
  rfl
theorem isi_int_int (i : Int) : isD1 "int" (.int i) = some (.bl true) := by
  unfold isD1
  rw [if_neg (by simp [D.ty])]
  simp only [D.ty]
  rw [kit_int_int]
  rfl
theorem isi_str_int (x : Str) : isD1 "int" (.str x) = some (.bl false) := by
  unfold isD1
  rw [if_neg (by simp [D.ty])]
  simp only [D.ty]
  rw [kit_str_int]
  rfl
theorem isi_list_int (ds : List D) : isD1 "int" (.lst ds) = some (.bl false) := by
  unfold isD1
  rw [if_neg (by simp [D.ty])]
  simp only [D.ty]
  rw [kit_list_int]
  rfl
theorem isi_tuple_int (ds : List D) : isD1 "int" (.tup ds) = some (.bl false) := by
  unfold isD1
  rw [if_neg (by simp [D.ty])]
  simp only [D.ty]
  rw [kit_tuple_int]
  rfl
theorem isi_dict_int (kvs : List (Key × Str)) : isD1 "int" (.dic kvs) = some (.bl false) := by
  unfold isD1
  rw [if_neg (by simp [D.ty])]
  simp only [D.ty]
  rw [kit_dict_int]
  rfl
theorem isi_NoneType_bool : isD1 "bool" .non = some (.bl false) := by
  unfold isD1
  rw [if_neg (by simp [D.ty])]
  simp only [D.ty]
  rw [kit_NoneType_bool]
  rfl
theorem isi_bool_bool (b : Bool) : isD1 "bool" (.bl b) = some (.bl true) := by
  unfold isD1
  rw [if_neg (by simp [D.ty])]
  simp only [D.ty]
  rw [kit_bool_bool]
  rfl
theorem isi_int_bool (i : Int) : isD1 "bool" (.int i) = some (.bl false) := by
  unfold isD1
  rw [if_neg (by simp [D.ty])]
  simp only [D.ty]
  rw [kit_int_bool]
  rfl
theorem isi_str_bool (x : Str) : isD1 "bool" (.str x) = some (.bl false) := by
  unfold isD1
  rw [if_neg (by simp [D.ty])]
  simp only [D.ty]
  rw [kit_str_bool]
  rfl
theorem isi_list_bool (ds : List D) : isD1 "bool" (.lst ds) = some (.bl false) := by
  unfold isD1
  rw [if_neg (by simp [D.ty])]
  simp only [D.ty]
  rw [kit_list_bool]
  rfl
theorem isi_tuple_bool (ds : List D) : isD1 "bool" (.tup ds) = some (.bl false) := by
  unfold isD1
  rw [if_neg (by simp [D.ty])]
  simp only [D.ty]
  rw [kit_tuple_bool]
  rfl
theorem isi_dict_bool (kvs : List (Key × Str)) : isD1 "bool" (.dic kvs) = some (.bl false) := by
  unfold isD1
  rw [if_neg (by simp [D.ty])]
  simp only [D.ty]
  rw [kit_dict_bool]
  rfl
theorem isi_NoneType_str : isD1 "str" .non = some (.bl false) := by
  unfold isD1
  rw [if_neg (by simp [D.ty])]
  simp only [D.ty]
  rw [kit_NoneType_str]
  rfl
theorem isi_bool_str (b : Bool) : isD1 "str" (.bl b) = some (.bl false) := by
  unfold isD1
  rw [if_neg (by simp [D.ty])]
  simp only [D.ty]
  rw [kit_bool_str]
  rfl
theorem isi_int_str (i : Int) : isD1 "str" (.int i) = some (.bl false) := by
  unfold isD1
  rw [if_neg (by simp [D.ty])]
  simp only [D.ty]
  rw [kit_int_str]
  rfl
theorem isi_str_str (x : Str) : isD1 "str" (.str x) = some (.bl true) := by
  unfold isD1
  rw [if_neg (by simp [D.ty])]
  simp only [D.ty]
  rw [kit_str_str]
  rfl
theorem isi_list_str (ds : List D) : isD1 "str" (.lst ds) = some (.bl false) := by
  unfold isD1
  rw [if_neg (by simp [D.ty])]
  simp only [D.ty]
  rw [kit_list_str]
  rfl
theorem isi_tuple_str (ds : List D) : isD1 "str" (.tup ds) = some (.bl false) := by
  unfold isD1
  rw [if_neg (by simp [D.ty])]
  simp only [D.ty]
  rw [kit_tuple_str]
  rfl
theorem isi_dict_str (kvs : List (Key × Str)) : isD1 "str" (.dic kvs) = some (.bl false) := by
  unfold isD1
  rw [if_neg (by simp [D.ty])]
  simp only [D.ty]
  rw [kit_dict_str]
  rfl
theorem isi_NoneType_list : isD1 "list" .non = some (.bl false) := by
  unfold isD1
  rw [if_neg (by simp [D.ty])]
  simp only [D.ty]
  rw [kit_NoneType_list]
  rfl
theorem isi_bool_list (b : Bool) : isD1 "list" (.bl b) = some (.bl false) := by
  unfold isD1
  rw [if_neg (by simp [D.ty])]
  simp only [D.ty]
  rw [kit_bool_list]
  rfl
theorem isi_int_list (i : Int) : isD1 "list" (.int i) = some (.bl false) := by
  unfold isD1
  rw [if_neg (by simp [D.ty])]
  simp only [D.ty]
  rw [kit_int_list]
  rfl
theorem isi_str_list (x : Str) : isD1 "list" (.str x) = some (.bl false) := by
  unfold isD1
  rw [if_neg (by simp [D.ty])]
  simp only [D.ty]
  rw [kit_str_list]
  rfl
theorem isi_list_list (ds : List D) : isD1 "list" (.lst ds) = some (.bl true) := by
  unfold isD1
  rw [if_neg (by simp [D.ty])]
  simp only [D.ty]
  rw [kit_list_list]
  rfl
theorem isi_tuple_list (ds : List D) : isD1 "list" (.tup ds) = some (.bl false) := by
  unfold isD1
  rw [if_neg (by simp [D.ty])]
  simp only [D.ty]
  rw [kit_tuple_list]
  rfl
theorem isi_dict_list (kvs : List (Key × Str)) : isD1 "list" (.dic kvs) = some (.bl false) := by
  unfold isD1
  rw [if_neg (by simp [D.ty])]
  simp only [D.ty]
  rw [kit_dict_list]
  rfl
theorem isi_NoneType_tuple : isD1 "tuple" .non = some (.bl false) := by
  unfold isD1
  rw [if_neg (by simp [D.ty])]
  simp only [D.ty]
  rw [kit_NoneType_tuple]
  rfl
theorem isi_bool_tuple (b : Bool) : isD1 "tuple" (.bl b) = some (.bl false) := by
  unfold isD1
  rw [if_neg (by simp [D.ty])]
  simp only [D.ty]
  rw [kit_bool_tuple]
  rfl
theorem isi_int_tuple (i : Int) : isD1 "tuple" (.int i) = some (.bl false) := by
  unfold isD1
  rw [if_neg (by simp [D.ty])]
  simp only [D.ty]
  rw [kit_int_tuple]
  rfl
theorem isi_str_tuple (x : Str) : isD1 "tuple" (.str x) = some (.bl false) := by
  unfold isD1
  rw [if_neg (by simp [D.ty])]
  simp only [D.ty]
  rw [kit_str_tuple]
  rfl
theorem isi_list_tuple (ds : List D) : isD1 "tuple" (.lst ds) = some (.bl false) := by
  unfold isD1
  rw [if_neg (by simp [D.ty])]
  simp only [D.ty]
  rw [kit_list_tuple]
  rfl
theorem isi_tuple_tuple (ds : List D) : isD1 "tuple" (.tup ds) = some (.bl true) := by
  unfold isD1
  rw [if_neg (by simp [D.ty])]
  simp only [D.ty]
  rw [kit_tuple_tuple]
  rfl
theorem isi_dict_tuple (kvs : List (Key × Str)) : isD1 "tuple" (.dic kvs) = some (.bl false) := by
  unfold isD1
  rw [if_neg (by simp [D.ty])]
  simp only [D.ty]
  rw [kit_dict_tuple]
  rfl
theorem isi_NoneType_two : isD2 .non = some (.bl false) := by
  unfold isD2
  rw [if_neg (by simp [D.ty])]
  simp only [D.ty]
  rw [kit_NoneType_list, Option.bind_some, kit_NoneType_tuple]
  rfl
theorem isi_bool_two (b : Bool) : isD2 (.bl b) = some (.bl false) := by
  unfold isD2
  rw [if_neg (by simp [D.ty])]
  simp only [D.ty]
  rw [kit_bool_list, Option.bind_some, kit_bool_tuple]
  rfl
theorem isi_int_two (i : Int) : isD2 (.int i) = some (.bl false) := by
  unfold isD2
  rw [if_neg (by simp [D.ty])]
  simp only [D.ty]
  rw [kit_int_list, Option.bind_some, kit_int_tuple]
  rfl
theorem isi_str_two (x : Str) : isD2 (.str x) = some (.bl false) := by
  unfold isD2
  rw [if_neg (by simp [D.ty])]
  simp only [D.ty]
  rw [kit_str_list, Option.bind_some, kit_str_tuple]
  rfl
theorem isi_list_two (ds : List D) : isD2 (.lst ds) = some (.bl true) := by
  unfold isD2
  rw [if_neg (by simp [D.ty])]
  simp only [D.ty]
  rw [kit_list_list, Option.bind_some, kit_list_tuple]
  rfl
theorem isi_tuple_two (ds : List D) : isD2 (.tup ds) = some (.bl true) := by
  unfold isD2
  rw [if_neg (by simp [D.ty])]
  simp only [D.ty]
  rw [kit_tuple_list, Option.bind_some, kit_tuple_tuple]
  rfl
theorem isi_dict_two (kvs : List (Key × Str)) : isD2 (.dic kvs) = some (.bl false) := by
  unfold isD2
  rw [if_neg (by simp [D.ty])]
  simp only [D.ty]
  rw [kit_dict_list, Option.bind_some, kit_dict_tuple]
  rfl

/-- the kind of data -/
def _root_.Ink.D.kn : D → Nat
  | .non => 0 | .bl _ => 1 | .int _ => 2 | .str _ => 3 | .lst _ => 4 | .tup _ => 5 | .dic _ => 6 | _ => 7
/-- a count to 60 -/
def cnt : D → Bool
  | .int i => decide (0 ≤ i) && decide (i ≤ 60)
  | _ => false
theorem ev_is_count {d : D} (h : d.kn < 7) : f_is_count [d, .int 60] = Mo.pure (.bl (cnt d)) := by
  cases d with
  | int i =>
    by_cases hi : i < 0
    · have h0 : ¬ 0 ≤ i := by omega
      simp [f_is_count, m_is_count, ltD, leD, isD, cnt, hi, h0, fnM, fnF, mSeq, mIf, mOr, mAnd, mNot, mB, mUn, mOp, mVar, mC, mRet, mSkip, mOrV, mAndV, mIfE, mCons, mNil, mTup, mLst, mBt, mCall, mCallR, mSet, mDrop, mRaise, noRt, mSl, mPt, mNoP, mPar, mAsg, mYes, mChain, pure_bind', ofO_some, er_bind, assoc', noEr_pure, join_ss, asB_bl, asI_int, List.getElem?_cons_zero, List.getElem?_cons_succ, List.set_cons_zero, List.set_cons_succ, List.map_cons, List.map_nil, List.length_cons, List.length_nil, List.cons_append, List.nil_append, List.replicate, isi_NoneType_int, isi_bool_int, isi_int_int, isi_str_int, isi_list_int, isi_tuple_int, isi_dict_int, isi_NoneType_bool, isi_bool_bool, isi_int_bool, isi_str_bool, isi_list_bool, isi_tuple_bool, isi_dict_bool, isi_NoneType_str, isi_bool_str, isi_int_str, isi_str_str, isi_list_str, isi_tuple_str, isi_dict_str, isi_NoneType_list, isi_bool_list, isi_int_list, isi_str_list, isi_list_list, isi_tuple_list, isi_dict_list, isi_NoneType_tuple, isi_bool_tuple, isi_int_tuple, isi_str_tuple, isi_list_tuple, isi_tuple_tuple, isi_dict_tuple, isi_NoneType_two, isi_bool_two, isi_int_two, isi_str_two, isi_list_two, isi_tuple_two, isi_dict_two]
    · have h0 : 0 ≤ i := by omega
      simp [f_is_count, m_is_count, ltD, leD, isD, cnt, hi, h0, fnM, fnF, mSeq, mIf, mOr, mAnd, mNot, mB, mUn, mOp, mVar, mC, mRet, mSkip, mOrV, mAndV, mIfE, mCons, mNil, mTup, mLst, mBt, mCall, mCallR, mSet, mDrop, mRaise, noRt, mSl, mPt, mNoP, mPar, mAsg, mYes, mChain, pure_bind', ofO_some, er_bind, assoc', noEr_pure, join_ss, asB_bl, asI_int, List.getElem?_cons_zero, List.getElem?_cons_succ, List.set_cons_zero, List.set_cons_succ, List.map_cons, List.map_nil, List.length_cons, List.length_nil, List.cons_append, List.nil_append, List.replicate, isi_NoneType_int, isi_bool_int, isi_int_int, isi_str_int, isi_list_int, isi_tuple_int, isi_dict_int, isi_NoneType_bool, isi_bool_bool, isi_int_bool, isi_str_bool, isi_list_bool, isi_tuple_bool, isi_dict_bool, isi_NoneType_str, isi_bool_str, isi_int_str, isi_str_str, isi_list_str, isi_tuple_str, isi_dict_str, isi_NoneType_list, isi_bool_list, isi_int_list, isi_str_list, isi_list_list, isi_tuple_list, isi_dict_list, isi_NoneType_tuple, isi_bool_tuple, isi_int_tuple, isi_str_tuple, isi_list_tuple, isi_tuple_tuple, isi_dict_tuple, isi_NoneType_two, isi_bool_two, isi_int_two, isi_str_two, isi_list_two, isi_tuple_two, isi_dict_two]
  | _ => first
    | (simp [f_is_count, m_is_count, ltD, leD, isD, cnt, fnM, fnF, mSeq, mIf, mOr, mAnd, mNot, mB, mUn, mOp, mVar, mC, mRet, mSkip, mOrV, mAndV, mIfE, mCons, mNil, mTup, mLst, mBt, mCall, mCallR, mSet, mDrop, mRaise, noRt, mSl, mPt, mNoP, mPar, mAsg, mYes, mChain, pure_bind', ofO_some, er_bind, assoc', noEr_pure, join_ss, asB_bl, asI_int, List.getElem?_cons_zero, List.getElem?_cons_succ, List.set_cons_zero, List.set_cons_succ, List.map_cons, List.map_nil, List.length_cons, List.length_nil, List.cons_append, List.nil_append, List.replicate, isi_NoneType_int, isi_bool_int, isi_int_int, isi_str_int, isi_list_int, isi_tuple_int, isi_dict_int, isi_NoneType_bool, isi_bool_bool, isi_int_bool, isi_str_bool, isi_list_bool, isi_tuple_bool, isi_dict_bool, isi_NoneType_str, isi_bool_str, isi_int_str, isi_str_str, isi_list_str, isi_tuple_str, isi_dict_str, isi_NoneType_list, isi_bool_list, isi_int_list, isi_str_list, isi_list_list, isi_tuple_list, isi_dict_list, isi_NoneType_tuple, isi_bool_tuple, isi_int_tuple, isi_str_tuple, isi_list_tuple, isi_tuple_tuple, isi_dict_tuple, isi_NoneType_two, isi_bool_two, isi_int_two, isi_str_two, isi_list_two, isi_tuple_two, isi_dict_two]; done)
    | (simp [D.kn] at h; done)
end K84

set_option Elab.async false
set_option linter.all false
set_option maxRecDepth 100000
set_option maxHeartbeats 1000000
namespace K84
open PySem PySem.Spec PyProof.Rows L2 GxR GenW Ink
theorem gx_pure {z : Bool} {t : MTg} {env : Envd} {tt : MT} {te : ME} (e1 : D → Envd) (p : D → Bool) : ∀ {ds : List D}, (∀ d ∈ ds, t d env = some (e1 d) ∧ tt (e1 d) = Mo.pure true ∧ te (e1 d) = Mo.pure (.bl (p d))) → gxM z t env tt te ds = Mo.pure (.bl (if z = true then ds.all p else ds.any p))
  | [], _ => by cases z <;> rfl
  | d :: ds, h => by
    obtain ⟨h1, h2, h3⟩ := h d List.mem_cons_self
    have ih := gx_pure (z := z) (t := t) (env := env) (tt := tt) (te := te) e1 p (ds := ds) fun x hx => h x (List.mem_cons_of_mem _ hx)
    unfold gxM
    rw [h1, ofO_some, pure_bind', h2, noEr_pure, pure_bind', if_pos rfl, h3, noEr_pure, pure_bind', asB_bl, ofO_some, pure_bind']
    cases hp : p d with
    | true =>
      cases z with
      | true =>
        rw [if_pos rfl, ih, List.all_cons, hp, Bool.true_and]
        rfl
      | false =>
        rw [if_neg (by decide), List.any_cons, hp]
        rfl
    | false =>
      cases z with
      | true =>
        rw [if_neg (by decide), List.all_cons, hp]
        rfl
      | false =>
        rw [if_pos rfl, ih, List.any_cons, hp, Bool.false_or]
        rfl
theorem lc_pure {t : MTg} {env : Envd} {tt : MT} {te : ME} (e1 : D → Envd) (q : D → Bool) (f : D → D) : ∀ {ds : List D}, (∀ d ∈ ds, t d env = some (e1 d) ∧ tt (e1 d) = Mo.pure (q d) ∧ (q d = true → te (e1 d) = Mo.pure (f d))) → lcM t env tt te ds = Mo.pure ((ds.filter q).map f)
  | [], _ => rfl
  | d :: ds, h => by
    obtain ⟨h1, h2, h3⟩ := h d List.mem_cons_self
    have ih := lc_pure (t := t) (env := env) (tt := tt) (te := te) e1 q f (ds := ds) fun x hx => h x (List.mem_cons_of_mem _ hx)
    unfold lcM
    rw [h1, ofO_some, pure_bind', h2, noEr_pure, pure_bind']
    cases hq : q d with
    | true =>
      rw [if_pos rfl, h3 hq, noEr_pure, pure_bind', ih, pure_bind', List.filter_cons_of_pos hq, List.map_cons]
    | false =>
      rw [if_neg (by decide), ih, List.filter_cons_of_neg (by rw [hq]; decide)]
/-- the signs -/
def SG : Str := " 0123456789abcdefghijklmnopqrstuvwxyz"
def okC (c : Nat) : Bool := decide (c ∈ SG.cps.toList)
def okS (x : Str) : Bool := x.cps.toList.all okC
def txtD : D → Bool
  | .str x => okS x
  | _ => false
theorem in_one (c : Nat) : inD (.str ⟨#[c]⟩) (.str SG) = some (.bl (okC c)) := by
  show some (D.bl (!(Builtin.Str.occurrences SG ⟨#[c]⟩ 0 SG.length 1).isEmpty)) = _
  rw [PySem.StrLaws.found_one SG c]
  rfl
theorem ev_is_text {d : D} (h : d.kn < 7) : f_is_text_of_signs [d] = Mo.pure (.bl (txtD d)) := by
  cases d with
  | str x =>
    have g := gx_pure (z := true) (t := tgN 1) (env := wipeD [some (.str x), none] [1]) (tt := mYes) (te := mOp inD (mVar 1) (mC (.str SG))) (fun d => [some (.str x), some d]) (fun d => match d with | .str y => y.cps.toList.all okC | _ => false) (ds := x.cps.toList.map fun c => D.str ⟨#[c]⟩) (fun d hd => by
      obtain ⟨c, _, rfl⟩ := List.mem_map.mp hd
      refine ⟨by simp [tgN, wipeD], rfl, ?_⟩
      simp [in_one, fnM, fnF, mSeq, mIf, mOr, mAnd, mNot, mB, mUn, mOp, mVar, mC, mRet, mSkip, mOrV, mAndV, mIfE, mCons, mNil, mTup, mLst, mBt, mCall, mCallR, mSet, mDrop, mRaise, noRt, mSl, mPt, mNoP, mPar, mAsg, mYes, mChain, pure_bind', ofO_some, er_bind, assoc', noEr_pure, join_ss, asB_bl, asI_int, List.getElem?_cons_zero, List.getElem?_cons_succ, List.set_cons_zero, List.set_cons_succ, List.map_cons, List.map_nil, List.length_cons, List.length_nil, List.cons_append, List.nil_append, List.replicate, isi_NoneType_int, isi_bool_int, isi_int_int, isi_str_int, isi_list_int, isi_tuple_int, isi_dict_int, isi_NoneType_bool, isi_bool_bool, isi_int_bool, isi_str_bool, isi_list_bool, isi_tuple_bool, isi_dict_bool, isi_NoneType_str, isi_bool_str, isi_int_str, isi_str_str, isi_list_str, isi_tuple_str, isi_dict_str, isi_NoneType_list, isi_bool_list, isi_int_list, isi_str_list, isi_list_list, isi_tuple_list, isi_dict_list, isi_NoneType_tuple, isi_bool_tuple, isi_int_tuple, isi_str_tuple, isi_list_tuple, isi_tuple_tuple, isi_dict_tuple, isi_NoneType_two, isi_bool_two, isi_int_two, isi_str_two, isi_list_two, isi_tuple_two, isi_dict_two])
    have e : (x.cps.toList.map fun c => D.str ⟨#[c]⟩).all (fun d => match d with | .str y => y.cps.toList.all okC | _ => false) = okS x := by
      rw [List.all_map]
      simp [okS, Function.comp_def]
    rw [if_pos rfl, e] at g
    simp [f_is_text_of_signs, m_is_text_of_signs, mGx, mIt, itsS, fnM, fnF, mSeq, mIf, mOr, mAnd, mNot, mB, mUn, mOp, mVar, mC, mRet, mSkip, mOrV, mAndV, mIfE, mCons, mNil, mTup, mLst, mBt, mCall, mCallR, mSet, mDrop, mRaise, noRt, mSl, mPt, mNoP, mPar, mAsg, mYes, mChain, pure_bind', ofO_some, er_bind, assoc', noEr_pure, join_ss, asB_bl, asI_int, List.getElem?_cons_zero, List.getElem?_cons_succ, List.set_cons_zero, List.set_cons_succ, List.map_cons, List.map_nil, List.length_cons, List.length_nil, List.cons_append, List.nil_append, List.replicate, isi_NoneType_int, isi_bool_int, isi_int_int, isi_str_int, isi_list_int, isi_tuple_int, isi_dict_int, isi_NoneType_bool, isi_bool_bool, isi_int_bool, isi_str_bool, isi_list_bool, isi_tuple_bool, isi_dict_bool, isi_NoneType_str, isi_bool_str, isi_int_str, isi_str_str, isi_list_str, isi_tuple_str, isi_dict_str, isi_NoneType_list, isi_bool_list, isi_int_list, isi_str_list, isi_list_list, isi_tuple_list, isi_dict_list, isi_NoneType_tuple, isi_bool_tuple, isi_int_tuple, isi_str_tuple, isi_list_tuple, isi_tuple_tuple, isi_dict_tuple, isi_NoneType_two, isi_bool_two, isi_int_two, isi_str_two, isi_list_two, isi_tuple_two, isi_dict_two]
    show noEr ((gxM true (tgN 1) (wipeD [some (D.str x), none] [1]) mYes (mOp inD (mVar 1) (mC (D.str SG))) _).bind _) = _
    rw [g]
    simp [txtD, fnM, fnF, mSeq, mIf, mOr, mAnd, mNot, mB, mUn, mOp, mVar, mC, mRet, mSkip, mOrV, mAndV, mIfE, mCons, mNil, mTup, mLst, mBt, mCall, mCallR, mSet, mDrop, mRaise, noRt, mSl, mPt, mNoP, mPar, mAsg, mYes, mChain, pure_bind', ofO_some, er_bind, assoc', noEr_pure, join_ss, asB_bl, asI_int, List.getElem?_cons_zero, List.getElem?_cons_succ, List.set_cons_zero, List.set_cons_succ, List.map_cons, List.map_nil, List.length_cons, List.length_nil, List.cons_append, List.nil_append, List.replicate, isi_NoneType_int, isi_bool_int, isi_int_int, isi_str_int, isi_list_int, isi_tuple_int, isi_dict_int, isi_NoneType_bool, isi_bool_bool, isi_int_bool, isi_str_bool, isi_list_bool, isi_tuple_bool, isi_dict_bool, isi_NoneType_str, isi_bool_str, isi_int_str, isi_str_str, isi_list_str, isi_tuple_str, isi_dict_str, isi_NoneType_list, isi_bool_list, isi_int_list, isi_str_list, isi_list_list, isi_tuple_list, isi_dict_list, isi_NoneType_tuple, isi_bool_tuple, isi_int_tuple, isi_str_tuple, isi_list_tuple, isi_tuple_tuple, isi_dict_tuple, isi_NoneType_two, isi_bool_two, isi_int_two, isi_str_two, isi_list_two, isi_tuple_two, isi_dict_two]
  | _ => first
    | (simp [f_is_text_of_signs, m_is_text_of_signs, txtD, fnM, fnF, mSeq, mIf, mOr, mAnd, mNot, mB, mUn, mOp, mVar, mC, mRet, mSkip, mOrV, mAndV, mIfE, mCons, mNil, mTup, mLst, mBt, mCall, mCallR, mSet, mDrop, mRaise, noRt, mSl, mPt, mNoP, mPar, mAsg, mYes, mChain, pure_bind', ofO_some, er_bind, assoc', noEr_pure, join_ss, asB_bl, asI_int, List.getElem?_cons_zero, List.getElem?_cons_succ, List.set_cons_zero, List.set_cons_succ, List.map_cons, List.map_nil, List.length_cons, List.length_nil, List.cons_append, List.nil_append, List.replicate, isi_NoneType_int, isi_bool_int, isi_int_int, isi_str_int, isi_list_int, isi_tuple_int, isi_dict_int, isi_NoneType_bool, isi_bool_bool, isi_int_bool, isi_str_bool, isi_list_bool, isi_tuple_bool, isi_dict_bool, isi_NoneType_str, isi_bool_str, isi_int_str, isi_str_str, isi_list_str, isi_tuple_str, isi_dict_str, isi_NoneType_list, isi_bool_list, isi_int_list, isi_str_list, isi_list_list, isi_tuple_list, isi_dict_list, isi_NoneType_tuple, isi_bool_tuple, isi_int_tuple, isi_str_tuple, isi_list_tuple, isi_tuple_tuple, isi_dict_tuple, isi_NoneType_two, isi_bool_two, isi_int_two, isi_str_two, isi_list_two, isi_tuple_two, isi_dict_two]; done)
    | (simp [D.kn] at h; done)
end K84

set_option Elab.async false
set_option linter.all false
set_option maxRecDepth 100000
set_option maxHeartbeats 1000000
namespace K84
open PySem PySem.Spec PyProof.Rows L2 GxR GenW Ink
-- data of some size
mutual
def _root_.Ink.D.wf : D → Bool
  | .non => true | .bl _ => true | .int _ => true
  | .str x => PyData.strOk x && decide (x.length ≤ 1000)
  | .lst ds => decide (ds.length ≤ 1000) && wfA ds
  | .tup ds => decide (ds.length ≤ 1000) && wfA ds
  | .dic kvs => kvs.isEmpty
  | _ => false
def wfA : List D → Bool
  | [] => true
  | d :: ds => d.wf && wfA ds
end
theorem wf_kn {d : D} (h : d.wf = true) : d.kn < 7 := by
  cases d <;> first | (simp [D.kn]; done) | (simp [D.wf] at h; done)
theorem wfA_mem : ∀ {ds : List D} {d : D}, wfA ds = true → d ∈ ds → d.wf = true
  | x :: ds, d, h, m => by
    have h' : x.wf = true ∧ wfA ds = true := by simpa [wfA] using h
    rcases List.mem_cons.mp m with rfl | m
    · exact h'.1
    · exact wfA_mem h'.2 m
theorem eqD_int (i j : Int) : eqD (.int i) (.int j) = some (.bl (i == j)) := by
  simp [eqD, D.eqOk, D.pl, D.py, SeqAt.shaped, PyData.canLay0, PyData.depth, PyData.eqv]
theorem neD_int (i j : Int) : neD (.int i) (.int j) = some (.bl (!(i == j))) := by
  simp [neD, D.eqOk, D.pl, D.py, SeqAt.shaped, PyData.canLay0, PyData.depth, PyData.eqv]
theorem eqD_bl (i j : Bool) : eqD (.bl i) (.bl j) = some (.bl (i == j)) := by
  simp [eqD, D.eqOk, D.pl, D.py, SeqAt.shaped, PyData.canLay0, PyData.depth, PyData.eqv]
theorem neD_bl (i j : Bool) : neD (.bl i) (.bl j) = some (.bl (!(i == j))) := by
  simp [neD, D.eqOk, D.pl, D.py, SeqAt.shaped, PyData.canLay0, PyData.depth, PyData.eqv]
theorem eqD_str {x y : Str} (hx : PyData.strOk x = true) (hy : PyData.strOk y = true) : eqD (.str x) (.str y) = some (.bl (x == y)) := by
  simp [eqD, D.eqOk, D.pl, D.py, SeqAt.shaped, PyData.canLay0, PyData.depth, PyData.eqv, hx, hy]
theorem neD_str {x y : Str} (hx : PyData.strOk x = true) (hy : PyData.strOk y = true) : neD (.str x) (.str y) = some (.bl (!(x == y))) := by
  simp [neD, D.eqOk, D.pl, D.py, SeqAt.shaped, PyData.canLay0, PyData.depth, PyData.eqv, hx, hy]
theorem ok_emp : PyData.strOk ("" : Str) = true := by decide +kernel
/-- a hold -/
def shB : D → Bool
  | .str x => decide (x.length < 2)
  | _ => false
def holdB : D → Bool
  | .tup [a, b] => cnt a && (txtD b && shB b)
  | _ => false
theorem at0 (a b : D) : ixD (.tup [a, b]) (.int 0) = some a := rfl
theorem at1 (a b : D) : ixD (.tup [a, b]) (.int 1) = some b := rfl
theorem ev_is_hold {d : D} (h : d.wf = true) : f_is_hold [d] = Mo.pure (.bl (holdB d)) := by
  cases d with
  | tup ds =>
    have h' : ds.length ≤ 1000 ∧ wfA ds = true := by simpa [D.wf] using h
    by_cases hl : ds.length = 2
    · match ds, hl with
      | [a, b], _ =>
        have ha := wfA_mem h'.2 (show a ∈ [a, b] by simp)
        have hb := wfA_mem h'.2 (show b ∈ [a, b] by simp)
        have e1 := ev_is_count (wf_kn ha)
        have e2 := ev_is_text (wf_kn hb)
        have hlen : txtD b = true → lenD [b] = some (.int (match b with | .str x => (x.length : Int) | _ => 0)) := fun ht => by
          cases b with
          | str x =>
            have hx : PyData.strOk x = true ∧ x.length ≤ 1000 := by simpa [D.wf] using hb
            simp [lenD]
            omega
          | _ => simp [txtD] at ht
        cases hc : cnt a with
        | false => simp [f_is_hold, m_is_hold, lenD, neD_int, at0, at1, e1, hc, holdB, fnM, fnF, mSeq, mIf, mOr, mAnd, mNot, mB, mUn, mOp, mVar, mC, mRet, mSkip, mOrV, mAndV, mIfE, mCons, mNil, mTup, mLst, mBt, mCall, mCallR, mSet, mDrop, mRaise, noRt, mSl, mPt, mNoP, mPar, mAsg, mYes, mChain, pure_bind', ofO_some, er_bind, assoc', noEr_pure, join_ss, asB_bl, asI_int, List.getElem?_cons_zero, List.getElem?_cons_succ, List.set_cons_zero, List.set_cons_succ, List.map_cons, List.map_nil, List.length_cons, List.length_nil, List.cons_append, List.nil_append, List.replicate, isi_NoneType_int, isi_bool_int, isi_int_int, isi_str_int, isi_list_int, isi_tuple_int, isi_dict_int, isi_NoneType_bool, isi_bool_bool, isi_int_bool, isi_str_bool, isi_list_bool, isi_tuple_bool, isi_dict_bool, isi_NoneType_str, isi_bool_str, isi_int_str, isi_str_str, isi_list_str, isi_tuple_str, isi_dict_str, isi_NoneType_list, isi_bool_list, isi_int_list, isi_str_list, isi_list_list, isi_tuple_list, isi_dict_list, isi_NoneType_tuple, isi_bool_tuple, isi_int_tuple, isi_str_tuple, isi_list_tuple, isi_tuple_tuple, isi_dict_tuple, isi_NoneType_two, isi_bool_two, isi_int_two, isi_str_two, isi_list_two, isi_tuple_two, isi_dict_two]
        | true =>
          cases ht : txtD b with
          | false => simp [f_is_hold, m_is_hold, lenD, neD_int, at0, at1, e1, e2, hc, ht, holdB, fnM, fnF, mSeq, mIf, mOr, mAnd, mNot, mB, mUn, mOp, mVar, mC, mRet, mSkip, mOrV, mAndV, mIfE, mCons, mNil, mTup, mLst, mBt, mCall, mCallR, mSet, mDrop, mRaise, noRt, mSl, mPt, mNoP, mPar, mAsg, mYes, mChain, pure_bind', ofO_some, er_bind, assoc', noEr_pure, join_ss, asB_bl, asI_int, List.getElem?_cons_zero, List.getElem?_cons_succ, List.set_cons_zero, List.set_cons_succ, List.map_cons, List.map_nil, List.length_cons, List.length_nil, List.cons_append, List.nil_append, List.replicate, isi_NoneType_int, isi_bool_int, isi_int_int, isi_str_int, isi_list_int, isi_tuple_int, isi_dict_int, isi_NoneType_bool, isi_bool_bool, isi_int_bool, isi_str_bool, isi_list_bool, isi_tuple_bool, isi_dict_bool, isi_NoneType_str, isi_bool_str, isi_int_str, isi_str_str, isi_list_str, isi_tuple_str, isi_dict_str, isi_NoneType_list, isi_bool_list, isi_int_list, isi_str_list, isi_list_list, isi_tuple_list, isi_dict_list, isi_NoneType_tuple, isi_bool_tuple, isi_int_tuple, isi_str_tuple, isi_list_tuple, isi_tuple_tuple, isi_dict_tuple, isi_NoneType_two, isi_bool_two, isi_int_two, isi_str_two, isi_list_two, isi_tuple_two, isi_dict_two]
          | true =>
            have hl2 := hlen ht
            cases b with
            | str x =>
              simp only at hl2
              simp [f_is_hold, m_is_hold, lenD, neD_int, at0, at1, e1, e2, hc, ht, holdB, shB, ltD, fnM, fnF, mSeq, mIf, mOr, mAnd, mNot, mB, mUn, mOp, mVar, mC, mRet, mSkip, mOrV, mAndV, mIfE, mCons, mNil, mTup, mLst, mBt, mCall, mCallR, mSet, mDrop, mRaise, noRt, mSl, mPt, mNoP, mPar, mAsg, mYes, mChain, pure_bind', ofO_some, er_bind, assoc', noEr_pure, join_ss, asB_bl, asI_int, List.getElem?_cons_zero, List.getElem?_cons_succ, List.set_cons_zero, List.set_cons_succ, List.map_cons, List.map_nil, List.length_cons, List.length_nil, List.cons_append, List.nil_append, List.replicate, isi_NoneType_int, isi_bool_int, isi_int_int, isi_str_int, isi_list_int, isi_tuple_int, isi_dict_int, isi_NoneType_bool, isi_bool_bool, isi_int_bool, isi_str_bool, isi_list_bool, isi_tuple_bool, isi_dict_bool, isi_NoneType_str, isi_bool_str, isi_int_str, isi_str_str, isi_list_str, isi_tuple_str, isi_dict_str, isi_NoneType_list, isi_bool_list, isi_int_list, isi_str_list, isi_list_list, isi_tuple_list, isi_dict_list, isi_NoneType_tuple, isi_bool_tuple, isi_int_tuple, isi_str_tuple, isi_list_tuple, isi_tuple_tuple, isi_dict_tuple, isi_NoneType_two, isi_bool_two, isi_int_two, isi_str_two, isi_list_two, isi_tuple_two, isi_dict_two]
              simp [lenD] at hl2
              simp [lenD, hl2, ltD, fnM, fnF, mSeq, mIf, mOr, mAnd, mNot, mB, mUn, mOp, mVar, mC, mRet, mSkip, mOrV, mAndV, mIfE, mCons, mNil, mTup, mLst, mBt, mCall, mCallR, mSet, mDrop, mRaise, noRt, mSl, mPt, mNoP, mPar, mAsg, mYes, mChain, pure_bind', ofO_some, er_bind, assoc', noEr_pure, join_ss, asB_bl, asI_int, List.getElem?_cons_zero, List.getElem?_cons_succ, List.set_cons_zero, List.set_cons_succ, List.map_cons, List.map_nil, List.length_cons, List.length_nil, List.cons_append, List.nil_append, List.replicate, isi_NoneType_int, isi_bool_int, isi_int_int, isi_str_int, isi_list_int, isi_tuple_int, isi_dict_int, isi_NoneType_bool, isi_bool_bool, isi_int_bool, isi_str_bool, isi_list_bool, isi_tuple_bool, isi_dict_bool, isi_NoneType_str, isi_bool_str, isi_int_str, isi_str_str, isi_list_str, isi_tuple_str, isi_dict_str, isi_NoneType_list, isi_bool_list, isi_int_list, isi_str_list, isi_list_list, isi_tuple_list, isi_dict_list, isi_NoneType_tuple, isi_bool_tuple, isi_int_tuple, isi_str_tuple, isi_list_tuple, isi_tuple_tuple, isi_dict_tuple, isi_NoneType_two, isi_bool_two, isi_int_two, isi_str_two, isi_list_two, isi_tuple_two, isi_dict_two]
              exact congrArg (fun z => Mo.pure (D.bl z)) (decide_eq_decide.mpr (by omega))
            | _ => simp [txtD] at ht
    · have e9 : holdB (.tup ds) = false := by
        unfold holdB
        split
        · rename_i q
          cases q
          exact absurd rfl hl
        · rfl
      have e8 : ¬ ((ds.length : Int) = 2) := by omega
      rw [e9]
      simp [f_is_hold, m_is_hold, lenD, neD_int, e8, fnM, fnF, mSeq, mIf, mOr, mAnd, mNot, mB, mUn, mOp, mVar, mC, mRet, mSkip, mOrV, mAndV, mIfE, mCons, mNil, mTup, mLst, mBt, mCall, mCallR, mSet, mDrop, mRaise, noRt, mSl, mPt, mNoP, mPar, mAsg, mYes, mChain, pure_bind', ofO_some, er_bind, assoc', noEr_pure, join_ss, asB_bl, asI_int, List.getElem?_cons_zero, List.getElem?_cons_succ, List.set_cons_zero, List.set_cons_succ, List.map_cons, List.map_nil, List.length_cons, List.length_nil, List.cons_append, List.nil_append, List.replicate, isi_NoneType_int, isi_bool_int, isi_int_int, isi_str_int, isi_list_int, isi_tuple_int, isi_dict_int, isi_NoneType_bool, isi_bool_bool, isi_int_bool, isi_str_bool, isi_list_bool, isi_tuple_bool, isi_dict_bool, isi_NoneType_str, isi_bool_str, isi_int_str, isi_str_str, isi_list_str, isi_tuple_str, isi_dict_str, isi_NoneType_list, isi_bool_list, isi_int_list, isi_str_list, isi_list_list, isi_tuple_list, isi_dict_list, isi_NoneType_tuple, isi_bool_tuple, isi_int_tuple, isi_str_tuple, isi_list_tuple, isi_tuple_tuple, isi_dict_tuple, isi_NoneType_two, isi_bool_two, isi_int_two, isi_str_two, isi_list_two, isi_tuple_two, isi_dict_two]
  | _ => first
    | (simp [f_is_hold, m_is_hold, holdB, fnM, fnF, mSeq, mIf, mOr, mAnd, mNot, mB, mUn, mOp, mVar, mC, mRet, mSkip, mOrV, mAndV, mIfE, mCons, mNil, mTup, mLst, mBt, mCall, mCallR, mSet, mDrop, mRaise, noRt, mSl, mPt, mNoP, mPar, mAsg, mYes, mChain, pure_bind', ofO_some, er_bind, assoc', noEr_pure, join_ss, asB_bl, asI_int, List.getElem?_cons_zero, List.getElem?_cons_succ, List.set_cons_zero, List.set_cons_succ, List.map_cons, List.map_nil, List.length_cons, List.length_nil, List.cons_append, List.nil_append, List.replicate, isi_NoneType_int, isi_bool_int, isi_int_int, isi_str_int, isi_list_int, isi_tuple_int, isi_dict_int, isi_NoneType_bool, isi_bool_bool, isi_int_bool, isi_str_bool, isi_list_bool, isi_tuple_bool, isi_dict_bool, isi_NoneType_str, isi_bool_str, isi_int_str, isi_str_str, isi_list_str, isi_tuple_str, isi_dict_str, isi_NoneType_list, isi_bool_list, isi_int_list, isi_str_list, isi_list_list, isi_tuple_list, isi_dict_list, isi_NoneType_tuple, isi_bool_tuple, isi_int_tuple, isi_str_tuple, isi_list_tuple, isi_tuple_tuple, isi_dict_tuple, isi_NoneType_two, isi_bool_two, isi_int_two, isi_str_two, isi_list_two, isi_tuple_two, isi_dict_two]; done)
    | (simp [D.wf] at h; done)
end K84

set_option Elab.async false
set_option linter.all false
set_option maxRecDepth 100000
set_option maxHeartbeats 1000000
namespace K84
open PySem PySem.Spec PyProof.Rows L2 GxR GenW Ink
/-- held signs from a last number on -/
def heldFrom (last : Int) : List D → Bool
  | [] => true
  | d :: r => holdB d && (decide (last < numN d) && ((r.isEmpty || !(txtN d == "")) && heldFrom (numN d) r))
def isHeld : D → Bool
  | .lst ds => heldFrom (-1) ds
  | _ => false
def ascFrom (last : Int) : List D → Bool
  | [] => true
  | d :: r => decide (last < numN d) && ascFrom (numN d) r
def ascB : List D → Bool
  | [] => true
  | d :: r => ascFrom (numN d) r
theorem hold_shape {d : D} (h : holdB d = true) : ∃ n x, d = .tup [.int n, .str x] ∧ 0 ≤ n ∧ n ≤ 60 ∧ okS x = true ∧ x.length < 2 := by
  unfold holdB at h
  split at h
  · rename_i a b
    rw [Bool.and_eq_true, Bool.and_eq_true] at h
    obtain ⟨h1, h2, h3⟩ := h
    cases a <;> first | (simp [cnt] at h1; done) | skip
    cases b <;> first | (simp [txtD] at h2; done) | skip
    simp [cnt] at h1
    simp [txtD] at h2
    simp [shB] at h3
    exact ⟨_, _, rfl, h1.1, h1.2, h2, h3⟩
  · cases h
theorem numN_t (n : Int) (x : Str) : numN (.tup [.int n, .str x]) = n := rfl
theorem txtN_t (n : Int) (x : Str) : txtN (.tup [.int n, .str x]) = x := rfl
theorem heldFrom_eq : ∀ (ds : List D) (last : Int), heldFrom last ds = (ds.all holdB && (!(ds.dropLast.any fun d => txtN d == "") && ascFrom last ds))
  | [], last => rfl
  | [d], last => by
    simp [heldFrom, ascFrom]
  | d :: e :: r, last => by
    have ih := heldFrom_eq (e :: r) (numN d)
    rw [heldFrom, ih]
    simp only [List.dropLast_cons₂, List.any_cons, List.all_cons, ascFrom, List.isEmpty_cons, Bool.false_or]
    cases holdB d <;> cases decide (last < numN d) <;> cases (txtN d == "") <;> simp
theorem asc_neg {ds : List D} (h : ds.all holdB = true) : ascFrom (-1) ds = ascB ds := by
  cases ds with
  | nil => rfl
  | cons d r =>
    have hd : holdB d = true := by
      rw [List.all_cons, Bool.and_eq_true] at h
      exact h.1
    obtain ⟨n, x, rfl, h0, _⟩ := hold_shape hd
    show (decide (-1 < n) && ascFrom n r) = ascFrom n r
    rw [decide_eq_true (by omega : -1 < n), Bool.true_and]
/-- the same by places -/
def ltAt (ds : List D) (i : Nat) : Bool := decide (numN (ds.getD i .non) < numN (ds.getD (i + 1) .non))
theorem asc_range : ∀ (d : D) (r : List D), ascFrom (numN d) r = (List.range r.length).all (ltAt (d :: r))
  | d, [] => rfl
  | d, e :: r => by
    rw [List.length_cons, List.range_succ_eq_map, List.all_cons, List.all_map]
    have ih := asc_range e r
    show (decide (numN d < numN e) && ascFrom (numN e) r) = _
    rw [ih]
    rfl
theorem cut_last (ds : List D) : Ink.cutD ds none (some (-1)) = ds.dropLast := by
  unfold Ink.cutD
  rw [HT.sIx_none, List.dropLast_eq_take]
  have e : HT.sIx ds.length ds.length (some (-1)) = ds.length - 1 := by
    show (if (-1 : Int) < 0 then ((-1 : Int) + (ds.length : Int)).toNat else min (-1 : Int).toNat ds.length) = ds.length - 1
    rw [if_pos (by decide)]
    omega
  rw [e, List.drop_zero, Nat.sub_zero]
theorem ev_is_held {d : D} (h : d.wf = true) : f_is_held [d] = Mo.pure (.bl (isHeld d)) := by
  cases d with
  | lst ds =>
    have h' : ds.length ≤ 1000 ∧ wfA ds = true := by simpa [D.wf] using h
    have g1 := gx_pure (z := true) (t := tgN 1) (env := wipeD [some (.lst ds), none, none] [1]) (tt := mYes) (te := mCall 1 f_is_hold (mCons (mVar 1) mNil)) (fun d => [some (.lst ds), some d, none]) holdB (ds := ds) (fun d hd => by
      refine ⟨by simp [tgN, wipeD], rfl, ?_⟩
      simp [ev_is_hold (wfA_mem h'.2 hd), fnM, fnF, mSeq, mIf, mOr, mAnd, mNot, mB, mUn, mOp, mVar, mC, mRet, mSkip, mOrV, mAndV, mIfE, mCons, mNil, mTup, mLst, mBt, mCall, mCallR, mSet, mDrop, mRaise, noRt, mSl, mPt, mNoP, mPar, mAsg, mYes, mChain, pure_bind', ofO_some, er_bind, assoc', noEr_pure, join_ss, asB_bl, asI_int, List.getElem?_cons_zero, List.getElem?_cons_succ, List.set_cons_zero, List.set_cons_succ, List.map_cons, List.map_nil, List.length_cons, List.length_nil, List.cons_append, List.nil_append, List.replicate, isi_NoneType_int, isi_bool_int, isi_int_int, isi_str_int, isi_list_int, isi_tuple_int, isi_dict_int, isi_NoneType_bool, isi_bool_bool, isi_int_bool, isi_str_bool, isi_list_bool, isi_tuple_bool, isi_dict_bool, isi_NoneType_str, isi_bool_str, isi_int_str, isi_str_str, isi_list_str, isi_tuple_str, isi_dict_str, isi_NoneType_list, isi_bool_list, isi_int_list, isi_str_list, isi_list_list, isi_tuple_list, isi_dict_list, isi_NoneType_tuple, isi_bool_tuple, isi_int_tuple, isi_str_tuple, isi_list_tuple, isi_tuple_tuple, isi_dict_tuple, isi_NoneType_two, isi_bool_two, isi_int_two, isi_str_two, isi_list_two, isi_tuple_two, isi_dict_two])
    rw [if_pos rfl] at g1
    cases ha : ds.all holdB with
    | false =>
      rw [ha] at g1
      simp [f_is_held, m_is_held, mGx, mIt, itsD, g1, isHeld, heldFrom_eq, ha, fnM, fnF, mSeq, mIf, mOr, mAnd, mNot, mB, mUn, mOp, mVar, mC, mRet, mSkip, mOrV, mAndV, mIfE, mCons, mNil, mTup, mLst, mBt, mCall, mCallR, mSet, mDrop, mRaise, noRt, mSl, mPt, mNoP, mPar, mAsg, mYes, mChain, pure_bind', ofO_some, er_bind, assoc', noEr_pure, join_ss, asB_bl, asI_int, List.getElem?_cons_zero, List.getElem?_cons_succ, List.set_cons_zero, List.set_cons_succ, List.map_cons, List.map_nil, List.length_cons, List.length_nil, List.cons_append, List.nil_append, List.replicate, isi_NoneType_int, isi_bool_int, isi_int_int, isi_str_int, isi_list_int, isi_tuple_int, isi_dict_int, isi_NoneType_bool, isi_bool_bool, isi_int_bool, isi_str_bool, isi_list_bool, isi_tuple_bool, isi_dict_bool, isi_NoneType_str, isi_bool_str, isi_int_str, isi_str_str, isi_list_str, isi_tuple_str, isi_dict_str, isi_NoneType_list, isi_bool_list, isi_int_list, isi_str_list, isi_list_list, isi_tuple_list, isi_dict_list, isi_NoneType_tuple, isi_bool_tuple, isi_int_tuple, isi_str_tuple, isi_list_tuple, isi_tuple_tuple, isi_dict_tuple, isi_NoneType_two, isi_bool_two, isi_int_two, isi_str_two, isi_list_two, isi_tuple_two, isi_dict_two]
    | true =>
      rw [ha] at g1
      have hd : ∀ d ∈ ds, holdB d = true := List.all_eq_true.mp ha
      have g2 := gx_pure (z := false) (t := tgN 1) (env := wipeD [some (.lst ds), none, none] [1]) (tt := mYes) (te := mOp eqD (mOp ixD (mVar 1) (mC (.int 1))) (mC (.str ""))) (fun d => [some (.lst ds), some d, none]) (fun d => txtN d == "") (ds := ds.dropLast) (fun d hm => by
        have hm' := List.dropLast_subset ds hm
        obtain ⟨n, x, rfl, _⟩ := hold_shape (hd d hm')
        have hw := wfA_mem h'.2 hm'
        have hx : PyData.strOk x = true := by
          simp [D.wf, wfA] at hw
          exact hw.1
        refine ⟨by simp [tgN, wipeD], rfl, ?_⟩
        simp [at1, eqD_str hx ok_emp, txtN_t, fnM, fnF, mSeq, mIf, mOr, mAnd, mNot, mB, mUn, mOp, mVar, mC, mRet, mSkip, mOrV, mAndV, mIfE, mCons, mNil, mTup, mLst, mBt, mCall, mCallR, mSet, mDrop, mRaise, noRt, mSl, mPt, mNoP, mPar, mAsg, mYes, mChain, pure_bind', ofO_some, er_bind, assoc', noEr_pure, join_ss, asB_bl, asI_int, List.getElem?_cons_zero, List.getElem?_cons_succ, List.set_cons_zero, List.set_cons_succ, List.map_cons, List.map_nil, List.length_cons, List.length_nil, List.cons_append, List.nil_append, List.replicate, isi_NoneType_int, isi_bool_int, isi_int_int, isi_str_int, isi_list_int, isi_tuple_int, isi_dict_int, isi_NoneType_bool, isi_bool_bool, isi_int_bool, isi_str_bool, isi_list_bool, isi_tuple_bool, isi_dict_bool, isi_NoneType_str, isi_bool_str, isi_int_str, isi_str_str, isi_list_str, isi_tuple_str, isi_dict_str, isi_NoneType_list, isi_bool_list, isi_int_list, isi_str_list, isi_list_list, isi_tuple_list, isi_dict_list, isi_NoneType_tuple, isi_bool_tuple, isi_int_tuple, isi_str_tuple, isi_list_tuple, isi_tuple_tuple, isi_dict_tuple, isi_NoneType_two, isi_bool_two, isi_int_two, isi_str_two, isi_list_two, isi_tuple_two, isi_dict_two])
      rw [if_neg (by decide)] at g2
      have g3 := gx_pure (z := true) (t := tgN 2) (env := wipeD [some (.lst ds), none, none] [2]) (tt := mYes) (te := mOp ltD (mOp ixD (mOp ixD (mVar 0) (mVar 2)) (mC (.int 0))) (mOp ixD (mOp ixD (mVar 0) (mOp addD (mVar 2) (mC (.int 1)))) (mC (.int 0)))) (fun d => [some (.lst ds), none, some d])
        (fun d => match d with | .int i => ltAt ds i.toNat | _ => false) (ds := (List.range ((ds.length : Int) - 1).toNat).map fun i : Nat => D.int (i : Int)) (fun d hm => by
        obtain ⟨i, hi, rfl⟩ := List.mem_map.mp hm
        have hlt : i + 1 < ds.length := by
          have := List.mem_range.mp hi
          omega
        refine ⟨by simp [tgN, wipeD], rfl, ?_⟩
        obtain ⟨n, x, e1, _⟩ := hold_shape (hd ds[i] (List.getElem_mem (by omega)))
        obtain ⟨m, y, e2, _⟩ := hold_shape (hd ds[i + 1] (List.getElem_mem hlt))
        have a1 : ixD (.lst ds) (.int (i : Int)) = some (.tup [.int n, .str x]) := by
          rw [← e1]
          exact atI_nat (List.getElem?_eq_getElem (by omega))
        have a2 : ixD (.lst ds) (.int ((i : Int) + 1)) = some (.tup [.int m, .str y]) := by
          rw [← e2]
          exact atI_nat (j := i + 1) (List.getElem?_eq_getElem hlt)
        have a3 : ltAt ds i = decide (n < m) := by
          unfold ltAt
          rw [List.getD_eq_getElem?_getD, List.getD_eq_getElem?_getD, List.getElem?_eq_getElem hlt, List.getElem?_eq_getElem (by omega : i < ds.length), Option.getD_some, Option.getD_some, e1, e2]
          rfl
        simp [a1, a2, at0, addD, ltD, a3, fnM, fnF, mSeq, mIf, mOr, mAnd, mNot, mB, mUn, mOp, mVar, mC, mRet, mSkip, mOrV, mAndV, mIfE, mCons, mNil, mTup, mLst, mBt, mCall, mCallR, mSet, mDrop, mRaise, noRt, mSl, mPt, mNoP, mPar, mAsg, mYes, mChain, pure_bind', ofO_some, er_bind, assoc', noEr_pure, join_ss, asB_bl, asI_int, List.getElem?_cons_zero, List.getElem?_cons_succ, List.set_cons_zero, List.set_cons_succ, List.map_cons, List.map_nil, List.length_cons, List.length_nil, List.cons_append, List.nil_append, List.replicate, isi_NoneType_int, isi_bool_int, isi_int_int, isi_str_int, isi_list_int, isi_tuple_int, isi_dict_int, isi_NoneType_bool, isi_bool_bool, isi_int_bool, isi_str_bool, isi_list_bool, isi_tuple_bool, isi_dict_bool, isi_NoneType_str, isi_bool_str, isi_int_str, isi_str_str, isi_list_str, isi_tuple_str, isi_dict_str, isi_NoneType_list, isi_bool_list, isi_int_list, isi_str_list, isi_list_list, isi_tuple_list, isi_dict_list, isi_NoneType_tuple, isi_bool_tuple, isi_int_tuple, isi_str_tuple, isi_list_tuple, isi_tuple_tuple, isi_dict_tuple, isi_NoneType_two, isi_bool_two, isi_int_two, isi_str_two, isi_list_two, isi_tuple_two, isi_dict_two])
      rw [if_pos rfl] at g3
      have e3 : ((List.range ((ds.length : Int) - 1).toNat).map fun i : Nat => D.int (i : Int)).all (fun d => match d with | .int i => ltAt ds i.toNat | _ => false) = ascB ds := by
        rw [List.all_map]
        cases ds with
        | nil => rfl
        | cons d r =>
          show _ = ascFrom (numN d) r
          rw [asc_range]
          have e4 : (((d :: r).length : Int) - 1).toNat = r.length := by
            rw [List.length_cons]
            omega
          rw [e4]
          rfl
      rw [e3, show ((ds.length : Int) - 1).toNat = ds.length - 1 by omega] at g3
      have hr : ((ds.length : Int) - 1 ≤ 1000000 ∧ -1000000 ≤ (ds.length : Int) - 1) := by omega
      cases hb : (ds.dropLast.any fun d => txtN d == "") with
      | true =>
        rw [hb] at g2
        simp [f_is_held, m_is_held, mGx, mIt, mItA, itsD, g1, g2, isHeld, heldFrom_eq, ha, hb, negD, slD, cut_last, fnM, fnF, mSeq, mIf, mOr, mAnd, mNot, mB, mUn, mOp, mVar, mC, mRet, mSkip, mOrV, mAndV, mIfE, mCons, mNil, mTup, mLst, mBt, mCall, mCallR, mSet, mDrop, mRaise, noRt, mSl, mPt, mNoP, mPar, mAsg, mYes, mChain, pure_bind', ofO_some, er_bind, assoc', noEr_pure, join_ss, asB_bl, asI_int, List.getElem?_cons_zero, List.getElem?_cons_succ, List.set_cons_zero, List.set_cons_succ, List.map_cons, List.map_nil, List.length_cons, List.length_nil, List.cons_append, List.nil_append, List.replicate, isi_NoneType_int, isi_bool_int, isi_int_int, isi_str_int, isi_list_int, isi_tuple_int, isi_dict_int, isi_NoneType_bool, isi_bool_bool, isi_int_bool, isi_str_bool, isi_list_bool, isi_tuple_bool, isi_dict_bool, isi_NoneType_str, isi_bool_str, isi_int_str, isi_str_str, isi_list_str, isi_tuple_str, isi_dict_str, isi_NoneType_list, isi_bool_list, isi_int_list, isi_str_list, isi_list_list, isi_tuple_list, isi_dict_list, isi_NoneType_tuple, isi_bool_tuple, isi_int_tuple, isi_str_tuple, isi_list_tuple, isi_tuple_tuple, isi_dict_tuple, isi_NoneType_two, isi_bool_two, isi_int_two, isi_str_two, isi_list_two, isi_tuple_two, isi_dict_two]
      | false =>
        rw [hb] at g2
        simp [f_is_held, m_is_held, mGx, mIt, mItA, itsD, g1, g2, g3, isHeld, heldFrom_eq, ha, hb, asc_neg ha, negD, slD, cut_last, lenD, subD, rngD, hr, fnM, fnF, mSeq, mIf, mOr, mAnd, mNot, mB, mUn, mOp, mVar, mC, mRet, mSkip, mOrV, mAndV, mIfE, mCons, mNil, mTup, mLst, mBt, mCall, mCallR, mSet, mDrop, mRaise, noRt, mSl, mPt, mNoP, mPar, mAsg, mYes, mChain, pure_bind', ofO_some, er_bind, assoc', noEr_pure, join_ss, asB_bl, asI_int, List.getElem?_cons_zero, List.getElem?_cons_succ, List.set_cons_zero, List.set_cons_succ, List.map_cons, List.map_nil, List.length_cons, List.length_nil, List.cons_append, List.nil_append, List.replicate, isi_NoneType_int, isi_bool_int, isi_int_int, isi_str_int, isi_list_int, isi_tuple_int, isi_dict_int, isi_NoneType_bool, isi_bool_bool, isi_int_bool, isi_str_bool, isi_list_bool, isi_tuple_bool, isi_dict_bool, isi_NoneType_str, isi_bool_str, isi_int_str, isi_str_str, isi_list_str, isi_tuple_str, isi_dict_str, isi_NoneType_list, isi_bool_list, isi_int_list, isi_str_list, isi_list_list, isi_tuple_list, isi_dict_list, isi_NoneType_tuple, isi_bool_tuple, isi_int_tuple, isi_str_tuple, isi_list_tuple, isi_tuple_tuple, isi_dict_tuple, isi_NoneType_two, isi_bool_two, isi_int_two, isi_str_two, isi_list_two, isi_tuple_two, isi_dict_two]
  | _ => first
    | (simp [f_is_held, m_is_held, isHeld, fnM, fnF, mSeq, mIf, mOr, mAnd, mNot, mB, mUn, mOp, mVar, mC, mRet, mSkip, mOrV, mAndV, mIfE, mCons, mNil, mTup, mLst, mBt, mCall, mCallR, mSet, mDrop, mRaise, noRt, mSl, mPt, mNoP, mPar, mAsg, mYes, mChain, pure_bind', ofO_some, er_bind, assoc', noEr_pure, join_ss, asB_bl, asI_int, List.getElem?_cons_zero, List.getElem?_cons_succ, List.set_cons_zero, List.set_cons_succ, List.map_cons, List.map_nil, List.length_cons, List.length_nil, List.cons_append, List.nil_append, List.replicate, isi_NoneType_int, isi_bool_int, isi_int_int, isi_str_int, isi_list_int, isi_tuple_int, isi_dict_int, isi_NoneType_bool, isi_bool_bool, isi_int_bool, isi_str_bool, isi_list_bool, isi_tuple_bool, isi_dict_bool, isi_NoneType_str, isi_bool_str, isi_int_str, isi_str_str, isi_list_str, isi_tuple_str, isi_dict_str, isi_NoneType_list, isi_bool_list, isi_int_list, isi_str_list, isi_list_list, isi_tuple_list, isi_dict_list, isi_NoneType_tuple, isi_bool_tuple, isi_int_tuple, isi_str_tuple, isi_list_tuple, isi_tuple_tuple, isi_dict_tuple, isi_NoneType_two, isi_bool_two, isi_int_two, isi_str_two, isi_list_two, isi_tuple_two, isi_dict_two]; done)
    | (simp [D.wf] at h; done)
end K84

set_option Elab.async false
set_option linter.all false
set_option maxRecDepth 100000
set_option maxHeartbeats 1000000
namespace K84
open PySem PySem.Spec PyProof.Rows L2 GxR GenW Ink
def isBody : MS := (mSeq (mIf (mOr (mNot (mB (mUn (isD1 "tuple") (mVar 3)))) (mB (mOp neD (mBt lenD (mCons (mVar 3) mNil)) (mC (.int 2))))) (mRet (mC (.bl false))) mSkip) (mSeq (mAsg (tgP 4 5) (mVar 3)) (mSeq (mIf (mOr (mNot (mB (mUn (isD1 "int") (mVar 4)))) (mOr (mB (mUn (isD1 "bool") (mVar 4))) (mOr (mNot (mB (mChain ltD ltD (mVar 1) (mVar 4) (mC (.int 61))))) (mNot (mB (mUn (isD1 "str") (mVar 5))))))) (mRet (mC (.bl false))) mSkip) (mSeq (mIf (mOr (mB (mOp gtD (mBt lenD (mCons (mVar 5) mNil)) (mC (.int 1)))) (mOr (mAnd (mB (mOp neD (mVar 5) (mC (.str "")))) (mB (mOp notInD (mVar 5) (mC (.str " 0123456789abcdefghijklmnopqrstuvwxyz"))))) (mAnd (mB (mOp eqD (mVar 5) (mC (.str "")))) (mB (mOp ltD (mOp addD (mVar 2) (mC (.int 1))) (mBt lenD (mCons (mVar 0) mNil))))))) (mRet (mC (.bl false))) mSkip) (mSet 1 (mVar 4))))))
theorem m_is_eq : m_law_is = (mSeq (mSet 1 (mOp subD (mC (.int 0)) (mC (.int 1)))) (mSeq (mIf (mNot (mB (mUn (isD1 "list") (mVar 0)))) (mRet (mC (.bl false))) mSkip) (mSeq (mFor (mItA enumD (mCons (mVar 0) mNil)) (tgP 2 3) isBody) (mRet (mC (.bl true)))))) := rfl
theorem str_cases (x : Str) : x = "" ∨ (∃ c, x = ⟨#[c]⟩) ∨ 1 < x.length := by
  obtain ⟨⟨l⟩⟩ := x
  match l with
  | [] => exact .inl rfl
  | [c] => exact .inr (.inl ⟨c, rfl⟩)
  | c :: c' :: r => exact .inr (.inr (by show 1 < (c :: c' :: r).length; simp))
theorem not_in_one (c : Nat) : notInD (.str ⟨#[c]⟩) (.str SG) = some (.bl (!okC c)) := by
  show some (D.bl (!(!(Builtin.Str.occurrences SG ⟨#[c]⟩ 0 SG.length 1).isEmpty))) = _
  rw [PySem.StrLaws.found_one SG c]
  rfl
theorem one_ne (c : Nat) : ((⟨#[c]⟩ : Str) == "") = false := by
  rw [beq_eq_false_iff_ne]
  intro z
  have := congrArg Str.length z
  exact absurd this (show ¬ (1 = 0) by decide)
theorem okS_emp : okS "" = true := by decide +kernel
theorem okS_one (c : Nat) : okS ⟨#[c]⟩ = okC c := by
  show ([c].all okC) = okC c
  rw [List.all_cons, List.all_nil, Bool.and_true]
theorem len_emp : ("" : Str).length = 0 := rfl
theorem len_one (c : Nat) : (⟨#[c]⟩ : Str).length = 1 := rfl
theorem emp_emp : (("" : Str) == "") = true := by decide +kernel
def stepB (last : Int) (more : Bool) (d : D) : Bool := holdB d && (decide (last < numN d) && (!more || !(txtN d == "")))
theorem isBody_ev {ds : List D} {last : Int} {i : Nat} {d : D} {n s : Option D} (hw : d.wf = true) (hl : -1 ≤ last) : isBody [some (.lst ds), some (.int last), some (.int (i : Int)), some d, n, s] =
    if stepB last (decide ((i : Int) + 1 < ds.length)) d = true then Mo.pure (.nx [some (.lst ds), some (.int (numN d)), some (.int (i : Int)), some d, some (.int (numN d)), some (.str (txtN d))]) else Mo.pure (.rt (.bl false)) := by
  cases d with
  | tup es =>
    have h' : es.length ≤ 1000 ∧ wfA es = true := by simpa [D.wf] using hw
    by_cases h2 : es.length = 2
    · match es, h2 with
      | [a, b], _ =>
        have ha := wfA_mem h'.2 (show a ∈ [a, b] by simp)
        have hb := wfA_mem h'.2 (show b ∈ [a, b] by simp)
        cases a with
        | int m =>
          cases b with
          | str x =>
            have hx : PyData.strOk x = true ∧ x.length ≤ 1000 := by simpa [D.wf] using hb
            have hx5 : x.length ≤ 100000 := by omega
            have c1 : (decide (0 ≤ m) && decide (m ≤ 60) && decide (last < m)) = (decide (last < m) && decide (m < 61)) := by
              rw [← Bool.decide_and, ← Bool.decide_and, ← Bool.decide_and]
              exact decide_eq_decide.mpr (by omega)
            by_cases q1 : last < m
            · by_cases q2 : m < 61
              · have q3 : 0 ≤ m := by omega
                have q4 : m ≤ 60 := by omega
                rcases str_cases x with rfl | ⟨c, rfl⟩ | q5
                · by_cases q6 : (i : Int) + 1 < ds.length
                  · simp [isBody, stepB, tgP, lenD, neD_int, holdB, cnt, txtD, shB, numN_t, txtN_t, ltD, gtD, addD, neD_str, eqD_str, ok_emp, okS_emp, len_emp, emp_emp, q1, q2, q3, q4, q6, fnM, fnF, mSeq, mIf, mOr, mAnd, mNot, mB, mUn, mOp, mVar, mC, mRet, mSkip, mOrV, mAndV, mIfE, mCons, mNil, mTup, mLst, mBt, mCall, mCallR, mSet, mDrop, mRaise, noRt, mSl, mPt, mNoP, mPar, mAsg, mYes, mChain, pure_bind', ofO_some, er_bind, assoc', noEr_pure, join_ss, asB_bl, asI_int, List.getElem?_cons_zero, List.getElem?_cons_succ, List.set_cons_zero, List.set_cons_succ, List.map_cons, List.map_nil, List.length_cons, List.length_nil, List.cons_append, List.nil_append, List.replicate, isi_NoneType_int, isi_bool_int, isi_int_int, isi_str_int, isi_list_int, isi_tuple_int, isi_dict_int, isi_NoneType_bool, isi_bool_bool, isi_int_bool, isi_str_bool, isi_list_bool, isi_tuple_bool, isi_dict_bool, isi_NoneType_str, isi_bool_str, isi_int_str, isi_str_str, isi_list_str, isi_tuple_str, isi_dict_str, isi_NoneType_list, isi_bool_list, isi_int_list, isi_str_list, isi_list_list, isi_tuple_list, isi_dict_list, isi_NoneType_tuple, isi_bool_tuple, isi_int_tuple, isi_str_tuple, isi_list_tuple, isi_tuple_tuple, isi_dict_tuple, isi_NoneType_two, isi_bool_two, isi_int_two, isi_str_two, isi_list_two, isi_tuple_two, isi_dict_two]
                  · simp [isBody, stepB, tgP, lenD, neD_int, holdB, cnt, txtD, shB, numN_t, txtN_t, ltD, gtD, addD, neD_str, eqD_str, ok_emp, okS_emp, len_emp, emp_emp, q1, q2, q3, q4, q6, fnM, fnF, mSeq, mIf, mOr, mAnd, mNot, mB, mUn, mOp, mVar, mC, mRet, mSkip, mOrV, mAndV, mIfE, mCons, mNil, mTup, mLst, mBt, mCall, mCallR, mSet, mDrop, mRaise, noRt, mSl, mPt, mNoP, mPar, mAsg, mYes, mChain, pure_bind', ofO_some, er_bind, assoc', noEr_pure, join_ss, asB_bl, asI_int, List.getElem?_cons_zero, List.getElem?_cons_succ, List.set_cons_zero, List.set_cons_succ, List.map_cons, List.map_nil, List.length_cons, List.length_nil, List.cons_append, List.nil_append, List.replicate, isi_NoneType_int, isi_bool_int, isi_int_int, isi_str_int, isi_list_int, isi_tuple_int, isi_dict_int, isi_NoneType_bool, isi_bool_bool, isi_int_bool, isi_str_bool, isi_list_bool, isi_tuple_bool, isi_dict_bool, isi_NoneType_str, isi_bool_str, isi_int_str, isi_str_str, isi_list_str, isi_tuple_str, isi_dict_str, isi_NoneType_list, isi_bool_list, isi_int_list, isi_str_list, isi_list_list, isi_tuple_list, isi_dict_list, isi_NoneType_tuple, isi_bool_tuple, isi_int_tuple, isi_str_tuple, isi_list_tuple, isi_tuple_tuple, isi_dict_tuple, isi_NoneType_two, isi_bool_two, isi_int_two, isi_str_two, isi_list_two, isi_tuple_two, isi_dict_two]
                · have e6 := not_in_one c
                  unfold SG at e6
                  cases q6 : okC c with
                  | true =>
                    rw [q6] at e6
                    simp [isBody, stepB, tgP, lenD, neD_int, holdB, cnt, txtD, shB, numN_t, txtN_t, ltD, gtD, addD, neD_str hx.1 ok_emp, eqD_str hx.1 ok_emp, okS_one, len_one, one_ne, e6, q1, q2, q3, q4, q6, fnM, fnF, mSeq, mIf, mOr, mAnd, mNot, mB, mUn, mOp, mVar, mC, mRet, mSkip, mOrV, mAndV, mIfE, mCons, mNil, mTup, mLst, mBt, mCall, mCallR, mSet, mDrop, mRaise, noRt, mSl, mPt, mNoP, mPar, mAsg, mYes, mChain, pure_bind', ofO_some, er_bind, assoc', noEr_pure, join_ss, asB_bl, asI_int, List.getElem?_cons_zero, List.getElem?_cons_succ, List.set_cons_zero, List.set_cons_succ, List.map_cons, List.map_nil, List.length_cons, List.length_nil, List.cons_append, List.nil_append, List.replicate, isi_NoneType_int, isi_bool_int, isi_int_int, isi_str_int, isi_list_int, isi_tuple_int, isi_dict_int, isi_NoneType_bool, isi_bool_bool, isi_int_bool, isi_str_bool, isi_list_bool, isi_tuple_bool, isi_dict_bool, isi_NoneType_str, isi_bool_str, isi_int_str, isi_str_str, isi_list_str, isi_tuple_str, isi_dict_str, isi_NoneType_list, isi_bool_list, isi_int_list, isi_str_list, isi_list_list, isi_tuple_list, isi_dict_list, isi_NoneType_tuple, isi_bool_tuple, isi_int_tuple, isi_str_tuple, isi_list_tuple, isi_tuple_tuple, isi_dict_tuple, isi_NoneType_two, isi_bool_two, isi_int_two, isi_str_two, isi_list_two, isi_tuple_two, isi_dict_two]
                  | false =>
                    rw [q6] at e6
                    simp [isBody, stepB, tgP, lenD, neD_int, holdB, cnt, txtD, shB, numN_t, txtN_t, ltD, gtD, addD, neD_str hx.1 ok_emp, eqD_str hx.1 ok_emp, okS_one, len_one, one_ne, e6, q1, q2, q3, q4, q6, fnM, fnF, mSeq, mIf, mOr, mAnd, mNot, mB, mUn, mOp, mVar, mC, mRet, mSkip, mOrV, mAndV, mIfE, mCons, mNil, mTup, mLst, mBt, mCall, mCallR, mSet, mDrop, mRaise, noRt, mSl, mPt, mNoP, mPar, mAsg, mYes, mChain, pure_bind', ofO_some, er_bind, assoc', noEr_pure, join_ss, asB_bl, asI_int, List.getElem?_cons_zero, List.getElem?_cons_succ, List.set_cons_zero, List.set_cons_succ, List.map_cons, List.map_nil, List.length_cons, List.length_nil, List.cons_append, List.nil_append, List.replicate, isi_NoneType_int, isi_bool_int, isi_int_int, isi_str_int, isi_list_int, isi_tuple_int, isi_dict_int, isi_NoneType_bool, isi_bool_bool, isi_int_bool, isi_str_bool, isi_list_bool, isi_tuple_bool, isi_dict_bool, isi_NoneType_str, isi_bool_str, isi_int_str, isi_str_str, isi_list_str, isi_tuple_str, isi_dict_str, isi_NoneType_list, isi_bool_list, isi_int_list, isi_str_list, isi_list_list, isi_tuple_list, isi_dict_list, isi_NoneType_tuple, isi_bool_tuple, isi_int_tuple, isi_str_tuple, isi_list_tuple, isi_tuple_tuple, isi_dict_tuple, isi_NoneType_two, isi_bool_two, isi_int_two, isi_str_two, isi_list_two, isi_tuple_two, isi_dict_two]
                · have q6 : ¬ x.length < 2 := by omega
                  have q7 : (1 : Int) < (x.length : Int) := by omega
                  simp [isBody, stepB, tgP, lenD, neD_int, holdB, cnt, txtD, shB, numN_t, txtN_t, ltD, gtD, addD, hx5, q1, q2, q3, q4, q5, q6, q7, fnM, fnF, mSeq, mIf, mOr, mAnd, mNot, mB, mUn, mOp, mVar, mC, mRet, mSkip, mOrV, mAndV, mIfE, mCons, mNil, mTup, mLst, mBt, mCall, mCallR, mSet, mDrop, mRaise, noRt, mSl, mPt, mNoP, mPar, mAsg, mYes, mChain, pure_bind', ofO_some, er_bind, assoc', noEr_pure, join_ss, asB_bl, asI_int, List.getElem?_cons_zero, List.getElem?_cons_succ, List.set_cons_zero, List.set_cons_succ, List.map_cons, List.map_nil, List.length_cons, List.length_nil, List.cons_append, List.nil_append, List.replicate, isi_NoneType_int, isi_bool_int, isi_int_int, isi_str_int, isi_list_int, isi_tuple_int, isi_dict_int, isi_NoneType_bool, isi_bool_bool, isi_int_bool, isi_str_bool, isi_list_bool, isi_tuple_bool, isi_dict_bool, isi_NoneType_str, isi_bool_str, isi_int_str, isi_str_str, isi_list_str, isi_tuple_str, isi_dict_str, isi_NoneType_list, isi_bool_list, isi_int_list, isi_str_list, isi_list_list, isi_tuple_list, isi_dict_list, isi_NoneType_tuple, isi_bool_tuple, isi_int_tuple, isi_str_tuple, isi_list_tuple, isi_tuple_tuple, isi_dict_tuple, isi_NoneType_two, isi_bool_two, isi_int_two, isi_str_two, isi_list_two, isi_tuple_two, isi_dict_two]
              · have q4 : ¬ m ≤ 60 := by omega
                simp [isBody, stepB, tgP, lenD, neD_int, holdB, cnt, txtD, shB, numN_t, txtN_t, ltD, q1, q2, q4, fnM, fnF, mSeq, mIf, mOr, mAnd, mNot, mB, mUn, mOp, mVar, mC, mRet, mSkip, mOrV, mAndV, mIfE, mCons, mNil, mTup, mLst, mBt, mCall, mCallR, mSet, mDrop, mRaise, noRt, mSl, mPt, mNoP, mPar, mAsg, mYes, mChain, pure_bind', ofO_some, er_bind, assoc', noEr_pure, join_ss, asB_bl, asI_int, List.getElem?_cons_zero, List.getElem?_cons_succ, List.set_cons_zero, List.set_cons_succ, List.map_cons, List.map_nil, List.length_cons, List.length_nil, List.cons_append, List.nil_append, List.replicate, isi_NoneType_int, isi_bool_int, isi_int_int, isi_str_int, isi_list_int, isi_tuple_int, isi_dict_int, isi_NoneType_bool, isi_bool_bool, isi_int_bool, isi_str_bool, isi_list_bool, isi_tuple_bool, isi_dict_bool, isi_NoneType_str, isi_bool_str, isi_int_str, isi_str_str, isi_list_str, isi_tuple_str, isi_dict_str, isi_NoneType_list, isi_bool_list, isi_int_list, isi_str_list, isi_list_list, isi_tuple_list, isi_dict_list, isi_NoneType_tuple, isi_bool_tuple, isi_int_tuple, isi_str_tuple, isi_list_tuple, isi_tuple_tuple, isi_dict_tuple, isi_NoneType_two, isi_bool_two, isi_int_two, isi_str_two, isi_list_two, isi_tuple_two, isi_dict_two]
            · simp [isBody, stepB, tgP, lenD, neD_int, holdB, cnt, txtD, shB, numN_t, txtN_t, ltD, q1, fnM, fnF, mSeq, mIf, mOr, mAnd, mNot, mB, mUn, mOp, mVar, mC, mRet, mSkip, mOrV, mAndV, mIfE, mCons, mNil, mTup, mLst, mBt, mCall, mCallR, mSet, mDrop, mRaise, noRt, mSl, mPt, mNoP, mPar, mAsg, mYes, mChain, pure_bind', ofO_some, er_bind, assoc', noEr_pure, join_ss, asB_bl, asI_int, List.getElem?_cons_zero, List.getElem?_cons_succ, List.set_cons_zero, List.set_cons_succ, List.map_cons, List.map_nil, List.length_cons, List.length_nil, List.cons_append, List.nil_append, List.replicate, isi_NoneType_int, isi_bool_int, isi_int_int, isi_str_int, isi_list_int, isi_tuple_int, isi_dict_int, isi_NoneType_bool, isi_bool_bool, isi_int_bool, isi_str_bool, isi_list_bool, isi_tuple_bool, isi_dict_bool, isi_NoneType_str, isi_bool_str, isi_int_str, isi_str_str, isi_list_str, isi_tuple_str, isi_dict_str, isi_NoneType_list, isi_bool_list, isi_int_list, isi_str_list, isi_list_list, isi_tuple_list, isi_dict_list, isi_NoneType_tuple, isi_bool_tuple, isi_int_tuple, isi_str_tuple, isi_list_tuple, isi_tuple_tuple, isi_dict_tuple, isi_NoneType_two, isi_bool_two, isi_int_two, isi_str_two, isi_list_two, isi_tuple_two, isi_dict_two]
          | _ => first
            | (by_cases q1 : last < m <;> by_cases q2 : m < 61 <;> simp [isBody, stepB, tgP, lenD, neD_int, holdB, cnt, txtD, ltD, q1, q2, fnM, fnF, mSeq, mIf, mOr, mAnd, mNot, mB, mUn, mOp, mVar, mC, mRet, mSkip, mOrV, mAndV, mIfE, mCons, mNil, mTup, mLst, mBt, mCall, mCallR, mSet, mDrop, mRaise, noRt, mSl, mPt, mNoP, mPar, mAsg, mYes, mChain, pure_bind', ofO_some, er_bind, assoc', noEr_pure, join_ss, asB_bl, asI_int, List.getElem?_cons_zero, List.getElem?_cons_succ, List.set_cons_zero, List.set_cons_succ, List.map_cons, List.map_nil, List.length_cons, List.length_nil, List.cons_append, List.nil_append, List.replicate, isi_NoneType_int, isi_bool_int, isi_int_int, isi_str_int, isi_list_int, isi_tuple_int, isi_dict_int, isi_NoneType_bool, isi_bool_bool, isi_int_bool, isi_str_bool, isi_list_bool, isi_tuple_bool, isi_dict_bool, isi_NoneType_str, isi_bool_str, isi_int_str, isi_str_str, isi_list_str, isi_tuple_str, isi_dict_str, isi_NoneType_list, isi_bool_list, isi_int_list, isi_str_list, isi_list_list, isi_tuple_list, isi_dict_list, isi_NoneType_tuple, isi_bool_tuple, isi_int_tuple, isi_str_tuple, isi_list_tuple, isi_tuple_tuple, isi_dict_tuple, isi_NoneType_two, isi_bool_two, isi_int_two, isi_str_two, isi_list_two, isi_tuple_two, isi_dict_two]; done)
            | (simp [D.wf] at hb; done)
        | _ => first
          | (simp [isBody, stepB, tgP, lenD, neD_int, holdB, cnt, fnM, fnF, mSeq, mIf, mOr, mAnd, mNot, mB, mUn, mOp, mVar, mC, mRet, mSkip, mOrV, mAndV, mIfE, mCons, mNil, mTup, mLst, mBt, mCall, mCallR, mSet, mDrop, mRaise, noRt, mSl, mPt, mNoP, mPar, mAsg, mYes, mChain, pure_bind', ofO_some, er_bind, assoc', noEr_pure, join_ss, asB_bl, asI_int, List.getElem?_cons_zero, List.getElem?_cons_succ, List.set_cons_zero, List.set_cons_succ, List.map_cons, List.map_nil, List.length_cons, List.length_nil, List.cons_append, List.nil_append, List.replicate, isi_NoneType_int, isi_bool_int, isi_int_int, isi_str_int, isi_list_int, isi_tuple_int, isi_dict_int, isi_NoneType_bool, isi_bool_bool, isi_int_bool, isi_str_bool, isi_list_bool, isi_tuple_bool, isi_dict_bool, isi_NoneType_str, isi_bool_str, isi_int_str, isi_str_str, isi_list_str, isi_tuple_str, isi_dict_str, isi_NoneType_list, isi_bool_list, isi_int_list, isi_str_list, isi_list_list, isi_tuple_list, isi_dict_list, isi_NoneType_tuple, isi_bool_tuple, isi_int_tuple, isi_str_tuple, isi_list_tuple, isi_tuple_tuple, isi_dict_tuple, isi_NoneType_two, isi_bool_two, isi_int_two, isi_str_two, isi_list_two, isi_tuple_two, isi_dict_two]; done)
          | (simp [D.wf] at ha; done)
    · have e8 : ¬ ((es.length : Int) = 2) := by omega
      have e9 : holdB (.tup es) = false := by
        unfold holdB
        split
        · rename_i q
          cases q
          exact absurd rfl h2
        · rfl
      simp [isBody, stepB, e9, lenD, neD_int, e8, fnM, fnF, mSeq, mIf, mOr, mAnd, mNot, mB, mUn, mOp, mVar, mC, mRet, mSkip, mOrV, mAndV, mIfE, mCons, mNil, mTup, mLst, mBt, mCall, mCallR, mSet, mDrop, mRaise, noRt, mSl, mPt, mNoP, mPar, mAsg, mYes, mChain, pure_bind', ofO_some, er_bind, assoc', noEr_pure, join_ss, asB_bl, asI_int, List.getElem?_cons_zero, List.getElem?_cons_succ, List.set_cons_zero, List.set_cons_succ, List.map_cons, List.map_nil, List.length_cons, List.length_nil, List.cons_append, List.nil_append, List.replicate, isi_NoneType_int, isi_bool_int, isi_int_int, isi_str_int, isi_list_int, isi_tuple_int, isi_dict_int, isi_NoneType_bool, isi_bool_bool, isi_int_bool, isi_str_bool, isi_list_bool, isi_tuple_bool, isi_dict_bool, isi_NoneType_str, isi_bool_str, isi_int_str, isi_str_str, isi_list_str, isi_tuple_str, isi_dict_str, isi_NoneType_list, isi_bool_list, isi_int_list, isi_str_list, isi_list_list, isi_tuple_list, isi_dict_list, isi_NoneType_tuple, isi_bool_tuple, isi_int_tuple, isi_str_tuple, isi_list_tuple, isi_tuple_tuple, isi_dict_tuple, isi_NoneType_two, isi_bool_two, isi_int_two, isi_str_two, isi_list_two, isi_tuple_two, isi_dict_two]
  | _ => first
    | (simp [isBody, stepB, holdB, fnM, fnF, mSeq, mIf, mOr, mAnd, mNot, mB, mUn, mOp, mVar, mC, mRet, mSkip, mOrV, mAndV, mIfE, mCons, mNil, mTup, mLst, mBt, mCall, mCallR, mSet, mDrop, mRaise, noRt, mSl, mPt, mNoP, mPar, mAsg, mYes, mChain, pure_bind', ofO_some, er_bind, assoc', noEr_pure, join_ss, asB_bl, asI_int, List.getElem?_cons_zero, List.getElem?_cons_succ, List.set_cons_zero, List.set_cons_succ, List.map_cons, List.map_nil, List.length_cons, List.length_nil, List.cons_append, List.nil_append, List.replicate, isi_NoneType_int, isi_bool_int, isi_int_int, isi_str_int, isi_list_int, isi_tuple_int, isi_dict_int, isi_NoneType_bool, isi_bool_bool, isi_int_bool, isi_str_bool, isi_list_bool, isi_tuple_bool, isi_dict_bool, isi_NoneType_str, isi_bool_str, isi_int_str, isi_str_str, isi_list_str, isi_tuple_str, isi_dict_str, isi_NoneType_list, isi_bool_list, isi_int_list, isi_str_list, isi_list_list, isi_tuple_list, isi_dict_list, isi_NoneType_tuple, isi_bool_tuple, isi_int_tuple, isi_str_tuple, isi_list_tuple, isi_tuple_tuple, isi_dict_tuple, isi_NoneType_two, isi_bool_two, isi_int_two, isi_str_two, isi_list_two, isi_tuple_two, isi_dict_two]; done)
    | (simp [D.wf] at hw; done)
end K84

set_option Elab.async false
set_option linter.all false
set_option maxRecDepth 100000
set_option maxHeartbeats 1000000
namespace K84
open PySem PySem.Spec PyProof.Rows L2 GxR GenW Ink
theorem is_loop {ds : List D} : ∀ (r : List D) (k : Nat) (last : Int) (x2 x3 x4 x5 : Option D), k + r.length = ds.length → -1 ≤ last → (∀ d ∈ r, d.wf = true) → ∃ env', Ink.forM (tgP 2 3) isBody ((r.zipIdx k).map fun q => D.tup [.int (q.2 : Int), q.1]) [some (.lst ds), some (.int last), x2, x3, x4, x5] = if heldFrom last r = true then Mo.pure (.nx env') else Mo.pure (.rt (.bl false))
  | [], k, last, x2, x3, x4, x5, _, _, _ => ⟨_, by simp [Ink.forM, heldFrom]; rfl⟩
  | d :: r, k, last, x2, x3, x4, x5, hk, hl, hw => by
    have hd := hw d List.mem_cons_self
    have e1 : decide (((k : Nat) : Int) + 1 < ds.length) = !r.isEmpty := by
      rw [← hk, List.length_cons]
      cases r with
      | nil => simp
      | cons a b => simp; omega
    rw [List.zipIdx_cons, List.map_cons]
    unfold Ink.forM
    have e2 : tgP 2 3 (.tup [.int (k : Int), d]) [some (.lst ds), some (.int last), x2, x3, x4, x5] = some [some (.lst ds), some (.int last), some (.int (k : Int)), some d, x4, x5] := rfl
    simp only []
    rw [e2, ofO_some, pure_bind', isBody_ev hd hl, e1]
    cases hs : stepB last (!r.isEmpty) d with
    | true =>
      have h0 : holdB d = true ∧ last < numN d ∧ (r.isEmpty || !(txtN d == "")) = true := by
        simp only [stepB, Bool.and_eq_true, Bool.not_not, decide_eq_true_eq] at hs
        exact hs
      obtain ⟨n, x, rfl, hn, _⟩ := hold_shape h0.1
      have hn' : -1 ≤ numN (.tup [.int n, .str x]) := by
        show -1 ≤ n
        omega
      obtain ⟨env', q⟩ := is_loop r (k + 1) (numN (.tup [.int n, .str x])) (some (.int (k : Int))) (some (.tup [.int n, .str x])) (some (.int n)) (some (.str x)) (by rw [← hk, List.length_cons]; omega) hn' fun e he => hw e (List.mem_cons_of_mem _ he)
      refine ⟨env', ?_⟩
      have e3 : heldFrom last (.tup [.int n, .str x] :: r) = heldFrom (numN (.tup [.int n, .str x])) r := by
        rw [heldFrom, h0.1, decide_eq_true h0.2.1, h0.2.2, Bool.true_and, Bool.true_and, Bool.true_and]
      rw [if_pos rfl, pure_bind', e3]
      exact q
    | false =>
      refine ⟨[], ?_⟩
      have e3 : heldFrom last (d :: r) = false := by
        rw [heldFrom]
        simp only [stepB, Bool.not_not] at hs
        cases h1 : holdB d <;> cases h2 : decide (last < numN d) <;> cases h3 : (r.isEmpty || !(txtN d == "")) <;> simp_all
      rw [if_neg (by decide), pure_bind', e3, if_neg (by decide)]
theorem ev_law_is {d : D} (h : d.wf = true) : f_law_is [d] = Mo.pure (.bl (isHeld d)) := by
  unfold f_law_is
  rw [m_is_eq]
  cases d with
  | lst ds =>
    have h' : ds.length ≤ 1000 ∧ wfA ds = true := by simpa [D.wf] using h
    obtain ⟨env', q⟩ := is_loop (ds := ds) ds 0 (-1) none none none none (by omega) (by omega) fun d hd => wfA_mem h'.2 hd
    simp [subD, mFor, mItA, enumD, fnM, fnF, mSeq, mIf, mOr, mAnd, mNot, mB, mUn, mOp, mVar, mC, mRet, mSkip, mOrV, mAndV, mIfE, mCons, mNil, mTup, mLst, mBt, mCall, mCallR, mSet, mDrop, mRaise, noRt, mSl, mPt, mNoP, mPar, mAsg, mYes, mChain, pure_bind', ofO_some, er_bind, assoc', noEr_pure, join_ss, asB_bl, asI_int, List.getElem?_cons_zero, List.getElem?_cons_succ, List.set_cons_zero, List.set_cons_succ, List.map_cons, List.map_nil, List.length_cons, List.length_nil, List.cons_append, List.nil_append, List.replicate, isi_NoneType_int, isi_bool_int, isi_int_int, isi_str_int, isi_list_int, isi_tuple_int, isi_dict_int, isi_NoneType_bool, isi_bool_bool, isi_int_bool, isi_str_bool, isi_list_bool, isi_tuple_bool, isi_dict_bool, isi_NoneType_str, isi_bool_str, isi_int_str, isi_str_str, isi_list_str, isi_tuple_str, isi_dict_str, isi_NoneType_list, isi_bool_list, isi_int_list, isi_str_list, isi_list_list, isi_tuple_list, isi_dict_list, isi_NoneType_tuple, isi_bool_tuple, isi_int_tuple, isi_str_tuple, isi_list_tuple, isi_tuple_tuple, isi_dict_tuple, isi_NoneType_two, isi_bool_two, isi_int_two, isi_str_two, isi_list_two, isi_tuple_two, isi_dict_two]
    erw [q]
    cases hh : heldFrom (-1) ds with
    | true => simp [isHeld, hh, fnM, fnF, mSeq, mIf, mOr, mAnd, mNot, mB, mUn, mOp, mVar, mC, mRet, mSkip, mOrV, mAndV, mIfE, mCons, mNil, mTup, mLst, mBt, mCall, mCallR, mSet, mDrop, mRaise, noRt, mSl, mPt, mNoP, mPar, mAsg, mYes, mChain, pure_bind', ofO_some, er_bind, assoc', noEr_pure, join_ss, asB_bl, asI_int, List.getElem?_cons_zero, List.getElem?_cons_succ, List.set_cons_zero, List.set_cons_succ, List.map_cons, List.map_nil, List.length_cons, List.length_nil, List.cons_append, List.nil_append, List.replicate, isi_NoneType_int, isi_bool_int, isi_int_int, isi_str_int, isi_list_int, isi_tuple_int, isi_dict_int, isi_NoneType_bool, isi_bool_bool, isi_int_bool, isi_str_bool, isi_list_bool, isi_tuple_bool, isi_dict_bool, isi_NoneType_str, isi_bool_str, isi_int_str, isi_str_str, isi_list_str, isi_tuple_str, isi_dict_str, isi_NoneType_list, isi_bool_list, isi_int_list, isi_str_list, isi_list_list, isi_tuple_list, isi_dict_list, isi_NoneType_tuple, isi_bool_tuple, isi_int_tuple, isi_str_tuple, isi_list_tuple, isi_tuple_tuple, isi_dict_tuple, isi_NoneType_two, isi_bool_two, isi_int_two, isi_str_two, isi_list_two, isi_tuple_two, isi_dict_two]
    | false => simp [isHeld, hh, fnM, fnF, mSeq, mIf, mOr, mAnd, mNot, mB, mUn, mOp, mVar, mC, mRet, mSkip, mOrV, mAndV, mIfE, mCons, mNil, mTup, mLst, mBt, mCall, mCallR, mSet, mDrop, mRaise, noRt, mSl, mPt, mNoP, mPar, mAsg, mYes, mChain, pure_bind', ofO_some, er_bind, assoc', noEr_pure, join_ss, asB_bl, asI_int, List.getElem?_cons_zero, List.getElem?_cons_succ, List.set_cons_zero, List.set_cons_succ, List.map_cons, List.map_nil, List.length_cons, List.length_nil, List.cons_append, List.nil_append, List.replicate, isi_NoneType_int, isi_bool_int, isi_int_int, isi_str_int, isi_list_int, isi_tuple_int, isi_dict_int, isi_NoneType_bool, isi_bool_bool, isi_int_bool, isi_str_bool, isi_list_bool, isi_tuple_bool, isi_dict_bool, isi_NoneType_str, isi_bool_str, isi_int_str, isi_str_str, isi_list_str, isi_tuple_str, isi_dict_str, isi_NoneType_list, isi_bool_list, isi_int_list, isi_str_list, isi_list_list, isi_tuple_list, isi_dict_list, isi_NoneType_tuple, isi_bool_tuple, isi_int_tuple, isi_str_tuple, isi_list_tuple, isi_tuple_tuple, isi_dict_tuple, isi_NoneType_two, isi_bool_two, isi_int_two, isi_str_two, isi_list_two, isi_tuple_two, isi_dict_two]
  | _ => first
    | (simp [subD, isHeld, fnM, fnF, mSeq, mIf, mOr, mAnd, mNot, mB, mUn, mOp, mVar, mC, mRet, mSkip, mOrV, mAndV, mIfE, mCons, mNil, mTup, mLst, mBt, mCall, mCallR, mSet, mDrop, mRaise, noRt, mSl, mPt, mNoP, mPar, mAsg, mYes, mChain, pure_bind', ofO_some, er_bind, assoc', noEr_pure, join_ss, asB_bl, asI_int, List.getElem?_cons_zero, List.getElem?_cons_succ, List.set_cons_zero, List.set_cons_succ, List.map_cons, List.map_nil, List.length_cons, List.length_nil, List.cons_append, List.nil_append, List.replicate, isi_NoneType_int, isi_bool_int, isi_int_int, isi_str_int, isi_list_int, isi_tuple_int, isi_dict_int, isi_NoneType_bool, isi_bool_bool, isi_int_bool, isi_str_bool, isi_list_bool, isi_tuple_bool, isi_dict_bool, isi_NoneType_str, isi_bool_str, isi_int_str, isi_str_str, isi_list_str, isi_tuple_str, isi_dict_str, isi_NoneType_list, isi_bool_list, isi_int_list, isi_str_list, isi_list_list, isi_tuple_list, isi_dict_list, isi_NoneType_tuple, isi_bool_tuple, isi_int_tuple, isi_str_tuple, isi_list_tuple, isi_tuple_tuple, isi_dict_tuple, isi_NoneType_two, isi_bool_two, isi_int_two, isi_str_two, isi_list_two, isi_tuple_two, isi_dict_two]; done)
    | (simp [D.wf] at h; done)
theorem ev_check_held {d : D} (h : d.wf = true) : f_check_held [d] = if isHeld d = true then Mo.pure .non else Mo.er 0 d := by
  cases hd : isHeld d <;> simp [f_check_held, m_check_held, ev_is_held h, hd, er_fold, fnM, fnF, mSeq, mIf, mOr, mAnd, mNot, mB, mUn, mOp, mVar, mC, mRet, mSkip, mOrV, mAndV, mIfE, mCons, mNil, mTup, mLst, mBt, mCall, mCallR, mSet, mDrop, mRaise, noRt, mSl, mPt, mNoP, mPar, mAsg, mYes, mChain, pure_bind', ofO_some, er_bind, assoc', noEr_pure, join_ss, asB_bl, asI_int, List.getElem?_cons_zero, List.getElem?_cons_succ, List.set_cons_zero, List.set_cons_succ, List.map_cons, List.map_nil, List.length_cons, List.length_nil, List.cons_append, List.nil_append, List.replicate, isi_NoneType_int, isi_bool_int, isi_int_int, isi_str_int, isi_list_int, isi_tuple_int, isi_dict_int, isi_NoneType_bool, isi_bool_bool, isi_int_bool, isi_str_bool, isi_list_bool, isi_tuple_bool, isi_dict_bool, isi_NoneType_str, isi_bool_str, isi_int_str, isi_str_str, isi_list_str, isi_tuple_str, isi_dict_str, isi_NoneType_list, isi_bool_list, isi_int_list, isi_str_list, isi_list_list, isi_tuple_list, isi_dict_list, isi_NoneType_tuple, isi_bool_tuple, isi_int_tuple, isi_str_tuple, isi_list_tuple, isi_tuple_tuple, isi_dict_tuple, isi_NoneType_two, isi_bool_two, isi_int_two, isi_str_two, isi_list_two, isi_tuple_two, isi_dict_two]
theorem ev_check_number {d : D} (h : d.kn < 7) : f_check_number [d] = if cnt d = true then Mo.pure .non else Mo.er 1 d := by
  cases hd : cnt d <;> simp [f_check_number, m_check_number, ev_is_count h, hd, er_fold, fnM, fnF, mSeq, mIf, mOr, mAnd, mNot, mB, mUn, mOp, mVar, mC, mRet, mSkip, mOrV, mAndV, mIfE, mCons, mNil, mTup, mLst, mBt, mCall, mCallR, mSet, mDrop, mRaise, noRt, mSl, mPt, mNoP, mPar, mAsg, mYes, mChain, pure_bind', ofO_some, er_bind, assoc', noEr_pure, join_ss, asB_bl, asI_int, List.getElem?_cons_zero, List.getElem?_cons_succ, List.set_cons_zero, List.set_cons_succ, List.map_cons, List.map_nil, List.length_cons, List.length_nil, List.cons_append, List.nil_append, List.replicate, isi_NoneType_int, isi_bool_int, isi_int_int, isi_str_int, isi_list_int, isi_tuple_int, isi_dict_int, isi_NoneType_bool, isi_bool_bool, isi_int_bool, isi_str_bool, isi_list_bool, isi_tuple_bool, isi_dict_bool, isi_NoneType_str, isi_bool_str, isi_int_str, isi_str_str, isi_list_str, isi_tuple_str, isi_dict_str, isi_NoneType_list, isi_bool_list, isi_int_list, isi_str_list, isi_list_list, isi_tuple_list, isi_dict_list, isi_NoneType_tuple, isi_bool_tuple, isi_int_tuple, isi_str_tuple, isi_list_tuple, isi_tuple_tuple, isi_dict_tuple, isi_NoneType_two, isi_bool_two, isi_int_two, isi_str_two, isi_list_two, isi_tuple_two, isi_dict_two]
end K84

set_option Elab.async false
set_option linter.all false
set_option maxRecDepth 100000
set_option maxHeartbeats 1000000
namespace K84
open PySem PySem.Spec PyProof.Rows L2 GxR GenW Ink
theorem sg_lt : ∀ c ∈ SG.cps.toList, c < 1114112 := by decide +kernel
theorem strOk_iff (x : Str) : PyData.strOk x = true ↔ ∀ c ∈ x.cps.toList, c < 1114112 := by
  unfold PyData.strOk
  rw [← Array.all_toList, List.all_eq_true]
  simp
theorem okS_iff (x : Str) : okS x = true ↔ ∀ c ∈ x.cps.toList, okC c = true := by
  unfold okS
  rw [List.all_eq_true]
theorem okS_ok {x : Str} (h : okS x = true) : PyData.strOk x = true := (strOk_iff x).mpr fun c hc => sg_lt c (of_decide_eq_true ((okS_iff x).mp h c hc))
theorem cut_sub {x : Str} {lo hi : Option Int} {c : Nat} (h : c ∈ (cutS x lo hi).cps.toList) : c ∈ x.cps.toList := by
  unfold cutS at h
  exact List.mem_of_mem_drop (List.mem_of_mem_take (by simpa using h))
theorem strOk_cut {x : Str} (lo hi : Option Int) (h : PyData.strOk x = true) : PyData.strOk (cutS x lo hi) = true := (strOk_iff _).mpr fun c hc => (strOk_iff x).mp h c (cut_sub hc)
def sgAt (t : Str) (n : Int) : Str := cutS t (some n) (some (n + 1))
def keepsB (ds : List D) (t : Str) : Bool := ds.all fun d => sgAt t (numN d) == txtN d
theorem wf_txt {n : Int} {x : Str} (h : (D.tup [.int n, .str x]).wf = true) : PyData.strOk x = true := by
  simp [D.wf, wfA] at h
  exact h.1
theorem ev_sign_of {t : Str} {n : Int} (h : t.length ≤ 1000) : f_sign_of [.str t, .int n] = Mo.pure (.str (sgAt t n)) := by
  have h5 : t.length ≤ 100000 := by omega
  simp [f_sign_of, m_sign_of, slD, addD, h5, sgAt, fnM, fnF, mSeq, mIf, mOr, mAnd, mNot, mB, mUn, mOp, mVar, mC, mRet, mSkip, mOrV, mAndV, mIfE, mCons, mNil, mTup, mLst, mBt, mCall, mCallR, mSet, mDrop, mRaise, noRt, mSl, mPt, mNoP, mPar, mAsg, mYes, mChain, pure_bind', ofO_some, er_bind, assoc', noEr_pure, join_ss, asB_bl, asI_int, List.getElem?_cons_zero, List.getElem?_cons_succ, List.set_cons_zero, List.set_cons_succ, List.map_cons, List.map_nil, List.length_cons, List.length_nil, List.cons_append, List.nil_append, List.replicate, isi_NoneType_int, isi_bool_int, isi_int_int, isi_str_int, isi_list_int, isi_tuple_int, isi_dict_int, isi_NoneType_bool, isi_bool_bool, isi_int_bool, isi_str_bool, isi_list_bool, isi_tuple_bool, isi_dict_bool, isi_NoneType_str, isi_bool_str, isi_int_str, isi_str_str, isi_list_str, isi_tuple_str, isi_dict_str, isi_NoneType_list, isi_bool_list, isi_int_list, isi_str_list, isi_list_list, isi_tuple_list, isi_dict_list, isi_NoneType_tuple, isi_bool_tuple, isi_int_tuple, isi_str_tuple, isi_list_tuple, isi_tuple_tuple, isi_dict_tuple, isi_NoneType_two, isi_bool_two, isi_int_two, isi_str_two, isi_list_two, isi_tuple_two, isi_dict_two]
theorem ev_keeps_all {ds : List D} {t : Str} (hd : ∀ d ∈ ds, holdB d = true) (ht : PyData.strOk t = true) (hl : t.length ≤ 1000) : f_keeps_all [.lst ds, .str t] = Mo.pure (.bl (keepsB ds t)) := by
  have g := gx_pure (z := true) (t := tgP 2 3) (env := wipeD [some (.lst ds), some (.str t), none, none] [2, 3]) (tt := mYes) (te := mOp eqD (mCall 2 f_sign_of (mCons (mVar 1) (mCons (mVar 2) mNil))) (mVar 3)) (fun d => [some (.lst ds), some (.str t), some (.int (numN d)), some (.str (txtN d))]) (fun d => sgAt t (numN d) == txtN d) (ds := ds) (fun d hm => by
    obtain ⟨n, x, rfl, _, _, hx, _⟩ := hold_shape (hd d hm)
    refine ⟨rfl, rfl, ?_⟩
    have e : eqD (.str (sgAt t n)) (.str x) = some (.bl (sgAt t n == x)) := eqD_str (strOk_cut _ _ ht) (okS_ok hx)
    simp [ev_sign_of hl, numN_t, txtN_t, e, fnM, fnF, mSeq, mIf, mOr, mAnd, mNot, mB, mUn, mOp, mVar, mC, mRet, mSkip, mOrV, mAndV, mIfE, mCons, mNil, mTup, mLst, mBt, mCall, mCallR, mSet, mDrop, mRaise, noRt, mSl, mPt, mNoP, mPar, mAsg, mYes, mChain, pure_bind', ofO_some, er_bind, assoc', noEr_pure, join_ss, asB_bl, asI_int, List.getElem?_cons_zero, List.getElem?_cons_succ, List.set_cons_zero, List.set_cons_succ, List.map_cons, List.map_nil, List.length_cons, List.length_nil, List.cons_append, List.nil_append, List.replicate, isi_NoneType_int, isi_bool_int, isi_int_int, isi_str_int, isi_list_int, isi_tuple_int, isi_dict_int, isi_NoneType_bool, isi_bool_bool, isi_int_bool, isi_str_bool, isi_list_bool, isi_tuple_bool, isi_dict_bool, isi_NoneType_str, isi_bool_str, isi_int_str, isi_str_str, isi_list_str, isi_tuple_str, isi_dict_str, isi_NoneType_list, isi_bool_list, isi_int_list, isi_str_list, isi_list_list, isi_tuple_list, isi_dict_list, isi_NoneType_tuple, isi_bool_tuple, isi_int_tuple, isi_str_tuple, isi_list_tuple, isi_tuple_tuple, isi_dict_tuple, isi_NoneType_two, isi_bool_two, isi_int_two, isi_str_two, isi_list_two, isi_tuple_two, isi_dict_two])
  rw [if_pos rfl] at g
  simp [f_keeps_all, m_keeps_all, mGx, mIt, itsD, g, keepsB, fnM, fnF, mSeq, mIf, mOr, mAnd, mNot, mB, mUn, mOp, mVar, mC, mRet, mSkip, mOrV, mAndV, mIfE, mCons, mNil, mTup, mLst, mBt, mCall, mCallR, mSet, mDrop, mRaise, noRt, mSl, mPt, mNoP, mPar, mAsg, mYes, mChain, pure_bind', ofO_some, er_bind, assoc', noEr_pure, join_ss, asB_bl, asI_int, List.getElem?_cons_zero, List.getElem?_cons_succ, List.set_cons_zero, List.set_cons_succ, List.map_cons, List.map_nil, List.length_cons, List.length_nil, List.cons_append, List.nil_append, List.replicate, isi_NoneType_int, isi_bool_int, isi_int_int, isi_str_int, isi_list_int, isi_tuple_int, isi_dict_int, isi_NoneType_bool, isi_bool_bool, isi_int_bool, isi_str_bool, isi_list_bool, isi_tuple_bool, isi_dict_bool, isi_NoneType_str, isi_bool_str, isi_int_str, isi_str_str, isi_list_str, isi_tuple_str, isi_dict_str, isi_NoneType_list, isi_bool_list, isi_int_list, isi_str_list, isi_list_list, isi_tuple_list, isi_dict_list, isi_NoneType_tuple, isi_bool_tuple, isi_int_tuple, isi_str_tuple, isi_list_tuple, isi_tuple_tuple, isi_dict_tuple, isi_NoneType_two, isi_bool_two, isi_int_two, isi_str_two, isi_list_two, isi_tuple_two, isi_dict_two]
theorem held_all {ds : List D} (h : isHeld (.lst ds) = true) : ∀ d ∈ ds, holdB d = true := by
  rw [isHeld, heldFrom_eq, Bool.and_eq_true] at h
  exact List.all_eq_true.mp h.1
theorem held_lst {d : D} (h : isHeld d = true) : ∃ ds, d = .lst ds := by
  cases d <;> first | exact ⟨_, rfl⟩ | cases h
theorem ev_keeps {h t : D} (hh : h.wf = true) (ht : t.wf = true) : f_keeps [h, t] = if isHeld h = true then (if txtD t = true then Mo.pure (.bl (match h, t with | .lst ds, .str x => keepsB ds x | _, _ => false)) else Mo.er 2 t) else Mo.er 0 h := by
  cases e1 : isHeld h with
  | false => simp [f_keeps, m_keeps, ev_check_held hh, e1, fnM, fnF, mSeq, mIf, mOr, mAnd, mNot, mB, mUn, mOp, mVar, mC, mRet, mSkip, mOrV, mAndV, mIfE, mCons, mNil, mTup, mLst, mBt, mCall, mCallR, mSet, mDrop, mRaise, noRt, mSl, mPt, mNoP, mPar, mAsg, mYes, mChain, pure_bind', ofO_some, er_bind, assoc', noEr_pure, join_ss, asB_bl, asI_int, List.getElem?_cons_zero, List.getElem?_cons_succ, List.set_cons_zero, List.set_cons_succ, List.map_cons, List.map_nil, List.length_cons, List.length_nil, List.cons_append, List.nil_append, List.replicate, isi_NoneType_int, isi_bool_int, isi_int_int, isi_str_int, isi_list_int, isi_tuple_int, isi_dict_int, isi_NoneType_bool, isi_bool_bool, isi_int_bool, isi_str_bool, isi_list_bool, isi_tuple_bool, isi_dict_bool, isi_NoneType_str, isi_bool_str, isi_int_str, isi_str_str, isi_list_str, isi_tuple_str, isi_dict_str, isi_NoneType_list, isi_bool_list, isi_int_list, isi_str_list, isi_list_list, isi_tuple_list, isi_dict_list, isi_NoneType_tuple, isi_bool_tuple, isi_int_tuple, isi_str_tuple, isi_list_tuple, isi_tuple_tuple, isi_dict_tuple, isi_NoneType_two, isi_bool_two, isi_int_two, isi_str_two, isi_list_two, isi_tuple_two, isi_dict_two]
  | true =>
    obtain ⟨ds, rfl⟩ := held_lst e1
    cases e2 : txtD t with
    | false => simp [f_keeps, m_keeps, ev_check_held hh, ev_is_text (wf_kn ht), e1, e2, er_fold, fnM, fnF, mSeq, mIf, mOr, mAnd, mNot, mB, mUn, mOp, mVar, mC, mRet, mSkip, mOrV, mAndV, mIfE, mCons, mNil, mTup, mLst, mBt, mCall, mCallR, mSet, mDrop, mRaise, noRt, mSl, mPt, mNoP, mPar, mAsg, mYes, mChain, pure_bind', ofO_some, er_bind, assoc', noEr_pure, join_ss, asB_bl, asI_int, List.getElem?_cons_zero, List.getElem?_cons_succ, List.set_cons_zero, List.set_cons_succ, List.map_cons, List.map_nil, List.length_cons, List.length_nil, List.cons_append, List.nil_append, List.replicate, isi_NoneType_int, isi_bool_int, isi_int_int, isi_str_int, isi_list_int, isi_tuple_int, isi_dict_int, isi_NoneType_bool, isi_bool_bool, isi_int_bool, isi_str_bool, isi_list_bool, isi_tuple_bool, isi_dict_bool, isi_NoneType_str, isi_bool_str, isi_int_str, isi_str_str, isi_list_str, isi_tuple_str, isi_dict_str, isi_NoneType_list, isi_bool_list, isi_int_list, isi_str_list, isi_list_list, isi_tuple_list, isi_dict_list, isi_NoneType_tuple, isi_bool_tuple, isi_int_tuple, isi_str_tuple, isi_list_tuple, isi_tuple_tuple, isi_dict_tuple, isi_NoneType_two, isi_bool_two, isi_int_two, isi_str_two, isi_list_two, isi_tuple_two, isi_dict_two]
    | true =>
      cases t with
      | str x =>
        have hx : PyData.strOk x = true ∧ x.length ≤ 1000 := by simpa [D.wf] using ht
        simp [f_keeps, m_keeps, ev_check_held hh, ev_is_text (wf_kn ht), ev_keeps_all (held_all e1) hx.1 hx.2, e1, e2, er_fold, fnM, fnF, mSeq, mIf, mOr, mAnd, mNot, mB, mUn, mOp, mVar, mC, mRet, mSkip, mOrV, mAndV, mIfE, mCons, mNil, mTup, mLst, mBt, mCall, mCallR, mSet, mDrop, mRaise, noRt, mSl, mPt, mNoP, mPar, mAsg, mYes, mChain, pure_bind', ofO_some, er_bind, assoc', noEr_pure, join_ss, asB_bl, asI_int, List.getElem?_cons_zero, List.getElem?_cons_succ, List.set_cons_zero, List.set_cons_succ, List.map_cons, List.map_nil, List.length_cons, List.length_nil, List.cons_append, List.nil_append, List.replicate, isi_NoneType_int, isi_bool_int, isi_int_int, isi_str_int, isi_list_int, isi_tuple_int, isi_dict_int, isi_NoneType_bool, isi_bool_bool, isi_int_bool, isi_str_bool, isi_list_bool, isi_tuple_bool, isi_dict_bool, isi_NoneType_str, isi_bool_str, isi_int_str, isi_str_str, isi_list_str, isi_tuple_str, isi_dict_str, isi_NoneType_list, isi_bool_list, isi_int_list, isi_str_list, isi_list_list, isi_tuple_list, isi_dict_list, isi_NoneType_tuple, isi_bool_tuple, isi_int_tuple, isi_str_tuple, isi_list_tuple, isi_tuple_tuple, isi_dict_tuple, isi_NoneType_two, isi_bool_two, isi_int_two, isi_str_two, isi_list_two, isi_tuple_two, isi_dict_two]
      | _ => simp [txtD] at e2
end K84

set_option Elab.async false
set_option linter.all false
set_option maxRecDepth 100000
set_option maxHeartbeats 1000000
namespace K84
open PySem PySem.Spec PyProof.Rows L2 GxR GenW Ink
/-- plain data of a depth -/
def lev : Nat → D → Bool
  | _, .non => true
  | _, .bl _ => true
  | _, .int _ => true
  | _, .str x => PyData.strOk x
  | n + 1, .lst ds => ds.all (lev n)
  | n + 1, .tup ds => ds.all (lev n)
  | _, _ => false
theorem lev_all {n : Nat} {ds : List D} (ih : ∀ d, lev n d = true → d.pl = true ∧ d.py.canLay0 = true ∧ d.py.depth ≤ n) : ∀ {ds : List D}, ds.all (lev n) = true → plA ds = true ∧ PyData.canLayAll0 (pyA ds) = true ∧ PyData.depthAll (pyA ds) ≤ n
  | [], _ => ⟨rfl, rfl, Nat.zero_le _⟩
  | d :: r, h => by
    rw [List.all_cons, Bool.and_eq_true] at h
    obtain ⟨a1, a2, a3⟩ := ih d h.1
    obtain ⟨b1, b2, b3⟩ := lev_all (ds := ds) ih h.2
    refine ⟨by simp [plA, a1, b1], by simp [pyA, PyData.canLayAll0, a2, b2], ?_⟩
    simp only [pyA, PyData.depthAll]
    omega
theorem lev_ok : ∀ (n : Nat) (d : D), lev n d = true → d.pl = true ∧ d.py.canLay0 = true ∧ d.py.depth ≤ n
  | n, .non, _ => by simp [D.pl, D.py, PyData.canLay0, PyData.depth]
  | n, .bl _, _ => by simp [D.pl, D.py, PyData.canLay0, PyData.depth]
  | n, .int _, _ => by simp [D.pl, D.py, PyData.canLay0, PyData.depth]
  | n, .str x, h => by simpa [lev, D.pl, D.py, PyData.canLay0, PyData.depth] using h
  | 0, .lst ds, h => by simp [lev] at h
  | 0, .tup ds, h => by simp [lev] at h
  | n + 1, .lst ds, h => by
    obtain ⟨b1, b2, b3⟩ := lev_all (ds := ds) (lev_ok n) (by simpa only [lev] using h)
    refine ⟨by simp [D.pl, b1], by simp [D.py, PyData.canLay0, b2], ?_⟩
    simp only [D.py, PyData.depth]
    omega
  | n + 1, .tup ds, h => by
    obtain ⟨b1, b2, b3⟩ := lev_all (ds := ds) (lev_ok n) (by simpa only [lev] using h)
    refine ⟨by simp [D.pl, b1], by simp [D.py, PyData.canLay0, b2], ?_⟩
    simp only [D.py, PyData.depth]
    omega
  | 0, .dic _, h => by simp [lev] at h
  | 0, .frl _, h => by simp [lev] at h
  | 0, .err _ _, h => by simp [lev] at h
  | 0, .gen, h => by simp [lev] at h
  | 0, .own, h => by simp [lev] at h
  | n + 1, .dic _, h => by simp [lev] at h
  | n + 1, .frl _, h => by simp [lev] at h
  | n + 1, .err _ _, h => by simp [lev] at h
  | n + 1, .gen, h => by simp [lev] at h
  | n + 1, .own, h => by simp [lev] at h
theorem lev_eqOk {n : Nat} {d : D} (hn : n ≤ 64) (h : lev n d = true) : d.eqOk = true := by
  obtain ⟨a, b, c⟩ := lev_ok n d h
  have c' : d.py.depth ≤ 64 := by omega
  simp [D.eqOk, SeqAt.shaped, a, b, c']
theorem eqD_ok {n : Nat} {d e : D} (hn : n ≤ 64) (h : lev n d = true) (h' : lev n e = true) : eqD d e = some (.bl (PyData.eqv d.py e.py)) := by
  simp [eqD, lev_eqOk hn h, lev_eqOk hn h']
theorem neD_ok {n : Nat} {d e : D} (hn : n ≤ 64) (h : lev n d = true) (h' : lev n e = true) : neD d e = some (.bl (!PyData.eqv d.py e.py)) := by
  simp [neD, lev_eqOk hn h, lev_eqOk hn h']
theorem eqv_self {n : Nat} {d : D} (h : lev n d = true) : PyData.eqv d.py d.py = true := SeqAt.eqv_refl _ (lev_ok n d h).2.1
theorem eqD_self {n : Nat} {d : D} (hn : n ≤ 64) (h : lev n d = true) : eqD d d = some (.bl true) := by
  rw [eqD_ok hn h h, eqv_self h]
theorem neD_self {n : Nat} {d : D} (hn : n ≤ 64) (h : lev n d = true) : neD d d = some (.bl false) := by
  rw [neD_ok hn h h, eqv_self h]
  rfl
theorem eqv_nil (ds : List D) : PyData.eqv (D.lst ds).py (D.lst []).py = ds.isEmpty := by
  cases ds with
  | nil => rfl
  | cons d r => simp [D.py, pyA, PyData.eqv, PyData.eqvAll]
theorem ones_lev (L : List D) : lev 1 (.lst (L.map fun _ => D.int 1)) = true := by
  simp [lev]
theorem eq_ones (L : List D) : eqD (.lst (L.map fun _ => D.int 1)) (.lst []) = some (.bl L.isEmpty) := by
  rw [eqD_ok (by decide) (ones_lev L) (by simp [lev]), eqv_nil]
  cases L <;> rfl
theorem ne_ones (L : List D) : neD (.lst (L.map fun _ => D.int 1)) (.lst []) = some (.bl (!L.isEmpty)) := by
  rw [neD_ok (by decide) (ones_lev L) (by simp [lev]), eqv_nil]
  cases L <;> rfl
theorem ev_law_keeps {ds : List D} {t : Str} (hn : ds.length ≤ 1000) (hd : ∀ d ∈ ds, holdB d = true) (ht : PyData.strOk t = true) (hl : t.length ≤ 1000) : f_law_keeps [.lst ds, .str t] = Mo.pure (.bl (keepsB ds t)) := by
  have h5 : t.length ≤ 100000 := by omega
  have h6 : ds.length ≤ 100000 := by omega
  have g := lc_pure (t := tgP 2 3) (env := wipeD [some (.lst ds), some (.str t), none, none] [2, 3]) (tt := mB (mOp neD (mSl (mVar 1) (mPt (mVar 2)) (mPt (mOp addD (mVar 2) (mC (.int 1))))) (mVar 3))) (te := mC (.int 1)) (fun d => [some (.lst ds), some (.str t), some (.int (numN d)), some (.str (txtN d))]) (fun d => !(sgAt t (numN d) == txtN d)) (fun _ => .int 1) (ds := ds) (fun d hm => by
    obtain ⟨n, x, rfl, _, _, hx, _⟩ := hold_shape (hd d hm)
    refine ⟨rfl, ?_, fun _ => rfl⟩
    have e : neD (.str (sgAt t n)) (.str x) = some (.bl (!(sgAt t n == x))) := neD_str (strOk_cut _ _ ht) (okS_ok hx)
    have e' : slD (.str t) (some n) (some (n + 1)) = some (.str (sgAt t n)) := by simp [slD, h5, sgAt]
    simp [numN_t, txtN_t, e, e', addD, fnM, fnF, mSeq, mIf, mOr, mAnd, mNot, mB, mUn, mOp, mVar, mC, mRet, mSkip, mOrV, mAndV, mIfE, mCons, mNil, mTup, mLst, mBt, mCall, mCallR, mSet, mDrop, mRaise, noRt, mSl, mPt, mNoP, mPar, mAsg, mYes, mChain, pure_bind', ofO_some, er_bind, assoc', noEr_pure, join_ss, asB_bl, asI_int, List.getElem?_cons_zero, List.getElem?_cons_succ, List.set_cons_zero, List.set_cons_succ, List.map_cons, List.map_nil, List.length_cons, List.length_nil, List.cons_append, List.nil_append, List.replicate, isi_NoneType_int, isi_bool_int, isi_int_int, isi_str_int, isi_list_int, isi_tuple_int, isi_dict_int, isi_NoneType_bool, isi_bool_bool, isi_int_bool, isi_str_bool, isi_list_bool, isi_tuple_bool, isi_dict_bool, isi_NoneType_str, isi_bool_str, isi_int_str, isi_str_str, isi_list_str, isi_tuple_str, isi_dict_str, isi_NoneType_list, isi_bool_list, isi_int_list, isi_str_list, isi_list_list, isi_tuple_list, isi_dict_list, isi_NoneType_tuple, isi_bool_tuple, isi_int_tuple, isi_str_tuple, isi_list_tuple, isi_tuple_tuple, isi_dict_tuple, isi_NoneType_two, isi_bool_two, isi_int_two, isi_str_two, isi_list_two, isi_tuple_two, isi_dict_two])
  have e2 : (ds.filter fun d => !(sgAt t (numN d) == txtN d)).isEmpty = keepsB ds t := by
    unfold keepsB
    rw [Bool.eq_iff_iff, List.isEmpty_iff, List.filter_eq_nil_iff, List.all_eq_true]
    simp
  have e3 := eq_ones (ds.filter fun d => !(sgAt t (numN d) == txtN d))
  rw [e2] at e3
  simp [f_law_keeps, m_law_keeps, mLc, mIt, itsD, g, e3, h6, fnM, fnF, mSeq, mIf, mOr, mAnd, mNot, mB, mUn, mOp, mVar, mC, mRet, mSkip, mOrV, mAndV, mIfE, mCons, mNil, mTup, mLst, mBt, mCall, mCallR, mSet, mDrop, mRaise, noRt, mSl, mPt, mNoP, mPar, mAsg, mYes, mChain, pure_bind', ofO_some, er_bind, assoc', noEr_pure, join_ss, asB_bl, asI_int, List.getElem?_cons_zero, List.getElem?_cons_succ, List.set_cons_zero, List.set_cons_succ, List.map_cons, List.map_nil, List.length_cons, List.length_nil, List.cons_append, List.nil_append, List.replicate, isi_NoneType_int, isi_bool_int, isi_int_int, isi_str_int, isi_list_int, isi_tuple_int, isi_dict_int, isi_NoneType_bool, isi_bool_bool, isi_int_bool, isi_str_bool, isi_list_bool, isi_tuple_bool, isi_dict_bool, isi_NoneType_str, isi_bool_str, isi_int_str, isi_str_str, isi_list_str, isi_tuple_str, isi_dict_str, isi_NoneType_list, isi_bool_list, isi_int_list, isi_str_list, isi_list_list, isi_tuple_list, isi_dict_list, isi_NoneType_tuple, isi_bool_tuple, isi_int_tuple, isi_str_tuple, isi_list_tuple, isi_tuple_tuple, isi_dict_tuple, isi_NoneType_two, isi_bool_two, isi_int_two, isi_str_two, isi_list_two, isi_tuple_two, isi_dict_two]
end K84

set_option Elab.async false
set_option linter.all false
set_option maxRecDepth 100000
set_option maxHeartbeats 1000000
namespace K84
open PySem PySem.Spec PyProof.Rows L2 GxR GenW Ink
def RH (a b : D) : Prop := numN a < numN b ∧ txtN a ≠ ""
theorem heldFrom_iff : ∀ (ds : List D) (last : Int), heldFrom last ds = true ↔ (∀ d ∈ ds, holdB d = true) ∧ ds.Pairwise RH ∧ ∀ d ∈ ds, last < numN d
  | [], last => by simp [heldFrom]
  | d :: r, last => by
    have ih := heldFrom_iff r (numN d)
    rw [heldFrom, Bool.and_eq_true, Bool.and_eq_true, Bool.and_eq_true, ih, List.pairwise_cons, List.forall_mem_cons, List.forall_mem_cons, decide_eq_true_eq]
    constructor
    · rintro ⟨h1, h2, h3, h4, h5, h6⟩
      refine ⟨⟨h1, h4⟩, ⟨fun b hb => ⟨h6 b hb, ?_⟩, h5⟩, h2, fun b hb => Int.lt_trans h2 (h6 b hb)⟩
      cases r with
      | nil => cases hb
      | cons e f => simpa using h3
    · rintro ⟨⟨h1, h2⟩, ⟨h3, h4⟩, h5, h6⟩
      refine ⟨h1, h5, ?_, h2, h4, fun b hb => (h3 b hb).1⟩
      cases r with
      | nil => rfl
      | cons e f =>
        have := (h3 e List.mem_cons_self).2
        simpa using this
/-- of the holds, in any order -/
def HS (ds : List D) : Prop := (∀ d ∈ ds, holdB d = true) ∧ (ds.map numN).Nodup ∧ ∀ a ∈ ds, ∀ b ∈ ds, numN a < numN b → txtN a ≠ ""
theorem pw_txt : ∀ {ds : List D}, ds.Pairwise RH → ∀ a ∈ ds, ∀ b ∈ ds, numN a < numN b → txtN a ≠ ""
  | [], _, a, ha, _, _, _ => by cases ha
  | x :: r, h, a, ha, b, hb, hab => by
    obtain ⟨h1, h2⟩ := List.pairwise_cons.mp h
    rcases List.mem_cons.mp ha with rfl | ha'
    · rcases List.mem_cons.mp hb with rfl | hb'
      · exact absurd hab (Int.lt_irrefl _)
      · exact (h1 b hb').2
    · rcases List.mem_cons.mp hb with rfl | hb'
      · have := (h1 a ha').1
        exact absurd hab (by omega)
      · exact pw_txt h2 a ha' b hb' hab
theorem held_iff (ds : List D) : isHeld (.lst ds) = true ↔ HS ds ∧ SrtN ds := by
  rw [isHeld, heldFrom_iff]
  constructor
  · rintro ⟨h1, h2, _⟩
    exact ⟨⟨h1, List.pairwise_map.mpr (h2.imp fun q => by have := q.1; omega), pw_txt h2⟩, h2.imp fun q => by have := q.1; omega⟩
  · rintro ⟨⟨h1, h2, h3⟩, h4⟩
    refine ⟨h1, ((List.pairwise_map.mp h2).and h4).imp_of_mem fun {a b} ha hb q => ?_, fun d hd => ?_⟩
    · have q1 := q.1
      have q2 := q.2
      have q3 : numN a < numN b := by omega
      exact ⟨q3, h3 a ha b hb q3⟩
    · obtain ⟨n, x, rfl, h0, _⟩ := hold_shape (h1 d hd)
      show -1 < n
      omega
theorem HS.perm {ds es : List D} (p : es.Perm ds) (h : HS ds) : HS es := ⟨fun d hd => h.1 d (p.mem_iff.mp hd), ((p.map numN).nodup_iff).mpr h.2.1, fun a ha b hb => h.2.2 a (p.mem_iff.mp ha) b (p.mem_iff.mp hb)⟩
theorem HS.sub {ds es : List D} (p : es.Sublist ds) (h : HS ds) : HS es := ⟨fun d hd => h.1 d (p.subset hd), List.Sublist.nodup (p.map numN) h.2.1, fun a ha b hb => h.2.2 a (p.subset ha) b (p.subset hb)⟩
theorem held_sub {ds es : List D} (p : es.Sublist ds) (h : isHeld (.lst ds) = true) : isHeld (.lst es) = true := by
  obtain ⟨a, b⟩ := (held_iff ds).mp h
  exact (held_iff es).mpr ⟨a.sub p, List.Pairwise.sublist p b⟩
theorem held_sort {ds : List D} (h : HS ds) : isHeld (.lst (sortN ds)) = true := (held_iff _).mpr ⟨h.perm (sortN_perm ds), sortN_srt ds⟩
theorem sort_same {ds : List D} (h : HS ds) (s : SrtN ds) : sortN ds = ds := (srt_uniq s (sortN_srt ds) (sortN_perm ds).symm h.2.1).symm
theorem hold_some {d : D} (h : holdB d = true) : (numT d).isSome = true := by
  obtain ⟨n, x, rfl, _⟩ := hold_shape h
  rfl
theorem ev_sort {ds : List D} (h : HS ds) (hl : ds.length ≤ 1000) : sortD [.lst ds] = some (.lst (sortN ds)) := by
  show (if _ then _ else _) = _
  rw [if_pos ⟨List.all_eq_true.mpr fun d hd => hold_some (h.1 d hd), h.2.1, hl⟩]
def hold (m : Int) (x : Str) : D := .tup [.int m, .str x]
/-- which holds stay -/
def stW (m : Int) (x : Str) (d : D) : Bool := if (x == "") = true then decide (numN d < m) && !(txtN d == "") else !(numN d == m) && (!(txtN d == "") || decide (m < numN d))
def anyW (m : Int) (ds : List D) : Bool := ds.any fun d => txtN d == "" && decide (numN d < m)
def withB (ds : List D) (m : Int) (x : Str) : List D := if (x == "" && anyW m ds) = true then ds else sortN (ds.filter (stW m x) ++ [hold m x])
theorem holdB_hold {m : Int} {x : Str} (h1 : 0 ≤ m) (h2 : m ≤ 60) (hx : okS x = true) (hl : x.length < 2) : holdB (hold m x) = true := by
  simp [hold, holdB, cnt, txtD, shB, h1, h2, hx, hl]
theorem num_hold (m : Int) (x : Str) : numN (hold m x) = m := rfl
theorem txt_hold (m : Int) (x : Str) : txtN (hold m x) = x := rfl
theorem with_HS {ds : List D} {m : Int} {x : Str} (h : isHeld (.lst ds) = true) (h1 : 0 ≤ m) (h2 : m ≤ 60) (hx : okS x = true) (hl : x.length < 2) : HS (ds.filter (stW m x) ++ [hold m x]) := by
  obtain ⟨⟨a1, a2, a3⟩, a4⟩ := (held_iff ds).mp h
  refine ⟨fun d hd => ?_, ?_, fun a ha b hb hab => ?_⟩
  · rcases List.mem_append.mp hd with q | q
    · exact a1 d (List.mem_filter.mp q).1
    · rw [List.mem_singleton.mp q]
      exact holdB_hold h1 h2 hx hl
  · rw [List.map_append, List.nodup_append]
    refine ⟨List.Sublist.nodup (List.filter_sublist.map numN) a2, by simp, fun n hn k hk => ?_⟩
    obtain ⟨d, hd, rfl⟩ := List.mem_map.mp hn
    have hk' : k = m := by simpa [num_hold] using hk
    subst hk'
    have hs := (List.mem_filter.mp hd).2
    unfold stW at hs
    split at hs
    · rw [Bool.and_eq_true, decide_eq_true_eq] at hs
      omega
    · rw [Bool.and_eq_true] at hs
      simpa using hs.1
  · rcases List.mem_append.mp ha with qa | qa
    · obtain ⟨qa, sa⟩ := List.mem_filter.mp qa
      rcases List.mem_append.mp hb with qb | qb
      · exact a3 a qa b (List.mem_filter.mp qb).1 hab
      · rw [List.mem_singleton.mp qb, num_hold] at hab
        unfold stW at sa
        split at sa
        · rw [Bool.and_eq_true] at sa
          simpa using sa.2
        · rw [Bool.and_eq_true, Bool.or_eq_true, decide_eq_true_eq] at sa
          rcases sa.2 with q | q
          · simpa using q
          · omega
    · rw [List.mem_singleton.mp qa, num_hold] at hab
      rcases List.mem_append.mp hb with qb | qb
      · obtain ⟨qb, sb⟩ := List.mem_filter.mp qb
        rw [List.mem_singleton.mp qa, txt_hold]
        unfold stW at sb
        split at sb
        · rw [Bool.and_eq_true, decide_eq_true_eq] at sb
          omega
        · rename_i q
          simpa using q
      · rw [List.mem_singleton.mp qb, num_hold] at hab
        omega
theorem with_held {ds : List D} {m : Int} {x : Str} (h : isHeld (.lst ds) = true) (h1 : 0 ≤ m) (h2 : m ≤ 60) (hx : okS x = true) (hl : x.length < 2) : isHeld (.lst (withB ds m x)) = true := by
  unfold withB
  split
  · exact h
  · exact held_sort (with_HS h h1 h2 hx hl)
theorem with_len {ds : List D} {m : Int} {x : Str} : (withB ds m x).length ≤ ds.length + 1 := by
  unfold withB
  split
  · omega
  · rw [(sortN_perm _).length_eq, List.length_append, List.length_singleton]
    have := List.length_filter_le (stW m x) ds
    omega
end K84

set_option Elab.async false
set_option linter.all false
set_option maxRecDepth 100000
set_option maxHeartbeats 1000000
namespace K84
open PySem PySem.Spec PyProof.Rows L2 GxR GenW Ink
theorem eq_blank {x : Str} (h : okS x = true) : eqD (.str x) (.str "") = some (.bl (x == "")) := eqD_str (okS_ok h) ok_emp
theorem ne_blank {x : Str} (h : okS x = true) : neD (.str x) (.str "") = some (.bl (!(x == ""))) := neD_str (okS_ok h) ok_emp
theorem filter_map_id (ds : List D) (q : D → Bool) : (ds.filter q).map (fun d => d) = ds.filter q := by simp
theorem ev_without {ds : List D} {m : Int} (hd : ∀ d ∈ ds, holdB d = true) (x : Option D) : lcM (tgN 2) [some (.lst ds), some (.int m), none] (mB (mOp neD (mOp ixD (mVar 2) (mC (.int 0))) (mVar 1))) (mVar 2) ds = Mo.pure (ds.filter fun d => !(numN d == m)) := by
  have g := lc_pure (t := tgN 2) (env := [some (.lst ds), some (.int m), none]) (tt := mB (mOp neD (mOp ixD (mVar 2) (mC (.int 0))) (mVar 1))) (te := mVar 2) (fun d => [some (.lst ds), some (.int m), some d]) (fun d => !(numN d == m)) (fun d => d) (ds := ds) (fun d hm => by
    obtain ⟨n, x, rfl, _, _, hx, _⟩ := hold_shape (hd d hm)
    refine ⟨rfl, ?_, fun _ => rfl⟩
    simp [numN_t, at0, neD_int, fnM, fnF, mSeq, mIf, mOr, mAnd, mNot, mB, mUn, mOp, mVar, mC, mRet, mSkip, mOrV, mAndV, mIfE, mCons, mNil, mTup, mLst, mBt, mCall, mCallR, mSet, mDrop, mRaise, noRt, mSl, mPt, mNoP, mPar, mAsg, mYes, mChain, pure_bind', ofO_some, er_bind, assoc', noEr_pure, join_ss, asB_bl, asI_int, List.getElem?_cons_zero, List.getElem?_cons_succ, List.set_cons_zero, List.set_cons_succ, List.map_cons, List.map_nil, List.length_cons, List.length_nil, List.cons_append, List.nil_append, List.replicate, isi_NoneType_int, isi_bool_int, isi_int_int, isi_str_int, isi_list_int, isi_tuple_int, isi_dict_int, isi_NoneType_bool, isi_bool_bool, isi_int_bool, isi_str_bool, isi_list_bool, isi_tuple_bool, isi_dict_bool, isi_NoneType_str, isi_bool_str, isi_int_str, isi_str_str, isi_list_str, isi_tuple_str, isi_dict_str, isi_NoneType_list, isi_bool_list, isi_int_list, isi_str_list, isi_list_list, isi_tuple_list, isi_dict_list, isi_NoneType_tuple, isi_bool_tuple, isi_int_tuple, isi_str_tuple, isi_list_tuple, isi_tuple_tuple, isi_dict_tuple, isi_NoneType_two, isi_bool_two, isi_int_two, isi_str_two, isi_list_two, isi_tuple_two, isi_dict_two])
  rw [filter_map_id] at g
  exact g
theorem ev_held_without {h n : D} (hh : h.wf = true) (hn : n.kn < 7) : f_held_without [h, n] = if isHeld h = true then (if cnt n = true then Mo.pure (match h, n with | .lst ds, .int m => .lst (ds.filter fun d => !(numN d == m)) | _, _ => .non) else Mo.er 1 n) else Mo.er 0 h := by
  cases e1 : isHeld h with
  | false => simp [f_held_without, m_held_without, ev_check_held hh, e1, er_fold, fnM, fnF, mSeq, mIf, mOr, mAnd, mNot, mB, mUn, mOp, mVar, mC, mRet, mSkip, mOrV, mAndV, mIfE, mCons, mNil, mTup, mLst, mBt, mCall, mCallR, mSet, mDrop, mRaise, noRt, mSl, mPt, mNoP, mPar, mAsg, mYes, mChain, pure_bind', ofO_some, er_bind, assoc', noEr_pure, join_ss, asB_bl, asI_int, List.getElem?_cons_zero, List.getElem?_cons_succ, List.set_cons_zero, List.set_cons_succ, List.map_cons, List.map_nil, List.length_cons, List.length_nil, List.cons_append, List.nil_append, List.replicate, isi_NoneType_int, isi_bool_int, isi_int_int, isi_str_int, isi_list_int, isi_tuple_int, isi_dict_int, isi_NoneType_bool, isi_bool_bool, isi_int_bool, isi_str_bool, isi_list_bool, isi_tuple_bool, isi_dict_bool, isi_NoneType_str, isi_bool_str, isi_int_str, isi_str_str, isi_list_str, isi_tuple_str, isi_dict_str, isi_NoneType_list, isi_bool_list, isi_int_list, isi_str_list, isi_list_list, isi_tuple_list, isi_dict_list, isi_NoneType_tuple, isi_bool_tuple, isi_int_tuple, isi_str_tuple, isi_list_tuple, isi_tuple_tuple, isi_dict_tuple, isi_NoneType_two, isi_bool_two, isi_int_two, isi_str_two, isi_list_two, isi_tuple_two, isi_dict_two]
  | true =>
    obtain ⟨ds, rfl⟩ := held_lst e1
    have h' : ds.length ≤ 1000 ∧ wfA ds = true := by simpa [D.wf] using hh
    have h6 : ds.length ≤ 100000 := by omega
    cases e2 : cnt n with
    | false => simp [f_held_without, m_held_without, ev_check_held hh, ev_check_number hn, e1, e2, er_fold, fnM, fnF, mSeq, mIf, mOr, mAnd, mNot, mB, mUn, mOp, mVar, mC, mRet, mSkip, mOrV, mAndV, mIfE, mCons, mNil, mTup, mLst, mBt, mCall, mCallR, mSet, mDrop, mRaise, noRt, mSl, mPt, mNoP, mPar, mAsg, mYes, mChain, pure_bind', ofO_some, er_bind, assoc', noEr_pure, join_ss, asB_bl, asI_int, List.getElem?_cons_zero, List.getElem?_cons_succ, List.set_cons_zero, List.set_cons_succ, List.map_cons, List.map_nil, List.length_cons, List.length_nil, List.cons_append, List.nil_append, List.replicate, isi_NoneType_int, isi_bool_int, isi_int_int, isi_str_int, isi_list_int, isi_tuple_int, isi_dict_int, isi_NoneType_bool, isi_bool_bool, isi_int_bool, isi_str_bool, isi_list_bool, isi_tuple_bool, isi_dict_bool, isi_NoneType_str, isi_bool_str, isi_int_str, isi_str_str, isi_list_str, isi_tuple_str, isi_dict_str, isi_NoneType_list, isi_bool_list, isi_int_list, isi_str_list, isi_list_list, isi_tuple_list, isi_dict_list, isi_NoneType_tuple, isi_bool_tuple, isi_int_tuple, isi_str_tuple, isi_list_tuple, isi_tuple_tuple, isi_dict_tuple, isi_NoneType_two, isi_bool_two, isi_int_two, isi_str_two, isi_list_two, isi_tuple_two, isi_dict_two]
    | true =>
      cases n with
      | int m =>
        have g := ev_without (m := m) (held_all e1) none
        simp [f_held_without, m_held_without, ev_check_held hh, ev_check_number hn, e1, e2, er_fold, mLc, mIt, itsD, wipeD, g, h6, fnM, fnF, mSeq, mIf, mOr, mAnd, mNot, mB, mUn, mOp, mVar, mC, mRet, mSkip, mOrV, mAndV, mIfE, mCons, mNil, mTup, mLst, mBt, mCall, mCallR, mSet, mDrop, mRaise, noRt, mSl, mPt, mNoP, mPar, mAsg, mYes, mChain, pure_bind', ofO_some, er_bind, assoc', noEr_pure, join_ss, asB_bl, asI_int, List.getElem?_cons_zero, List.getElem?_cons_succ, List.set_cons_zero, List.set_cons_succ, List.map_cons, List.map_nil, List.length_cons, List.length_nil, List.cons_append, List.nil_append, List.replicate, isi_NoneType_int, isi_bool_int, isi_int_int, isi_str_int, isi_list_int, isi_tuple_int, isi_dict_int, isi_NoneType_bool, isi_bool_bool, isi_int_bool, isi_str_bool, isi_list_bool, isi_tuple_bool, isi_dict_bool, isi_NoneType_str, isi_bool_str, isi_int_str, isi_str_str, isi_list_str, isi_tuple_str, isi_dict_str, isi_NoneType_list, isi_bool_list, isi_int_list, isi_str_list, isi_list_list, isi_tuple_list, isi_dict_list, isi_NoneType_tuple, isi_bool_tuple, isi_int_tuple, isi_str_tuple, isi_list_tuple, isi_tuple_tuple, isi_dict_tuple, isi_NoneType_two, isi_bool_two, isi_int_two, isi_str_two, isi_list_two, isi_tuple_two, isi_dict_two]
      | _ => simp [cnt] at e2
theorem ev_with_hold {ds : List D} {m : Int} {x : Str} (h : isHeld (.lst ds) = true) (hn : ds.length ≤ 900) (h1 : 0 ≤ m) (h2 : m ≤ 60) (hx : okS x = true) (hl : x.length < 2) : f_with_hold [.lst ds, .int m, .str x] = Mo.pure (.lst (withB ds m x)) := by
  have h6 : ds.length ≤ 100000 := by omega
  have hd := held_all h
  have H := with_HS h h1 h2 hx hl
  obtain ⟨HSd, srt⟩ := (held_iff ds).mp h
  cases e1 : (x == "") with
  | true =>
    have g1 := gx_pure (z := false) (t := tgN 4) (env := [some (.lst ds), some (.int m), some (.str x), none, none]) (tt := mYes) (te := mAndV (mOp eqD (mOp ixD (mVar 4) (mC (.int 1))) (mC (.str ""))) (mOp ltD (mOp ixD (mVar 4) (mC (.int 0))) (mVar 1))) (fun d => [some (.lst ds), some (.int m), some (.str x), none, some d]) (fun d => txtN d == "" && decide (numN d < m)) (ds := ds) (fun d hm => by
      obtain ⟨n, y, rfl, _, _, hy, _⟩ := hold_shape (hd d hm)
      refine ⟨rfl, rfl, ?_⟩
      cases e : (y == "")
      · simp [numN_t, txtN_t, at0, at1, eq_blank hy, e, ltD, fnM, fnF, mSeq, mIf, mOr, mAnd, mNot, mB, mUn, mOp, mVar, mC, mRet, mSkip, mOrV, mAndV, mIfE, mCons, mNil, mTup, mLst, mBt, mCall, mCallR, mSet, mDrop, mRaise, noRt, mSl, mPt, mNoP, mPar, mAsg, mYes, mChain, pure_bind', ofO_some, er_bind, assoc', noEr_pure, join_ss, asB_bl, asI_int, List.getElem?_cons_zero, List.getElem?_cons_succ, List.set_cons_zero, List.set_cons_succ, List.map_cons, List.map_nil, List.length_cons, List.length_nil, List.cons_append, List.nil_append, List.replicate, isi_NoneType_int, isi_bool_int, isi_int_int, isi_str_int, isi_list_int, isi_tuple_int, isi_dict_int, isi_NoneType_bool, isi_bool_bool, isi_int_bool, isi_str_bool, isi_list_bool, isi_tuple_bool, isi_dict_bool, isi_NoneType_str, isi_bool_str, isi_int_str, isi_str_str, isi_list_str, isi_tuple_str, isi_dict_str, isi_NoneType_list, isi_bool_list, isi_int_list, isi_str_list, isi_list_list, isi_tuple_list, isi_dict_list, isi_NoneType_tuple, isi_bool_tuple, isi_int_tuple, isi_str_tuple, isi_list_tuple, isi_tuple_tuple, isi_dict_tuple, isi_NoneType_two, isi_bool_two, isi_int_two, isi_str_two, isi_list_two, isi_tuple_two, isi_dict_two]
      · simp [numN_t, txtN_t, at0, at1, eq_blank hy, e, ltD, fnM, fnF, mSeq, mIf, mOr, mAnd, mNot, mB, mUn, mOp, mVar, mC, mRet, mSkip, mOrV, mAndV, mIfE, mCons, mNil, mTup, mLst, mBt, mCall, mCallR, mSet, mDrop, mRaise, noRt, mSl, mPt, mNoP, mPar, mAsg, mYes, mChain, pure_bind', ofO_some, er_bind, assoc', noEr_pure, join_ss, asB_bl, asI_int, List.getElem?_cons_zero, List.getElem?_cons_succ, List.set_cons_zero, List.set_cons_succ, List.map_cons, List.map_nil, List.length_cons, List.length_nil, List.cons_append, List.nil_append, List.replicate, isi_NoneType_int, isi_bool_int, isi_int_int, isi_str_int, isi_list_int, isi_tuple_int, isi_dict_int, isi_NoneType_bool, isi_bool_bool, isi_int_bool, isi_str_bool, isi_list_bool, isi_tuple_bool, isi_dict_bool, isi_NoneType_str, isi_bool_str, isi_int_str, isi_str_str, isi_list_str, isi_tuple_str, isi_dict_str, isi_NoneType_list, isi_bool_list, isi_int_list, isi_str_list, isi_list_list, isi_tuple_list, isi_dict_list, isi_NoneType_tuple, isi_bool_tuple, isi_int_tuple, isi_str_tuple, isi_list_tuple, isi_tuple_tuple, isi_dict_tuple, isi_NoneType_two, isi_bool_two, isi_int_two, isi_str_two, isi_list_two, isi_tuple_two, isi_dict_two]
        congr)
    rw [if_neg (by decide)] at g1
    cases e2 : anyW m ds with
    | true =>
      unfold anyW at e2
      rw [e2] at g1
      have e3 : withB ds m x = ds := by
        unfold withB anyW
        rw [e1, e2]
        rfl
      simp [f_with_hold, m_with_hold, eq_blank hx, e1, mGx, mIt, itsD, wipeD, g1, listD, e3, fnM, fnF, mSeq, mIf, mOr, mAnd, mNot, mB, mUn, mOp, mVar, mC, mRet, mSkip, mOrV, mAndV, mIfE, mCons, mNil, mTup, mLst, mBt, mCall, mCallR, mSet, mDrop, mRaise, noRt, mSl, mPt, mNoP, mPar, mAsg, mYes, mChain, pure_bind', ofO_some, er_bind, assoc', noEr_pure, join_ss, asB_bl, asI_int, List.getElem?_cons_zero, List.getElem?_cons_succ, List.set_cons_zero, List.set_cons_succ, List.map_cons, List.map_nil, List.length_cons, List.length_nil, List.cons_append, List.nil_append, List.replicate, isi_NoneType_int, isi_bool_int, isi_int_int, isi_str_int, isi_list_int, isi_tuple_int, isi_dict_int, isi_NoneType_bool, isi_bool_bool, isi_int_bool, isi_str_bool, isi_list_bool, isi_tuple_bool, isi_dict_bool, isi_NoneType_str, isi_bool_str, isi_int_str, isi_str_str, isi_list_str, isi_tuple_str, isi_dict_str, isi_NoneType_list, isi_bool_list, isi_int_list, isi_str_list, isi_list_list, isi_tuple_list, isi_dict_list, isi_NoneType_tuple, isi_bool_tuple, isi_int_tuple, isi_str_tuple, isi_list_tuple, isi_tuple_tuple, isi_dict_tuple, isi_NoneType_two, isi_bool_two, isi_int_two, isi_str_two, isi_list_two, isi_tuple_two, isi_dict_two]
    | false =>
      have e2' := e2
      unfold anyW at e2
      rw [e2] at g1
      have g2 := lc_pure (t := tgN 4) (env := [some (.lst ds), some (.int m), some (.str x), none, none]) (tt := mB (mOp ltD (mOp ixD (mVar 4) (mC (.int 0))) (mVar 1))) (te := mVar 4) (fun d => [some (.lst ds), some (.int m), some (.str x), none, some d]) (fun d => decide (numN d < m)) (fun d => d) (ds := ds) (fun d hm => by
        obtain ⟨n, y, rfl, _, _, hy, _⟩ := hold_shape (hd d hm)
        refine ⟨rfl, ?_, fun _ => rfl⟩
        simp [numN_t, at0, ltD, fnM, fnF, mSeq, mIf, mOr, mAnd, mNot, mB, mUn, mOp, mVar, mC, mRet, mSkip, mOrV, mAndV, mIfE, mCons, mNil, mTup, mLst, mBt, mCall, mCallR, mSet, mDrop, mRaise, noRt, mSl, mPt, mNoP, mPar, mAsg, mYes, mChain, pure_bind', ofO_some, er_bind, assoc', noEr_pure, join_ss, asB_bl, asI_int, List.getElem?_cons_zero, List.getElem?_cons_succ, List.set_cons_zero, List.set_cons_succ, List.map_cons, List.map_nil, List.length_cons, List.length_nil, List.cons_append, List.nil_append, List.replicate, isi_NoneType_int, isi_bool_int, isi_int_int, isi_str_int, isi_list_int, isi_tuple_int, isi_dict_int, isi_NoneType_bool, isi_bool_bool, isi_int_bool, isi_str_bool, isi_list_bool, isi_tuple_bool, isi_dict_bool, isi_NoneType_str, isi_bool_str, isi_int_str, isi_str_str, isi_list_str, isi_tuple_str, isi_dict_str, isi_NoneType_list, isi_bool_list, isi_int_list, isi_str_list, isi_list_list, isi_tuple_list, isi_dict_list, isi_NoneType_tuple, isi_bool_tuple, isi_int_tuple, isi_str_tuple, isi_list_tuple, isi_tuple_tuple, isi_dict_tuple, isi_NoneType_two, isi_bool_two, isi_int_two, isi_str_two, isi_list_two, isi_tuple_two, isi_dict_two]
        congr)
      rw [filter_map_id] at g2
      have e4 : ds.filter (stW m x) = ds.filter fun d => decide (numN d < m) := by
        refine List.filter_congr fun d hm => ?_
        unfold stW
        rw [if_pos e1]
        have e5 := List.any_eq_false.mp e2 d hm
        cases q1 : decide (numN d < m) with
        | false => rfl
        | true =>
          rw [q1] at e5
          simpa using e5
      rw [e4] at H
      have e3 : withB ds m x = ds.filter (fun d => decide (numN d < m)) ++ [hold m x] := by
        unfold withB
        rw [e1, e2', if_neg (by decide), e4]
        refine sort_same H ?_
        refine List.pairwise_append.mpr ⟨List.Pairwise.sublist List.filter_sublist srt, List.pairwise_singleton _ _, fun a ha b hb => ?_⟩
        rw [List.mem_singleton.mp hb, num_hold]
        have := (List.mem_filter.mp ha).2
        rw [decide_eq_true_eq] at this
        omega
      have h7 := List.length_filter_le (fun d => decide (numN d < m)) ds
      have h8 : (ds.filter fun d => decide (numN d < m)).length + 1 ≤ 100000 := by omega
      simp [f_with_hold, m_with_hold, eq_blank hx, e1, mGx, mLc, mIt, itsD, wipeD, g1, g2, catD, h6, h8, e3, hold, fnM, fnF, mSeq, mIf, mOr, mAnd, mNot, mB, mUn, mOp, mVar, mC, mRet, mSkip, mOrV, mAndV, mIfE, mCons, mNil, mTup, mLst, mBt, mCall, mCallR, mSet, mDrop, mRaise, noRt, mSl, mPt, mNoP, mPar, mAsg, mYes, mChain, pure_bind', ofO_some, er_bind, assoc', noEr_pure, join_ss, asB_bl, asI_int, List.getElem?_cons_zero, List.getElem?_cons_succ, List.set_cons_zero, List.set_cons_succ, List.map_cons, List.map_nil, List.length_cons, List.length_nil, List.cons_append, List.nil_append, List.replicate, isi_NoneType_int, isi_bool_int, isi_int_int, isi_str_int, isi_list_int, isi_tuple_int, isi_dict_int, isi_NoneType_bool, isi_bool_bool, isi_int_bool, isi_str_bool, isi_list_bool, isi_tuple_bool, isi_dict_bool, isi_NoneType_str, isi_bool_str, isi_int_str, isi_str_str, isi_list_str, isi_tuple_str, isi_dict_str, isi_NoneType_list, isi_bool_list, isi_int_list, isi_str_list, isi_list_list, isi_tuple_list, isi_dict_list, isi_NoneType_tuple, isi_bool_tuple, isi_int_tuple, isi_str_tuple, isi_list_tuple, isi_tuple_tuple, isi_dict_tuple, isi_NoneType_two, isi_bool_two, isi_int_two, isi_str_two, isi_list_two, isi_tuple_two, isi_dict_two]
  | false =>
    have g2 := lc_pure (t := tgN 4) (env := [some (.lst ds), some (.int m), some (.str x), none, none]) (tt := mAnd (mB (mOp neD (mOp ixD (mVar 4) (mC (.int 0))) (mVar 1))) (mNot (mAnd (mB (mOp eqD (mOp ixD (mVar 4) (mC (.int 1))) (mC (.str "")))) (mB (mOp leD (mOp ixD (mVar 4) (mC (.int 0))) (mVar 1)))))) (te := mVar 4) (fun d => [some (.lst ds), some (.int m), some (.str x), none, some d]) (stW m x) (fun d => d) (ds := ds) (fun d hm => by
      obtain ⟨n, y, rfl, _, _, hy, _⟩ := hold_shape (hd d hm)
      refine ⟨rfl, ?_, fun _ => rfl⟩
      have e0 : stW m x (.tup [.int n, .str y]) = (!(n == m) && (!(y == "") || decide (m < n))) := by
        unfold stW
        rw [if_neg (by rw [e1]; decide)]
        rfl
      rw [e0]
      have e8 : decide (m < n) = !decide (n ≤ m) := by
        rw [← decide_not]
        exact decide_eq_decide.mpr (by omega)
      rw [e8]
      cases q1 : (n == m) <;> cases q2 : (y == "") <;> cases q3 : decide (n ≤ m) <;> simp [at0, at1, neD_int, eq_blank hy, leD, q1, q2, q3, fnM, fnF, mSeq, mIf, mOr, mAnd, mNot, mB, mUn, mOp, mVar, mC, mRet, mSkip, mOrV, mAndV, mIfE, mCons, mNil, mTup, mLst, mBt, mCall, mCallR, mSet, mDrop, mRaise, noRt, mSl, mPt, mNoP, mPar, mAsg, mYes, mChain, pure_bind', ofO_some, er_bind, assoc', noEr_pure, join_ss, asB_bl, asI_int, List.getElem?_cons_zero, List.getElem?_cons_succ, List.set_cons_zero, List.set_cons_succ, List.map_cons, List.map_nil, List.length_cons, List.length_nil, List.cons_append, List.nil_append, List.replicate, isi_NoneType_int, isi_bool_int, isi_int_int, isi_str_int, isi_list_int, isi_tuple_int, isi_dict_int, isi_NoneType_bool, isi_bool_bool, isi_int_bool, isi_str_bool, isi_list_bool, isi_tuple_bool, isi_dict_bool, isi_NoneType_str, isi_bool_str, isi_int_str, isi_str_str, isi_list_str, isi_tuple_str, isi_dict_str, isi_NoneType_list, isi_bool_list, isi_int_list, isi_str_list, isi_list_list, isi_tuple_list, isi_dict_list, isi_NoneType_tuple, isi_bool_tuple, isi_int_tuple, isi_str_tuple, isi_list_tuple, isi_tuple_tuple, isi_dict_tuple, isi_NoneType_two, isi_bool_two, isi_int_two, isi_str_two, isi_list_two, isi_tuple_two, isi_dict_two])
    rw [filter_map_id] at g2
    have h7 := List.length_filter_le (stW m x) ds
    have h8 : (ds.filter (stW m x)).length + 1 ≤ 100000 := by omega
    have h9 := ev_sort H (by rw [List.length_append, List.length_singleton]; omega)
    have e3 : withB ds m x = sortN (ds.filter (stW m x) ++ [hold m x]) := by
      unfold withB
      rw [e1]
      rfl
    unfold hold at h9 e3
    simp [f_with_hold, m_with_hold, eq_blank hx, e1, mLc, mIt, itsD, wipeD, g2, addD, h6, h8, h9, e3, fnM, fnF, mSeq, mIf, mOr, mAnd, mNot, mB, mUn, mOp, mVar, mC, mRet, mSkip, mOrV, mAndV, mIfE, mCons, mNil, mTup, mLst, mBt, mCall, mCallR, mSet, mDrop, mRaise, noRt, mSl, mPt, mNoP, mPar, mAsg, mYes, mChain, pure_bind', ofO_some, er_bind, assoc', noEr_pure, join_ss, asB_bl, asI_int, List.getElem?_cons_zero, List.getElem?_cons_succ, List.set_cons_zero, List.set_cons_succ, List.map_cons, List.map_nil, List.length_cons, List.length_nil, List.cons_append, List.nil_append, List.replicate, isi_NoneType_int, isi_bool_int, isi_int_int, isi_str_int, isi_list_int, isi_tuple_int, isi_dict_int, isi_NoneType_bool, isi_bool_bool, isi_int_bool, isi_str_bool, isi_list_bool, isi_tuple_bool, isi_dict_bool, isi_NoneType_str, isi_bool_str, isi_int_str, isi_str_str, isi_list_str, isi_tuple_str, isi_dict_str, isi_NoneType_list, isi_bool_list, isi_int_list, isi_str_list, isi_list_list, isi_tuple_list, isi_dict_list, isi_NoneType_tuple, isi_bool_tuple, isi_int_tuple, isi_str_tuple, isi_list_tuple, isi_tuple_tuple, isi_dict_tuple, isi_NoneType_two, isi_bool_two, isi_int_two, isi_str_two, isi_list_two, isi_tuple_two, isi_dict_two]
end K84

set_option Elab.async false
set_option linter.all false
set_option maxRecDepth 100000
set_option maxHeartbeats 1000000
namespace K84
open PySem PySem.Spec PyProof.Rows L2 GxR GenW Ink
theorem ev_held_with {h n x : D} (hh : h.wf = true) (hn : n.kn < 7) (hx : x.wf = true) (hl : ∀ ds, h = .lst ds → ds.length ≤ 900) : f_held_with [h, n, x] = if isHeld h = true then (if cnt n = true then (if (txtD x && shB x) = true then Mo.pure (match h, n, x with | .lst ds, .int m, .str y => .lst (withB ds m y) | _, _, _ => .non) else Mo.er 2 x) else Mo.er 1 n) else Mo.er 0 h := by
  cases e1 : isHeld h with
  | false => simp [f_held_with, m_held_with, ev_check_held hh, e1, er_fold, fnM, fnF, mSeq, mIf, mOr, mAnd, mNot, mB, mUn, mOp, mVar, mC, mRet, mSkip, mOrV, mAndV, mIfE, mCons, mNil, mTup, mLst, mBt, mCall, mCallR, mSet, mDrop, mRaise, noRt, mSl, mPt, mNoP, mPar, mAsg, mYes, mChain, pure_bind', ofO_some, er_bind, assoc', noEr_pure, join_ss, asB_bl, asI_int, List.getElem?_cons_zero, List.getElem?_cons_succ, List.set_cons_zero, List.set_cons_succ, List.map_cons, List.map_nil, List.length_cons, List.length_nil, List.cons_append, List.nil_append, List.replicate, isi_NoneType_int, isi_bool_int, isi_int_int, isi_str_int, isi_list_int, isi_tuple_int, isi_dict_int, isi_NoneType_bool, isi_bool_bool, isi_int_bool, isi_str_bool, isi_list_bool, isi_tuple_bool, isi_dict_bool, isi_NoneType_str, isi_bool_str, isi_int_str, isi_str_str, isi_list_str, isi_tuple_str, isi_dict_str, isi_NoneType_list, isi_bool_list, isi_int_list, isi_str_list, isi_list_list, isi_tuple_list, isi_dict_list, isi_NoneType_tuple, isi_bool_tuple, isi_int_tuple, isi_str_tuple, isi_list_tuple, isi_tuple_tuple, isi_dict_tuple, isi_NoneType_two, isi_bool_two, isi_int_two, isi_str_two, isi_list_two, isi_tuple_two, isi_dict_two]
  | true =>
    obtain ⟨ds, rfl⟩ := held_lst e1
    have h9 := hl ds rfl
    cases e2 : cnt n with
    | false => simp [f_held_with, m_held_with, ev_check_held hh, ev_check_number hn, e1, e2, er_fold, fnM, fnF, mSeq, mIf, mOr, mAnd, mNot, mB, mUn, mOp, mVar, mC, mRet, mSkip, mOrV, mAndV, mIfE, mCons, mNil, mTup, mLst, mBt, mCall, mCallR, mSet, mDrop, mRaise, noRt, mSl, mPt, mNoP, mPar, mAsg, mYes, mChain, pure_bind', ofO_some, er_bind, assoc', noEr_pure, join_ss, asB_bl, asI_int, List.getElem?_cons_zero, List.getElem?_cons_succ, List.set_cons_zero, List.set_cons_succ, List.map_cons, List.map_nil, List.length_cons, List.length_nil, List.cons_append, List.nil_append, List.replicate, isi_NoneType_int, isi_bool_int, isi_int_int, isi_str_int, isi_list_int, isi_tuple_int, isi_dict_int, isi_NoneType_bool, isi_bool_bool, isi_int_bool, isi_str_bool, isi_list_bool, isi_tuple_bool, isi_dict_bool, isi_NoneType_str, isi_bool_str, isi_int_str, isi_str_str, isi_list_str, isi_tuple_str, isi_dict_str, isi_NoneType_list, isi_bool_list, isi_int_list, isi_str_list, isi_list_list, isi_tuple_list, isi_dict_list, isi_NoneType_tuple, isi_bool_tuple, isi_int_tuple, isi_str_tuple, isi_list_tuple, isi_tuple_tuple, isi_dict_tuple, isi_NoneType_two, isi_bool_two, isi_int_two, isi_str_two, isi_list_two, isi_tuple_two, isi_dict_two]
    | true =>
      cases n with
      | int m =>
        have hm : 0 ≤ m ∧ m ≤ 60 := by simpa [cnt] using e2
        cases e3 : txtD x with
        | false => simp [f_held_with, m_held_with, ev_check_held hh, ev_check_number hn, ev_is_text (wf_kn hx), e1, e2, e3, er_fold, fnM, fnF, mSeq, mIf, mOr, mAnd, mNot, mB, mUn, mOp, mVar, mC, mRet, mSkip, mOrV, mAndV, mIfE, mCons, mNil, mTup, mLst, mBt, mCall, mCallR, mSet, mDrop, mRaise, noRt, mSl, mPt, mNoP, mPar, mAsg, mYes, mChain, pure_bind', ofO_some, er_bind, assoc', noEr_pure, join_ss, asB_bl, asI_int, List.getElem?_cons_zero, List.getElem?_cons_succ, List.set_cons_zero, List.set_cons_succ, List.map_cons, List.map_nil, List.length_cons, List.length_nil, List.cons_append, List.nil_append, List.replicate, isi_NoneType_int, isi_bool_int, isi_int_int, isi_str_int, isi_list_int, isi_tuple_int, isi_dict_int, isi_NoneType_bool, isi_bool_bool, isi_int_bool, isi_str_bool, isi_list_bool, isi_tuple_bool, isi_dict_bool, isi_NoneType_str, isi_bool_str, isi_int_str, isi_str_str, isi_list_str, isi_tuple_str, isi_dict_str, isi_NoneType_list, isi_bool_list, isi_int_list, isi_str_list, isi_list_list, isi_tuple_list, isi_dict_list, isi_NoneType_tuple, isi_bool_tuple, isi_int_tuple, isi_str_tuple, isi_list_tuple, isi_tuple_tuple, isi_dict_tuple, isi_NoneType_two, isi_bool_two, isi_int_two, isi_str_two, isi_list_two, isi_tuple_two, isi_dict_two]
        | true =>
          cases x with
          | str y =>
            have hy : PyData.strOk y = true ∧ y.length ≤ 1000 := by simpa [D.wf] using hx
            have hy5 : y.length ≤ 100000 := by omega
            have hy6 : okS y = true := by simpa [txtD] using e3
            by_cases q : y.length < 2
            · have q1 : ¬ (1 : Int) < (y.length : Int) := by omega
              simp [f_held_with, m_held_with, ev_check_held hh, ev_check_number hn, ev_is_text (wf_kn hx), ev_with_hold e1 h9 hm.1 hm.2 hy6 q, shB, lenD, gtD, hy5, e1, e2, e3, q, q1, er_fold, fnM, fnF, mSeq, mIf, mOr, mAnd, mNot, mB, mUn, mOp, mVar, mC, mRet, mSkip, mOrV, mAndV, mIfE, mCons, mNil, mTup, mLst, mBt, mCall, mCallR, mSet, mDrop, mRaise, noRt, mSl, mPt, mNoP, mPar, mAsg, mYes, mChain, pure_bind', ofO_some, er_bind, assoc', noEr_pure, join_ss, asB_bl, asI_int, List.getElem?_cons_zero, List.getElem?_cons_succ, List.set_cons_zero, List.set_cons_succ, List.map_cons, List.map_nil, List.length_cons, List.length_nil, List.cons_append, List.nil_append, List.replicate, isi_NoneType_int, isi_bool_int, isi_int_int, isi_str_int, isi_list_int, isi_tuple_int, isi_dict_int, isi_NoneType_bool, isi_bool_bool, isi_int_bool, isi_str_bool, isi_list_bool, isi_tuple_bool, isi_dict_bool, isi_NoneType_str, isi_bool_str, isi_int_str, isi_str_str, isi_list_str, isi_tuple_str, isi_dict_str, isi_NoneType_list, isi_bool_list, isi_int_list, isi_str_list, isi_list_list, isi_tuple_list, isi_dict_list, isi_NoneType_tuple, isi_bool_tuple, isi_int_tuple, isi_str_tuple, isi_list_tuple, isi_tuple_tuple, isi_dict_tuple, isi_NoneType_two, isi_bool_two, isi_int_two, isi_str_two, isi_list_two, isi_tuple_two, isi_dict_two]
            · have q1 : (1 : Int) < (y.length : Int) := by omega
              simp [f_held_with, m_held_with, ev_check_held hh, ev_check_number hn, ev_is_text (wf_kn hx), shB, lenD, gtD, hy5, e1, e2, e3, q, q1, er_fold, fnM, fnF, mSeq, mIf, mOr, mAnd, mNot, mB, mUn, mOp, mVar, mC, mRet, mSkip, mOrV, mAndV, mIfE, mCons, mNil, mTup, mLst, mBt, mCall, mCallR, mSet, mDrop, mRaise, noRt, mSl, mPt, mNoP, mPar, mAsg, mYes, mChain, pure_bind', ofO_some, er_bind, assoc', noEr_pure, join_ss, asB_bl, asI_int, List.getElem?_cons_zero, List.getElem?_cons_succ, List.set_cons_zero, List.set_cons_succ, List.map_cons, List.map_nil, List.length_cons, List.length_nil, List.cons_append, List.nil_append, List.replicate, isi_NoneType_int, isi_bool_int, isi_int_int, isi_str_int, isi_list_int, isi_tuple_int, isi_dict_int, isi_NoneType_bool, isi_bool_bool, isi_int_bool, isi_str_bool, isi_list_bool, isi_tuple_bool, isi_dict_bool, isi_NoneType_str, isi_bool_str, isi_int_str, isi_str_str, isi_list_str, isi_tuple_str, isi_dict_str, isi_NoneType_list, isi_bool_list, isi_int_list, isi_str_list, isi_list_list, isi_tuple_list, isi_dict_list, isi_NoneType_tuple, isi_bool_tuple, isi_int_tuple, isi_str_tuple, isi_list_tuple, isi_tuple_tuple, isi_dict_tuple, isi_NoneType_two, isi_bool_two, isi_int_two, isi_str_two, isi_list_two, isi_tuple_two, isi_dict_two]
          | _ => simp [txtD] at e3
      | _ => simp [cnt] at e2
def wBody : MS := (mSeq (mSet 5 (mAndV (mOp neD (mOp ixD (mVar 4) (mC (.int 0))) (mVar 1)) (mOrV (mOp neD (mOp ixD (mVar 4) (mC (.int 1))) (mC (.str ""))) (mOp gtD (mOp ixD (mVar 4) (mC (.int 0))) (mVar 1))))) (mSeq (mIf (mB (mOp eqD (mVar 2) (mC (.str "")))) (mSet 5 (mAndV (mOp ltD (mOp ixD (mVar 4) (mC (.int 0))) (mVar 1)) (mOp neD (mOp ixD (mVar 4) (mC (.int 1))) (mC (.str ""))))) mSkip) (mSet 3 (mOp addD (mVar 3) (mOp mulD (mLst (mCons (mVar 4) mNil)) (mBt intD (mCons (mVar 5) mNil)))))))
theorem m_w_eq : m_law_with = (mSeq (mSet 3 (mLst mNil)) (mSeq (mIf (mAnd (mB (mOp eqD (mVar 2) (mC (.str "")))) (mB (mOp neD (mLc (mIt itsD (mVar 0)) (tgP 6 7) [6, 7] (mAnd (mB (mOp eqD (mVar 7) (mC (.str "")))) (mB (mOp ltD (mVar 6) (mVar 1)))) (mC (.int 1))) (mLst mNil)))) (mRet (mBt listD (mCons (mVar 0) mNil))) mSkip) (mSeq (mFor (mIt itsD (mVar 0)) (tgN 4) wBody) (mRet (mBt sortD (mCons (mOp addD (mVar 3) (mLst (mCons (mTup (mCons (mVar 1) (mCons (mVar 2) mNil))) mNil))) mNil)))))) := rfl
theorem wBody_ev {ds acc : List D} {m : Int} {x : Str} {d : D} {x5 : Option D} (hx : okS x = true) (hd : holdB d = true) (hl : acc.length ≤ 1000) : ∃ y5, wBody [some (.lst ds), some (.int m), some (.str x), some (.lst acc), some d, x5, none, none] = Mo.pure (.nx [some (.lst ds), some (.int m), some (.str x), some (.lst (acc ++ if stW m x d = true then [d] else [])), some d, y5, none, none]) := by
  obtain ⟨n, y, rfl, _, _, hy, _⟩ := hold_shape hd
  refine ⟨some (.bl (stW m x (.tup [.int n, .str y]))), ?_⟩
  have h5 : acc.length + 1 ≤ 100000 := by omega
  have h6 : acc.length ≤ 100000 := by omega
  by_cases q3 : m < n
  · have q4 : ¬ n < m := by omega
    cases e1 : (x == "") <;> cases q1 : (n == m) <;> cases q2 : (y == "") <;> simp [wBody, stW, numN_t, txtN_t, at0, at1, neD_int, eq_blank hx, eq_blank hy, ne_blank hy, ltD, gtD, mulD, addD, Ink.intD, e1, q1, q2, q3, q4, h5, h6, fnM, fnF, mSeq, mIf, mOr, mAnd, mNot, mB, mUn, mOp, mVar, mC, mRet, mSkip, mOrV, mAndV, mIfE, mCons, mNil, mTup, mLst, mBt, mCall, mCallR, mSet, mDrop, mRaise, noRt, mSl, mPt, mNoP, mPar, mAsg, mYes, mChain, pure_bind', ofO_some, er_bind, assoc', noEr_pure, join_ss, asB_bl, asI_int, List.getElem?_cons_zero, List.getElem?_cons_succ, List.set_cons_zero, List.set_cons_succ, List.map_cons, List.map_nil, List.length_cons, List.length_nil, List.cons_append, List.nil_append, List.replicate, isi_NoneType_int, isi_bool_int, isi_int_int, isi_str_int, isi_list_int, isi_tuple_int, isi_dict_int, isi_NoneType_bool, isi_bool_bool, isi_int_bool, isi_str_bool, isi_list_bool, isi_tuple_bool, isi_dict_bool, isi_NoneType_str, isi_bool_str, isi_int_str, isi_str_str, isi_list_str, isi_tuple_str, isi_dict_str, isi_NoneType_list, isi_bool_list, isi_int_list, isi_str_list, isi_list_list, isi_tuple_list, isi_dict_list, isi_NoneType_tuple, isi_bool_tuple, isi_int_tuple, isi_str_tuple, isi_list_tuple, isi_tuple_tuple, isi_dict_tuple, isi_NoneType_two, isi_bool_two, isi_int_two, isi_str_two, isi_list_two, isi_tuple_two, isi_dict_two]
  · by_cases q4 : n < m
    · cases e1 : (x == "") <;> cases q1 : (n == m) <;> cases q2 : (y == "") <;> simp [wBody, stW, numN_t, txtN_t, at0, at1, neD_int, eq_blank hx, eq_blank hy, ne_blank hy, ltD, gtD, mulD, addD, Ink.intD, e1, q1, q2, q3, q4, h5, h6, fnM, fnF, mSeq, mIf, mOr, mAnd, mNot, mB, mUn, mOp, mVar, mC, mRet, mSkip, mOrV, mAndV, mIfE, mCons, mNil, mTup, mLst, mBt, mCall, mCallR, mSet, mDrop, mRaise, noRt, mSl, mPt, mNoP, mPar, mAsg, mYes, mChain, pure_bind', ofO_some, er_bind, assoc', noEr_pure, join_ss, asB_bl, asI_int, List.getElem?_cons_zero, List.getElem?_cons_succ, List.set_cons_zero, List.set_cons_succ, List.map_cons, List.map_nil, List.length_cons, List.length_nil, List.cons_append, List.nil_append, List.replicate, isi_NoneType_int, isi_bool_int, isi_int_int, isi_str_int, isi_list_int, isi_tuple_int, isi_dict_int, isi_NoneType_bool, isi_bool_bool, isi_int_bool, isi_str_bool, isi_list_bool, isi_tuple_bool, isi_dict_bool, isi_NoneType_str, isi_bool_str, isi_int_str, isi_str_str, isi_list_str, isi_tuple_str, isi_dict_str, isi_NoneType_list, isi_bool_list, isi_int_list, isi_str_list, isi_list_list, isi_tuple_list, isi_dict_list, isi_NoneType_tuple, isi_bool_tuple, isi_int_tuple, isi_str_tuple, isi_list_tuple, isi_tuple_tuple, isi_dict_tuple, isi_NoneType_two, isi_bool_two, isi_int_two, isi_str_two, isi_list_two, isi_tuple_two, isi_dict_two]
    · cases e1 : (x == "") <;> cases q1 : (n == m) <;> cases q2 : (y == "") <;> simp [wBody, stW, numN_t, txtN_t, at0, at1, neD_int, eq_blank hx, eq_blank hy, ne_blank hy, ltD, gtD, mulD, addD, Ink.intD, e1, q1, q2, q3, q4, h5, h6, fnM, fnF, mSeq, mIf, mOr, mAnd, mNot, mB, mUn, mOp, mVar, mC, mRet, mSkip, mOrV, mAndV, mIfE, mCons, mNil, mTup, mLst, mBt, mCall, mCallR, mSet, mDrop, mRaise, noRt, mSl, mPt, mNoP, mPar, mAsg, mYes, mChain, pure_bind', ofO_some, er_bind, assoc', noEr_pure, join_ss, asB_bl, asI_int, List.getElem?_cons_zero, List.getElem?_cons_succ, List.set_cons_zero, List.set_cons_succ, List.map_cons, List.map_nil, List.length_cons, List.length_nil, List.cons_append, List.nil_append, List.replicate, isi_NoneType_int, isi_bool_int, isi_int_int, isi_str_int, isi_list_int, isi_tuple_int, isi_dict_int, isi_NoneType_bool, isi_bool_bool, isi_int_bool, isi_str_bool, isi_list_bool, isi_tuple_bool, isi_dict_bool, isi_NoneType_str, isi_bool_str, isi_int_str, isi_str_str, isi_list_str, isi_tuple_str, isi_dict_str, isi_NoneType_list, isi_bool_list, isi_int_list, isi_str_list, isi_list_list, isi_tuple_list, isi_dict_list, isi_NoneType_tuple, isi_bool_tuple, isi_int_tuple, isi_str_tuple, isi_list_tuple, isi_tuple_tuple, isi_dict_tuple, isi_NoneType_two, isi_bool_two, isi_int_two, isi_str_two, isi_list_two, isi_tuple_two, isi_dict_two]
theorem w_loop {ds : List D} {m : Int} {x : Str} (hx : okS x = true) : ∀ (r acc : List D) (x4 x5 : Option D), (∀ d ∈ r, holdB d = true) → acc.length + r.length ≤ 1000 → ∃ y4 y5, Ink.forM (tgN 4) wBody r [some (.lst ds), some (.int m), some (.str x), some (.lst acc), x4, x5, none, none] = Mo.pure (.nx [some (.lst ds), some (.int m), some (.str x), some (.lst (acc ++ r.filter (stW m x))), y4, y5, none, none])
  | [], acc, x4, x5, _, _ => ⟨x4, x5, by simp [Ink.forM]⟩
  | d :: r, acc, x4, x5, hd, hl => by
    rw [List.length_cons] at hl
    obtain ⟨y5, e⟩ := wBody_ev (ds := ds) (m := m) (x5 := x5) hx (hd d List.mem_cons_self) (show acc.length ≤ 1000 by omega)
    obtain ⟨z4, z5, e'⟩ := w_loop (ds := ds) (m := m) hx r (acc ++ if stW m x d = true then [d] else []) (some d) y5 (fun a ha => hd a (List.mem_cons_of_mem _ ha)) (by
      rw [List.length_append]
      have : (if stW m x d = true then [d] else []).length ≤ 1 := by split <;> simp
      omega)
    refine ⟨z4, z5, ?_⟩
    unfold Ink.forM
    have e2 : tgN 4 d [some (.lst ds), some (.int m), some (.str x), some (.lst acc), x4, x5, none, none] = some [some (.lst ds), some (.int m), some (.str x), some (.lst acc), some d, x5, none, none] := rfl
    rw [e2, ofO_some, pure_bind', e, pure_bind']
    show Ink.forM (tgN 4) wBody r _ = _
    rw [e', List.append_assoc]
    congr 7
    rw [List.filter_cons]
    split <;> rfl
theorem ev_law_with {ds : List D} {m : Int} {x : Str} (h : isHeld (.lst ds) = true) (hn : ds.length ≤ 900) (h1 : 0 ≤ m) (h2 : m ≤ 60) (hx : okS x = true) (hl : x.length < 2) : f_law_with [.lst ds, .int m, .str x] = Mo.pure (.lst (withB ds m x)) := by
  have h6 : ds.length ≤ 100000 := by omega
  have hd := held_all h
  have H := with_HS h h1 h2 hx hl
  have g1 := lc_pure (t := tgP 6 7) (env := [some (.lst ds), some (.int m), some (.str x), some (.lst []), none, none, none, none]) (tt := mAnd (mB (mOp eqD (mVar 7) (mC (.str "")))) (mB (mOp ltD (mVar 6) (mVar 1)))) (te := mC (.int 1)) (fun d => [some (.lst ds), some (.int m), some (.str x), some (.lst []), none, none, some (.int (numN d)), some (.str (txtN d))]) (fun d => txtN d == "" && decide (numN d < m)) (fun _ => .int 1) (ds := ds) (fun d hm => by
    obtain ⟨n, y, rfl, _, _, hy, _⟩ := hold_shape (hd d hm)
    refine ⟨rfl, ?_, fun _ => rfl⟩
    by_cases q : n < m <;> cases e : (y == "") <;> simp [numN_t, txtN_t, eq_blank hy, e, ltD, q, fnM, fnF, mSeq, mIf, mOr, mAnd, mNot, mB, mUn, mOp, mVar, mC, mRet, mSkip, mOrV, mAndV, mIfE, mCons, mNil, mTup, mLst, mBt, mCall, mCallR, mSet, mDrop, mRaise, noRt, mSl, mPt, mNoP, mPar, mAsg, mYes, mChain, pure_bind', ofO_some, er_bind, assoc', noEr_pure, join_ss, asB_bl, asI_int, List.getElem?_cons_zero, List.getElem?_cons_succ, List.set_cons_zero, List.set_cons_succ, List.map_cons, List.map_nil, List.length_cons, List.length_nil, List.cons_append, List.nil_append, List.replicate, isi_NoneType_int, isi_bool_int, isi_int_int, isi_str_int, isi_list_int, isi_tuple_int, isi_dict_int, isi_NoneType_bool, isi_bool_bool, isi_int_bool, isi_str_bool, isi_list_bool, isi_tuple_bool, isi_dict_bool, isi_NoneType_str, isi_bool_str, isi_int_str, isi_str_str, isi_list_str, isi_tuple_str, isi_dict_str, isi_NoneType_list, isi_bool_list, isi_int_list, isi_str_list, isi_list_list, isi_tuple_list, isi_dict_list, isi_NoneType_tuple, isi_bool_tuple, isi_int_tuple, isi_str_tuple, isi_list_tuple, isi_tuple_tuple, isi_dict_tuple, isi_NoneType_two, isi_bool_two, isi_int_two, isi_str_two, isi_list_two, isi_tuple_two, isi_dict_two])
  have e0 : (ds.filter fun d => txtN d == "" && decide (numN d < m)).isEmpty = !anyW m ds := by
    unfold anyW
    rw [Bool.eq_iff_iff, List.isEmpty_iff, List.filter_eq_nil_iff]
    simp
  have g3 := ne_ones (ds.filter fun d => txtN d == "" && decide (numN d < m))
  rw [e0, Bool.not_not] at g3
  have h7 := List.length_filter_le (stW m x) ds
  have h8 : (ds.filter (stW m x)).length + 1 ≤ 100000 := by omega
  have h9 := ev_sort H (by rw [List.length_append, List.length_singleton]; omega)
  unfold hold at h9
  obtain ⟨y4, y5, g4⟩ := w_loop (ds := ds) (m := m) hx ds [] none none hd (by simpa using (by omega : ds.length ≤ 1000))
  rw [List.nil_append] at g4
  unfold f_law_with
  rw [m_w_eq]
  cases e1 : (x == "") with
  | true =>
    cases e2 : anyW m ds with
    | true =>
      rw [e2] at g3
      have e3 : withB ds m x = ds := by
        unfold withB
        rw [e1, e2]
        rfl
      simp [eq_blank hx, e1, mLc, mIt, itsD, wipeD, g1, g3, listD, e3, h6, fnM, fnF, mSeq, mIf, mOr, mAnd, mNot, mB, mUn, mOp, mVar, mC, mRet, mSkip, mOrV, mAndV, mIfE, mCons, mNil, mTup, mLst, mBt, mCall, mCallR, mSet, mDrop, mRaise, noRt, mSl, mPt, mNoP, mPar, mAsg, mYes, mChain, pure_bind', ofO_some, er_bind, assoc', noEr_pure, join_ss, asB_bl, asI_int, List.getElem?_cons_zero, List.getElem?_cons_succ, List.set_cons_zero, List.set_cons_succ, List.map_cons, List.map_nil, List.length_cons, List.length_nil, List.cons_append, List.nil_append, List.replicate, isi_NoneType_int, isi_bool_int, isi_int_int, isi_str_int, isi_list_int, isi_tuple_int, isi_dict_int, isi_NoneType_bool, isi_bool_bool, isi_int_bool, isi_str_bool, isi_list_bool, isi_tuple_bool, isi_dict_bool, isi_NoneType_str, isi_bool_str, isi_int_str, isi_str_str, isi_list_str, isi_tuple_str, isi_dict_str, isi_NoneType_list, isi_bool_list, isi_int_list, isi_str_list, isi_list_list, isi_tuple_list, isi_dict_list, isi_NoneType_tuple, isi_bool_tuple, isi_int_tuple, isi_str_tuple, isi_list_tuple, isi_tuple_tuple, isi_dict_tuple, isi_NoneType_two, isi_bool_two, isi_int_two, isi_str_two, isi_list_two, isi_tuple_two, isi_dict_two]
    | false =>
      rw [e2] at g3
      have e3 : withB ds m x = sortN (ds.filter (stW m x) ++ [.tup [.int m, .str x]]) := by
        unfold withB
        rw [e1, e2]
        rfl
      simp [eq_blank hx, e1, mLc, mFor, mIt, itsD, wipeD, g1, g3, g4, addD, h6, h8, h9, e3, fnM, fnF, mSeq, mIf, mOr, mAnd, mNot, mB, mUn, mOp, mVar, mC, mRet, mSkip, mOrV, mAndV, mIfE, mCons, mNil, mTup, mLst, mBt, mCall, mCallR, mSet, mDrop, mRaise, noRt, mSl, mPt, mNoP, mPar, mAsg, mYes, mChain, pure_bind', ofO_some, er_bind, assoc', noEr_pure, join_ss, asB_bl, asI_int, List.getElem?_cons_zero, List.getElem?_cons_succ, List.set_cons_zero, List.set_cons_succ, List.map_cons, List.map_nil, List.length_cons, List.length_nil, List.cons_append, List.nil_append, List.replicate, isi_NoneType_int, isi_bool_int, isi_int_int, isi_str_int, isi_list_int, isi_tuple_int, isi_dict_int, isi_NoneType_bool, isi_bool_bool, isi_int_bool, isi_str_bool, isi_list_bool, isi_tuple_bool, isi_dict_bool, isi_NoneType_str, isi_bool_str, isi_int_str, isi_str_str, isi_list_str, isi_tuple_str, isi_dict_str, isi_NoneType_list, isi_bool_list, isi_int_list, isi_str_list, isi_list_list, isi_tuple_list, isi_dict_list, isi_NoneType_tuple, isi_bool_tuple, isi_int_tuple, isi_str_tuple, isi_list_tuple, isi_tuple_tuple, isi_dict_tuple, isi_NoneType_two, isi_bool_two, isi_int_two, isi_str_two, isi_list_two, isi_tuple_two, isi_dict_two]
  | false =>
    have e3 : withB ds m x = sortN (ds.filter (stW m x) ++ [.tup [.int m, .str x]]) := by
      unfold withB
      rw [e1]
      rfl
    simp [eq_blank hx, e1, mFor, mIt, itsD, g4, addD, h6, h8, h9, e3, fnM, fnF, mSeq, mIf, mOr, mAnd, mNot, mB, mUn, mOp, mVar, mC, mRet, mSkip, mOrV, mAndV, mIfE, mCons, mNil, mTup, mLst, mBt, mCall, mCallR, mSet, mDrop, mRaise, noRt, mSl, mPt, mNoP, mPar, mAsg, mYes, mChain, pure_bind', ofO_some, er_bind, assoc', noEr_pure, join_ss, asB_bl, asI_int, List.getElem?_cons_zero, List.getElem?_cons_succ, List.set_cons_zero, List.set_cons_succ, List.map_cons, List.map_nil, List.length_cons, List.length_nil, List.cons_append, List.nil_append, List.replicate, isi_NoneType_int, isi_bool_int, isi_int_int, isi_str_int, isi_list_int, isi_tuple_int, isi_dict_int, isi_NoneType_bool, isi_bool_bool, isi_int_bool, isi_str_bool, isi_list_bool, isi_tuple_bool, isi_dict_bool, isi_NoneType_str, isi_bool_str, isi_int_str, isi_str_str, isi_list_str, isi_tuple_str, isi_dict_str, isi_NoneType_list, isi_bool_list, isi_int_list, isi_str_list, isi_list_list, isi_tuple_list, isi_dict_list, isi_NoneType_tuple, isi_bool_tuple, isi_int_tuple, isi_str_tuple, isi_list_tuple, isi_tuple_tuple, isi_dict_tuple, isi_NoneType_two, isi_bool_two, isi_int_two, isi_str_two, isi_list_two, isi_tuple_two, isi_dict_two]
end K84

set_option Elab.async false
set_option linter.all false
set_option maxRecDepth 100000
set_option maxHeartbeats 1000000
namespace K84
open PySem PySem.Spec PyProof.Rows L2 GxR GenW Ink
theorem zip_self {ds : List D} : zipD [.lst ds, .lst ds] = some (ds.map fun d => .tup [d, d]) := by
  simp [zipD, List.zip_eq_zipWith]
theorem zip_selfT {ds : List D} : zipD [.tup ds, .tup ds] = some (ds.map fun d => .tup [d, d]) := by
  simp [zipD, List.zip_eq_zipWith]
theorem bls_true {α : Type} (l : List α) : blsD (l.map fun _ => D.bl true) = some (l.map fun _ => true) := by
  induction l with
  | nil => rfl
  | cons a r ih => simp [blsD, ih]
theorem all_true {α : Type} (l : List α) : allD [.lst (l.map fun _ => D.bl true)] = some (.bl true) := by
  show (blsD _).map _ = _
  rw [bls_true]
  simp
theorem same_lst {g : List D → Mo D} {ds : List D} {a b c : Option D} (h : ∀ d ∈ ds, g [d, d] = Mo.pure (.bl true)) : lcM (tgP 3 4) [a, b, c, none, none] mYes (mCall 2 g (mCons (mVar 3) (mCons (mVar 4) mNil))) (ds.map fun d => .tup [d, d]) = Mo.pure (ds.map fun _ => .bl true) := by
  have q := lc_pure (t := tgP 3 4) (env := [a, b, c, none, none]) (tt := mYes) (te := mCall 2 g (mCons (mVar 3) (mCons (mVar 4) mNil))) (fun d => match d with | .tup [x, y] => [a, b, c, some x, some y] | _ => []) (fun _ => true) (fun _ => .bl true) (ds := ds.map fun d => .tup [d, d]) (fun d hm => by
    obtain ⟨e, he, rfl⟩ := List.mem_map.mp hm
    refine ⟨rfl, rfl, fun _ => ?_⟩
    simp [h e he, fnM, fnF, mSeq, mIf, mOr, mAnd, mNot, mB, mUn, mOp, mVar, mC, mRet, mSkip, mOrV, mAndV, mIfE, mCons, mNil, mTup, mLst, mBt, mCall, mCallR, mSet, mDrop, mRaise, noRt, mSl, mPt, mNoP, mPar, mAsg, mYes, mChain, pure_bind', ofO_some, er_bind, assoc', noEr_pure, join_ss, asB_bl, asI_int, List.getElem?_cons_zero, List.getElem?_cons_succ, List.set_cons_zero, List.set_cons_succ, List.map_cons, List.map_nil, List.length_cons, List.length_nil, List.cons_append, List.nil_append, List.replicate, isi_NoneType_int, isi_bool_int, isi_int_int, isi_str_int, isi_list_int, isi_tuple_int, isi_dict_int, isi_NoneType_bool, isi_bool_bool, isi_int_bool, isi_str_bool, isi_list_bool, isi_tuple_bool, isi_dict_bool, isi_NoneType_str, isi_bool_str, isi_int_str, isi_str_str, isi_list_str, isi_tuple_str, isi_dict_str, isi_NoneType_list, isi_bool_list, isi_int_list, isi_str_list, isi_list_list, isi_tuple_list, isi_dict_list, isi_NoneType_tuple, isi_bool_tuple, isi_int_tuple, isi_str_tuple, isi_list_tuple, isi_tuple_tuple, isi_dict_tuple, isi_NoneType_two, isi_bool_two, isi_int_two, isi_str_two, isi_list_two, isi_tuple_two, isi_dict_two])
  rw [q, List.filter_eq_self.mpr (fun _ _ => rfl), List.map_map]
  rfl
theorem ev_same : ∀ (n : Nat) (d : D), n ≤ 60 → lev n d = true → d.wf = true → f_law_same (n + 1) [d, d] = Mo.pure (.bl true)
  | n, .non, hn, h, _ => by simp [f_law_same, mb_law_same, isD, neD_bl, eqD_bl, eqD_self (d := .non) (n := 0) (by decide) rfl, fnM, fnF, mSeq, mIf, mOr, mAnd, mNot, mB, mUn, mOp, mVar, mC, mRet, mSkip, mOrV, mAndV, mIfE, mCons, mNil, mTup, mLst, mBt, mCall, mCallR, mSet, mDrop, mRaise, noRt, mSl, mPt, mNoP, mPar, mAsg, mYes, mChain, pure_bind', ofO_some, er_bind, assoc', noEr_pure, join_ss, asB_bl, asI_int, List.getElem?_cons_zero, List.getElem?_cons_succ, List.set_cons_zero, List.set_cons_succ, List.map_cons, List.map_nil, List.length_cons, List.length_nil, List.cons_append, List.nil_append, List.replicate, isi_NoneType_int, isi_bool_int, isi_int_int, isi_str_int, isi_list_int, isi_tuple_int, isi_dict_int, isi_NoneType_bool, isi_bool_bool, isi_int_bool, isi_str_bool, isi_list_bool, isi_tuple_bool, isi_dict_bool, isi_NoneType_str, isi_bool_str, isi_int_str, isi_str_str, isi_list_str, isi_tuple_str, isi_dict_str, isi_NoneType_list, isi_bool_list, isi_int_list, isi_str_list, isi_list_list, isi_tuple_list, isi_dict_list, isi_NoneType_tuple, isi_bool_tuple, isi_int_tuple, isi_str_tuple, isi_list_tuple, isi_tuple_tuple, isi_dict_tuple, isi_NoneType_two, isi_bool_two, isi_int_two, isi_str_two, isi_list_two, isi_tuple_two, isi_dict_two]
  | n, .bl b, hn, h, _ => by simp [f_law_same, mb_law_same, isD, neD_bl, eqD_bl, fnM, fnF, mSeq, mIf, mOr, mAnd, mNot, mB, mUn, mOp, mVar, mC, mRet, mSkip, mOrV, mAndV, mIfE, mCons, mNil, mTup, mLst, mBt, mCall, mCallR, mSet, mDrop, mRaise, noRt, mSl, mPt, mNoP, mPar, mAsg, mYes, mChain, pure_bind', ofO_some, er_bind, assoc', noEr_pure, join_ss, asB_bl, asI_int, List.getElem?_cons_zero, List.getElem?_cons_succ, List.set_cons_zero, List.set_cons_succ, List.map_cons, List.map_nil, List.length_cons, List.length_nil, List.cons_append, List.nil_append, List.replicate, isi_NoneType_int, isi_bool_int, isi_int_int, isi_str_int, isi_list_int, isi_tuple_int, isi_dict_int, isi_NoneType_bool, isi_bool_bool, isi_int_bool, isi_str_bool, isi_list_bool, isi_tuple_bool, isi_dict_bool, isi_NoneType_str, isi_bool_str, isi_int_str, isi_str_str, isi_list_str, isi_tuple_str, isi_dict_str, isi_NoneType_list, isi_bool_list, isi_int_list, isi_str_list, isi_list_list, isi_tuple_list, isi_dict_list, isi_NoneType_tuple, isi_bool_tuple, isi_int_tuple, isi_str_tuple, isi_list_tuple, isi_tuple_tuple, isi_dict_tuple, isi_NoneType_two, isi_bool_two, isi_int_two, isi_str_two, isi_list_two, isi_tuple_two, isi_dict_two]
  | n, .int b, hn, h, _ => by simp [f_law_same, mb_law_same, isD, neD_bl, eqD_bl, eqD_int, fnM, fnF, mSeq, mIf, mOr, mAnd, mNot, mB, mUn, mOp, mVar, mC, mRet, mSkip, mOrV, mAndV, mIfE, mCons, mNil, mTup, mLst, mBt, mCall, mCallR, mSet, mDrop, mRaise, noRt, mSl, mPt, mNoP, mPar, mAsg, mYes, mChain, pure_bind', ofO_some, er_bind, assoc', noEr_pure, join_ss, asB_bl, asI_int, List.getElem?_cons_zero, List.getElem?_cons_succ, List.set_cons_zero, List.set_cons_succ, List.map_cons, List.map_nil, List.length_cons, List.length_nil, List.cons_append, List.nil_append, List.replicate, isi_NoneType_int, isi_bool_int, isi_int_int, isi_str_int, isi_list_int, isi_tuple_int, isi_dict_int, isi_NoneType_bool, isi_bool_bool, isi_int_bool, isi_str_bool, isi_list_bool, isi_tuple_bool, isi_dict_bool, isi_NoneType_str, isi_bool_str, isi_int_str, isi_str_str, isi_list_str, isi_tuple_str, isi_dict_str, isi_NoneType_list, isi_bool_list, isi_int_list, isi_str_list, isi_list_list, isi_tuple_list, isi_dict_list, isi_NoneType_tuple, isi_bool_tuple, isi_int_tuple, isi_str_tuple, isi_list_tuple, isi_tuple_tuple, isi_dict_tuple, isi_NoneType_two, isi_bool_two, isi_int_two, isi_str_two, isi_list_two, isi_tuple_two, isi_dict_two]
  | n, .str x, hn, h, _ => by
    have e := eqD_self (d := .str x) (n := n) (by omega) h
    simp [f_law_same, mb_law_same, isD, neD_bl, eqD_bl, e, fnM, fnF, mSeq, mIf, mOr, mAnd, mNot, mB, mUn, mOp, mVar, mC, mRet, mSkip, mOrV, mAndV, mIfE, mCons, mNil, mTup, mLst, mBt, mCall, mCallR, mSet, mDrop, mRaise, noRt, mSl, mPt, mNoP, mPar, mAsg, mYes, mChain, pure_bind', ofO_some, er_bind, assoc', noEr_pure, join_ss, asB_bl, asI_int, List.getElem?_cons_zero, List.getElem?_cons_succ, List.set_cons_zero, List.set_cons_succ, List.map_cons, List.map_nil, List.length_cons, List.length_nil, List.cons_append, List.nil_append, List.replicate, isi_NoneType_int, isi_bool_int, isi_int_int, isi_str_int, isi_list_int, isi_tuple_int, isi_dict_int, isi_NoneType_bool, isi_bool_bool, isi_int_bool, isi_str_bool, isi_list_bool, isi_tuple_bool, isi_dict_bool, isi_NoneType_str, isi_bool_str, isi_int_str, isi_str_str, isi_list_str, isi_tuple_str, isi_dict_str, isi_NoneType_list, isi_bool_list, isi_int_list, isi_str_list, isi_list_list, isi_tuple_list, isi_dict_list, isi_NoneType_tuple, isi_bool_tuple, isi_int_tuple, isi_str_tuple, isi_list_tuple, isi_tuple_tuple, isi_dict_tuple, isi_NoneType_two, isi_bool_two, isi_int_two, isi_str_two, isi_list_two, isi_tuple_two, isi_dict_two]
  | n + 1, .lst ds, hn, h, hw => by
    have h' : ds.length ≤ 1000 ∧ wfA ds = true := by simpa [D.wf] using hw
    have h6 : ds.length ≤ 100000 := by omega
    have hl : ∀ d ∈ ds, lev n d = true := by simpa [lev] using h
    have q := same_lst (g := f_law_same (n + 1)) (a := some (.lst ds)) (b := some (.lst ds)) (c := some (.bl true)) fun d hd => ev_same n d (by omega) (hl d hd) (wfA_mem h'.2 hd)
    rw [f_law_same]
    simp [mb_law_same, isD, neD_bl, eqD_bl, eqD_int, lenD, mLc, mItA, zip_self, wipeD, q, h6, all_true, fnM, fnF, mSeq, mIf, mOr, mAnd, mNot, mB, mUn, mOp, mVar, mC, mRet, mSkip, mOrV, mAndV, mIfE, mCons, mNil, mTup, mLst, mBt, mCall, mCallR, mSet, mDrop, mRaise, noRt, mSl, mPt, mNoP, mPar, mAsg, mYes, mChain, pure_bind', ofO_some, er_bind, assoc', noEr_pure, join_ss, asB_bl, asI_int, List.getElem?_cons_zero, List.getElem?_cons_succ, List.set_cons_zero, List.set_cons_succ, List.map_cons, List.map_nil, List.length_cons, List.length_nil, List.cons_append, List.nil_append, List.replicate, isi_NoneType_int, isi_bool_int, isi_int_int, isi_str_int, isi_list_int, isi_tuple_int, isi_dict_int, isi_NoneType_bool, isi_bool_bool, isi_int_bool, isi_str_bool, isi_list_bool, isi_tuple_bool, isi_dict_bool, isi_NoneType_str, isi_bool_str, isi_int_str, isi_str_str, isi_list_str, isi_tuple_str, isi_dict_str, isi_NoneType_list, isi_bool_list, isi_int_list, isi_str_list, isi_list_list, isi_tuple_list, isi_dict_list, isi_NoneType_tuple, isi_bool_tuple, isi_int_tuple, isi_str_tuple, isi_list_tuple, isi_tuple_tuple, isi_dict_tuple, isi_NoneType_two, isi_bool_two, isi_int_two, isi_str_two, isi_list_two, isi_tuple_two, isi_dict_two]
  | n + 1, .tup ds, hn, h, hw => by
    have h' : ds.length ≤ 1000 ∧ wfA ds = true := by simpa [D.wf] using hw
    have h6 : ds.length ≤ 100000 := by omega
    have hl : ∀ d ∈ ds, lev n d = true := by simpa [lev] using h
    have q := same_lst (g := f_law_same (n + 1)) (a := some (.tup ds)) (b := some (.tup ds)) (c := some (.bl true)) fun d hd => ev_same n d (by omega) (hl d hd) (wfA_mem h'.2 hd)
    rw [f_law_same]
    simp [mb_law_same, isD, neD_bl, eqD_bl, eqD_int, lenD, mLc, mItA, zip_selfT, wipeD, q, h6, all_true, fnM, fnF, mSeq, mIf, mOr, mAnd, mNot, mB, mUn, mOp, mVar, mC, mRet, mSkip, mOrV, mAndV, mIfE, mCons, mNil, mTup, mLst, mBt, mCall, mCallR, mSet, mDrop, mRaise, noRt, mSl, mPt, mNoP, mPar, mAsg, mYes, mChain, pure_bind', ofO_some, er_bind, assoc', noEr_pure, join_ss, asB_bl, asI_int, List.getElem?_cons_zero, List.getElem?_cons_succ, List.set_cons_zero, List.set_cons_succ, List.map_cons, List.map_nil, List.length_cons, List.length_nil, List.cons_append, List.nil_append, List.replicate, isi_NoneType_int, isi_bool_int, isi_int_int, isi_str_int, isi_list_int, isi_tuple_int, isi_dict_int, isi_NoneType_bool, isi_bool_bool, isi_int_bool, isi_str_bool, isi_list_bool, isi_tuple_bool, isi_dict_bool, isi_NoneType_str, isi_bool_str, isi_int_str, isi_str_str, isi_list_str, isi_tuple_str, isi_dict_str, isi_NoneType_list, isi_bool_list, isi_int_list, isi_str_list, isi_list_list, isi_tuple_list, isi_dict_list, isi_NoneType_tuple, isi_bool_tuple, isi_int_tuple, isi_str_tuple, isi_list_tuple, isi_tuple_tuple, isi_dict_tuple, isi_NoneType_two, isi_bool_two, isi_int_two, isi_str_two, isi_list_two, isi_tuple_two, isi_dict_two]
  | 0, .lst ds, _, h, _ => by simp [lev] at h
  | 0, .tup ds, _, h, _ => by simp [lev] at h
  | 0, .dic _, _, h, _ => by simp [lev] at h
  | 0, .frl _, _, h, _ => by simp [lev] at h
  | 0, .err _ _, _, h, _ => by simp [lev] at h
  | 0, .gen, _, h, _ => by simp [lev] at h
  | 0, .own, _, h, _ => by simp [lev] at h
  | n + 1, .dic _, _, h, _ => by simp [lev] at h
  | n + 1, .frl _, _, h, _ => by simp [lev] at h
  | n + 1, .err _ _, _, h, _ => by simp [lev] at h
  | n + 1, .gen, _, h, _ => by simp [lev] at h
  | n + 1, .own, _, h, _ => by simp [lev] at h
end K84

set_option Elab.async false
set_option linter.all false
set_option maxRecDepth 100000
set_option maxHeartbeats 1000000
namespace K84
open PySem PySem.Spec PyProof.Rows L2 GxR GenW Ink
/-- it answers so -/
def Tr {α : Type} (m : Mo α) (s : GS) (P : α → GS → Prop) : Prop := ∃ a s', m s = some (.ok a, s') ∧ P a s'
theorem Tr.pure {α : Type} {a : α} {s : GS} {P : α → GS → Prop} (h : P a s) : Tr (Mo.pure a) s P := ⟨a, s, rfl, h⟩
theorem Tr.bind {α β : Type} {m : Mo α} {f : α → Mo β} {s : GS} {P : β → GS → Prop} (h : Tr m s fun a s' => Tr (f a) s' P) : Tr (m.bind f) s P := by
  obtain ⟨a, s', e, b, s2, e2, q⟩ := h
  refine ⟨b, s2, ?_, q⟩
  show (m.bind f) s = _
  unfold Mo.bind
  rw [e]
  exact e2
theorem Tr.noEr {α : Type} {m : Mo α} {s : GS} {P : α → GS → Prop} (h : Tr m s P) : Tr (noEr m) s P := by
  obtain ⟨a, s', e, q⟩ := h
  refine ⟨a, s', ?_, q⟩
  unfold Ink.noEr
  rw [e]
theorem Tr.mono {α : Type} {m : Mo α} {s : GS} {P Q : α → GS → Prop} (h : Tr m s P) (hPQ : ∀ a s', P a s' → Q a s') : Tr m s Q := by
  obtain ⟨a, s', e, q⟩ := h
  exact ⟨a, s', e, hPQ a s' q⟩
theorem fmod_lt (a : Int) {b : Int} (h : 0 < b) : 0 ≤ a.fmod b ∧ a.fmod b < b := ⟨Int.fmod_nonneg_of_pos a h, Int.fmod_lt_of_pos a h⟩
theorem ev_hash (s i : Int) (h0 : 0 ≤ i) (h1 : i ≤ 1000000000) : ∃ r, 0 ≤ r ∧ r < 2147483647 ∧ f_law_hash [.int s, .int i] = Mo.pure (.int r) := by
  have g1 : (-18446744073709551616 < i ∧ i < 18446744073709551616) := by omega
  let a : Int := (s * 1140671 + 27644437 * i * i + 131 * i + 19).fmod 2147483629
  have ha := fmod_lt (s * 1140671 + 27644437 * i * i + 131 * i + 19) (b := 2147483629) (by decide)
  have g2 : (-18446744073709551616 < a ∧ a < 18446744073709551616) := by
    show _ < (s * 1140671 + 27644437 * i * i + 131 * i + 19).fmod 2147483629 ∧ (s * 1140671 + 27644437 * i * i + 131 * i + 19).fmod 2147483629 < _
    omega
  refine ⟨(((a * a + 62089 * i + 32416187).fmod 2147483587) * 48271).fmod 2147483647, (fmod_lt _ (by decide)).1, (fmod_lt _ (by decide)).2, ?_⟩
  simp only [a] at g2 ⊢
  simp [f_law_hash, m_law_hash, mulD, addD, modD, Ink.intD, g1, g2, fnM, fnF, mSeq, mIf, mOr, mAnd, mNot, mB, mUn, mOp, mVar, mC, mRet, mSkip, mOrV, mAndV, mIfE, mCons, mNil, mTup, mLst, mBt, mCall, mCallR, mSet, mDrop, mRaise, noRt, mSl, mPt, mNoP, mPar, mAsg, mYes, mChain, pure_bind', ofO_some, er_bind, assoc', noEr_pure, join_ss, asB_bl, asI_int, List.getElem?_cons_zero, List.getElem?_cons_succ, List.set_cons_zero, List.set_cons_succ, List.map_cons, List.map_nil, List.length_cons, List.length_nil, List.cons_append, List.nil_append, List.replicate, isi_NoneType_int, isi_bool_int, isi_int_int, isi_str_int, isi_list_int, isi_tuple_int, isi_dict_int, isi_NoneType_bool, isi_bool_bool, isi_int_bool, isi_str_bool, isi_list_bool, isi_tuple_bool, isi_dict_bool, isi_NoneType_str, isi_bool_str, isi_int_str, isi_str_str, isi_list_str, isi_tuple_str, isi_dict_str, isi_NoneType_list, isi_bool_list, isi_int_list, isi_str_list, isi_list_list, isi_tuple_list, isi_dict_list, isi_NoneType_tuple, isi_bool_tuple, isi_int_tuple, isi_str_tuple, isi_list_tuple, isi_tuple_tuple, isi_dict_tuple, isi_NoneType_two, isi_bool_two, isi_int_two, isi_str_two, isi_list_two, isi_tuple_two, isi_dict_two]
/-- the state of the generator -/
def GI (n : Int) (o : Option (List D)) (s : GS) : Prop := (∃ x y z, s.g = some (x, y, z) ∧ 0 ≤ z ∧ z ≤ n) ∧ s.own = o
theorem bits_lt : ∀ b ∈ List.range 1001, Builtin.Int.intBits (b : Int) < 30 := by decide +kernel
theorem ev_random {n : Int} {o : Option (List D)} {s : GS} {b : Int} (hs : GI n o s) (hn : n ≤ 100000000) (h1 : 1 ≤ b) (h2 : b ≤ 1000) : Tr (f_law_random [.gen, .int b]) s fun d s' => ∃ r, d = .int r ∧ 0 ≤ r ∧ r < b ∧ GI (n + 1) o s' := by
  obtain ⟨⟨x, y, z, hg, hz0, hz⟩, ho⟩ := hs
  obtain ⟨g, own⟩ := s
  cases hg
  cases ho
  have hb0 : ¬ b = 0 := by omega
  have hb1 : b.natAbs < 1073741824 := by omega
  by_cases hx : 0 < x
  · refine ⟨.int (x.fmod b), ⟨some (x.fdiv b, y, z), own⟩, ?_, _, rfl, (fmod_lt x (by omega)).1, (fmod_lt x (by omega)).2, ⟨_, _, _, rfl, hz0, by omega⟩, rfl⟩
    simp [f_law_random, m_law_random, mGi, mSg, gtD, modD, divD, Ink.intD, hx, hb0, hb1, Mo.bind, Mo.ofO, Mo.pure, Ink.noEr, fnM, fnF, mSeq, mIf, mOr, mAnd, mNot, mB, mUn, mOp, mVar, mC, mRet, mSkip, mOrV, mAndV, mIfE, mCons, mNil, mTup, mLst, mBt, mCall, mCallR, mSet, mDrop, mRaise, noRt, mSl, mPt, mNoP, mPar, mAsg, mYes, mChain, pure_bind', ofO_some, er_bind, assoc', noEr_pure, join_ss, asB_bl, asI_int, List.getElem?_cons_zero, List.getElem?_cons_succ, List.set_cons_zero, List.set_cons_succ, List.map_cons, List.map_nil, List.length_cons, List.length_nil, List.cons_append, List.nil_append, List.replicate, isi_NoneType_int, isi_bool_int, isi_int_int, isi_str_int, isi_list_int, isi_tuple_int, isi_dict_int, isi_NoneType_bool, isi_bool_bool, isi_int_bool, isi_str_bool, isi_list_bool, isi_tuple_bool, isi_dict_bool, isi_NoneType_str, isi_bool_str, isi_int_str, isi_str_str, isi_list_str, isi_tuple_str, isi_dict_str, isi_NoneType_list, isi_bool_list, isi_int_list, isi_str_list, isi_list_list, isi_tuple_list, isi_dict_list, isi_NoneType_tuple, isi_bool_tuple, isi_int_tuple, isi_str_tuple, isi_list_tuple, isi_tuple_tuple, isi_dict_tuple, isi_NoneType_two, isi_bool_two, isi_int_two, isi_str_two, isi_list_two, isi_tuple_two, isi_dict_two]
  · obtain ⟨r, hr0, hr1, e⟩ := ev_hash y (z + 1) (by omega) (by omega)
    have hbits : ((Builtin.Int.intBits b : Nat) : Int).fdiv 30 = 0 := by
      have := bits_lt b.toNat (List.mem_range.mpr (by omega))
      rw [Int.toNat_of_nonneg (by omega)] at this
      rw [Int.fdiv_eq_ediv_of_nonneg _ (by omega)]
      omega
    refine ⟨.int (r.fmod b), ⟨some (x, y, z + 1), own⟩, ?_, _, rfl, (fmod_lt r (by omega)).1, (fmod_lt r (by omega)).2, ⟨_, _, _, rfl, by omega, by omega⟩, rfl⟩
    simp [f_law_random, m_law_random, mGi, mSg, mFor, mItA, rngD, Ink.forM, tgN, bitsD, mulD, addD, gtD, modD, divD, Ink.intD, hx, hb0, hb1, hbits, e, Mo.bind, Mo.ofO, Mo.pure, Ink.noEr, fnM, fnF, mSeq, mIf, mOr, mAnd, mNot, mB, mUn, mOp, mVar, mC, mRet, mSkip, mOrV, mAndV, mIfE, mCons, mNil, mTup, mLst, mBt, mCall, mCallR, mSet, mDrop, mRaise, noRt, mSl, mPt, mNoP, mPar, mAsg, mYes, mChain, pure_bind', ofO_some, er_bind, assoc', noEr_pure, join_ss, asB_bl, asI_int, List.getElem?_cons_zero, List.getElem?_cons_succ, List.set_cons_zero, List.set_cons_succ, List.map_cons, List.map_nil, List.length_cons, List.length_nil, List.cons_append, List.nil_append, List.replicate, isi_NoneType_int, isi_bool_int, isi_int_int, isi_str_int, isi_list_int, isi_tuple_int, isi_dict_int, isi_NoneType_bool, isi_bool_bool, isi_int_bool, isi_str_bool, isi_list_bool, isi_tuple_bool, isi_dict_bool, isi_NoneType_str, isi_bool_str, isi_int_str, isi_str_str, isi_list_str, isi_tuple_str, isi_dict_str, isi_NoneType_list, isi_bool_list, isi_int_list, isi_str_list, isi_list_list, isi_tuple_list, isi_dict_list, isi_NoneType_tuple, isi_bool_tuple, isi_int_tuple, isi_str_tuple, isi_list_tuple, isi_tuple_tuple, isi_dict_tuple, isi_NoneType_two, isi_bool_two, isi_int_two, isi_str_two, isi_list_two, isi_tuple_two, isi_dict_two]
end K84

set_option Elab.async false
set_option linter.all false
set_option maxRecDepth 100000
set_option maxHeartbeats 1000000
namespace K84
open PySem PySem.Spec PyProof.Rows L2 GxR GenW Ink
theorem GI.up {n k : Int} {o : Option (List D)} {s : GS} (h : GI n o s) (hk : n ≤ k) : GI k o s := by
  obtain ⟨⟨x, y, z, e, h0, h1⟩, h2⟩ := h
  exact ⟨⟨x, y, z, e, h0, Int.le_trans h1 hk⟩, h2⟩
theorem ix_lst {ds : List D} {r : Int} (h0 : 0 ≤ r) (h1 : r < ds.length) : ∃ d ∈ ds, ixD (.lst ds) (.int r) = some d := by
  obtain ⟨k, rfl⟩ := Int.eq_ofNat_of_zero_le h0
  have hk : k < ds.length := by omega
  exact ⟨ds[k], List.getElem_mem hk, atI_nat (List.getElem?_eq_getElem hk)⟩
theorem ix_str {z : Str} {r : Int} (h0 : 0 ≤ r) (h1 : r < z.cps.toList.length) (hz : z.length ≤ 100000) : ∃ c ∈ z.cps.toList, ixD (.str z) (.int r) = some (.str ⟨#[c]⟩) := by
  obtain ⟨k, rfl⟩ := Int.eq_ofNat_of_zero_le h0
  have hk : k < z.cps.toList.length := by omega
  refine ⟨z.cps.toList[k], List.getElem_mem hk, ?_⟩
  have e : atI z.cps.toList (k : Int) = some z.cps.toList[k] := atI_nat (List.getElem?_eq_getElem hk)
  simp only [ixD]
  rw [if_pos hz, e]
  rfl
theorem ab_ok : ∀ c ∈ ("ab 0" : Str).cps.toList, okC c = true := by decide +kernel
theorem sg_ok : ∀ c ∈ SG.cps.toList, okC c = true := by decide +kernel
theorem ev_sign {n : Int} {o : Option (List D)} {s : GS} (hs : GI n o s) (hn : n ≤ 10000000) : Tr (f_law_sign [.gen]) s fun d s' => ∃ c, d = .str ⟨#[c]⟩ ∧ okC c = true ∧ GI (n + 2) o s' := by
  simp [f_law_sign, m_law_sign, gtD, fnM, fnF, mSeq, mIf, mOr, mAnd, mNot, mB, mUn, mOp, mVar, mC, mRet, mSkip, mOrV, mAndV, mIfE, mCons, mNil, mTup, mLst, mBt, mCall, mCallR, mSet, mDrop, mRaise, noRt, mSl, mPt, mNoP, mPar, mAsg, mYes, mChain, pure_bind', ofO_some, er_bind, assoc', noEr_pure, join_ss, asB_bl, asI_int, List.getElem?_cons_zero, List.getElem?_cons_succ, List.set_cons_zero, List.set_cons_succ, List.map_cons, List.map_nil, List.length_cons, List.length_nil, List.cons_append, List.nil_append, List.replicate, isi_NoneType_int, isi_bool_int, isi_int_int, isi_str_int, isi_list_int, isi_tuple_int, isi_dict_int, isi_NoneType_bool, isi_bool_bool, isi_int_bool, isi_str_bool, isi_list_bool, isi_tuple_bool, isi_dict_bool, isi_NoneType_str, isi_bool_str, isi_int_str, isi_str_str, isi_list_str, isi_tuple_str, isi_dict_str, isi_NoneType_list, isi_bool_list, isi_int_list, isi_str_list, isi_list_list, isi_tuple_list, isi_dict_list, isi_NoneType_tuple, isi_bool_tuple, isi_int_tuple, isi_str_tuple, isi_list_tuple, isi_tuple_tuple, isi_dict_tuple, isi_NoneType_two, isi_bool_two, isi_int_two, isi_str_two, isi_list_two, isi_tuple_two, isi_dict_two]
  refine Tr.noEr (Tr.bind ((ev_random hs (by omega) (by decide) (by decide)).mono ?_))
  rintro _ s1 ⟨r, rfl, h0, h1, G1⟩
  simp only []
  by_cases hr : 0 < r
  · simp [hr, fnM, fnF, mSeq, mIf, mOr, mAnd, mNot, mB, mUn, mOp, mVar, mC, mRet, mSkip, mOrV, mAndV, mIfE, mCons, mNil, mTup, mLst, mBt, mCall, mCallR, mSet, mDrop, mRaise, noRt, mSl, mPt, mNoP, mPar, mAsg, mYes, mChain, pure_bind', ofO_some, er_bind, assoc', noEr_pure, join_ss, asB_bl, asI_int, List.getElem?_cons_zero, List.getElem?_cons_succ, List.set_cons_zero, List.set_cons_succ, List.map_cons, List.map_nil, List.length_cons, List.length_nil, List.cons_append, List.nil_append, List.replicate, isi_NoneType_int, isi_bool_int, isi_int_int, isi_str_int, isi_list_int, isi_tuple_int, isi_dict_int, isi_NoneType_bool, isi_bool_bool, isi_int_bool, isi_str_bool, isi_list_bool, isi_tuple_bool, isi_dict_bool, isi_NoneType_str, isi_bool_str, isi_int_str, isi_str_str, isi_list_str, isi_tuple_str, isi_dict_str, isi_NoneType_list, isi_bool_list, isi_int_list, isi_str_list, isi_list_list, isi_tuple_list, isi_dict_list, isi_NoneType_tuple, isi_bool_tuple, isi_int_tuple, isi_str_tuple, isi_list_tuple, isi_tuple_tuple, isi_dict_tuple, isi_NoneType_two, isi_bool_two, isi_int_two, isi_str_two, isi_list_two, isi_tuple_two, isi_dict_two]
    refine Tr.bind ((ev_random G1 (by omega) (by decide) (by decide)).mono ?_)
    rintro _ s2 ⟨r2, rfl, q0, q1, G2⟩
    obtain ⟨c, hc, e⟩ := ix_str (z := "ab 0") q0 (show r2 < 4 from q1) (by decide)
    rw [e, ofO_some]
    simp only [pure_bind']
    exact Tr.pure ⟨c, rfl, ab_ok c hc, G2.up (by omega)⟩
  · simp [hr, fnM, fnF, mSeq, mIf, mOr, mAnd, mNot, mB, mUn, mOp, mVar, mC, mRet, mSkip, mOrV, mAndV, mIfE, mCons, mNil, mTup, mLst, mBt, mCall, mCallR, mSet, mDrop, mRaise, noRt, mSl, mPt, mNoP, mPar, mAsg, mYes, mChain, pure_bind', ofO_some, er_bind, assoc', noEr_pure, join_ss, asB_bl, asI_int, List.getElem?_cons_zero, List.getElem?_cons_succ, List.set_cons_zero, List.set_cons_succ, List.map_cons, List.map_nil, List.length_cons, List.length_nil, List.cons_append, List.nil_append, List.replicate, isi_NoneType_int, isi_bool_int, isi_int_int, isi_str_int, isi_list_int, isi_tuple_int, isi_dict_int, isi_NoneType_bool, isi_bool_bool, isi_int_bool, isi_str_bool, isi_list_bool, isi_tuple_bool, isi_dict_bool, isi_NoneType_str, isi_bool_str, isi_int_str, isi_str_str, isi_list_str, isi_tuple_str, isi_dict_str, isi_NoneType_list, isi_bool_list, isi_int_list, isi_str_list, isi_list_list, isi_tuple_list, isi_dict_list, isi_NoneType_tuple, isi_bool_tuple, isi_int_tuple, isi_str_tuple, isi_list_tuple, isi_tuple_tuple, isi_dict_tuple, isi_NoneType_two, isi_bool_two, isi_int_two, isi_str_two, isi_list_two, isi_tuple_two, isi_dict_two]
    refine Tr.bind ((ev_random G1 (by omega) (by decide) (by decide)).mono ?_)
    rintro _ s2 ⟨r2, rfl, q0, q1, G2⟩
    obtain ⟨c, hc, e⟩ := ix_str (z := SG) q0 (show r2 < 37 from q1) (by decide)
    unfold SG at e
    rw [e, ofO_some]
    simp only [pure_bind']
    exact Tr.pure ⟨c, rfl, sg_ok c hc, G2.up (by omega)⟩
theorem Tr_app {env : Envd} {i : Nat} {m : ME} {s : GS} {P : D → GS → Prop} (he : (env[i]?).join = some .own) (h : Tr (m env) s fun d s' => ∃ ds, s'.own = some ds ∧ ds.length < 1000 ∧ P .non { s' with own := some (ds ++ [d]) }) : Tr (mApp i m env) s P := by
  unfold mApp
  rw [he, ofO_some, pure_bind']
  show Tr ((Mo.pure ()).bind _) s P
  rw [pure_bind']
  refine Tr.bind (h.mono ?_)
  rintro d s' ⟨ds, h1, h2, h3⟩
  refine ⟨.non, _, ?_, h3⟩
  simp only [h1]
  rw [if_pos h2]
/-- the signs drawn so far -/
def OP (ds : List D) (num : Int) : Prop := (∀ d ∈ ds, holdB d = true ∧ txtN d ≠ "" ∧ numN d ≤ num) ∧ ds.Pairwise RH
theorem OP.up {ds : List D} {num k : Int} (h : OP ds num) (hk : num ≤ k) : OP ds k := ⟨fun d hd => ⟨(h.1 d hd).1, (h.1 d hd).2.1, Int.le_trans (h.1 d hd).2.2 hk⟩, h.2⟩
theorem OP.pw {ds : List D} {num k : Int} {x : Str} (h : OP ds num) (hk : num < k) : (ds ++ [hold k x]).Pairwise RH := List.pairwise_append.mpr ⟨h.2, List.pairwise_singleton _ _, fun a ha b hb => by
  rw [List.mem_singleton.mp hb]
  have := h.1 a ha
  exact ⟨by rw [num_hold]; omega, this.2.1⟩⟩
theorem OP.app {ds : List D} {num k : Int} {c : Nat} (h : OP ds num) (h0 : 0 ≤ k) (hk : num < k) (h6 : k ≤ 60) (hc : okC c = true) : OP (ds ++ [hold k ⟨#[c]⟩]) k := ⟨fun d hd => by
  rcases List.mem_append.mp hd with q | q
  · exact (h.up (Int.le_of_lt hk)).1 d q
  · rw [List.mem_singleton.mp q]
    refine ⟨holdB_hold h0 h6 (by rw [okS_one, hc]) (by rw [len_one]; decide), ?_, Int.le_refl _⟩
    rw [txt_hold]
    have := one_ne c
    rw [beq_eq_false_iff_ne] at this
    exact this, h.pw hk⟩
theorem OP.held {ds : List D} {num : Int} (h : OP ds num) : isHeld (.lst ds) = true := by
  rw [isHeld, heldFrom_iff]
  refine ⟨fun d hd => (h.1 d hd).1, h.2, fun d hd => ?_⟩
  obtain ⟨n, x, rfl, h0, _⟩ := hold_shape (h.1 d hd).1
  show -1 < n
  omega
theorem OP.held_app {ds : List D} {num k : Int} (h : OP ds num) (h0 : 0 ≤ k) (hk : num < k) (h6 : k ≤ 60) : isHeld (.lst (ds ++ [hold k ""])) = true := by
  rw [isHeld, heldFrom_iff]
  have e : ∀ d ∈ ds ++ [hold k ""], holdB d = true := fun d hd => by
    rcases List.mem_append.mp hd with q | q
    · exact (h.1 d q).1
    · rw [List.mem_singleton.mp q]
      exact holdB_hold h0 h6 okS_emp (by decide)
  refine ⟨e, h.pw hk, fun d hd => ?_⟩
  obtain ⟨n, x, rfl, h0, _⟩ := hold_shape (e d hd)
  show -1 < n
  omega
def dBody : MS := (mSeq (mSet 3 (mOp addD (mOp addD (mVar 3) (mC (.int 1))) (mCall 2 f_law_random (mCons (mVar 0) (mCons (mOp ixD (mLst (mCons (mC (.int 1)) (mCons (mC (.int 2)) (mCons (mC (.int 20)) mNil)))) (mCall 2 f_law_random (mCons (mVar 0) (mCons (mC (.int 3)) mNil)))) mNil))))) (mIf (mB (mOp ltD (mVar 3) (mC (.int 61)))) (mDrop (mApp 2 (mTup (mCons (mVar 3) (mCons (mCall 1 f_law_sign (mCons (mVar 0) mNil)) mNil))))) mSkip))
theorem dBody_ev {n num : Int} {ds : List D} {s : GS} {x1 : Option D} {P : Fl → GS → Prop} (hs : GI n (some ds) s) (hn : n ≤ 1000000) (hd : OP ds num) (h0 : -1 ≤ num) (hl : ds.length < 1000)
    (hP : ∀ num' ds' s', OP ds' num' → -1 ≤ num' → ds'.length ≤ ds.length + 1 → GI (n + 4) (some ds') s' → P (.nx [some .gen, x1, some .own, some (.int num')]) s') : Tr (dBody [some .gen, x1, some .own, some (.int num)]) s P := by
  simp [dBody, addD, ltD, fnM, fnF, mSeq, mIf, mOr, mAnd, mNot, mB, mUn, mOp, mVar, mC, mRet, mSkip, mOrV, mAndV, mIfE, mCons, mNil, mTup, mLst, mBt, mCall, mCallR, mSet, mDrop, mRaise, noRt, mSl, mPt, mNoP, mPar, mAsg, mYes, mChain, pure_bind', ofO_some, er_bind, assoc', noEr_pure, join_ss, asB_bl, asI_int, List.getElem?_cons_zero, List.getElem?_cons_succ, List.set_cons_zero, List.set_cons_succ, List.map_cons, List.map_nil, List.length_cons, List.length_nil, List.cons_append, List.nil_append, List.replicate, isi_NoneType_int, isi_bool_int, isi_int_int, isi_str_int, isi_list_int, isi_tuple_int, isi_dict_int, isi_NoneType_bool, isi_bool_bool, isi_int_bool, isi_str_bool, isi_list_bool, isi_tuple_bool, isi_dict_bool, isi_NoneType_str, isi_bool_str, isi_int_str, isi_str_str, isi_list_str, isi_tuple_str, isi_dict_str, isi_NoneType_list, isi_bool_list, isi_int_list, isi_str_list, isi_list_list, isi_tuple_list, isi_dict_list, isi_NoneType_tuple, isi_bool_tuple, isi_int_tuple, isi_str_tuple, isi_list_tuple, isi_tuple_tuple, isi_dict_tuple, isi_NoneType_two, isi_bool_two, isi_int_two, isi_str_two, isi_list_two, isi_tuple_two, isi_dict_two]
  refine Tr.bind ((ev_random hs (by omega) (by decide) (by decide)).mono ?_)
  rintro _ s1 ⟨r, rfl, q0, q1, G1⟩
  obtain ⟨b, hb, e⟩ := ix_lst (ds := [.int 1, .int 2, .int 20]) q0 (show r < 3 from q1)
  have hb' : ∃ k : Int, b = .int k ∧ 1 ≤ k ∧ k ≤ 1000 := by
    simp at hb
    rcases hb with rfl | rfl | rfl
    · exact ⟨1, rfl, by decide, by decide⟩
    · exact ⟨2, rfl, by decide, by decide⟩
    · exact ⟨20, rfl, by decide, by decide⟩
  obtain ⟨k, rfl, k1, k2⟩ := hb'
  rw [e, ofO_some]
  simp only [pure_bind']
  refine Tr.bind ((ev_random G1 (by omega) k1 k2).mono ?_)
  rintro _ s2 ⟨r2, rfl, p0, p1, G2⟩
  simp only [ofO_some, pure_bind']
  by_cases hc : num + 1 + r2 < 61
  · simp [hc, fnM, fnF, mSeq, mIf, mOr, mAnd, mNot, mB, mUn, mOp, mVar, mC, mRet, mSkip, mOrV, mAndV, mIfE, mCons, mNil, mTup, mLst, mBt, mCall, mCallR, mSet, mDrop, mRaise, noRt, mSl, mPt, mNoP, mPar, mAsg, mYes, mChain, pure_bind', ofO_some, er_bind, assoc', noEr_pure, join_ss, asB_bl, asI_int, List.getElem?_cons_zero, List.getElem?_cons_succ, List.set_cons_zero, List.set_cons_succ, List.map_cons, List.map_nil, List.length_cons, List.length_nil, List.cons_append, List.nil_append, List.replicate, isi_NoneType_int, isi_bool_int, isi_int_int, isi_str_int, isi_list_int, isi_tuple_int, isi_dict_int, isi_NoneType_bool, isi_bool_bool, isi_int_bool, isi_str_bool, isi_list_bool, isi_tuple_bool, isi_dict_bool, isi_NoneType_str, isi_bool_str, isi_int_str, isi_str_str, isi_list_str, isi_tuple_str, isi_dict_str, isi_NoneType_list, isi_bool_list, isi_int_list, isi_str_list, isi_list_list, isi_tuple_list, isi_dict_list, isi_NoneType_tuple, isi_bool_tuple, isi_int_tuple, isi_str_tuple, isi_list_tuple, isi_tuple_tuple, isi_dict_tuple, isi_NoneType_two, isi_bool_two, isi_int_two, isi_str_two, isi_list_two, isi_tuple_two, isi_dict_two]
    refine Tr.bind (Tr_app rfl ?_)
    simp [fnM, fnF, mSeq, mIf, mOr, mAnd, mNot, mB, mUn, mOp, mVar, mC, mRet, mSkip, mOrV, mAndV, mIfE, mCons, mNil, mTup, mLst, mBt, mCall, mCallR, mSet, mDrop, mRaise, noRt, mSl, mPt, mNoP, mPar, mAsg, mYes, mChain, pure_bind', ofO_some, er_bind, assoc', noEr_pure, join_ss, asB_bl, asI_int, List.getElem?_cons_zero, List.getElem?_cons_succ, List.set_cons_zero, List.set_cons_succ, List.map_cons, List.map_nil, List.length_cons, List.length_nil, List.cons_append, List.nil_append, List.replicate, isi_NoneType_int, isi_bool_int, isi_int_int, isi_str_int, isi_list_int, isi_tuple_int, isi_dict_int, isi_NoneType_bool, isi_bool_bool, isi_int_bool, isi_str_bool, isi_list_bool, isi_tuple_bool, isi_dict_bool, isi_NoneType_str, isi_bool_str, isi_int_str, isi_str_str, isi_list_str, isi_tuple_str, isi_dict_str, isi_NoneType_list, isi_bool_list, isi_int_list, isi_str_list, isi_list_list, isi_tuple_list, isi_dict_list, isi_NoneType_tuple, isi_bool_tuple, isi_int_tuple, isi_str_tuple, isi_list_tuple, isi_tuple_tuple, isi_dict_tuple, isi_NoneType_two, isi_bool_two, isi_int_two, isi_str_two, isi_list_two, isi_tuple_two, isi_dict_two]
    refine Tr.bind ((ev_sign G2 (by omega)).mono ?_)
    rintro _ s3 ⟨c, rfl, hc', G3⟩
    refine Tr.pure ⟨ds, G3.2, hl, Tr.pure (hP _ _ _ (hd.app (k := num + 1 + r2) (by omega) (by omega) (by omega) hc') (by omega) (by simp) ⟨(G3.up (by omega)).1, rfl⟩)⟩
  · simp [hc, fnM, fnF, mSeq, mIf, mOr, mAnd, mNot, mB, mUn, mOp, mVar, mC, mRet, mSkip, mOrV, mAndV, mIfE, mCons, mNil, mTup, mLst, mBt, mCall, mCallR, mSet, mDrop, mRaise, noRt, mSl, mPt, mNoP, mPar, mAsg, mYes, mChain, pure_bind', ofO_some, er_bind, assoc', noEr_pure, join_ss, asB_bl, asI_int, List.getElem?_cons_zero, List.getElem?_cons_succ, List.set_cons_zero, List.set_cons_succ, List.map_cons, List.map_nil, List.length_cons, List.length_nil, List.cons_append, List.nil_append, List.replicate, isi_NoneType_int, isi_bool_int, isi_int_int, isi_str_int, isi_list_int, isi_tuple_int, isi_dict_int, isi_NoneType_bool, isi_bool_bool, isi_int_bool, isi_str_bool, isi_list_bool, isi_tuple_bool, isi_dict_bool, isi_NoneType_str, isi_bool_str, isi_int_str, isi_str_str, isi_list_str, isi_tuple_str, isi_dict_str, isi_NoneType_list, isi_bool_list, isi_int_list, isi_str_list, isi_list_list, isi_tuple_list, isi_dict_list, isi_NoneType_tuple, isi_bool_tuple, isi_int_tuple, isi_str_tuple, isi_list_tuple, isi_tuple_tuple, isi_dict_tuple, isi_NoneType_two, isi_bool_two, isi_int_two, isi_str_two, isi_list_two, isi_tuple_two, isi_dict_two]
    exact Tr.pure (hP _ ds _ (hd.up (by omega)) (by omega) (by omega) (G2.up (by omega)))
theorem d_loop : ∀ (r : List D) (n num : Int) (ds : List D) (s : GS) (x1 : Option D) (P : Fl → GS → Prop), GI n (some ds) s → n + 4 * r.length ≤ 1000000 → OP ds num → -1 ≤ num → ds.length + r.length < 1000 →
    (∀ num' ds' s' y1, OP ds' num' → -1 ≤ num' → ds'.length ≤ ds.length + r.length → GI (n + 4 * r.length) (some ds') s' → P (.nx [some .gen, y1, some .own, some (.int num')]) s') → Tr (Ink.forM (tgN 1) dBody r [some .gen, x1, some .own, some (.int num)]) s P
  | [], n, num, ds, s, x1, P, hs, hn, hd, h0, hl, hP => Tr.pure (hP num ds s x1 hd h0 (by simp) (hs.up (by simp)))
  | d :: r, n, num, ds, s, x1, P, hs, hn, hd, h0, hl, hP => by
    rw [List.length_cons] at hn hl hP
    unfold Ink.forM
    have e : tgN 1 d [some .gen, x1, some .own, some (.int num)] = some [some .gen, some d, some .own, some (.int num)] := rfl
    rw [e, ofO_some, pure_bind']
    refine Tr.bind (dBody_ev hs (by omega) hd h0 (by omega) fun num' ds' s' h1 h2 h3 h4 => ?_)
    exact d_loop r (n + 4) num' ds' s' (some d) P h4 (by omega) h1 h2 (by omega) fun num'' ds'' s'' y1 g1 g2 g3 g4 => hP num'' ds'' s'' y1 g1 g2 (by omega) (g4.up (by omega))
def dTail : MS := (mSeq (mIf (mAnd (mB (mOp ltD (mVar 3) (mC (.int 60)))) (mB (mOp eqD (mCall 2 f_law_random (mCons (mVar 0) (mCons (mC (.int 3)) mNil))) (mC (.int 0))))) (mDrop (mApp 2 (mTup (mCons (mOp addD (mOp addD (mVar 3) (mC (.int 1))) (mCall 2 f_law_random (mCons (mVar 0) (mCons (mOp subD (mC (.int 60)) (mVar 3)) mNil)))) (mCons (mC (.str "")) mNil))))) mSkip) (mRet (mVar 2)))
theorem m_d_eq : m_law_drawn = (mOwn 2 3 (mOp subD (mC (.int 0)) (mC (.int 1))) (mSeq (mFor (mItA rngD (mCons (mCall 2 f_law_random (mCons (mVar 0) (mCons (mC (.int 7)) mNil))) mNil)) (tgN 1) dBody) dTail)) := rfl
theorem dTail_ev {n num : Int} {ds : List D} {s : GS} {x1 : Option D} {P : Fl → GS → Prop} (hs : GI n (some ds) s) (hn : n ≤ 1000000) (hd : OP ds num) (h0 : -1 ≤ num) (hl : ds.length < 900)
    (hP : ∀ ds' s', isHeld (.lst ds') = true → ds'.length ≤ ds.length + 1 → GI (n + 2) (some ds') s' → P (.rt .own) s') : Tr (dTail [some .gen, x1, some .own, some (.int num)]) s P := by
  by_cases hc : num < 60
  · simp [dTail, addD, ltD, subD, hc, fnM, fnF, mSeq, mIf, mOr, mAnd, mNot, mB, mUn, mOp, mVar, mC, mRet, mSkip, mOrV, mAndV, mIfE, mCons, mNil, mTup, mLst, mBt, mCall, mCallR, mSet, mDrop, mRaise, noRt, mSl, mPt, mNoP, mPar, mAsg, mYes, mChain, pure_bind', ofO_some, er_bind, assoc', noEr_pure, join_ss, asB_bl, asI_int, List.getElem?_cons_zero, List.getElem?_cons_succ, List.set_cons_zero, List.set_cons_succ, List.map_cons, List.map_nil, List.length_cons, List.length_nil, List.cons_append, List.nil_append, List.replicate, isi_NoneType_int, isi_bool_int, isi_int_int, isi_str_int, isi_list_int, isi_tuple_int, isi_dict_int, isi_NoneType_bool, isi_bool_bool, isi_int_bool, isi_str_bool, isi_list_bool, isi_tuple_bool, isi_dict_bool, isi_NoneType_str, isi_bool_str, isi_int_str, isi_str_str, isi_list_str, isi_tuple_str, isi_dict_str, isi_NoneType_list, isi_bool_list, isi_int_list, isi_str_list, isi_list_list, isi_tuple_list, isi_dict_list, isi_NoneType_tuple, isi_bool_tuple, isi_int_tuple, isi_str_tuple, isi_list_tuple, isi_tuple_tuple, isi_dict_tuple, isi_NoneType_two, isi_bool_two, isi_int_two, isi_str_two, isi_list_two, isi_tuple_two, isi_dict_two]
    refine Tr.bind ((ev_random hs (by omega) (by decide) (by decide)).mono ?_)
    rintro _ s1 ⟨r, rfl, q0, q1, G1⟩
    rw [eqD_int, ofO_some]
    simp only [pure_bind', asB_bl, ofO_some]
    cases hr : (r == 0) with
    | true =>
      simp [fnM, fnF, mSeq, mIf, mOr, mAnd, mNot, mB, mUn, mOp, mVar, mC, mRet, mSkip, mOrV, mAndV, mIfE, mCons, mNil, mTup, mLst, mBt, mCall, mCallR, mSet, mDrop, mRaise, noRt, mSl, mPt, mNoP, mPar, mAsg, mYes, mChain, pure_bind', ofO_some, er_bind, assoc', noEr_pure, join_ss, asB_bl, asI_int, List.getElem?_cons_zero, List.getElem?_cons_succ, List.set_cons_zero, List.set_cons_succ, List.map_cons, List.map_nil, List.length_cons, List.length_nil, List.cons_append, List.nil_append, List.replicate, isi_NoneType_int, isi_bool_int, isi_int_int, isi_str_int, isi_list_int, isi_tuple_int, isi_dict_int, isi_NoneType_bool, isi_bool_bool, isi_int_bool, isi_str_bool, isi_list_bool, isi_tuple_bool, isi_dict_bool, isi_NoneType_str, isi_bool_str, isi_int_str, isi_str_str, isi_list_str, isi_tuple_str, isi_dict_str, isi_NoneType_list, isi_bool_list, isi_int_list, isi_str_list, isi_list_list, isi_tuple_list, isi_dict_list, isi_NoneType_tuple, isi_bool_tuple, isi_int_tuple, isi_str_tuple, isi_list_tuple, isi_tuple_tuple, isi_dict_tuple, isi_NoneType_two, isi_bool_two, isi_int_two, isi_str_two, isi_list_two, isi_tuple_two, isi_dict_two]
      refine Tr.bind (Tr_app rfl ?_)
      simp [addD, subD, fnM, fnF, mSeq, mIf, mOr, mAnd, mNot, mB, mUn, mOp, mVar, mC, mRet, mSkip, mOrV, mAndV, mIfE, mCons, mNil, mTup, mLst, mBt, mCall, mCallR, mSet, mDrop, mRaise, noRt, mSl, mPt, mNoP, mPar, mAsg, mYes, mChain, pure_bind', ofO_some, er_bind, assoc', noEr_pure, join_ss, asB_bl, asI_int, List.getElem?_cons_zero, List.getElem?_cons_succ, List.set_cons_zero, List.set_cons_succ, List.map_cons, List.map_nil, List.length_cons, List.length_nil, List.cons_append, List.nil_append, List.replicate, isi_NoneType_int, isi_bool_int, isi_int_int, isi_str_int, isi_list_int, isi_tuple_int, isi_dict_int, isi_NoneType_bool, isi_bool_bool, isi_int_bool, isi_str_bool, isi_list_bool, isi_tuple_bool, isi_dict_bool, isi_NoneType_str, isi_bool_str, isi_int_str, isi_str_str, isi_list_str, isi_tuple_str, isi_dict_str, isi_NoneType_list, isi_bool_list, isi_int_list, isi_str_list, isi_list_list, isi_tuple_list, isi_dict_list, isi_NoneType_tuple, isi_bool_tuple, isi_int_tuple, isi_str_tuple, isi_list_tuple, isi_tuple_tuple, isi_dict_tuple, isi_NoneType_two, isi_bool_two, isi_int_two, isi_str_two, isi_list_two, isi_tuple_two, isi_dict_two]
      refine Tr.bind ((ev_random G1 (by omega) (by omega) (by omega)).mono ?_)
      rintro _ s2 ⟨r2, rfl, p0, p1, G2⟩
      simp only [ofO_some, pure_bind']
      refine Tr.pure ⟨ds, G2.2, by omega, Tr.pure (hP (ds ++ [hold (num + 1 + r2) ""]) _ (hd.held_app (by omega) (by omega) (by omega)) (by simp) ⟨(G2.up (by omega)).1, rfl⟩)⟩
    | false =>
      simp [fnM, fnF, mSeq, mIf, mOr, mAnd, mNot, mB, mUn, mOp, mVar, mC, mRet, mSkip, mOrV, mAndV, mIfE, mCons, mNil, mTup, mLst, mBt, mCall, mCallR, mSet, mDrop, mRaise, noRt, mSl, mPt, mNoP, mPar, mAsg, mYes, mChain, pure_bind', ofO_some, er_bind, assoc', noEr_pure, join_ss, asB_bl, asI_int, List.getElem?_cons_zero, List.getElem?_cons_succ, List.set_cons_zero, List.set_cons_succ, List.map_cons, List.map_nil, List.length_cons, List.length_nil, List.cons_append, List.nil_append, List.replicate, isi_NoneType_int, isi_bool_int, isi_int_int, isi_str_int, isi_list_int, isi_tuple_int, isi_dict_int, isi_NoneType_bool, isi_bool_bool, isi_int_bool, isi_str_bool, isi_list_bool, isi_tuple_bool, isi_dict_bool, isi_NoneType_str, isi_bool_str, isi_int_str, isi_str_str, isi_list_str, isi_tuple_str, isi_dict_str, isi_NoneType_list, isi_bool_list, isi_int_list, isi_str_list, isi_list_list, isi_tuple_list, isi_dict_list, isi_NoneType_tuple, isi_bool_tuple, isi_int_tuple, isi_str_tuple, isi_list_tuple, isi_tuple_tuple, isi_dict_tuple, isi_NoneType_two, isi_bool_two, isi_int_two, isi_str_two, isi_list_two, isi_tuple_two, isi_dict_two]
      exact Tr.pure (hP ds _ hd.held (by omega) (G1.up (by omega)))
  · simp [dTail, ltD, hc, fnM, fnF, mSeq, mIf, mOr, mAnd, mNot, mB, mUn, mOp, mVar, mC, mRet, mSkip, mOrV, mAndV, mIfE, mCons, mNil, mTup, mLst, mBt, mCall, mCallR, mSet, mDrop, mRaise, noRt, mSl, mPt, mNoP, mPar, mAsg, mYes, mChain, pure_bind', ofO_some, er_bind, assoc', noEr_pure, join_ss, asB_bl, asI_int, List.getElem?_cons_zero, List.getElem?_cons_succ, List.set_cons_zero, List.set_cons_succ, List.map_cons, List.map_nil, List.length_cons, List.length_nil, List.cons_append, List.nil_append, List.replicate, isi_NoneType_int, isi_bool_int, isi_int_int, isi_str_int, isi_list_int, isi_tuple_int, isi_dict_int, isi_NoneType_bool, isi_bool_bool, isi_int_bool, isi_str_bool, isi_list_bool, isi_tuple_bool, isi_dict_bool, isi_NoneType_str, isi_bool_str, isi_int_str, isi_str_str, isi_list_str, isi_tuple_str, isi_dict_str, isi_NoneType_list, isi_bool_list, isi_int_list, isi_str_list, isi_list_list, isi_tuple_list, isi_dict_list, isi_NoneType_tuple, isi_bool_tuple, isi_int_tuple, isi_str_tuple, isi_list_tuple, isi_tuple_tuple, isi_dict_tuple, isi_NoneType_two, isi_bool_two, isi_int_two, isi_str_two, isi_list_two, isi_tuple_two, isi_dict_two]
    exact Tr.pure (hP ds _ hd.held (by omega) (hs.up (by omega)))
theorem holds_clean : ∀ {ds : List D}, (∀ d ∈ ds, holdB d = true) → cleanA ds = true
  | [], _ => by simp [cleanA]
  | d :: r, h => by
    obtain ⟨n, x, rfl, _⟩ := hold_shape (h d List.mem_cons_self)
    simp [cleanA, D.clean, holds_clean fun e he => h e (List.mem_cons_of_mem _ he)]
theorem own_ok {i j : Nat} {m : ME} {mr : MS} {env : Envd} {s s1 s2 : GS} {k : Int} {ds : List D} (h0 : s.own = none) (h1 : m env s = some (.ok (.int k), s1)) (h1' : s1.own = none) (h2 : mr ((env.set i (some .own)).set j (some (.int k))) { s1 with own := some [] } = some (.ok (.rt .own), s2)) (h3 : s2.own = some ds) (hc : cleanA ds = true) : mOwn i j m mr env s = some (.ok (.rt (.lst ds)), { s2 with own := none }) := by
  unfold mOwn
  simp only [h0, h1, h1', asI_int, h2, h3]
  rw [if_pos hc]
theorem ev_drawn {n : Int} {s : GS} (hs : GI n none s) (hn : 0 ≤ n ∧ n ≤ 100000) : Tr (f_law_drawn [.gen]) s fun d s' => ∃ ds, d = .lst ds ∧ isHeld d = true ∧ ds.length ≤ 7 ∧ GI (n + 30) none s' := by
  have key : Tr ((mSeq (mFor (mItA rngD (mCons (mCall 2 f_law_random (mCons (mVar 0) (mCons (mC (.int 7)) mNil))) mNil)) (tgN 1) dBody) dTail) [some .gen, none, some .own, some (.int (-1))]) { s with own := some [] } fun fl s' => ∃ ds', fl = .rt .own ∧ isHeld (.lst ds') = true ∧ ds'.length ≤ 7 ∧ GI (n + 30) (some ds') s' := by
    have hs' : GI n (some []) { s with own := some [] } := ⟨hs.1, rfl⟩
    generalize hQ : (fun (fl : Fl) (s' : GS) => ∃ ds', fl = .rt .own ∧ isHeld (.lst ds') = true ∧ ds'.length ≤ 7 ∧ GI (n + 30) (some ds') s') = Q
    have hQ' : ∀ ds' s', isHeld (.lst ds') = true → ds'.length ≤ 7 → GI (n + 30) (some ds') s' → Q (.rt .own) s' := by
      subst hQ
      exact fun ds' s' a b c => ⟨ds', rfl, a, b, c⟩
    simp [mFor, mItA, fnM, fnF, mSeq, mIf, mOr, mAnd, mNot, mB, mUn, mOp, mVar, mC, mRet, mSkip, mOrV, mAndV, mIfE, mCons, mNil, mTup, mLst, mBt, mCall, mCallR, mSet, mDrop, mRaise, noRt, mSl, mPt, mNoP, mPar, mAsg, mYes, mChain, pure_bind', ofO_some, er_bind, assoc', noEr_pure, join_ss, asB_bl, asI_int, List.getElem?_cons_zero, List.getElem?_cons_succ, List.set_cons_zero, List.set_cons_succ, List.map_cons, List.map_nil, List.length_cons, List.length_nil, List.cons_append, List.nil_append, List.replicate, isi_NoneType_int, isi_bool_int, isi_int_int, isi_str_int, isi_list_int, isi_tuple_int, isi_dict_int, isi_NoneType_bool, isi_bool_bool, isi_int_bool, isi_str_bool, isi_list_bool, isi_tuple_bool, isi_dict_bool, isi_NoneType_str, isi_bool_str, isi_int_str, isi_str_str, isi_list_str, isi_tuple_str, isi_dict_str, isi_NoneType_list, isi_bool_list, isi_int_list, isi_str_list, isi_list_list, isi_tuple_list, isi_dict_list, isi_NoneType_tuple, isi_bool_tuple, isi_int_tuple, isi_str_tuple, isi_list_tuple, isi_tuple_tuple, isi_dict_tuple, isi_NoneType_two, isi_bool_two, isi_int_two, isi_str_two, isi_list_two, isi_tuple_two, isi_dict_two]
    refine Tr.bind ((ev_random hs' (by omega) (by decide) (by decide)).mono ?_)
    rintro _ s1 ⟨r, rfl, q0, q1, G1⟩
    have e : rngD [.int r] = some ((List.range r.toNat).map fun i : Nat => D.int (i : Int)) := by
      simp only [rngD]
      rw [if_pos (by omega)]
    simp only [e, ofO_some, pure_bind']
    refine Tr.bind (d_loop _ (n + 1) (-1) [] s1 none _ G1 (by simp; omega) ⟨(fun d hd => by cases hd), List.Pairwise.nil⟩ (by decide) (by simp; omega) fun num' ds' s' y1 h1 h2 h3 h4 => ?_)
    simp only [List.length_map, List.length_range, List.length_nil] at h3 h4
    exact dTail_ev h4 (by omega) h1 h2 (by omega) fun ds'' s'' g1 g2 g3 => hQ' ds'' s'' g1 (by omega) (g3.up (by omega))
  obtain ⟨_, s', e, ds', rfl, h1, h2, h3⟩ := key
  have hc := holds_clean (held_all h1)
  have e2 : m_law_drawn [some .gen, none, none, none] s = some (.ok (.rt (.lst ds')), { s' with own := none }) := by
    rw [m_d_eq]
    exact own_ok hs.2 (s1 := s) (k := -1) rfl hs.2 e h3.2 hc
  exact Tr.noEr (Tr.bind ⟨.rt (.lst ds'), { s' with own := none }, e2, Tr.pure ⟨ds', rfl, h1, h2, ⟨h3.1, rfl⟩⟩⟩)
end K84

set_option Elab.async false
set_option linter.all false
set_option maxRecDepth 100000
set_option maxHeartbeats 1000000
namespace K84
open PySem PySem.Spec PyProof.Rows L2 GxR GenW Ink
theorem okS_app {x y : Str} (hx : okS x = true) (hy : okS y = true) : okS (x ++ y) = true := by
  refine (okS_iff _).mpr fun c hc => ?_
  have e : (x ++ y).cps = x.cps ++ y.cps := rfl
  rw [e, Array.toList_append, List.mem_append] at hc
  rcases hc with q | q
  · exact (okS_iff x).mp hx c q
  · exact (okS_iff y).mp hy c q
theorem len_app (x y : Str) : (x ++ y).length = x.length + y.length := Str.length_append x y
/-- a table of signs -/
def Tb (kvs : List (Key × Str)) : Prop := ∀ q ∈ kvs, okS q.2 = true ∧ q.2.length < 2
theorem Tb.put {kvs : List (Key × Str)} {k : Key} {x : Str} (h : Tb kvs) (hx : okS x = true) (hl : x.length < 2) : Tb (putS kvs k x) := by
  unfold putS
  split
  · intro q hq
    obtain ⟨p, hp, rfl⟩ := List.mem_map.mp hq
    split
    · exact ⟨hx, hl⟩
    · exact h p hp
  · intro q hq
    rcases List.mem_append.mp hq with z | z
    · exact h q z
    · rw [List.mem_singleton.mp z]
      exact ⟨hx, hl⟩
theorem Tb.fold : ∀ {kvs acc : List (Key × Str)}, Tb acc → Tb kvs → Tb (kvs.foldl (fun acc kv => putS acc kv.1 kv.2) acc)
  | [], _, h, _ => h
  | q :: r, acc, h, h' => Tb.fold (kvs := r) (h.put (h' q List.mem_cons_self).1 (h' q List.mem_cons_self).2) fun p hp => h' p (List.mem_cons_of_mem _ hp)
theorem Tb.val {kvs : List (Key × Str)} {k : Key} (h : Tb kvs) : okS ((valS kvs k).getD "") = true ∧ ((valS kvs k).getD "").length < 2 := by
  unfold valS
  cases e : kvs.find? fun kv => decide (kv.1 = k) with
  | none => exact ⟨okS_emp, by decide⟩
  | some q => exact h q (List.mem_of_find?_eq_some e)
theorem prs_holds : ∀ {ds : List D}, (∀ d ∈ ds, holdB d = true) → ∃ kvs, prsD ds = some kvs ∧ Tb kvs
  | [], _ => ⟨[], rfl, fun q hq => by cases hq⟩
  | d :: r, h => by
    obtain ⟨n, x, rfl, _, _, hx, hl⟩ := hold_shape (h d List.mem_cons_self)
    obtain ⟨kvs, e, t⟩ := prs_holds fun a ha => h a (List.mem_cons_of_mem _ ha)
    refine ⟨(Sum.inl n, x) :: kvs, by simp [prsD, e], fun q hq => ?_⟩
    rcases List.mem_cons.mp hq with rfl | hq
    · exact ⟨hx, hl⟩
    · exact t q hq
theorem dict_holds {ds : List D} (h : ∀ d ∈ ds, holdB d = true) : ∃ kvs, dictD [.lst ds] = some (.dic kvs) ∧ Tb kvs := by
  obtain ⟨kvs, e, t⟩ := prs_holds h
  exact ⟨_, by simp only [dictD]; rw [e]; rfl, Tb.fold (fun q hq => by cases hq) t⟩
theorem ints_map (ns : List Int) : intsD (ns.map D.int) = some ns := by
  induction ns with
  | nil => rfl
  | cons n r ih => simp [intsD, ih]
theorem minI_some : ∀ (ns : List Int), ns ≠ [] → ∃ m, minI ns = some m
  | [], h => absurd rfl h
  | [n], _ => ⟨n, rfl⟩
  | n :: k :: r, _ => by
    obtain ⟨m, e⟩ := minI_some (k :: r) (by simp)
    exact ⟨_, by rw [minI, e]; rfl; simp⟩
theorem min_ev {ns : List Int} (h : ∀ n ∈ ns, 0 ≤ n ∧ n ≤ 60) : ∃ m, minD [.lst (ns.map D.int ++ [.int 60])] = some (.int m) ∧ 0 ≤ m ∧ m ≤ 60 := by
  have e : ns.map D.int ++ [.int 60] = (ns ++ [60]).map D.int := by simp
  obtain ⟨m, hm⟩ := minI_some (ns ++ [60]) (by simp)
  have := (minI_ok hm).1
  refine ⟨m, ?_, ?_⟩
  · rw [e]
    simp only [minD]
    rw [ints_map, Option.bind_some, hm]
    rfl
  · rcases List.mem_append.mp this with q | q
    · exact h m q
    · rw [List.mem_singleton.mp q]
      decide
def tBody : MS := (mSeq (mSet 6 (mGet (mVar 4) (mVar 3) (mC (.str "")))) (mSet 5 (mOp addD (mVar 5) (mIfE (mAnd (mB (mOp neD (mVar 6) (mC (.str "")))) (mB (mOp gtD (mCall 2 f_law_random (mCons (mVar 0) (mCons (mC (.int 30)) mNil))) (mC (.int 0))))) (mVar 6) (mCall 1 f_law_sign (mCons (mVar 0) mNil))))))
theorem m_t_eq : m_law_text = (mSeq (mPar 4 5 (mCons (mBt dictD (mCons (mVar 1) mNil)) (mCons (mC (.str "")) mNil))) (mSeq (mSet 2 (mOp ixD (mLst (mCons (mCall 2 f_law_random (mCons (mVar 0) (mCons (mC (.int 5)) mNil))) (mCons (mCall 2 f_law_random (mCons (mVar 0) (mCons (mC (.int 61)) mNil))) (mCons (mBt minD (mCons (mOp addD (mLc (mIt itsD (mVar 1)) (tgP 3 6) [3, 6] (mB (mOp eqD (mVar 6) (mC (.str "")))) (mVar 3)) (mLst (mCons (mC (.int 60)) mNil))) mNil)) mNil)))) (mCall 2 f_law_random (mCons (mVar 0) (mCons (mC (.int 3)) mNil))))) (mSeq (mFor (mItA rngD (mCons (mVar 2) mNil)) (tgN 3) tBody) (mRet (mVar 5))))) := rfl
theorem tBody_ev {n i : Int} {o : Option (List D)} {s : GS} {h x2 x6 : Option D} {kvs : List (Key × Str)} {x : Str} {P : Fl → GS → Prop} (hs : GI n o s) (hn : n ≤ 1000000) (T : Tb kvs) (hx : okS x = true) (hl : x.length ≤ 1000)
    (hP : ∀ y s' y6, okS y = true → y.length ≤ x.length + 1 → GI (n + 3) o s' → P (.nx [some .gen, h, x2, some (.int i), some (.dic kvs), some (.str y), y6]) s') : Tr (tBody [some .gen, h, x2, some (.int i), some (.dic kvs), some (.str x), x6]) s P := by
  obtain ⟨v1, v2⟩ := T.val (k := Sum.inl i)
  have a5 : x.length + ((valS kvs (Sum.inl i)).getD "").length ≤ 100000 := by omega
  have a6 : x.length + 1 ≤ 100000 := by omega
  simp [tBody, mGet, D.asK, D.asS, fnM, fnF, mSeq, mIf, mOr, mAnd, mNot, mB, mUn, mOp, mVar, mC, mRet, mSkip, mOrV, mAndV, mIfE, mCons, mNil, mTup, mLst, mBt, mCall, mCallR, mSet, mDrop, mRaise, noRt, mSl, mPt, mNoP, mPar, mAsg, mYes, mChain, pure_bind', ofO_some, er_bind, assoc', noEr_pure, join_ss, asB_bl, asI_int, List.getElem?_cons_zero, List.getElem?_cons_succ, List.set_cons_zero, List.set_cons_succ, List.map_cons, List.map_nil, List.length_cons, List.length_nil, List.cons_append, List.nil_append, List.replicate, isi_NoneType_int, isi_bool_int, isi_int_int, isi_str_int, isi_list_int, isi_tuple_int, isi_dict_int, isi_NoneType_bool, isi_bool_bool, isi_int_bool, isi_str_bool, isi_list_bool, isi_tuple_bool, isi_dict_bool, isi_NoneType_str, isi_bool_str, isi_int_str, isi_str_str, isi_list_str, isi_tuple_str, isi_dict_str, isi_NoneType_list, isi_bool_list, isi_int_list, isi_str_list, isi_list_list, isi_tuple_list, isi_dict_list, isi_NoneType_tuple, isi_bool_tuple, isi_int_tuple, isi_str_tuple, isi_list_tuple, isi_tuple_tuple, isi_dict_tuple, isi_NoneType_two, isi_bool_two, isi_int_two, isi_str_two, isi_list_two, isi_tuple_two, isi_dict_two]
  rw [ne_blank v1]
  simp only [ofO_some, pure_bind', asB_bl]
  cases hb : ((valS kvs (Sum.inl i)).getD "" == "") with
  | true =>
    simp [fnM, fnF, mSeq, mIf, mOr, mAnd, mNot, mB, mUn, mOp, mVar, mC, mRet, mSkip, mOrV, mAndV, mIfE, mCons, mNil, mTup, mLst, mBt, mCall, mCallR, mSet, mDrop, mRaise, noRt, mSl, mPt, mNoP, mPar, mAsg, mYes, mChain, pure_bind', ofO_some, er_bind, assoc', noEr_pure, join_ss, asB_bl, asI_int, List.getElem?_cons_zero, List.getElem?_cons_succ, List.set_cons_zero, List.set_cons_succ, List.map_cons, List.map_nil, List.length_cons, List.length_nil, List.cons_append, List.nil_append, List.replicate, isi_NoneType_int, isi_bool_int, isi_int_int, isi_str_int, isi_list_int, isi_tuple_int, isi_dict_int, isi_NoneType_bool, isi_bool_bool, isi_int_bool, isi_str_bool, isi_list_bool, isi_tuple_bool, isi_dict_bool, isi_NoneType_str, isi_bool_str, isi_int_str, isi_str_str, isi_list_str, isi_tuple_str, isi_dict_str, isi_NoneType_list, isi_bool_list, isi_int_list, isi_str_list, isi_list_list, isi_tuple_list, isi_dict_list, isi_NoneType_tuple, isi_bool_tuple, isi_int_tuple, isi_str_tuple, isi_list_tuple, isi_tuple_tuple, isi_dict_tuple, isi_NoneType_two, isi_bool_two, isi_int_two, isi_str_two, isi_list_two, isi_tuple_two, isi_dict_two]
    refine Tr.bind ((ev_sign hs (by omega)).mono ?_)
    rintro _ s3 ⟨c, rfl, hc', G3⟩
    have ea : addD (.str x) (.str ⟨#[c]⟩) = some (.str (x ++ ⟨#[c]⟩)) := if_pos a6
    rw [ea, ofO_some]
    simp only [pure_bind']
    exact Tr.pure (hP _ _ _ (okS_app hx (by rw [okS_one, hc'])) (by rw [len_app, len_one]; omega) (G3.up (by omega)))
  | false =>
    simp [fnM, fnF, mSeq, mIf, mOr, mAnd, mNot, mB, mUn, mOp, mVar, mC, mRet, mSkip, mOrV, mAndV, mIfE, mCons, mNil, mTup, mLst, mBt, mCall, mCallR, mSet, mDrop, mRaise, noRt, mSl, mPt, mNoP, mPar, mAsg, mYes, mChain, pure_bind', ofO_some, er_bind, assoc', noEr_pure, join_ss, asB_bl, asI_int, List.getElem?_cons_zero, List.getElem?_cons_succ, List.set_cons_zero, List.set_cons_succ, List.map_cons, List.map_nil, List.length_cons, List.length_nil, List.cons_append, List.nil_append, List.replicate, isi_NoneType_int, isi_bool_int, isi_int_int, isi_str_int, isi_list_int, isi_tuple_int, isi_dict_int, isi_NoneType_bool, isi_bool_bool, isi_int_bool, isi_str_bool, isi_list_bool, isi_tuple_bool, isi_dict_bool, isi_NoneType_str, isi_bool_str, isi_int_str, isi_str_str, isi_list_str, isi_tuple_str, isi_dict_str, isi_NoneType_list, isi_bool_list, isi_int_list, isi_str_list, isi_list_list, isi_tuple_list, isi_dict_list, isi_NoneType_tuple, isi_bool_tuple, isi_int_tuple, isi_str_tuple, isi_list_tuple, isi_tuple_tuple, isi_dict_tuple, isi_NoneType_two, isi_bool_two, isi_int_two, isi_str_two, isi_list_two, isi_tuple_two, isi_dict_two]
    refine Tr.bind ((ev_random hs (by omega) (by decide) (by decide)).mono ?_)
    rintro _ s1 ⟨r, rfl, q0, q1, G1⟩
    by_cases hr : 0 < r
    · simp [gtD, addD, hr, a5, fnM, fnF, mSeq, mIf, mOr, mAnd, mNot, mB, mUn, mOp, mVar, mC, mRet, mSkip, mOrV, mAndV, mIfE, mCons, mNil, mTup, mLst, mBt, mCall, mCallR, mSet, mDrop, mRaise, noRt, mSl, mPt, mNoP, mPar, mAsg, mYes, mChain, pure_bind', ofO_some, er_bind, assoc', noEr_pure, join_ss, asB_bl, asI_int, List.getElem?_cons_zero, List.getElem?_cons_succ, List.set_cons_zero, List.set_cons_succ, List.map_cons, List.map_nil, List.length_cons, List.length_nil, List.cons_append, List.nil_append, List.replicate, isi_NoneType_int, isi_bool_int, isi_int_int, isi_str_int, isi_list_int, isi_tuple_int, isi_dict_int, isi_NoneType_bool, isi_bool_bool, isi_int_bool, isi_str_bool, isi_list_bool, isi_tuple_bool, isi_dict_bool, isi_NoneType_str, isi_bool_str, isi_int_str, isi_str_str, isi_list_str, isi_tuple_str, isi_dict_str, isi_NoneType_list, isi_bool_list, isi_int_list, isi_str_list, isi_list_list, isi_tuple_list, isi_dict_list, isi_NoneType_tuple, isi_bool_tuple, isi_int_tuple, isi_str_tuple, isi_list_tuple, isi_tuple_tuple, isi_dict_tuple, isi_NoneType_two, isi_bool_two, isi_int_two, isi_str_two, isi_list_two, isi_tuple_two, isi_dict_two]
      exact Tr.pure (hP _ _ _ (okS_app hx v1) (by rw [len_app]; omega) (G1.up (by omega)))
    · simp [gtD, hr, fnM, fnF, mSeq, mIf, mOr, mAnd, mNot, mB, mUn, mOp, mVar, mC, mRet, mSkip, mOrV, mAndV, mIfE, mCons, mNil, mTup, mLst, mBt, mCall, mCallR, mSet, mDrop, mRaise, noRt, mSl, mPt, mNoP, mPar, mAsg, mYes, mChain, pure_bind', ofO_some, er_bind, assoc', noEr_pure, join_ss, asB_bl, asI_int, List.getElem?_cons_zero, List.getElem?_cons_succ, List.set_cons_zero, List.set_cons_succ, List.map_cons, List.map_nil, List.length_cons, List.length_nil, List.cons_append, List.nil_append, List.replicate, isi_NoneType_int, isi_bool_int, isi_int_int, isi_str_int, isi_list_int, isi_tuple_int, isi_dict_int, isi_NoneType_bool, isi_bool_bool, isi_int_bool, isi_str_bool, isi_list_bool, isi_tuple_bool, isi_dict_bool, isi_NoneType_str, isi_bool_str, isi_int_str, isi_str_str, isi_list_str, isi_tuple_str, isi_dict_str, isi_NoneType_list, isi_bool_list, isi_int_list, isi_str_list, isi_list_list, isi_tuple_list, isi_dict_list, isi_NoneType_tuple, isi_bool_tuple, isi_int_tuple, isi_str_tuple, isi_list_tuple, isi_tuple_tuple, isi_dict_tuple, isi_NoneType_two, isi_bool_two, isi_int_two, isi_str_two, isi_list_two, isi_tuple_two, isi_dict_two]
      refine Tr.bind ((ev_sign G1 (by omega)).mono ?_)
      rintro _ s3 ⟨c, rfl, hc', G3⟩
      have ea : addD (.str x) (.str ⟨#[c]⟩) = some (.str (x ++ ⟨#[c]⟩)) := if_pos a6
      rw [ea, ofO_some]
      simp only [pure_bind']
      exact Tr.pure (hP _ _ _ (okS_app hx (by rw [okS_one, hc'])) (by rw [len_app, len_one]; omega) (G3.up (by omega)))
theorem t_loop {h x2 : Option D} {kvs : List (Key × Str)} {o : Option (List D)} (T : Tb kvs) : ∀ (r : List Nat) (n : Int) (x : Str) (s : GS) (x3 x6 : Option D) (P : Fl → GS → Prop), GI n o s → n + 3 * r.length ≤ 1000000 → okS x = true → x.length + r.length ≤ 1000 →
    (∀ y s' y3 y6, okS y = true → y.length ≤ x.length + r.length → GI (n + 3 * r.length) o s' → P (.nx [some .gen, h, x2, y3, some (.dic kvs), some (.str y), y6]) s') → Tr (Ink.forM (tgN 3) tBody (r.map fun i : Nat => D.int (i : Int)) [some .gen, h, x2, x3, some (.dic kvs), some (.str x), x6]) s P
  | [], n, x, s, x3, x6, P, hs, hn, hx, hl, hP => Tr.pure (hP x s x3 x6 hx (by simp) (hs.up (by simp)))
  | d :: r, n, x, s, x3, x6, P, hs, hn, hx, hl, hP => by
    rw [List.length_cons] at hn hl hP
    rw [List.map_cons]
    unfold Ink.forM
    have e : tgN 3 (.int (d : Int)) [some .gen, h, x2, x3, some (.dic kvs), some (.str x), x6] = some [some .gen, h, x2, some (.int (d : Int)), some (.dic kvs), some (.str x), x6] := rfl
    rw [e, ofO_some, pure_bind']
    refine Tr.bind (tBody_ev hs (by omega) T hx (by omega) fun y s' y6 h1 h2 h3 => ?_)
    exact t_loop T r (n + 3) y s' (some (.int (d : Int))) y6 P h3 (by omega) h1 (by omega) fun z s'' y3 z6 g1 g2 g3 => hP z s'' y3 z6 g1 (by omega) (g3.up (by omega))
theorem ev_text {n : Int} {o : Option (List D)} {s : GS} {ds : List D} (hs : GI n o s) (hn : 0 ≤ n ∧ n ≤ 100000) (hd : ∀ d ∈ ds, holdB d = true) (hl : ds.length ≤ 900) : Tr (f_law_text [.gen, .lst ds]) s fun d s' => ∃ y, d = .str y ∧ okS y = true ∧ y.length ≤ 60 ∧ GI (n + 200) o s' := by
  generalize hQ : (fun (d : D) (s' : GS) => ∃ y, d = .str y ∧ okS y = true ∧ y.length ≤ 60 ∧ GI (n + 200) o s') = Q
  have hQ' : ∀ y s', okS y = true → y.length ≤ 60 → GI (n + 200) o s' → Q (.str y) s' := by
    subst hQ
    exact fun y s' a b c => ⟨y, rfl, a, b, c⟩
  obtain ⟨kvs, ek, T⟩ := dict_holds hd
  have h6 : ds.length ≤ 100000 := by omega
  have g := lc_pure (t := tgP 3 6) (env := [some .gen, some (.lst ds), none, none, some (.dic kvs), some (.str ""), none]) (tt := mB (mOp eqD (mVar 6) (mC (.str "")))) (te := mVar 3) (fun d => [some .gen, some (.lst ds), none, some (.int (numN d)), some (.dic kvs), some (.str ""), some (.str (txtN d))]) (fun d => txtN d == "") (fun d => .int (numN d)) (ds := ds) (fun d hm => by
    obtain ⟨m, y, rfl, _, _, hy, _⟩ := hold_shape (hd d hm)
    refine ⟨rfl, ?_, fun _ => rfl⟩
    simp [txtN_t, eq_blank hy, fnM, fnF, mSeq, mIf, mOr, mAnd, mNot, mB, mUn, mOp, mVar, mC, mRet, mSkip, mOrV, mAndV, mIfE, mCons, mNil, mTup, mLst, mBt, mCall, mCallR, mSet, mDrop, mRaise, noRt, mSl, mPt, mNoP, mPar, mAsg, mYes, mChain, pure_bind', ofO_some, er_bind, assoc', noEr_pure, join_ss, asB_bl, asI_int, List.getElem?_cons_zero, List.getElem?_cons_succ, List.set_cons_zero, List.set_cons_succ, List.map_cons, List.map_nil, List.length_cons, List.length_nil, List.cons_append, List.nil_append, List.replicate, isi_NoneType_int, isi_bool_int, isi_int_int, isi_str_int, isi_list_int, isi_tuple_int, isi_dict_int, isi_NoneType_bool, isi_bool_bool, isi_int_bool, isi_str_bool, isi_list_bool, isi_tuple_bool, isi_dict_bool, isi_NoneType_str, isi_bool_str, isi_int_str, isi_str_str, isi_list_str, isi_tuple_str, isi_dict_str, isi_NoneType_list, isi_bool_list, isi_int_list, isi_str_list, isi_list_list, isi_tuple_list, isi_dict_list, isi_NoneType_tuple, isi_bool_tuple, isi_int_tuple, isi_str_tuple, isi_list_tuple, isi_tuple_tuple, isi_dict_tuple, isi_NoneType_two, isi_bool_two, isi_int_two, isi_str_two, isi_list_two, isi_tuple_two, isi_dict_two])
  have e1 : ((ds.filter fun d => txtN d == "").map fun d => D.int (numN d)) = ((ds.filter fun d => txtN d == "").map numN).map D.int := by
    rw [List.map_map]
    rfl
  rw [e1] at g
  obtain ⟨m, em, m0, m1⟩ := min_ev (ns := (ds.filter fun d => txtN d == "").map numN) fun k hk => by
    obtain ⟨d, hd', rfl⟩ := List.mem_map.mp hk
    obtain ⟨k, y, rfl, h0, h1, _⟩ := hold_shape (hd d (List.mem_filter.mp hd').1)
    exact ⟨h0, h1⟩
  have h70 : ((ds.filter fun d => txtN d == "").map numN).length ≤ ds.length := by
    rw [List.length_map]
    exact List.length_filter_le _ _
  generalize (ds.filter fun d => txtN d == "").map numN = ns at g em h70
  unfold f_law_text
  rw [m_t_eq]
  have h7 : ns.length + 1 ≤ 100000 := by
    omega
  simp [mLc, mIt, mFor, mItA, itsD, wipeD, ek, g, addD, em, h6, h7, fnM, fnF, mSeq, mIf, mOr, mAnd, mNot, mB, mUn, mOp, mVar, mC, mRet, mSkip, mOrV, mAndV, mIfE, mCons, mNil, mTup, mLst, mBt, mCall, mCallR, mSet, mDrop, mRaise, noRt, mSl, mPt, mNoP, mPar, mAsg, mYes, mChain, pure_bind', ofO_some, er_bind, assoc', noEr_pure, join_ss, asB_bl, asI_int, List.getElem?_cons_zero, List.getElem?_cons_succ, List.set_cons_zero, List.set_cons_succ, List.map_cons, List.map_nil, List.length_cons, List.length_nil, List.cons_append, List.nil_append, List.replicate, isi_NoneType_int, isi_bool_int, isi_int_int, isi_str_int, isi_list_int, isi_tuple_int, isi_dict_int, isi_NoneType_bool, isi_bool_bool, isi_int_bool, isi_str_bool, isi_list_bool, isi_tuple_bool, isi_dict_bool, isi_NoneType_str, isi_bool_str, isi_int_str, isi_str_str, isi_list_str, isi_tuple_str, isi_dict_str, isi_NoneType_list, isi_bool_list, isi_int_list, isi_str_list, isi_list_list, isi_tuple_list, isi_dict_list, isi_NoneType_tuple, isi_bool_tuple, isi_int_tuple, isi_str_tuple, isi_list_tuple, isi_tuple_tuple, isi_dict_tuple, isi_NoneType_two, isi_bool_two, isi_int_two, isi_str_two, isi_list_two, isi_tuple_two, isi_dict_two]
  refine Tr.noEr (Tr.bind ((ev_random hs (by omega) (by decide) (by decide)).mono ?_))
  rintro _ s1 ⟨r1, rfl, a0, a1, G1⟩
  try simp only []
  refine Tr.bind ((ev_random G1 (by omega) (by decide) (by decide)).mono ?_)
  rintro _ s2 ⟨r2, rfl, b0, b1, G2⟩
  try simp only []
  refine Tr.bind ((ev_random G2 (by omega) (by decide) (by decide)).mono ?_)
  rintro _ s3 ⟨r3, rfl, c0, c1, G3⟩
  obtain ⟨b, hb, e⟩ := ix_lst (ds := [.int r1, .int r2, .int m]) c0 (show r3 < 3 from c1)
  have hb' : ∃ k : Int, b = .int k ∧ 0 ≤ k ∧ k ≤ 60 := by
    simp at hb
    rcases hb with rfl | rfl | rfl
    · exact ⟨_, rfl, a0, by omega⟩
    · exact ⟨_, rfl, b0, by omega⟩
    · exact ⟨_, rfl, m0, m1⟩
  obtain ⟨k, rfl, k1, k2⟩ := hb'
  have e3 : rngD [.int k] = some ((List.range k.toNat).map fun i : Nat => D.int (i : Int)) := by
    simp only [rngD]
    rw [if_pos (by omega)]
  rw [e, ofO_some]
  simp only [pure_bind', e3, ofO_some]
  refine Tr.bind (t_loop T (List.range k.toNat) _ "" s3 none none _ G3 (by simp; omega) okS_emp (by simp [len_emp]; omega) fun y s' y3 y6 h1 h2 h3 => ?_)
  simp only [List.length_range, len_emp] at h2 h3
  exact Tr.pure (hQ' y s' h1 (by omega) (h3.up (by omega)))
end K84

set_option Elab.async false
set_option linter.all false
set_option maxRecDepth 100000
set_option maxHeartbeats 1000000
namespace K84
open PySem PySem.Spec PyProof.Rows L2 GxR GenW Ink
theorem so_app {x y : Str} (hx : PyData.strOk x = true) (hy : PyData.strOk y = true) : PyData.strOk (x ++ y) = true := by
  refine (strOk_iff _).mpr fun c hc => ?_
  rw [Str.cps_append, Array.toList_append, List.mem_append] at hc
  rcases hc with q | q
  · exact (strOk_iff x).mp hx c q
  · exact (strOk_iff y).mp hy c q
theorem so_from : ∀ (ts : List Str) (k : Nat) (acc : Str), PyData.strOk acc = true → (∀ t ∈ ts, PyData.strOk t = true) → PyData.strOk (textFrom k acc ts) = true
  | [], _, _, h, _ => h
  | t :: r, k, acc, h, h' => so_from r (k + 1) _ (so_app (so_app h (by split <;> decide +kernel)) (h' t List.mem_cons_self)) fun a ha => h' a (List.mem_cons_of_mem _ ha)
theorem so_list {ts : List Str} (h : ∀ t ∈ ts, PyData.strOk t = true) : PyData.strOk (listText ts) = true := so_app (so_from ts 0 _ (by decide +kernel) h) (by decide +kernel)
theorem so_join : ∀ (ts : List Str), (∀ t ∈ ts, PyData.strOk t = true) → PyData.strOk (Str.join ", " ts) = true
  | [], _ => by decide +kernel
  | [x], h => h x List.mem_cons_self
  | x :: y :: r, h => so_app (so_app (h x List.mem_cons_self) (by decide +kernel)) (so_join (y :: r) fun a ha => h a (List.mem_cons_of_mem _ ha))
theorem so_tup {ts : List Str} (h : ∀ t ∈ ts, PyData.strOk t = true) : PyData.strOk (tupleText ts) = true := so_app (so_app (by decide +kernel) (so_join ts h)) (by split <;> decide +kernel)
theorem rc_lt : ∀ c ∈ List.range 128, ∀ q ∈ [34, 39], ∀ k ∈ Builtin.Str.reprChar q c, k < 1114112 := by decide +kernel
def asc (x : Str) : Bool := x.cps.toList.all fun c => decide (c < 128)
theorem asc_iff (x : Str) : asc x = true ↔ ∀ c ∈ x.cps.toList, c < 128 := by
  unfold asc
  rw [List.all_eq_true]
  simp only [decide_eq_true_eq]
theorem q_of (x : Str) : reprQuote x ∈ [34, 39] := by
  unfold reprQuote
  split <;> simp
theorem so_repr {x : Str} (h : asc x = true) : PyData.strOk (reprText x) = true := by
  have hx := (asc_iff x).mp h
  have hq := q_of x
  have hq' : reprQuote x < 1114112 := by
    simp at hq
    omega
  refine (strOk_iff _).mpr fun c hc => ?_
  unfold reprText at hc
  rw [← Array.foldl_toList] at hc
  have key : ∀ (l : List Nat) (acc : Array Nat), (∀ c ∈ l, c < 128) → (∀ k ∈ acc.toList, k < 1114112) → ∀ k ∈ (l.foldl (fun out c => out ++ (Builtin.Str.reprChar (reprQuote x) c).toArray) acc).toList, k < 1114112 := by
    intro l
    induction l with
    | nil => exact fun acc _ h => h
    | cons a r ih =>
      intro acc h1 h2
      refine ih _ (fun c hc => h1 c (List.mem_cons_of_mem _ hc)) fun k hk => ?_
      rw [Array.toList_append, List.mem_append] at hk
      rcases hk with q | q
      · exact h2 k q
      · exact rc_lt a (List.mem_range.mpr (h1 a List.mem_cons_self)) _ hq k (by simpa using q)
  rw [Array.toList_push, List.mem_append] at hc
  rcases hc with q | q
  · exact key x.cps.toList #[reprQuote x] hx (fun k hk => by
      rw [show (#[reprQuote x] : Array Nat).toList = [reprQuote x] from rfl] at hk
      rw [List.mem_singleton.mp hk]
      exact hq') c q
  · rw [List.mem_singleton.mp q]
    exact hq'
theorem so_int (i : Int) : PyData.strOk (PyData.int i).shown = true := by
  refine (strOk_iff _).mpr fun c hc => ?_
  by_cases h : c < 1114112
  · exact h
  · exact absurd hc (shown_int_free' ⟨by omega, by omega⟩ i)
/-- data whose text is short -/
def gd : Nat → D → Bool
  | _, .non => true
  | _, .bl _ => true
  | _, .int i => decide ((PyData.shown (.int i)).length ≤ 26) && decide (i.natAbs.log2 < 1920)
  | _, .str x => asc x && decide (x.length ≤ 2)
  | n + 1, .lst ds => decide (ds.length ≤ 15) && ds.all (gd n)
  | n + 1, .tup ds => decide (ds.length ≤ 15) && ds.all (gd n)
  | _, _ => false
def fb : Nat → Nat
  | 0 => 26
  | n + 1 => 15 * fb n + 33
structure Gd (n : Nat) (d : D) : Prop where
  wf : d.wf = true
  lv : lev n d = true
  pl : d.pl = true
  sw : d.py.showable = true
  so : PyData.strOk d.py.shown = true
  ln : d.py.shown.length ≤ fb n
theorem fb_26 : ∀ n, 26 ≤ fb n
  | 0 => by decide
  | n + 1 => by
    have := fb_26 n
    show 26 ≤ 15 * fb n + 33
    omega
theorem asc_ok {x : Str} (h : asc x = true) : PyData.strOk x = true := (strOk_iff x).mpr fun c hc => by
  have := (asc_iff x).mp h c hc
  omega
theorem gd_all {n : Nat} (ih : ∀ d, gd n d = true → Gd n d) : ∀ {ds : List D}, ds.all (gd n) = true → wfA ds = true ∧ ds.all (lev n) = true ∧ plA ds = true ∧ PyData.showableAll (pyA ds) = true ∧ (∀ t ∈ PyData.shownAll (pyA ds), PyData.strOk t = true) ∧ ((PyData.shownAll (pyA ds)).map (·.length)).sum ≤ ds.length * fb n ∧ (PyData.shownAll (pyA ds)).length = ds.length
  | [], _ => by simp [wfA, plA, pyA, PyData.showableAll, PyData.shownAll]
  | d :: r, h => by
    rw [List.all_cons, Bool.and_eq_true] at h
    have g := ih d h.1
    obtain ⟨b1, b2, b3, b4, b5, b6, b7⟩ := gd_all ih h.2
    refine ⟨by simp [wfA, g.wf, b1], by rw [List.all_cons, g.lv, b2]; rfl, by simp [plA, g.pl, b3], by simp [pyA, PyData.showableAll, g.sw, b4], ?_, ?_, by simp [pyA, PyData.shownAll, b7]⟩
    · intro t ht
      simp only [pyA, PyData.shownAll] at ht
      rcases List.mem_cons.mp ht with rfl | ht
      · exact g.so
      · exact b5 t ht
    · simp only [pyA, PyData.shownAll, List.map_cons, List.sum_cons, List.length_cons]
      have := g.ln
      rw [Nat.add_mul]
      omega
theorem gd_ok : ∀ (n : Nat) (d : D), gd n d = true → Gd n d
  | n, .non, _ => ⟨rfl, by cases n <;> rfl, rfl, rfl, by decide +kernel, by have := fb_26 n; have e : (D.non.py.shown).length = 4 := rfl; omega⟩
  | n, .bl b, _ => ⟨rfl, by cases n <;> rfl, rfl, rfl, by cases b <;> decide +kernel, by have := fb_26 n; have e : ((D.bl b).py.shown).length ≤ 5 := (by cases b <;> decide); omega⟩
  | n, .int i, h => by
    have h' : (PyData.shown (.int i)).length ≤ 26 ∧ i.natAbs.log2 < 1920 := by simpa [gd] using h
    have := fb_26 n
    exact ⟨rfl, by cases n <;> rfl, rfl, by simpa [D.py, PyData.showable] using h'.2, so_int i, by have e : (D.int i).py.shown = (PyData.int i).shown := rfl; rw [e]; omega⟩
  | n, .str x, h => by
    have h' : asc x = true ∧ x.length ≤ 2 := by simpa [gd] using h
    have := fb_26 n
    have hx := (strOk_iff x).mp (asc_ok h'.1)
    have e := StrLaws.reprText_len x fun c hc => by have := hx c hc; omega
    exact ⟨by simp [D.wf, asc_ok h'.1]; omega, by simpa [lev] using asc_ok h'.1, rfl, rfl, so_repr h'.1, by have e2 : (D.str x).py.shown = reprText x := rfl; rw [e2]; omega⟩
  | n + 1, .lst ds, h => by
    have h' : ds.length ≤ 15 ∧ ds.all (gd n) = true := by simpa only [gd, Bool.and_eq_true, decide_eq_true_eq] using h
    obtain ⟨b1, b2, b3, b4, b5, b6, b7⟩ := gd_all (gd_ok n) h'.2
    have e := listText_len_le (PyData.shownAll (pyA ds))
    have m : ds.length * fb n ≤ 15 * fb n := Nat.mul_le_mul_right _ h'.1
    have e2 : (D.lst ds).py.shown = listText (PyData.shownAll (pyA ds)) := by simp [D.py, PyData.shown]
    refine ⟨by simp [D.wf, b1]; omega, by simpa only [lev] using b2, by simp [D.pl, b3], by simp [D.py, PyData.showable, b4], by rw [e2]; exact so_list b5, ?_⟩
    rw [e2]
    show _ ≤ 15 * fb n + 33
    omega
  | n + 1, .tup ds, h => by
    have h' : ds.length ≤ 15 ∧ ds.all (gd n) = true := by simpa only [gd, Bool.and_eq_true, decide_eq_true_eq] using h
    obtain ⟨b1, b2, b3, b4, b5, b6, b7⟩ := gd_all (gd_ok n) h'.2
    have e := tupleText_len_le (PyData.shownAll (pyA ds))
    have m : ds.length * fb n ≤ 15 * fb n := Nat.mul_le_mul_right _ h'.1
    have e2 : (D.tup ds).py.shown = tupleText (PyData.shownAll (pyA ds)) := by simp [D.py, PyData.shown]
    refine ⟨by simp [D.wf, b1]; omega, by simpa only [lev] using b2, by simp [D.pl, b3], by simp [D.py, PyData.showable, b4], by rw [e2]; exact so_tup b5, ?_⟩
    rw [e2]
    show _ ≤ 15 * fb n + 33
    omega
  | 0, .lst ds, h => by simp [gd] at h
  | 0, .tup ds, h => by simp [gd] at h
  | 0, .dic _, h => by simp [gd] at h
  | 0, .frl _, h => by simp [gd] at h
  | 0, .err _ _, h => by simp [gd] at h
  | 0, .gen, h => by simp [gd] at h
  | 0, .own, h => by simp [gd] at h
  | n + 1, .dic _, h => by simp [gd] at h
  | n + 1, .frl _, h => by simp [gd] at h
  | n + 1, .err _ _, h => by simp [gd] at h
  | n + 1, .gen, h => by simp [gd] at h
  | n + 1, .own, h => by simp [gd] at h
/-- data that shows itself -/
structure OkV (d : D) : Prop where
  wf : d.wf = true
  sh : d.sh = true
  so : PyData.strOk d.py.shown = true
theorem Gd.ok {n : Nat} {d : D} (hn : n ≤ 3) (h : Gd n d) : OkV d := by
  have h1 := (lev_ok n d h.lv).2.2
  have h2 : fb n ≤ 100000 := by
    match n, hn with
    | 0, _ => decide
    | 1, _ => decide
    | 2, _ => decide
    | 3, _ => decide
  have h3 := h.ln
  have h4 : d.py.depth ≤ 64 := by omega
  have h5 : d.py.shown.length ≤ 100000 := by omega
  refine ⟨h.wf, ?_, h.so⟩
  have h6 := h.pl
  unfold D.sh
  cases d <;> first | (simp [D.pl] at h6; done) | (simp [h.pl, h.sw, h4, h5]; done) | skip
  all_goals simp_all [D.sh]
theorem OkV.repr {d : D} (h : OkV d) : reprD [d] = some (.str d.py.shown) := by
  simp [reprD, h.sh]
end K84

set_option Elab.async false
set_option linter.all false
set_option maxRecDepth 100000
set_option maxHeartbeats 1000000
namespace K84
open PySem PySem.Spec PyProof.Rows L2 GxR GenW Ink
theorem num_gd : ∀ k ∈ List.range 61, gd 0 (.int (k : Int)) = true := by decide +kernel
theorem okC_asc : ∀ c ∈ SG.cps.toList, c < 128 := by decide +kernel
theorem okS_asc {x : Str} (h : okS x = true) : asc x = true := (asc_iff x).mpr fun c hc => okC_asc c (of_decide_eq_true ((okS_iff x).mp h c hc))
theorem gd_int (n : Nat) (i : Int) : gd n (.int i) = gd 0 (.int i) := by cases n <;> rfl
theorem gd_str (n : Nat) (x : Str) : gd n (.str x) = gd 0 (.str x) := by cases n <;> rfl
theorem hold_gd {d : D} (h : holdB d = true) : gd 1 d = true := by
  obtain ⟨n, x, rfl, h0, h1, hx, hl⟩ := hold_shape h
  have e1 := num_gd n.toNat (List.mem_range.mpr (by omega))
  rw [Int.toNat_of_nonneg h0] at e1
  have e2 : gd 0 (.str x) = true := by
    have := okS_asc hx
    simp [gd, this]
    omega
  simp [gd] at e1 e2 ⊢
  exact ⟨e1, e2⟩
theorem ok_lst {L : List D} (hl : L.length ≤ 15) (h : ∀ d ∈ L, gd 1 d = true) : OkV (.lst L) := (gd_ok 2 (.lst L) (by
  simp only [gd, Bool.and_eq_true, decide_eq_true_eq]
  exact ⟨hl, List.all_eq_true.mpr h⟩)).ok (by decide)
theorem ok_tup {L : List D} (hl : L.length ≤ 15) (h : ∀ d ∈ L, gd 1 d = true) : OkV (.tup L) := (gd_ok 2 (.tup L) (by
  simp only [gd, Bool.and_eq_true, decide_eq_true_eq]
  exact ⟨hl, List.all_eq_true.mpr h⟩)).ok (by decide)
theorem ok_two {L : List D} (hl : L.length ≤ 15) (h : ∀ d ∈ L, gd 1 d = true) : OkV (.lst [.lst L]) := (gd_ok 3 (.lst [.lst L]) (by
  have : gd 2 (.lst L) = true := by
    simp only [gd, Bool.and_eq_true, decide_eq_true_eq]
    exact ⟨hl, List.all_eq_true.mpr h⟩
  simp only [gd, Bool.and_eq_true, decide_eq_true_eq] at this ⊢
  simp [gd, this] )).ok (by decide)
def ODD : List D := [.tup [.int 61, .str "a"], .tup [.int (-1), .str "a"], .tup [.bl true, .str "a"], .tup [.str "0", .str "a"], .tup [.int 0, .str "ab"], .tup [.int 0, .str "A"], .tup [.int 0, .non], .lst [.int 0, .str "a"], .tup [.int 0, .str "a", .int 0], .tup [.int 0], .non, .tup [.int 0, .str "-"], .tup [.non, .str "a"]]
theorem odd_gd : ∀ d ∈ ODD, gd 1 d = true := by
  rw [← List.all_eq_true]
  decide +kernel
theorem cut_mem {ds : List D} {lo hi : Option Int} : (∀ d ∈ cutD ds lo hi, d ∈ ds) ∧ (cutD ds lo hi).length ≤ ds.length := by
  unfold Ink.cutD
  refine ⟨fun d hd => List.mem_of_mem_drop (List.mem_of_mem_take hd), ?_⟩
  rw [List.length_take, List.length_drop]
  omega
theorem Tr_set {i : Nat} {m : ME} {r : MS} {env : Envd} {s : GS} {P : Fl → GS → Prop} (h : Tr (m env) s fun d s' => Tr (r (env.set i (some d))) s' P) : Tr (mSeq (mSet i m) r env) s P := by
  refine Tr.bind (Tr.bind (h.mono fun d s' q => Tr.pure q))
theorem add_l {i j : List D} (h : i.length + j.length ≤ 100000) : addD (.lst i) (.lst j) = some (.lst (i ++ j)) := by
  simp [addD, h]
structure Vs (vs : List D) : Prop where
  ok : ∀ v ∈ vs, OkV v ∧ ∀ es, v = .lst es → es.length ≤ 900
  ln : vs.length ≤ 20
  non : D.non ∈ vs
theorem dic_ok : OkV (.dic []) := ⟨rfl, by decide +kernel, by decide +kernel⟩
theorem gd_a : gd 1 (.tup [.int 5, .str ""]) = true := by decide +kernel
theorem gd_b : gd 1 (.tup [.int 60, .str "z"]) = true := by decide +kernel
theorem gd_c : gd 2 .non = true := by decide +kernel
theorem gd_d : gd 2 (.str "") = true := by decide +kernel
theorem gd_e : gd 2 (.int 7) = true := by decide +kernel
theorem gd_f : gd 2 (.lst [.tup [.int 0, .str ""], .tup [.int 1, .str ""]]) = true := by decide +kernel
theorem gd_g : gd 2 (.lst [.tup [.int 1, .str ""], .tup [.int 0, .str "a"]]) = true := by decide +kernel
theorem vs_ok {ds A B C : List D} {b : D} (dD : ∀ d ∈ ds, gd 1 d = true) (dA : ∀ d ∈ A, gd 1 d = true) (dB : ∀ d ∈ B, gd 1 d = true) (dC : ∀ d ∈ C, gd 1 d = true) (db : gd 1 b = true) (hl : ds.length ≤ 7) (A2 : A.length ≤ ds.length) (B2 : B.length ≤ ds.length) (C2 : C.length ≤ ds.length) : Vs [.lst (A ++ b :: B), .lst ds.reverse, .tup ds, .lst (ds ++ C), .lst (A ++ .tup [.int 5, .str ""] :: B), .non, .dic [], .str "", .int 7, .lst [.lst ds], .lst [.tup [.int 0, .str ""], .tup [.int 1, .str ""]], .lst [.tup [.int 1, .str ""], .tup [.int 0, .str "a"]], .lst (ds ++ [.tup [.int 60, .str "z"]]), .lst (B ++ A)] := by
  refine ⟨?_, by simp, by simp⟩
  have y1 : ∀ x, gd 1 x = true → OkV (.lst (A ++ x :: B)) ∧ ∀ es, D.lst (A ++ x :: B) = .lst es → es.length ≤ 900 := fun x hx => ⟨ok_lst (by simp; omega) fun d h => by
    rcases List.mem_append.mp h with q | q
    · exact dA d q
    · rcases List.mem_cons.mp q with rfl | q
      · exact hx
      · exact dB d q, fun es z => by cases z; simp; omega⟩
  have y2 : ∀ L M : List D, (∀ d ∈ L, gd 1 d = true) → (∀ d ∈ M, gd 1 d = true) → L.length + M.length ≤ 15 → OkV (.lst (L ++ M)) ∧ ∀ es, D.lst (L ++ M) = .lst es → es.length ≤ 900 := fun L M hL hM hl => ⟨ok_lst (by simp; omega) fun d h => by
    rcases List.mem_append.mp h with q | q
    · exact hL d q
    · exact hM d q, fun es z => by cases z; simp; omega⟩
  have y3 := dic_ok
  have y4 : ∀ d, gd 2 d = true → OkV d := fun d h => (gd_ok 2 d h).ok (by decide)
  intro v hv
  simp only [List.mem_cons, List.not_mem_nil, or_false] at hv
  rcases hv with rfl | rfl | rfl | rfl | rfl | rfl | rfl | rfl | rfl | rfl | rfl | rfl | rfl | rfl
  · exact y1 b db
  · exact ⟨ok_lst (by simp; omega) fun d h => dD d (List.mem_reverse.mp h), fun es z => by cases z; simp; omega⟩
  · exact ⟨ok_tup (by omega) dD, fun es z => by cases z⟩
  · exact y2 ds C dD dC (by omega)
  · exact y1 _ gd_a
  · exact ⟨y4 _ gd_c, fun es z => by cases z⟩
  · exact ⟨y3, fun es z => by cases z⟩
  · exact ⟨y4 _ gd_d, fun es z => by cases z⟩
  · exact ⟨y4 _ gd_e, fun es z => by cases z⟩
  · exact ⟨ok_two (by omega) dD, fun es z => by cases z; simp⟩
  · exact ⟨y4 _ gd_f, fun es z => by cases z; simp⟩
  · exact ⟨y4 _ gd_g, fun es z => by cases z; simp⟩
  · exact y2 ds [_] dD (fun d h => by rw [List.mem_singleton.mp h]; exact gd_b) (by simp; omega)
  · exact y2 B A dB dA (by omega)
def bAt : ME := (mCall 2 f_law_random (mCons (mVar 0) (mCons (mOp addD (mBt lenD (mCons (mVar 1) mNil)) (mC (.int 1))) mNil)))
def bOdd : ME := (mLst (mCons (mTup (mCons (mC (.int 61)) (mCons (mC (.str "a")) mNil))) (mCons (mTup (mCons (mOp subD (mC (.int 0)) (mC (.int 1))) (mCons (mC (.str "a")) mNil))) (mCons (mTup (mCons (mC (.bl true)) (mCons (mC (.str "a")) mNil))) (mCons (mTup (mCons (mC (.str "0")) (mCons (mC (.str "a")) mNil))) (mCons (mTup (mCons (mC (.int 0)) (mCons (mC (.str "ab")) mNil))) (mCons (mTup (mCons (mC (.int 0)) (mCons (mC (.str "A")) mNil))) (mCons (mTup (mCons (mC (.int 0)) (mCons (mC .non) mNil))) (mCons (mLst (mCons (mC (.int 0)) (mCons (mC (.str "a")) mNil))) (mCons (mTup (mCons (mC (.int 0)) (mCons (mC (.str "a")) (mCons (mC (.int 0)) mNil)))) (mCons (mTup (mCons (mC (.int 0)) mNil)) (mCons (mC .non) (mCons (mTup (mCons (mC (.int 0)) (mCons (mC (.str "-")) mNil))) (mCons (mTup (mCons (mC .non) (mCons (mC (.str "a")) mNil))) mNil))))))))))))))
def bFour : ME := (mLst (mCons (mOp addD (mOp addD (mSl (mVar 1) mNoP (mPt (mVar 2))) (mLst (mCons (mOp ixD (mVar 3) (mCall 2 f_law_random (mCons (mVar 0) (mCons (mC (.int 13)) mNil)))) mNil))) (mSl (mVar 1) (mPt (mVar 2)) mNoP)) (mCons (mUn revD (mVar 1)) (mCons (mBt tupleD (mCons (mVar 1) mNil)) (mCons (mOp addD (mVar 1) (mSl (mVar 1) (mPt (mUn negD (mC (.int 1)))) mNoP)) (mCons (mOp addD (mOp addD (mSl (mVar 1) mNoP (mPt (mVar 2))) (mLst (mCons (mTup (mCons (mC (.int 5)) (mCons (mC (.str "")) mNil))) mNil))) (mSl (mVar 1) (mPt (mVar 2)) mNoP)) mNil))))))
def bEnd : MS := (mRet (mOp addD (mVar 4) (mLst (mCons (mC .non) (mCons mDic0 (mCons (mC (.str "")) (mCons (mC (.int 7)) (mCons (mLst (mCons (mVar 1) mNil)) (mCons (mLst (mCons (mTup (mCons (mC (.int 0)) (mCons (mC (.str "")) mNil))) (mCons (mTup (mCons (mC (.int 1)) (mCons (mC (.str "")) mNil))) mNil))) (mCons (mLst (mCons (mTup (mCons (mC (.int 1)) (mCons (mC (.str "")) mNil))) (mCons (mTup (mCons (mC (.int 0)) (mCons (mC (.str "a")) mNil))) mNil))) (mCons (mOp addD (mVar 1) (mLst (mCons (mTup (mCons (mC (.int 60)) (mCons (mC (.str "z")) mNil))) mNil))) (mCons (mOp addD (mSl (mVar 1) (mPt (mVar 2)) mNoP) (mSl (mVar 1) mNoP (mPt (mVar 2)))) mNil))))))))))))
theorem m_b_eq : m_law_bent = mSeq (mSet 2 bAt) (mSeq (mSet 3 bOdd) (mSeq (mSet 4 bFour) bEnd)) := rfl
theorem bOdd_ev (env : Envd) : bOdd env = Mo.pure (.lst ODD) := rfl
theorem bAt_ev {ds : List D} : bAt [some .gen, some (.lst ds), none, none, none] = f_law_random [.gen, .int ((ds.length : Int) + 1)] := by
  have x0 : addD (.int (ds.length : Int)) (.int 1) = some (.int ((ds.length : Int) + 1)) := rfl
  simp [bAt, lenD, x0, fnM, fnF, mSeq, mIf, mOr, mAnd, mNot, mB, mUn, mOp, mVar, mC, mRet, mSkip, mOrV, mAndV, mIfE, mCons, mNil, mTup, mLst, mBt, mCall, mCallR, mSet, mDrop, mRaise, noRt, mSl, mPt, mNoP, mPar, mAsg, mYes, mChain, pure_bind', ofO_some, er_bind, assoc', noEr_pure, join_ss, asB_bl, asI_int, List.getElem?_cons_zero, List.getElem?_cons_succ, List.set_cons_zero, List.set_cons_succ, List.map_cons, List.map_nil, List.length_cons, List.length_nil, List.cons_append, List.nil_append, List.replicate, isi_NoneType_int, isi_bool_int, isi_int_int, isi_str_int, isi_list_int, isi_tuple_int, isi_dict_int, isi_NoneType_bool, isi_bool_bool, isi_int_bool, isi_str_bool, isi_list_bool, isi_tuple_bool, isi_dict_bool, isi_NoneType_str, isi_bool_str, isi_int_str, isi_str_str, isi_list_str, isi_tuple_str, isi_dict_str, isi_NoneType_list, isi_bool_list, isi_int_list, isi_str_list, isi_list_list, isi_tuple_list, isi_dict_list, isi_NoneType_tuple, isi_bool_tuple, isi_int_tuple, isi_str_tuple, isi_list_tuple, isi_tuple_tuple, isi_dict_tuple, isi_NoneType_two, isi_bool_two, isi_int_two, isi_str_two, isi_list_two, isi_tuple_two, isi_dict_two]
theorem bFour_ev {n : Int} {o : Option (List D)} {s : GS} {ds A B C : List D} {r : Int} {P : D → GS → Prop} (hs : GI n o s) (hn : n ≤ 1000000) (hl : ds.length ≤ 7) (A2 : A.length ≤ ds.length) (B2 : B.length ≤ ds.length) (C2 : C.length ≤ ds.length)
    (eA : slD (.lst ds) none (some r) = some (.lst A)) (eB : slD (.lst ds) (some r) none = some (.lst B)) (eC : slD (.lst ds) (some (-1)) none = some (.lst C))
    (hP : ∀ b s', b ∈ ODD → GI (n + 1) o s' → P (.lst [.lst (A ++ b :: B), .lst ds.reverse, .tup ds, .lst (ds ++ C), .lst (A ++ .tup [.int 5, .str ""] :: B)]) s') : Tr (bFour [some .gen, some (.lst ds), some (.int r), some (.lst ODD), none]) s P := by
  have x1 : ∀ x, addD (.lst A) (.lst [x]) = some (.lst (A ++ [x])) := fun x => add_l (by rw [List.length_singleton]; omega)
  have x2 : ∀ x, addD (.lst (A ++ [x])) (.lst B) = some (.lst (A ++ x :: B)) := fun x => by
    rw [add_l (by rw [List.length_append, List.length_singleton]; omega), List.append_assoc]
    rfl
  have x3 : addD (.lst ds) (.lst C) = some (.lst (ds ++ C)) := add_l (by omega)
  simp [bFour, negD, revD, tupleD, eA, eB, eC, x1, x2, x3, fnM, fnF, mSeq, mIf, mOr, mAnd, mNot, mB, mUn, mOp, mVar, mC, mRet, mSkip, mOrV, mAndV, mIfE, mCons, mNil, mTup, mLst, mBt, mCall, mCallR, mSet, mDrop, mRaise, noRt, mSl, mPt, mNoP, mPar, mAsg, mYes, mChain, pure_bind', ofO_some, er_bind, assoc', noEr_pure, join_ss, asB_bl, asI_int, List.getElem?_cons_zero, List.getElem?_cons_succ, List.set_cons_zero, List.set_cons_succ, List.map_cons, List.map_nil, List.length_cons, List.length_nil, List.cons_append, List.nil_append, List.replicate, isi_NoneType_int, isi_bool_int, isi_int_int, isi_str_int, isi_list_int, isi_tuple_int, isi_dict_int, isi_NoneType_bool, isi_bool_bool, isi_int_bool, isi_str_bool, isi_list_bool, isi_tuple_bool, isi_dict_bool, isi_NoneType_str, isi_bool_str, isi_int_str, isi_str_str, isi_list_str, isi_tuple_str, isi_dict_str, isi_NoneType_list, isi_bool_list, isi_int_list, isi_str_list, isi_list_list, isi_tuple_list, isi_dict_list, isi_NoneType_tuple, isi_bool_tuple, isi_int_tuple, isi_str_tuple, isi_list_tuple, isi_tuple_tuple, isi_dict_tuple, isi_NoneType_two, isi_bool_two, isi_int_two, isi_str_two, isi_list_two, isi_tuple_two, isi_dict_two]
  refine Tr.bind ((ev_random hs (by omega) (by decide) (by decide)).mono ?_)
  rintro _ s2 ⟨r2, rfl, b0, b1, G2⟩
  obtain ⟨b, hb, e⟩ := ix_lst (ds := ODD) b0 (show r2 < 13 from b1)
  rw [e]
  simp [x1, x2, fnM, fnF, mSeq, mIf, mOr, mAnd, mNot, mB, mUn, mOp, mVar, mC, mRet, mSkip, mOrV, mAndV, mIfE, mCons, mNil, mTup, mLst, mBt, mCall, mCallR, mSet, mDrop, mRaise, noRt, mSl, mPt, mNoP, mPar, mAsg, mYes, mChain, pure_bind', ofO_some, er_bind, assoc', noEr_pure, join_ss, asB_bl, asI_int, List.getElem?_cons_zero, List.getElem?_cons_succ, List.set_cons_zero, List.set_cons_succ, List.map_cons, List.map_nil, List.length_cons, List.length_nil, List.cons_append, List.nil_append, List.replicate, isi_NoneType_int, isi_bool_int, isi_int_int, isi_str_int, isi_list_int, isi_tuple_int, isi_dict_int, isi_NoneType_bool, isi_bool_bool, isi_int_bool, isi_str_bool, isi_list_bool, isi_tuple_bool, isi_dict_bool, isi_NoneType_str, isi_bool_str, isi_int_str, isi_str_str, isi_list_str, isi_tuple_str, isi_dict_str, isi_NoneType_list, isi_bool_list, isi_int_list, isi_str_list, isi_list_list, isi_tuple_list, isi_dict_list, isi_NoneType_tuple, isi_bool_tuple, isi_int_tuple, isi_str_tuple, isi_list_tuple, isi_tuple_tuple, isi_dict_tuple, isi_NoneType_two, isi_bool_two, isi_int_two, isi_str_two, isi_list_two, isi_tuple_two, isi_dict_two]
  exact Tr.pure (hP b s2 hb G2)
theorem bEnd_ev {s : GS} {ds A B : List D} {a b c d e : D} {r : Int} {x3 : Option D} {P : Fl → GS → Prop} (hl : ds.length ≤ 7) (A2 : A.length ≤ ds.length) (B2 : B.length ≤ ds.length)
    (eA : slD (.lst ds) none (some r) = some (.lst A)) (eB : slD (.lst ds) (some r) none = some (.lst B))
    (hP : P (.rt (.lst [a, b, c, d, e, .non, .dic [], .str "", .int 7, .lst [.lst ds], .lst [.tup [.int 0, .str ""], .tup [.int 1, .str ""]], .lst [.tup [.int 1, .str ""], .tup [.int 0, .str "a"]], .lst (ds ++ [.tup [.int 60, .str "z"]]), .lst (B ++ A)])) s) : Tr (bEnd [some .gen, some (.lst ds), some (.int r), x3, some (.lst [a, b, c, d, e])]) s P := by
  have x4 : ∀ x, addD (.lst ds) (.lst [x]) = some (.lst (ds ++ [x])) := fun x => add_l (by rw [List.length_singleton]; omega)
  have x5 : addD (.lst B) (.lst A) = some (.lst (B ++ A)) := add_l (by omega)
  have x6 : ∀ f g h i j k l m n, addD (.lst [a, b, c, d, e]) (.lst [f, g, h, i, j, k, l, m, n]) = some (.lst [a, b, c, d, e, f, g, h, i, j, k, l, m, n]) := fun f g h i j k l m n => add_l (by simp)
  simp [bEnd, mDic0, eA, eB, x4, x5, x6, fnM, fnF, mSeq, mIf, mOr, mAnd, mNot, mB, mUn, mOp, mVar, mC, mRet, mSkip, mOrV, mAndV, mIfE, mCons, mNil, mTup, mLst, mBt, mCall, mCallR, mSet, mDrop, mRaise, noRt, mSl, mPt, mNoP, mPar, mAsg, mYes, mChain, pure_bind', ofO_some, er_bind, assoc', noEr_pure, join_ss, asB_bl, asI_int, List.getElem?_cons_zero, List.getElem?_cons_succ, List.set_cons_zero, List.set_cons_succ, List.map_cons, List.map_nil, List.length_cons, List.length_nil, List.cons_append, List.nil_append, List.replicate, isi_NoneType_int, isi_bool_int, isi_int_int, isi_str_int, isi_list_int, isi_tuple_int, isi_dict_int, isi_NoneType_bool, isi_bool_bool, isi_int_bool, isi_str_bool, isi_list_bool, isi_tuple_bool, isi_dict_bool, isi_NoneType_str, isi_bool_str, isi_int_str, isi_str_str, isi_list_str, isi_tuple_str, isi_dict_str, isi_NoneType_list, isi_bool_list, isi_int_list, isi_str_list, isi_list_list, isi_tuple_list, isi_dict_list, isi_NoneType_tuple, isi_bool_tuple, isi_int_tuple, isi_str_tuple, isi_list_tuple, isi_tuple_tuple, isi_dict_tuple, isi_NoneType_two, isi_bool_two, isi_int_two, isi_str_two, isi_list_two, isi_tuple_two, isi_dict_two]
  exact Tr.pure hP
theorem ev_bent {n : Int} {o : Option (List D)} {s : GS} {ds : List D} {P : D → GS → Prop} (hs : GI n o s) (hn : 0 ≤ n ∧ n ≤ 100000) (hd : ∀ d ∈ ds, holdB d = true) (hl : ds.length ≤ 7) (hP : ∀ vs s', Vs vs → GI (n + 2) o s' → P (.lst vs) s') : Tr (f_law_bent [.gen, .lst ds]) s P := by
  unfold f_law_bent
  rw [m_b_eq]
  refine Tr.noEr (Tr.bind (Tr_set ?_))
  show Tr (bAt [some .gen, some (.lst ds), none, none, none]) s _
  rw [bAt_ev]
  refine (ev_random hs (by omega) (by omega) (by omega)).mono ?_
  rintro _ s1 ⟨r, rfl, a0, a1, G1⟩
  obtain ⟨A, A1, A2, eA⟩ : ∃ A, (∀ d ∈ A, d ∈ ds) ∧ A.length ≤ ds.length ∧ slD (.lst ds) none (some r) = some (.lst A) := ⟨_, cut_mem.1, cut_mem.2, rfl⟩
  obtain ⟨B, B1, B2, eB⟩ : ∃ A, (∀ d ∈ A, d ∈ ds) ∧ A.length ≤ ds.length ∧ slD (.lst ds) (some r) none = some (.lst A) := ⟨_, cut_mem.1, cut_mem.2, rfl⟩
  obtain ⟨C, C1, C2, eC⟩ : ∃ A, (∀ d ∈ A, d ∈ ds) ∧ A.length ≤ ds.length ∧ slD (.lst ds) (some (-1)) none = some (.lst A) := ⟨_, cut_mem.1, cut_mem.2, rfl⟩
  refine Tr_set ?_
  rw [bOdd_ev]
  refine Tr.pure (Tr_set ?_)
  refine bFour_ev (A := A) (B := B) (C := C) G1 (by omega) hl A2 B2 C2 eA eB eC fun b s2 hb G2 => ?_
  refine bEnd_ev (A := A) (B := B) hl A2 B2 eA eB ?_
  exact Tr.pure (hP _ _ (vs_ok (fun d h => hold_gd (hd d h)) (fun d h => hold_gd (hd d (A1 d h))) (fun d h => hold_gd (hd d (B1 d h))) (fun d h => hold_gd (hd d (C1 d h))) (odd_gd b hb) hl A2 B2 C2) (G2.up (by omega)))
end K84

set_option Elab.async false
set_option linter.all false
set_option maxRecDepth 100000
set_option maxHeartbeats 1000000
namespace K84
open PySem PySem.Spec PyProof.Rows L2 GxR GenW Ink
theorem pow_ok {i j : Int} (h : 0 ≤ j ∧ (Builtin.Int.intBits i : Int) * j ≤ 2 ^ 27) : powD (.int i) (.int j) = some (.int (i ^ j.toNat)) := by
  simp only [powD]
  rw [if_pos h]
theorem mod_ok {i j : Int} (h : j ≠ 0) : modD (.int i) (.int j) = some (.int (i.fmod j)) := by
  simp only [modD]
  rw [if_pos h]
theorem mul_ok {i j : Int} (h : (-(2 ^ 64) < i ∧ i < 2 ^ 64) ∨ (-(2 ^ 64) < j ∧ j < 2 ^ 64)) : mulD (.int i) (.int j) = some (.int (i * j)) := by
  simp only [mulD]
  rw [if_pos h]
theorem pw1 : powD (.int 10) (.int 18) = some (.int (10 ^ (18 : Int).toNat)) := pow_ok (by decide +kernel)
theorem pw2 : powD (.int 10) (.int 60) = some (.int (10 ^ (60 : Int).toNat)) := pow_ok (by decide +kernel)
theorem pw3 : powD (.int (10 ^ (60 : Int).toNat)) (.int 10) = some (.int ((10 ^ (60 : Int).toNat) ^ (10 : Int).toNat)) := pow_ok (by decide +kernel)
theorem pw4 (k : Int) : modD (.int k) (.int ((10 ^ (60 : Int).toNat) ^ (10 : Int).toNat)) = some (.int (k.fmod ((10 ^ (60 : Int).toNat) ^ (10 : Int).toNat))) := mod_ok (by decide +kernel)
theorem ev_cell {ns : List Int} {i : Int} (h0 : 0 ≤ i) : ∃ x, f_law_cell [.frl ns, .int i] = Mo.pure (.int x) := by
  obtain ⟨k, rfl⟩ := Int.eq_ofNat_of_zero_le h0
  by_cases h : k < ns.length
  · have e : ixD (.frl ns) (.int (k : Int)) = some (.int ns[k]) := by
      show (atI ns (k : Int)).map D.int = _
      rw [atI_nat (List.getElem?_eq_getElem h)]
      rfl
    exact ⟨ns[k], by simp [f_law_cell, m_law_cell, lenD, ltD, h, e, fnM, fnF, mSeq, mIf, mOr, mAnd, mNot, mB, mUn, mOp, mVar, mC, mRet, mSkip, mOrV, mAndV, mIfE, mCons, mNil, mTup, mLst, mBt, mCall, mCallR, mSet, mDrop, mRaise, noRt, mSl, mPt, mNoP, mPar, mAsg, mYes, mChain, pure_bind', ofO_some, er_bind, assoc', noEr_pure, join_ss, asB_bl, asI_int, List.getElem?_cons_zero, List.getElem?_cons_succ, List.set_cons_zero, List.set_cons_succ, List.map_cons, List.map_nil, List.length_cons, List.length_nil, List.cons_append, List.nil_append, List.replicate, isi_NoneType_int, isi_bool_int, isi_int_int, isi_str_int, isi_list_int, isi_tuple_int, isi_dict_int, isi_NoneType_bool, isi_bool_bool, isi_int_bool, isi_str_bool, isi_list_bool, isi_tuple_bool, isi_dict_bool, isi_NoneType_str, isi_bool_str, isi_int_str, isi_str_str, isi_list_str, isi_tuple_str, isi_dict_str, isi_NoneType_list, isi_bool_list, isi_int_list, isi_str_list, isi_list_list, isi_tuple_list, isi_dict_list, isi_NoneType_tuple, isi_bool_tuple, isi_int_tuple, isi_str_tuple, isi_list_tuple, isi_tuple_tuple, isi_dict_tuple, isi_NoneType_two, isi_bool_two, isi_int_two, isi_str_two, isi_list_two, isi_tuple_two, isi_dict_two]⟩
  · have e : ∀ l : List Int, sumD [.lst (l.map D.int)] = some (.int l.sum) := fun l => by
      show (intsD (l.map D.int)).map _ = _
      rw [ints_map]
      rfl
    exact ⟨_, by simp [f_law_cell, m_law_cell, lenD, ltD, h, slD, e, modD, fnM, fnF, mSeq, mIf, mOr, mAnd, mNot, mB, mUn, mOp, mVar, mC, mRet, mSkip, mOrV, mAndV, mIfE, mCons, mNil, mTup, mLst, mBt, mCall, mCallR, mSet, mDrop, mRaise, noRt, mSl, mPt, mNoP, mPar, mAsg, mYes, mChain, pure_bind', ofO_some, er_bind, assoc', noEr_pure, join_ss, asB_bl, asI_int, List.getElem?_cons_zero, List.getElem?_cons_succ, List.set_cons_zero, List.set_cons_succ, List.map_cons, List.map_nil, List.length_cons, List.length_nil, List.cons_append, List.nil_append, List.replicate, isi_NoneType_int, isi_bool_int, isi_int_int, isi_str_int, isi_list_int, isi_tuple_int, isi_dict_int, isi_NoneType_bool, isi_bool_bool, isi_int_bool, isi_str_bool, isi_list_bool, isi_tuple_bool, isi_dict_bool, isi_NoneType_str, isi_bool_str, isi_int_str, isi_str_str, isi_list_str, isi_tuple_str, isi_dict_str, isi_NoneType_list, isi_bool_list, isi_int_list, isi_str_list, isi_list_list, isi_tuple_list, isi_dict_list, isi_NoneType_tuple, isi_bool_tuple, isi_int_tuple, isi_str_tuple, isi_list_tuple, isi_tuple_tuple, isi_dict_tuple, isi_NoneType_two, isi_bool_two, isi_int_two, isi_str_two, isi_list_two, isi_tuple_two, isi_dict_two]; rfl⟩
theorem ev_generator {ns : List Int} {i : Int} (h0 : 0 ≤ i) (h2 : i ≤ 2) : ∃ x y, f_law_generator [.frl ns, .int i] = Mo.pure (.lst [.int x, .int y, .int (1000 * i)]) := by
  obtain ⟨c, e⟩ := ev_cell (ns := ns) h0
  have e1 : ∀ a b, max2D [.int a, .int b] = some (.int (if b > a then b else a)) := fun a b => rfl
  have e2 : ∀ a, Ink.intD [.int a] = some (.int a) := fun a => rfl
  have e3 : ∀ a b, subD (.int a) (.int b) = some (.int (a - b)) := fun a b => rfl
  have e4 : modD (.int c) (.int 2147483647) = some (.int (c.fmod 2147483647)) := mod_ok (by decide)
  have e5 : mulD (.int 1000) (.int i) = some (.int (1000 * i)) := mul_ok (.inl (by decide))
  exact ⟨_, _, by simp only [f_law_generator, m_law_generator, e, pw1, pw2, pw3, pw4, e1, e2, e3, e4, e5, fnM, fnF, mSeq, mIf, mOr, mAnd, mNot, mB, mUn, mOp, mVar, mC, mRet, mSkip, mOrV, mAndV, mIfE, mCons, mNil, mTup, mLst, mBt, mCall, mCallR, mSet, mDrop, mRaise, noRt, mSl, mPt, mNoP, mPar, mAsg, mYes, mChain, pure_bind', ofO_some, er_bind, assoc', noEr_pure, join_ss, asB_bl, asI_int, List.getElem?_cons_zero, List.getElem?_cons_succ, List.set_cons_zero, List.set_cons_succ, List.map_cons, List.map_nil, List.length_cons, List.length_nil, List.cons_append, List.nil_append, List.replicate, isi_NoneType_int, isi_bool_int, isi_int_int, isi_str_int, isi_list_int, isi_tuple_int, isi_dict_int, isi_NoneType_bool, isi_bool_bool, isi_int_bool, isi_str_bool, isi_list_bool, isi_tuple_bool, isi_dict_bool, isi_NoneType_str, isi_bool_str, isi_int_str, isi_str_str, isi_list_str, isi_tuple_str, isi_dict_str, isi_NoneType_list, isi_bool_list, isi_int_list, isi_str_list, isi_list_list, isi_tuple_list, isi_dict_list, isi_NoneType_tuple, isi_bool_tuple, isi_int_tuple, isi_str_tuple, isi_list_tuple, isi_tuple_tuple, isi_dict_tuple, isi_NoneType_two, isi_bool_two, isi_int_two, isi_str_two, isi_list_two, isi_tuple_two, isi_dict_two]; rfl⟩
end K84

set_option Elab.async false
set_option linter.all false
set_option maxRecDepth 100000
set_option maxHeartbeats 1000000
namespace K84
open PySem PySem.Spec PyProof.Rows L2 GxR GenW Ink
theorem try_er {i j : Nat} {m : ME} {env : Envd} {k : Nat} {d : D} (hi : i < env.length) (h : m env = Mo.er k d) : mTry i j m env = Mo.pure (.nx (((env.set i none).set j (some (.err k d))).set i none)) := by
  funext s
  unfold mTry
  rw [if_pos hi, h]
  rfl
/-- what is told of an error -/
def told (k : Nat) (d : D) : D := .lst [.bl (decide (k = 0)), .bl (decide (k = 1)), .bl (decide (k = 2)), .str d.py.shown]
theorem ev_caught {a b c e d : D} {k : Nat} (hk : k < 3) (hd : OkV d) (h : f_law_called [a, b, c, e] = Mo.er k d) : f_law_caught [a, b, c, e] = Mo.pure (told k d) := by
  have t : mTry 5 4 (mCall 4 f_law_called (mCons (mVar 0) (mCons (mVar 1) (mCons (mVar 2) (mCons (mVar 3) mNil))))) [some a, some b, some c, some e, some .non, none, none] = Mo.pure (.nx [some a, some b, some c, some e, some (.err k d), none, none]) := try_er (by simp) (by simp [h, fnM, fnF, mSeq, mIf, mOr, mAnd, mNot, mB, mUn, mOp, mVar, mC, mRet, mSkip, mOrV, mAndV, mIfE, mCons, mNil, mTup, mLst, mBt, mCall, mCallR, mSet, mDrop, mRaise, noRt, mSl, mPt, mNoP, mPar, mAsg, mYes, mChain, pure_bind', ofO_some, er_bind, assoc', noEr_pure, join_ss, asB_bl, asI_int, List.getElem?_cons_zero, List.getElem?_cons_succ, List.set_cons_zero, List.set_cons_succ, List.map_cons, List.map_nil, List.length_cons, List.length_nil, List.cons_append, List.nil_append, List.replicate, isi_NoneType_int, isi_bool_int, isi_int_int, isi_str_int, isi_list_int, isi_tuple_int, isi_dict_int, isi_NoneType_bool, isi_bool_bool, isi_int_bool, isi_str_bool, isi_list_bool, isi_tuple_bool, isi_dict_bool, isi_NoneType_str, isi_bool_str, isi_int_str, isi_str_str, isi_list_str, isi_tuple_str, isi_dict_str, isi_NoneType_list, isi_bool_list, isi_int_list, isi_str_list, isi_list_list, isi_tuple_list, isi_dict_list, isi_NoneType_tuple, isi_bool_tuple, isi_int_tuple, isi_str_tuple, isi_list_tuple, isi_tuple_tuple, isi_dict_tuple, isi_NoneType_two, isi_bool_two, isi_int_two, isi_str_two, isi_list_two, isi_tuple_two, isi_dict_two])
  have e1 : isD (.err k d) .non = some (.bl false) := rfl
  have e2 : ∀ x y z w, addD (.lst [x, y, z]) (.lst [w]) = some (.lst [x, y, z, w]) := fun x y z w => add_l (by simp)
  simp [f_law_caught, m_law_caught, t, mIsE, mVal, hk, hd.repr, e1, e2, told, fnM, fnF, mSeq, mIf, mOr, mAnd, mNot, mB, mUn, mOp, mVar, mC, mRet, mSkip, mOrV, mAndV, mIfE, mCons, mNil, mTup, mLst, mBt, mCall, mCallR, mSet, mDrop, mRaise, noRt, mSl, mPt, mNoP, mPar, mAsg, mYes, mChain, pure_bind', ofO_some, er_bind, assoc', noEr_pure, join_ss, asB_bl, asI_int, List.getElem?_cons_zero, List.getElem?_cons_succ, List.set_cons_zero, List.set_cons_succ, List.map_cons, List.map_nil, List.length_cons, List.length_nil, List.cons_append, List.nil_append, List.replicate, isi_NoneType_int, isi_bool_int, isi_int_int, isi_str_int, isi_list_int, isi_tuple_int, isi_dict_int, isi_NoneType_bool, isi_bool_bool, isi_int_bool, isi_str_bool, isi_list_bool, isi_tuple_bool, isi_dict_bool, isi_NoneType_str, isi_bool_str, isi_int_str, isi_str_str, isi_list_str, isi_tuple_str, isi_dict_str, isi_NoneType_list, isi_bool_list, isi_int_list, isi_str_list, isi_list_list, isi_tuple_list, isi_dict_list, isi_NoneType_tuple, isi_bool_tuple, isi_int_tuple, isi_str_tuple, isi_list_tuple, isi_tuple_tuple, isi_dict_tuple, isi_NoneType_two, isi_bool_two, isi_int_two, isi_str_two, isi_list_two, isi_tuple_two, isi_dict_two]
end K84

set_option Elab.async false
set_option linter.all false
set_option maxRecDepth 100000
set_option maxHeartbeats 1000000
namespace K84
open PySem PySem.Spec PyProof.Rows L2 GxR GenW Ink
theorem bind_pure (x : Mo D) : (x.bind fun d => Mo.pure d) = x := by
  funext s
  unfold Mo.bind
  cases x s with
  | none => rfl
  | some p =>
    obtain ⟨r, s1⟩ := p
    cases r <;> rfl
theorem called0 (b c e : D) : f_law_called [.int 0, b, c, e] = f_keeps [b, c] := by
  simp [f_law_called, m_law_called, eqD_int, bind_pure, fnM, fnF, mSeq, mIf, mOr, mAnd, mNot, mB, mUn, mOp, mVar, mC, mRet, mSkip, mOrV, mAndV, mIfE, mCons, mNil, mTup, mLst, mBt, mCall, mCallR, mSet, mDrop, mRaise, noRt, mSl, mPt, mNoP, mPar, mAsg, mYes, mChain, pure_bind', ofO_some, er_bind, assoc', noEr_pure, join_ss, asB_bl, asI_int, List.getElem?_cons_zero, List.getElem?_cons_succ, List.set_cons_zero, List.set_cons_succ, List.map_cons, List.map_nil, List.length_cons, List.length_nil, List.cons_append, List.nil_append, List.replicate, isi_NoneType_int, isi_bool_int, isi_int_int, isi_str_int, isi_list_int, isi_tuple_int, isi_dict_int, isi_NoneType_bool, isi_bool_bool, isi_int_bool, isi_str_bool, isi_list_bool, isi_tuple_bool, isi_dict_bool, isi_NoneType_str, isi_bool_str, isi_int_str, isi_str_str, isi_list_str, isi_tuple_str, isi_dict_str, isi_NoneType_list, isi_bool_list, isi_int_list, isi_str_list, isi_list_list, isi_tuple_list, isi_dict_list, isi_NoneType_tuple, isi_bool_tuple, isi_int_tuple, isi_str_tuple, isi_list_tuple, isi_tuple_tuple, isi_dict_tuple, isi_NoneType_two, isi_bool_two, isi_int_two, isi_str_two, isi_list_two, isi_tuple_two, isi_dict_two]
theorem called1 (b c e : D) : f_law_called [.int 1, b, c, e] = f_held_with [b, c, e] := by
  simp [f_law_called, m_law_called, eqD_int, bind_pure, fnM, fnF, mSeq, mIf, mOr, mAnd, mNot, mB, mUn, mOp, mVar, mC, mRet, mSkip, mOrV, mAndV, mIfE, mCons, mNil, mTup, mLst, mBt, mCall, mCallR, mSet, mDrop, mRaise, noRt, mSl, mPt, mNoP, mPar, mAsg, mYes, mChain, pure_bind', ofO_some, er_bind, assoc', noEr_pure, join_ss, asB_bl, asI_int, List.getElem?_cons_zero, List.getElem?_cons_succ, List.set_cons_zero, List.set_cons_succ, List.map_cons, List.map_nil, List.length_cons, List.length_nil, List.cons_append, List.nil_append, List.replicate, isi_NoneType_int, isi_bool_int, isi_int_int, isi_str_int, isi_list_int, isi_tuple_int, isi_dict_int, isi_NoneType_bool, isi_bool_bool, isi_int_bool, isi_str_bool, isi_list_bool, isi_tuple_bool, isi_dict_bool, isi_NoneType_str, isi_bool_str, isi_int_str, isi_str_str, isi_list_str, isi_tuple_str, isi_dict_str, isi_NoneType_list, isi_bool_list, isi_int_list, isi_str_list, isi_list_list, isi_tuple_list, isi_dict_list, isi_NoneType_tuple, isi_bool_tuple, isi_int_tuple, isi_str_tuple, isi_list_tuple, isi_tuple_tuple, isi_dict_tuple, isi_NoneType_two, isi_bool_two, isi_int_two, isi_str_two, isi_list_two, isi_tuple_two, isi_dict_two]
theorem called2 (b c e : D) : f_law_called [.int 2, b, c, e] = f_held_without [b, c] := by
  simp [f_law_called, m_law_called, eqD_int, bind_pure, fnM, fnF, mSeq, mIf, mOr, mAnd, mNot, mB, mUn, mOp, mVar, mC, mRet, mSkip, mOrV, mAndV, mIfE, mCons, mNil, mTup, mLst, mBt, mCall, mCallR, mSet, mDrop, mRaise, noRt, mSl, mPt, mNoP, mPar, mAsg, mYes, mChain, pure_bind', ofO_some, er_bind, assoc', noEr_pure, join_ss, asB_bl, asI_int, List.getElem?_cons_zero, List.getElem?_cons_succ, List.set_cons_zero, List.set_cons_succ, List.map_cons, List.map_nil, List.length_cons, List.length_nil, List.cons_append, List.nil_append, List.replicate, isi_NoneType_int, isi_bool_int, isi_int_int, isi_str_int, isi_list_int, isi_tuple_int, isi_dict_int, isi_NoneType_bool, isi_bool_bool, isi_int_bool, isi_str_bool, isi_list_bool, isi_tuple_bool, isi_dict_bool, isi_NoneType_str, isi_bool_str, isi_int_str, isi_str_str, isi_list_str, isi_tuple_str, isi_dict_str, isi_NoneType_list, isi_bool_list, isi_int_list, isi_str_list, isi_list_list, isi_tuple_list, isi_dict_list, isi_NoneType_tuple, isi_bool_tuple, isi_int_tuple, isi_str_tuple, isi_list_tuple, isi_tuple_tuple, isi_dict_tuple, isi_NoneType_two, isi_bool_two, isi_int_two, isi_str_two, isi_list_two, isi_tuple_two, isi_dict_two]
/-- the right refusals -/
theorem no_held0 {b c e : D} (hb : OkV b) (hc : c.wf = true) (h : isHeld b = false) : f_law_caught [.int 0, b, c, e] = Mo.pure (told 0 b) := ev_caught (by decide) hb (by rw [called0, ev_keeps hb.wf hc, h]; rfl)
theorem no_held1 {b c e : D} (hb : OkV b) (hc : c.wf = true) (he : e.wf = true) (h : isHeld b = false) (hl : ∀ ds, b = .lst ds → ds.length ≤ 900) : f_law_caught [.int 1, b, c, e] = Mo.pure (told 0 b) := ev_caught (by decide) hb (by rw [called1, ev_held_with hb.wf (wf_kn hc) he hl, h]; rfl)
theorem no_held2 {b c e : D} (hb : OkV b) (hc : c.wf = true) (h : isHeld b = false) : f_law_caught [.int 2, b, c, e] = Mo.pure (told 0 b) := ev_caught (by decide) hb (by rw [called2, ev_held_without hb.wf (wf_kn hc), h]; rfl)
theorem no_num1 {b c e : D} (hb : b.wf = true) (hc : OkV c) (he : e.wf = true) (h : isHeld b = true) (h2 : cnt c = false) (hl : ∀ ds, b = .lst ds → ds.length ≤ 900) : f_law_caught [.int 1, b, c, e] = Mo.pure (told 1 c) := ev_caught (by decide) hc (by rw [called1, ev_held_with hb (wf_kn hc.wf) he hl, h, h2]; rfl)
theorem no_num2 {b c e : D} (hb : b.wf = true) (hc : OkV c) (h : isHeld b = true) (h2 : cnt c = false) : f_law_caught [.int 2, b, c, e] = Mo.pure (told 1 c) := ev_caught (by decide) hc (by rw [called2, ev_held_without hb (wf_kn hc.wf), h, h2]; rfl)
theorem no_sign1 {b c e : D} (hb : b.wf = true) (hc : c.wf = true) (he : OkV e) (h : isHeld b = true) (h2 : cnt c = true) (h3 : (txtD e && shB e) = false) (hl : ∀ ds, b = .lst ds → ds.length ≤ 900) : f_law_caught [.int 1, b, c, e] = Mo.pure (told 2 e) := ev_caught (by decide) he (by rw [called1, ev_held_with hb (wf_kn hc) he.wf hl, h, h2, h3]; rfl)
theorem no_text0 {b c e : D} (hb : b.wf = true) (hc : OkV c) (h : isHeld b = true) (h2 : txtD c = false) : f_law_caught [.int 0, b, c, e] = Mo.pure (told 2 c) := ev_caught (by decide) hc (by rw [called0, ev_keeps hb hc.wf, h, h2]; rfl)
end K84

set_option Elab.async false
set_option linter.all false
set_option maxRecDepth 100000
set_option maxHeartbeats 1000000
namespace K84
open PySem PySem.Spec PyProof.Rows L2 GxR GenW Ink
def rS1 : MS := (mSet 3 (mLc (mIt itsD (mCall 2 f_law_bent (mCons (mVar 0) (mCons (mVar 1) mNil)))) (tgN 10) [10] (mNot (mB (mCall 1 f_law_is (mCons (mVar 10) mNil)))) (mVar 10)))
def rS2 : MS := (mPar 8 9 (mCons (mOp ixD (mVar 3) (mCall 2 f_law_random (mCons (mVar 0) (mCons (mBt lenD (mCons (mVar 3) mNil)) mNil)))) (mCons (mOp ixD (mLst (mCons (mC .non) (mCons (mOp subD (mC (.int 0)) (mC (.int 1))) (mCons (mC (.int 61)) (mCons (mC (.bl true)) (mCons (mC (.str "1")) (mCons (mLst (mCons (mC (.int 1)) mNil)) (mCons (mOp powD (mC (.int 10)) (mC (.int 39))) mNil)))))))) (mCall 2 f_law_random (mCons (mVar 0) (mCons (mC (.int 7)) mNil)))) mNil)))
def rS3 : MS := (mSet 4 (mOp ixD (mLst (mCons (mC .non) (mCons (mC (.str "ab")) (mCons (mC (.str "A")) (mCons (mC (.int 3)) (mCons (mLst (mCons (mC (.str "a")) mNil)) (mCons (mC (.str "-")) (mCons (mC (.bl true)) mNil)))))))) (mCall 2 f_law_random (mCons (mVar 0) (mCons (mC (.int 7)) mNil)))))
def rS4 : MS := (mSet 5 (mOp ixD (mLst (mCons (mC .non) (mCons (mC (.str "A")) (mCons (mC (.str "a\n")) (mCons (mC (.int 3)) (mCons (mLst (mCons (mC (.str "a")) mNil)) (mCons (mC (.str "a-b")) (mCons (mOp addD (mVar 2) (mC (.str "?"))) mNil)))))))) (mCall 2 f_law_random (mCons (mVar 0) (mCons (mC (.int 7)) mNil)))))
def rS5 : MS := (mSet 6 (mLst (mCons (mLst (mCons (mC (.bl true)) (mCons (mC (.bl false)) (mCons (mC (.bl false)) (mCons (mBt reprD (mCons (mVar 8) mNil)) mNil))))) (mCons (mLst (mCons (mC (.bl false)) (mCons (mC (.bl true)) (mCons (mC (.bl false)) (mCons (mBt reprD (mCons (mVar 9) mNil)) mNil))))) (mCons (mLst (mCons (mC (.bl false)) (mCons (mC (.bl false)) (mCons (mC (.bl true)) (mCons (mBt reprD (mCons (mVar 4) mNil)) mNil))))) (mCons (mLst (mCons (mC (.bl false)) (mCons (mC (.bl false)) (mCons (mC (.bl true)) (mCons (mBt reprD (mCons (mVar 5) mNil)) mNil))))) mNil))))))
def rS6 : MS := (mSet 7 (mLst (mCons (mCall 4 f_law_caught (mCons (mC (.int 0)) (mCons (mVar 8) (mCons (mVar 2) (mCons (mC .non) mNil))))) (mCons (mCall 4 f_law_caught (mCons (mC (.int 1)) (mCons (mVar 8) (mCons (mC (.int 0)) (mCons (mC (.str "a")) mNil))))) (mCons (mCall 4 f_law_caught (mCons (mC (.int 2)) (mCons (mVar 8) (mCons (mC (.int 0)) (mCons (mC .non) mNil))))) mNil)))))
def rS7 : MS := (mSet 7 (mOp addD (mVar 7) (mLst (mCons (mCall 4 f_law_caught (mCons (mC (.int 0)) (mCons (mVar 8) (mCons (mVar 5) (mCons (mC .non) mNil))))) (mCons (mCall 4 f_law_caught (mCons (mC (.int 1)) (mCons (mVar 8) (mCons (mVar 9) (mCons (mVar 4) mNil))))) (mCons (mCall 4 f_law_caught (mCons (mC (.int 2)) (mCons (mVar 8) (mCons (mVar 9) (mCons (mC .non) mNil))))) mNil))))))
def rS8 : MS := (mIf (mB (mOp neD (mVar 7) (mOp mulD (mLst (mCons (mOp ixD (mVar 6) (mC (.int 0))) mNil)) (mC (.int 6))))) (mRet (mC (.bl false))) mSkip)
def rS9 : MS := (mIf (mB (mOp neD (mLst (mCons (mCall 4 f_law_caught (mCons (mC (.int 1)) (mCons (mVar 1) (mCons (mVar 9) (mCons (mC (.str "a")) mNil))))) (mCons (mCall 4 f_law_caught (mCons (mC (.int 1)) (mCons (mVar 1) (mCons (mVar 9) (mCons (mVar 4) mNil))))) (mCons (mCall 4 f_law_caught (mCons (mC (.int 2)) (mCons (mVar 1) (mCons (mVar 9) (mCons (mC .non) mNil))))) mNil)))) (mOp mulD (mLst (mCons (mOp ixD (mVar 6) (mC (.int 1))) mNil)) (mC (.int 3))))) (mRet (mC (.bl false))) mSkip)
def rS10 : MS := (mRet (mOp eqD (mLst (mCons (mCall 4 f_law_caught (mCons (mC (.int 1)) (mCons (mVar 1) (mCons (mC (.int 3)) (mCons (mVar 4) mNil))))) (mCons (mCall 4 f_law_caught (mCons (mC (.int 0)) (mCons (mVar 1) (mCons (mVar 5) (mCons (mC .non) mNil))))) mNil))) (mSl (mVar 6) (mPt (mC (.int 2))) mNoP)))
theorem m_law_refused_eq : m_law_refused = (mSeq rS1 (mSeq rS2 (mSeq rS3 (mSeq rS4 (mSeq rS5 (mSeq rS6 (mSeq rS7 (mSeq rS8 (mSeq rS9 rS10))))))))) := rfl
abbrev T39 : Int := 10 ^ (39 : Int).toNat
def NUM : List D := [.non, .int (-1), .int 61, .bl true, .str "1", .lst [.int 1], .int T39]
def SGN : List D := [.non, .str "ab", .str "A", .int 3, .lst [.str "a"], .str "-", .bl true]
def LIN (x : Str) : List D := [.non, .str "A", .str "a\n", .int 3, .lst [.str "a"], .str "a-b", .str (x ++ "?")]
theorem pw5 : powD (.int 10) (.int 39) = some (.int T39) := pow_ok (by decide +kernel)
theorem ok_closed {d : D} (h : (d.wf && (d.sh && PyData.strOk d.py.shown)) = true) : OkV d := by
  rw [Bool.and_eq_true, Bool.and_eq_true] at h
  exact ⟨h.1, h.2.1, h.2.2⟩
theorem num_all : (NUM.all fun d => d.wf && (d.sh && PyData.strOk d.py.shown) && !cnt d) = true := by decide +kernel
theorem sgn_all : (SGN.all fun d => d.wf && (d.sh && PyData.strOk d.py.shown) && !(txtD d && shB d)) = true := by decide +kernel
theorem lin_all : ([D.non, .str "A", .str "a\n", .int 3, .lst [.str "a"], .str "a-b"].all fun d => d.wf && (d.sh && PyData.strOk d.py.shown) && !(txtD d)) = true := by decide +kernel
theorem num_ok {d : D} (h : d ∈ NUM) : OkV d ∧ cnt d = false := by
  have := List.all_eq_true.mp num_all d h
  rw [Bool.and_eq_true] at this
  exact ⟨ok_closed this.1, by simpa using this.2⟩
theorem sgn_ok {d : D} (h : d ∈ SGN) : OkV d ∧ (txtD d && shB d) = false := by
  have := List.all_eq_true.mp sgn_all d h
  rw [Bool.and_eq_true, Bool.not_eq_true'] at this
  exact ⟨ok_closed this.1, this.2⟩
theorem str_ok {x : Str} (h : asc x = true) (hl : x.length ≤ 900) : OkV (.str x) := by
  have hx := (strOk_iff x).mp (asc_ok h)
  have e := StrLaws.reprText_len x fun c hc => by have := hx c hc; omega
  have e1 : (D.str x).py.shown = reprText x := rfl
  have e2 : (reprText x).length ≤ 100000 := by omega
  exact ⟨by simp [D.wf, asc_ok h]; omega, by simp [D.sh, D.pl, e1, e2]; simp [D.py, PyData.showable, PyData.depth], by rw [e1]; exact so_repr h⟩
theorem asc_app {x y : Str} (hx : asc x = true) (hy : asc y = true) : asc (x ++ y) = true := by
  refine (asc_iff _).mpr fun c hc => ?_
  rw [Str.cps_append, Array.toList_append, List.mem_append] at hc
  rcases hc with q | q
  · exact (asc_iff x).mp hx c q
  · exact (asc_iff y).mp hy c q
theorem lin_ok {x : Str} (hx : okS x = true) (hl : x.length ≤ 60) {d : D} (h : d ∈ LIN x) : OkV d ∧ txtD d = false := by
  have h' : d ∈ [D.non, .str "A", .str "a\n", .int 3, .lst [.str "a"], .str "a-b"] ∨ d = .str (x ++ "?") := by
    simp only [LIN, List.mem_cons, List.not_mem_nil, or_false] at h ⊢
    rcases h with q | q | q | q | q | q | q <;> simp [q]
  rcases h' with q | rfl
  · have := List.all_eq_true.mp lin_all d q
    rw [Bool.and_eq_true] at this
    exact ⟨ok_closed this.1, by simpa using this.2⟩
  · refine ⟨str_ok (asc_app (okS_asc hx) (by decide +kernel)) (by rw [len_app]; have : ("?" : Str).length = 1 := rfl; omega), ?_⟩
    show okS (x ++ "?") = false
    cases e : okS (x ++ "?") with
    | false => rfl
    | true =>
      have h63 : (63 : Nat) ∈ (x ++ ("?" : Str)).cps.toList := by
        rw [Str.cps_append, Array.toList_append]
        exact List.mem_append_right _ (by decide +kernel)
      exact absurd ((okS_iff _).mp e 63 h63) (by decide +kernel)
theorem told_lev {k : Nat} {d : D} (h : OkV d) : lev 1 (told k d) = true := by
  simp [told, lev, h.so]
end K84

set_option Elab.async false
set_option linter.all false
set_option maxRecDepth 100000
set_option maxHeartbeats 1000000
namespace K84
open PySem PySem.Spec PyProof.Rows L2 GxR GenW Ink
def wrongs (vs : List D) : List D := vs.filter fun v => !isHeld v
theorem rS1_ev {n : Int} {o : Option (List D)} {s : GS} {ds : List D} {x : Str} {P : Fl → GS → Prop} (hs : GI n o s) (hn : 0 ≤ n ∧ n ≤ 100000) (hd : ∀ d ∈ ds, holdB d = true) (hl : ds.length ≤ 7)
    (hP : ∀ vs s', Vs vs → GI (n + 2) o s' → P (.nx [some .gen, some (.lst ds), some (.str x), some (.lst (wrongs vs)), none, none, none, none, none, none, none]) s') : Tr (rS1 [some .gen, some (.lst ds), some (.str x), none, none, none, none, none, none, none, none]) s P := by
  simp [rS1, mLc, mIt, fnM, fnF, mSeq, mIf, mOr, mAnd, mNot, mB, mUn, mOp, mVar, mC, mRet, mSkip, mOrV, mAndV, mIfE, mCons, mNil, mTup, mLst, mBt, mCall, mCallR, mSet, mDrop, mRaise, noRt, mSl, mPt, mNoP, mPar, mAsg, mYes, mChain, pure_bind', ofO_some, er_bind, assoc', noEr_pure, join_ss, asB_bl, asI_int, List.getElem?_cons_zero, List.getElem?_cons_succ, List.set_cons_zero, List.set_cons_succ, List.map_cons, List.map_nil, List.length_cons, List.length_nil, List.cons_append, List.nil_append, List.replicate, isi_NoneType_int, isi_bool_int, isi_int_int, isi_str_int, isi_list_int, isi_tuple_int, isi_dict_int, isi_NoneType_bool, isi_bool_bool, isi_int_bool, isi_str_bool, isi_list_bool, isi_tuple_bool, isi_dict_bool, isi_NoneType_str, isi_bool_str, isi_int_str, isi_str_str, isi_list_str, isi_tuple_str, isi_dict_str, isi_NoneType_list, isi_bool_list, isi_int_list, isi_str_list, isi_list_list, isi_tuple_list, isi_dict_list, isi_NoneType_tuple, isi_bool_tuple, isi_int_tuple, isi_str_tuple, isi_list_tuple, isi_tuple_tuple, isi_dict_tuple, isi_NoneType_two, isi_bool_two, isi_int_two, isi_str_two, isi_list_two, isi_tuple_two, isi_dict_two]
  refine Tr.bind (ev_bent hs hn hd hl fun vs s' V G => ?_)
  have h6 : vs.length ≤ 100000 := by
    have := V.ln
    omega
  have g := lc_pure (t := tgN 10) (env := [some .gen, some (.lst ds), some (.str x), none, none, none, none, none, none, none, none]) (tt := mNot (mB (mCall 1 f_law_is (mCons (mVar 10) mNil)))) (te := mVar 10) (fun d => [some .gen, some (.lst ds), some (.str x), none, none, none, none, none, none, none, some d]) (fun d => !isHeld d) (fun d => d) (ds := vs) (fun d hm => by
    refine ⟨rfl, ?_, fun _ => rfl⟩
    simp [ev_law_is (V.ok d hm).1.wf, fnM, fnF, mSeq, mIf, mOr, mAnd, mNot, mB, mUn, mOp, mVar, mC, mRet, mSkip, mOrV, mAndV, mIfE, mCons, mNil, mTup, mLst, mBt, mCall, mCallR, mSet, mDrop, mRaise, noRt, mSl, mPt, mNoP, mPar, mAsg, mYes, mChain, pure_bind', ofO_some, er_bind, assoc', noEr_pure, join_ss, asB_bl, asI_int, List.getElem?_cons_zero, List.getElem?_cons_succ, List.set_cons_zero, List.set_cons_succ, List.map_cons, List.map_nil, List.length_cons, List.length_nil, List.cons_append, List.nil_append, List.replicate, isi_NoneType_int, isi_bool_int, isi_int_int, isi_str_int, isi_list_int, isi_tuple_int, isi_dict_int, isi_NoneType_bool, isi_bool_bool, isi_int_bool, isi_str_bool, isi_list_bool, isi_tuple_bool, isi_dict_bool, isi_NoneType_str, isi_bool_str, isi_int_str, isi_str_str, isi_list_str, isi_tuple_str, isi_dict_str, isi_NoneType_list, isi_bool_list, isi_int_list, isi_str_list, isi_list_list, isi_tuple_list, isi_dict_list, isi_NoneType_tuple, isi_bool_tuple, isi_int_tuple, isi_str_tuple, isi_list_tuple, isi_tuple_tuple, isi_dict_tuple, isi_NoneType_two, isi_bool_two, isi_int_two, isi_str_two, isi_list_two, isi_tuple_two, isi_dict_two])
  rw [filter_map_id] at g
  simp [itsD, wipeD, h6, g, fnM, fnF, mSeq, mIf, mOr, mAnd, mNot, mB, mUn, mOp, mVar, mC, mRet, mSkip, mOrV, mAndV, mIfE, mCons, mNil, mTup, mLst, mBt, mCall, mCallR, mSet, mDrop, mRaise, noRt, mSl, mPt, mNoP, mPar, mAsg, mYes, mChain, pure_bind', ofO_some, er_bind, assoc', noEr_pure, join_ss, asB_bl, asI_int, List.getElem?_cons_zero, List.getElem?_cons_succ, List.set_cons_zero, List.set_cons_succ, List.map_cons, List.map_nil, List.length_cons, List.length_nil, List.cons_append, List.nil_append, List.replicate, isi_NoneType_int, isi_bool_int, isi_int_int, isi_str_int, isi_list_int, isi_tuple_int, isi_dict_int, isi_NoneType_bool, isi_bool_bool, isi_int_bool, isi_str_bool, isi_list_bool, isi_tuple_bool, isi_dict_bool, isi_NoneType_str, isi_bool_str, isi_int_str, isi_str_str, isi_list_str, isi_tuple_str, isi_dict_str, isi_NoneType_list, isi_bool_list, isi_int_list, isi_str_list, isi_list_list, isi_tuple_list, isi_dict_list, isi_NoneType_tuple, isi_bool_tuple, isi_int_tuple, isi_str_tuple, isi_list_tuple, isi_tuple_tuple, isi_dict_tuple, isi_NoneType_two, isi_bool_two, isi_int_two, isi_str_two, isi_list_two, isi_tuple_two, isi_dict_two]
  exact Tr.pure (hP vs s' V G)
theorem wrong_ne {vs : List D} (V : Vs vs) : 1 ≤ (wrongs vs).length ∧ (wrongs vs).length ≤ 20 := by
  have h : D.non ∈ wrongs vs := List.mem_filter.mpr ⟨V.non, rfl⟩
  have h1 := List.length_pos_of_mem h
  have h2 := List.length_filter_le (fun v => !isHeld v) vs
  have h3 := V.ln
  unfold wrongs at *
  omega
theorem rS2_ev {n : Int} {o : Option (List D)} {s : GS} {ds vs : List D} {x : Str} {P : Fl → GS → Prop} (hs : GI n o s) (hn : n ≤ 1000000) (V : Vs vs)
    (hP : ∀ b k s', b ∈ wrongs vs → k ∈ NUM → GI (n + 2) o s' → P (.nx [some .gen, some (.lst ds), some (.str x), some (.lst (wrongs vs)), none, none, none, none, some b, some k, none]) s') : Tr (rS2 [some .gen, some (.lst ds), some (.str x), some (.lst (wrongs vs)), none, none, none, none, none, none, none]) s P := by
  have h1 := wrong_ne V
  simp [rS2, lenD, subD, pw5, fnM, fnF, mSeq, mIf, mOr, mAnd, mNot, mB, mUn, mOp, mVar, mC, mRet, mSkip, mOrV, mAndV, mIfE, mCons, mNil, mTup, mLst, mBt, mCall, mCallR, mSet, mDrop, mRaise, noRt, mSl, mPt, mNoP, mPar, mAsg, mYes, mChain, pure_bind', ofO_some, er_bind, assoc', noEr_pure, join_ss, asB_bl, asI_int, List.getElem?_cons_zero, List.getElem?_cons_succ, List.set_cons_zero, List.set_cons_succ, List.map_cons, List.map_nil, List.length_cons, List.length_nil, List.cons_append, List.nil_append, List.replicate, isi_NoneType_int, isi_bool_int, isi_int_int, isi_str_int, isi_list_int, isi_tuple_int, isi_dict_int, isi_NoneType_bool, isi_bool_bool, isi_int_bool, isi_str_bool, isi_list_bool, isi_tuple_bool, isi_dict_bool, isi_NoneType_str, isi_bool_str, isi_int_str, isi_str_str, isi_list_str, isi_tuple_str, isi_dict_str, isi_NoneType_list, isi_bool_list, isi_int_list, isi_str_list, isi_list_list, isi_tuple_list, isi_dict_list, isi_NoneType_tuple, isi_bool_tuple, isi_int_tuple, isi_str_tuple, isi_list_tuple, isi_tuple_tuple, isi_dict_tuple, isi_NoneType_two, isi_bool_two, isi_int_two, isi_str_two, isi_list_two, isi_tuple_two, isi_dict_two]
  refine Tr.bind ((ev_random hs (by omega) (by omega) (by omega)).mono ?_)
  rintro _ s1 ⟨r, rfl, a0, a1, G1⟩
  obtain ⟨b, hb, e⟩ := ix_lst (ds := wrongs vs) a0 a1
  simp only [e, ofO_some, pure_bind']
  refine Tr.bind ((ev_random G1 (by omega) (by decide) (by decide)).mono ?_)
  rintro _ s2 ⟨r2, rfl, b0, b1, G2⟩
  obtain ⟨k, hk, e2⟩ := ix_lst (ds := NUM) b0 (show r2 < 7 from b1)
  unfold NUM at e2
  simp only [e2, ofO_some, pure_bind']
  exact Tr.pure (hP b k s2 hb hk (G2.up (by omega)))
end K84

set_option Elab.async false
set_option linter.all false
set_option maxRecDepth 100000
set_option maxHeartbeats 1000000
namespace K84
open PySem PySem.Spec PyProof.Rows L2 GxR GenW Ink
theorem rS3_ev {n : Int} {o : Option (List D)} {s : GS} {h w b k : Option D} {x : Str} {P : Fl → GS → Prop} (hs : GI n o s) (hn : n ≤ 1000000)
    (hP : ∀ g s', g ∈ SGN → GI (n + 1) o s' → P (.nx [some .gen, h, some (.str x), w, some g, none, none, none, b, k, none]) s') : Tr (rS3 [some .gen, h, some (.str x), w, none, none, none, none, b, k, none]) s P := by
  simp [rS3, fnM, fnF, mSeq, mIf, mOr, mAnd, mNot, mB, mUn, mOp, mVar, mC, mRet, mSkip, mOrV, mAndV, mIfE, mCons, mNil, mTup, mLst, mBt, mCall, mCallR, mSet, mDrop, mRaise, noRt, mSl, mPt, mNoP, mPar, mAsg, mYes, mChain, pure_bind', ofO_some, er_bind, assoc', noEr_pure, join_ss, asB_bl, asI_int, List.getElem?_cons_zero, List.getElem?_cons_succ, List.set_cons_zero, List.set_cons_succ, List.map_cons, List.map_nil, List.length_cons, List.length_nil, List.cons_append, List.nil_append, List.replicate, isi_NoneType_int, isi_bool_int, isi_int_int, isi_str_int, isi_list_int, isi_tuple_int, isi_dict_int, isi_NoneType_bool, isi_bool_bool, isi_int_bool, isi_str_bool, isi_list_bool, isi_tuple_bool, isi_dict_bool, isi_NoneType_str, isi_bool_str, isi_int_str, isi_str_str, isi_list_str, isi_tuple_str, isi_dict_str, isi_NoneType_list, isi_bool_list, isi_int_list, isi_str_list, isi_list_list, isi_tuple_list, isi_dict_list, isi_NoneType_tuple, isi_bool_tuple, isi_int_tuple, isi_str_tuple, isi_list_tuple, isi_tuple_tuple, isi_dict_tuple, isi_NoneType_two, isi_bool_two, isi_int_two, isi_str_two, isi_list_two, isi_tuple_two, isi_dict_two]
  refine Tr.bind ((ev_random hs (by omega) (by decide) (by decide)).mono ?_)
  rintro _ s1 ⟨r, rfl, a0, a1, G1⟩
  obtain ⟨g, hg, e⟩ := ix_lst (ds := SGN) a0 (show r < 7 from a1)
  unfold SGN at e
  rw [e]
  exact Tr.pure (hP g s1 hg G1)
theorem rS4_ev {n : Int} {o : Option (List D)} {s : GS} {h w b k g : Option D} {x : Str} {P : Fl → GS → Prop} (hs : GI n o s) (hn : n ≤ 1000000) (hx : x.length ≤ 60)
    (hP : ∀ l s', l ∈ LIN x → GI (n + 1) o s' → P (.nx [some .gen, h, some (.str x), w, g, some l, none, none, b, k, none]) s') : Tr (rS4 [some .gen, h, some (.str x), w, g, none, none, none, b, k, none]) s P := by
  have ea : addD (.str x) (.str "?") = some (.str (x ++ "?")) := by
    have : ("?" : Str).length = 1 := rfl
    have h5 : x.length + ("?" : Str).length ≤ 100000 := by omega
    simp only [addD]
    rw [if_pos h5]
  simp [rS4, ea, fnM, fnF, mSeq, mIf, mOr, mAnd, mNot, mB, mUn, mOp, mVar, mC, mRet, mSkip, mOrV, mAndV, mIfE, mCons, mNil, mTup, mLst, mBt, mCall, mCallR, mSet, mDrop, mRaise, noRt, mSl, mPt, mNoP, mPar, mAsg, mYes, mChain, pure_bind', ofO_some, er_bind, assoc', noEr_pure, join_ss, asB_bl, asI_int, List.getElem?_cons_zero, List.getElem?_cons_succ, List.set_cons_zero, List.set_cons_succ, List.map_cons, List.map_nil, List.length_cons, List.length_nil, List.cons_append, List.nil_append, List.replicate, isi_NoneType_int, isi_bool_int, isi_int_int, isi_str_int, isi_list_int, isi_tuple_int, isi_dict_int, isi_NoneType_bool, isi_bool_bool, isi_int_bool, isi_str_bool, isi_list_bool, isi_tuple_bool, isi_dict_bool, isi_NoneType_str, isi_bool_str, isi_int_str, isi_str_str, isi_list_str, isi_tuple_str, isi_dict_str, isi_NoneType_list, isi_bool_list, isi_int_list, isi_str_list, isi_list_list, isi_tuple_list, isi_dict_list, isi_NoneType_tuple, isi_bool_tuple, isi_int_tuple, isi_str_tuple, isi_list_tuple, isi_tuple_tuple, isi_dict_tuple, isi_NoneType_two, isi_bool_two, isi_int_two, isi_str_two, isi_list_two, isi_tuple_two, isi_dict_two]
  refine Tr.bind ((ev_random hs (by omega) (by decide) (by decide)).mono ?_)
  rintro _ s1 ⟨r, rfl, a0, a1, G1⟩
  obtain ⟨l, hl, e⟩ := ix_lst (ds := LIN x) a0 (show r < 7 from a1)
  unfold LIN at e
  rw [e]
  exact Tr.pure (hP l s1 hl G1)
def dues (b k g l : D) : List D := [told 0 b, told 1 k, told 2 g, told 2 l]
theorem rS5_ev {h t w : Option D} {b k g l : D} (hb : OkV b) (hk : OkV k) (hg : OkV g) (hl : OkV l) : rS5 [some .gen, h, t, w, some g, some l, none, none, some b, some k, none] = Mo.pure (.nx [some .gen, h, t, w, some g, some l, some (.lst (dues b k g l)), none, some b, some k, none]) := by
  simp [rS5, hb.repr, hk.repr, hg.repr, hl.repr, dues, told, fnM, fnF, mSeq, mIf, mOr, mAnd, mNot, mB, mUn, mOp, mVar, mC, mRet, mSkip, mOrV, mAndV, mIfE, mCons, mNil, mTup, mLst, mBt, mCall, mCallR, mSet, mDrop, mRaise, noRt, mSl, mPt, mNoP, mPar, mAsg, mYes, mChain, pure_bind', ofO_some, er_bind, assoc', noEr_pure, join_ss, asB_bl, asI_int, List.getElem?_cons_zero, List.getElem?_cons_succ, List.set_cons_zero, List.set_cons_succ, List.map_cons, List.map_nil, List.length_cons, List.length_nil, List.cons_append, List.nil_append, List.replicate, isi_NoneType_int, isi_bool_int, isi_int_int, isi_str_int, isi_list_int, isi_tuple_int, isi_dict_int, isi_NoneType_bool, isi_bool_bool, isi_int_bool, isi_str_bool, isi_list_bool, isi_tuple_bool, isi_dict_bool, isi_NoneType_str, isi_bool_str, isi_int_str, isi_str_str, isi_list_str, isi_tuple_str, isi_dict_str, isi_NoneType_list, isi_bool_list, isi_int_list, isi_str_list, isi_list_list, isi_tuple_list, isi_dict_list, isi_NoneType_tuple, isi_bool_tuple, isi_int_tuple, isi_str_tuple, isi_list_tuple, isi_tuple_tuple, isi_dict_tuple, isi_NoneType_two, isi_bool_two, isi_int_two, isi_str_two, isi_list_two, isi_tuple_two, isi_dict_two]
end K84

set_option Elab.async false
set_option linter.all false
set_option maxRecDepth 100000
set_option maxHeartbeats 1000000
namespace K84
open PySem PySem.Spec PyProof.Rows L2 GxR GenW Ink
theorem wf_a : (D.str "a").wf = true := by decide +kernel
theorem mul6 (t : D) : mulD (.lst [t]) (.int 6) = some (.lst [t, t, t, t, t, t]) := by
  simp [mulD]
theorem mul3 (t : D) : mulD (.lst [t]) (.int 3) = some (.lst [t, t, t]) := by
  simp [mulD]
section
variable {h b k g l : D} {x : Str} {w : Option D}
theorem rS6_ev (hx : (D.str x).wf = true) (hb : OkV b) (nb : isHeld b = false) (lb : ∀ ds, b = .lst ds → ds.length ≤ 900) : rS6 [some .gen, some h, some (.str x), w, some g, some l, some (.lst (dues b k g l)), none, some b, some k, none] = Mo.pure (.nx [some .gen, some h, some (.str x), w, some g, some l, some (.lst (dues b k g l)), some (.lst [told 0 b, told 0 b, told 0 b]), some b, some k, none]) := by
  simp [rS6, no_held0 hb hx nb, no_held1 hb (c := .int 0) (e := .str "a") rfl wf_a nb lb, no_held2 hb (c := .int 0) rfl nb, fnM, fnF, mSeq, mIf, mOr, mAnd, mNot, mB, mUn, mOp, mVar, mC, mRet, mSkip, mOrV, mAndV, mIfE, mCons, mNil, mTup, mLst, mBt, mCall, mCallR, mSet, mDrop, mRaise, noRt, mSl, mPt, mNoP, mPar, mAsg, mYes, mChain, pure_bind', ofO_some, er_bind, assoc', noEr_pure, join_ss, asB_bl, asI_int, List.getElem?_cons_zero, List.getElem?_cons_succ, List.set_cons_zero, List.set_cons_succ, List.map_cons, List.map_nil, List.length_cons, List.length_nil, List.cons_append, List.nil_append, List.replicate, isi_NoneType_int, isi_bool_int, isi_int_int, isi_str_int, isi_list_int, isi_tuple_int, isi_dict_int, isi_NoneType_bool, isi_bool_bool, isi_int_bool, isi_str_bool, isi_list_bool, isi_tuple_bool, isi_dict_bool, isi_NoneType_str, isi_bool_str, isi_int_str, isi_str_str, isi_list_str, isi_tuple_str, isi_dict_str, isi_NoneType_list, isi_bool_list, isi_int_list, isi_str_list, isi_list_list, isi_tuple_list, isi_dict_list, isi_NoneType_tuple, isi_bool_tuple, isi_int_tuple, isi_str_tuple, isi_list_tuple, isi_tuple_tuple, isi_dict_tuple, isi_NoneType_two, isi_bool_two, isi_int_two, isi_str_two, isi_list_two, isi_tuple_two, isi_dict_two]
theorem rS7_ev (hb : OkV b) (hk : OkV k) (hg : OkV g) (hl : OkV l) (nb : isHeld b = false) (lb : ∀ ds, b = .lst ds → ds.length ≤ 900) : rS7 [some .gen, some h, some (.str x), w, some g, some l, some (.lst (dues b k g l)), some (.lst [told 0 b, told 0 b, told 0 b]), some b, some k, none] = Mo.pure (.nx [some .gen, some h, some (.str x), w, some g, some l, some (.lst (dues b k g l)), some (.lst [told 0 b, told 0 b, told 0 b, told 0 b, told 0 b, told 0 b]), some b, some k, none]) := by
  simp [rS7, addD, no_held0 hb hl.wf nb, no_held1 hb hk.wf hg.wf nb lb, no_held2 hb hk.wf nb, fnM, fnF, mSeq, mIf, mOr, mAnd, mNot, mB, mUn, mOp, mVar, mC, mRet, mSkip, mOrV, mAndV, mIfE, mCons, mNil, mTup, mLst, mBt, mCall, mCallR, mSet, mDrop, mRaise, noRt, mSl, mPt, mNoP, mPar, mAsg, mYes, mChain, pure_bind', ofO_some, er_bind, assoc', noEr_pure, join_ss, asB_bl, asI_int, List.getElem?_cons_zero, List.getElem?_cons_succ, List.set_cons_zero, List.set_cons_succ, List.map_cons, List.map_nil, List.length_cons, List.length_nil, List.cons_append, List.nil_append, List.replicate, isi_NoneType_int, isi_bool_int, isi_int_int, isi_str_int, isi_list_int, isi_tuple_int, isi_dict_int, isi_NoneType_bool, isi_bool_bool, isi_int_bool, isi_str_bool, isi_list_bool, isi_tuple_bool, isi_dict_bool, isi_NoneType_str, isi_bool_str, isi_int_str, isi_str_str, isi_list_str, isi_tuple_str, isi_dict_str, isi_NoneType_list, isi_bool_list, isi_int_list, isi_str_list, isi_list_list, isi_tuple_list, isi_dict_list, isi_NoneType_tuple, isi_bool_tuple, isi_int_tuple, isi_str_tuple, isi_list_tuple, isi_tuple_tuple, isi_dict_tuple, isi_NoneType_two, isi_bool_two, isi_int_two, isi_str_two, isi_list_two, isi_tuple_two, isi_dict_two]
theorem rS8_ev (hb : OkV b) : rS8 [some .gen, some h, some (.str x), w, some g, some l, some (.lst (dues b k g l)), some (.lst [told 0 b, told 0 b, told 0 b, told 0 b, told 0 b, told 0 b]), some b, some k, none] = Mo.pure (.nx [some .gen, some h, some (.str x), w, some g, some l, some (.lst (dues b k g l)), some (.lst [told 0 b, told 0 b, told 0 b, told 0 b, told 0 b, told 0 b]), some b, some k, none]) := by
  have e1 : ixD (.lst (dues b k g l)) (.int 0) = some (told 0 b) := rfl
  have e2 : neD (.lst [told 0 b, told 0 b, told 0 b, told 0 b, told 0 b, told 0 b]) (.lst [told 0 b, told 0 b, told 0 b, told 0 b, told 0 b, told 0 b]) = some (.bl false) := neD_self (n := 2) (by decide) (by simp [lev, told_lev hb])
  simp [rS8, e1, mul6, e2, fnM, fnF, mSeq, mIf, mOr, mAnd, mNot, mB, mUn, mOp, mVar, mC, mRet, mSkip, mOrV, mAndV, mIfE, mCons, mNil, mTup, mLst, mBt, mCall, mCallR, mSet, mDrop, mRaise, noRt, mSl, mPt, mNoP, mPar, mAsg, mYes, mChain, pure_bind', ofO_some, er_bind, assoc', noEr_pure, join_ss, asB_bl, asI_int, List.getElem?_cons_zero, List.getElem?_cons_succ, List.set_cons_zero, List.set_cons_succ, List.map_cons, List.map_nil, List.length_cons, List.length_nil, List.cons_append, List.nil_append, List.replicate, isi_NoneType_int, isi_bool_int, isi_int_int, isi_str_int, isi_list_int, isi_tuple_int, isi_dict_int, isi_NoneType_bool, isi_bool_bool, isi_int_bool, isi_str_bool, isi_list_bool, isi_tuple_bool, isi_dict_bool, isi_NoneType_str, isi_bool_str, isi_int_str, isi_str_str, isi_list_str, isi_tuple_str, isi_dict_str, isi_NoneType_list, isi_bool_list, isi_int_list, isi_str_list, isi_list_list, isi_tuple_list, isi_dict_list, isi_NoneType_tuple, isi_bool_tuple, isi_int_tuple, isi_str_tuple, isi_list_tuple, isi_tuple_tuple, isi_dict_tuple, isi_NoneType_two, isi_bool_two, isi_int_two, isi_str_two, isi_list_two, isi_tuple_two, isi_dict_two]
theorem rS9_ev {f : Option D} (hh : h.wf = true) (ih : isHeld h = true) (lh : ∀ ds, h = .lst ds → ds.length ≤ 900) (hk : OkV k) (ck : cnt k = false) (hg : OkV g) : rS9 [some .gen, some h, some (.str x), w, some g, some l, some (.lst (dues b k g l)), f, some b, some k, none] = Mo.pure (.nx [some .gen, some h, some (.str x), w, some g, some l, some (.lst (dues b k g l)), f, some b, some k, none]) := by
  have e1 : ixD (.lst (dues b k g l)) (.int 1) = some (told 1 k) := rfl
  have e2 : neD (.lst [told 1 k, told 1 k, told 1 k]) (.lst [told 1 k, told 1 k, told 1 k]) = some (.bl false) := neD_self (n := 2) (by decide) (by simp [lev, told_lev hk])
  simp [rS9, e1, mul3, e2, no_num1 hh hk wf_a ih ck lh, no_num1 hh hk hg.wf ih ck lh, no_num2 hh hk ih ck, fnM, fnF, mSeq, mIf, mOr, mAnd, mNot, mB, mUn, mOp, mVar, mC, mRet, mSkip, mOrV, mAndV, mIfE, mCons, mNil, mTup, mLst, mBt, mCall, mCallR, mSet, mDrop, mRaise, noRt, mSl, mPt, mNoP, mPar, mAsg, mYes, mChain, pure_bind', ofO_some, er_bind, assoc', noEr_pure, join_ss, asB_bl, asI_int, List.getElem?_cons_zero, List.getElem?_cons_succ, List.set_cons_zero, List.set_cons_succ, List.map_cons, List.map_nil, List.length_cons, List.length_nil, List.cons_append, List.nil_append, List.replicate, isi_NoneType_int, isi_bool_int, isi_int_int, isi_str_int, isi_list_int, isi_tuple_int, isi_dict_int, isi_NoneType_bool, isi_bool_bool, isi_int_bool, isi_str_bool, isi_list_bool, isi_tuple_bool, isi_dict_bool, isi_NoneType_str, isi_bool_str, isi_int_str, isi_str_str, isi_list_str, isi_tuple_str, isi_dict_str, isi_NoneType_list, isi_bool_list, isi_int_list, isi_str_list, isi_list_list, isi_tuple_list, isi_dict_list, isi_NoneType_tuple, isi_bool_tuple, isi_int_tuple, isi_str_tuple, isi_list_tuple, isi_tuple_tuple, isi_dict_tuple, isi_NoneType_two, isi_bool_two, isi_int_two, isi_str_two, isi_list_two, isi_tuple_two, isi_dict_two]
theorem rS10_ev {f : Option D} (hh : h.wf = true) (ih : isHeld h = true) (lh : ∀ ds, h = .lst ds → ds.length ≤ 900) (hg : OkV g) (ng : (txtD g && shB g) = false) (hl : OkV l) (nl : txtD l = false) : rS10 [some .gen, some h, some (.str x), w, some g, some l, some (.lst (dues b k g l)), f, some b, some k, none] = Mo.pure (.rt (.bl true)) := by
  have e1 : slD (.lst (dues b k g l)) (some 2) none = some (.lst [told 2 g, told 2 l]) := rfl
  have e2 : eqD (.lst [told 2 g, told 2 l]) (.lst [told 2 g, told 2 l]) = some (.bl true) := eqD_self (n := 2) (by decide) (by simp [lev, told_lev hg, told_lev hl])
  simp [rS10, e1, e2, no_sign1 hh (c := .int 3) rfl hg ih rfl ng lh, no_text0 hh hl ih nl, fnM, fnF, mSeq, mIf, mOr, mAnd, mNot, mB, mUn, mOp, mVar, mC, mRet, mSkip, mOrV, mAndV, mIfE, mCons, mNil, mTup, mLst, mBt, mCall, mCallR, mSet, mDrop, mRaise, noRt, mSl, mPt, mNoP, mPar, mAsg, mYes, mChain, pure_bind', ofO_some, er_bind, assoc', noEr_pure, join_ss, asB_bl, asI_int, List.getElem?_cons_zero, List.getElem?_cons_succ, List.set_cons_zero, List.set_cons_succ, List.map_cons, List.map_nil, List.length_cons, List.length_nil, List.cons_append, List.nil_append, List.replicate, isi_NoneType_int, isi_bool_int, isi_int_int, isi_str_int, isi_list_int, isi_tuple_int, isi_dict_int, isi_NoneType_bool, isi_bool_bool, isi_int_bool, isi_str_bool, isi_list_bool, isi_tuple_bool, isi_dict_bool, isi_NoneType_str, isi_bool_str, isi_int_str, isi_str_str, isi_list_str, isi_tuple_str, isi_dict_str, isi_NoneType_list, isi_bool_list, isi_int_list, isi_str_list, isi_list_list, isi_tuple_list, isi_dict_list, isi_NoneType_tuple, isi_bool_tuple, isi_int_tuple, isi_str_tuple, isi_list_tuple, isi_tuple_tuple, isi_dict_tuple, isi_NoneType_two, isi_bool_two, isi_int_two, isi_str_two, isi_list_two, isi_tuple_two, isi_dict_two]
end
theorem ev_refused {n : Int} {o : Option (List D)} {s : GS} {ds : List D} {x : Str} {P : D → GS → Prop} (hs : GI n o s) (hn : 0 ≤ n ∧ n ≤ 100000) (ih : isHeld (.lst ds) = true) (hl : ds.length ≤ 7) (hx : okS x = true) (lx : x.length ≤ 60) (hP : ∀ s', GI (n + 6) o s' → P (.bl true) s') : Tr (f_law_refused [.gen, .lst ds, .str x]) s P := by
  have hd := held_all ih
  have hh : (D.lst ds).wf = true := (ok_lst (by omega) fun d h => hold_gd (hd d h)).wf
  have lh : ∀ es, D.lst ds = .lst es → es.length ≤ 900 := fun es z => by
    cases z
    omega
  have wx : (D.str x).wf = true := (str_ok (okS_asc hx) (by omega)).wf
  unfold f_law_refused
  rw [m_law_refused_eq]
  refine Tr.noEr (Tr.bind (Tr.bind (rS1_ev hs hn hd hl fun vs s1 V G1 => ?_)))
  refine Tr.bind (rS2_ev G1 (by omega) V fun b k s2 hb hk G2 => ?_)
  have vb := V.ok b (List.mem_filter.mp hb).1
  have nb : isHeld b = false := by simpa using (List.mem_filter.mp hb).2
  obtain ⟨ok, ck⟩ := num_ok hk
  refine Tr.bind (rS3_ev G2 (by omega) fun g s3 hg G3 => ?_)
  obtain ⟨og, ng⟩ := sgn_ok hg
  refine Tr.bind (rS4_ev G3 (by omega) lx fun l s4 hl' G4 => ?_)
  obtain ⟨ol, nl⟩ := lin_ok hx lx hl'
  refine Tr.bind ?_
  rw [rS5_ev vb.1 ok og ol]
  refine Tr.pure (Tr.bind ?_)
  rw [rS6_ev wx vb.1 nb vb.2]
  refine Tr.pure (Tr.bind ?_)
  rw [rS7_ev vb.1 ok og ol nb vb.2]
  refine Tr.pure (Tr.bind ?_)
  rw [rS8_ev vb.1]
  refine Tr.pure (Tr.bind ?_)
  rw [rS9_ev hh ih lh ok ck og]
  refine Tr.pure ?_
  show Tr (rS10 _) s4 _
  rw [rS10_ev hh ih lh og ng ol nl]
  exact Tr.pure (Tr.pure (hP s4 (G4.up (by omega))))
end K84

set_option Elab.async false
set_option linter.all false
set_option maxRecDepth 100000
set_option maxHeartbeats 1000000
namespace K84
open PySem PySem.Spec PyProof.Rows L2 GxR GenW Ink
def rR1 : MS := (mSet 1 (mCall 1 f_law_drawn (mCons (mVar 0) mNil)))
def rR2 : MS := (mAsg (tg3 6 7 8) (mTup (mCons (mBt listD (mCons (mVar 1) mNil)) (mCons (mCall 2 f_law_random (mCons (mVar 0) (mCons (mOp ixD (mLst (mCons (mC (.int 3)) (mCons (mC (.int 61)) mNil))) (mCall 2 f_law_random (mCons (mVar 0) (mCons (mC (.int 2)) mNil)))) mNil))) (mCons (mCall 1 f_law_sign (mCons (mVar 0) mNil)) mNil)))))
def rR3 : MS := (mFor (mIt itsD (mOp addD (mLst (mCons (mVar 1) mNil)) (mCall 2 f_law_bent (mCons (mVar 0) (mCons (mVar 1) mNil))))) (tgN 2) (mSeq (mPar 10 11 (mCons (mCall 1 f_law_is (mCons (mVar 2) mNil)) (mCons (mBt reprD (mCons (mVar 2) mNil)) mNil))) (mIf (mOr (mNot (mB (mCall 2 (f_law_same 5) (mCons (mLst (mCons (mCall 1 f_is_held (mCons (mVar 2) mNil)) (mCons (mCallR 1 f_is_held (mCons (mVar 2) mNil)) mNil))) (mCons (mLst (mCons (mVar 10) (mCons (mVar 10) mNil))) mNil))))) (mB (mOp neD (mBt reprD (mCons (mVar 2) mNil)) (mVar 11)))) (mRet (mC (.bl false))) mSkip)))
def rR4 : MS := (mFor (mIt itsD (mOp addD (mLc (mItA rngD (mCons (mC (.int 3)) mNil)) (tgN 12) [12] mYes (mCall 2 f_law_text (mCons (mVar 0) (mCons (mVar 1) mNil)))) (mLst (mCons (mC (.str "")) (mCons (mC (.str "a")) (mCons (mC (.str "b")) (mCons (mC (.str "ab")) (mCons (mC (.str "ba")) (mCons (mC (.str "aab")) mNil))))))))) (tgN 3) (mIf (mOr (mNot (mB (mCall 2 (f_law_same 5) (mCons (mCall 2 f_keeps (mCons (mVar 1) (mCons (mVar 3) mNil))) (mCons (mCall 2 f_law_keeps (mCons (mVar 1) (mCons (mVar 3) mNil))) mNil))))) (mNot (mB (mCall 2 (f_law_same 5) (mCons (mCallR 2 f_keeps (mCons (mVar 3) (mCons (mVar 1) mNil))) (mCons (mCall 2 f_law_keeps (mCons (mVar 1) (mCons (mVar 3) mNil))) mNil)))))) (mRet (mC (.bl false))) mSkip))
def rR5 : MS := (mFor (mIt itsD (mLst (mCons (mVar 8) (mCons (mC (.str "")) (mCons (mVar 8) mNil))))) (tgN 4) (mDropB 9 (mCall 3 f_held_with (mCons (mVar 1) (mCons (mVar 7) (mCons (mVar 4) mNil)))) (mOr (mNot (mB (mCall 2 (f_law_same 5) (mCons (mVar 9) (mCons (mCall 3 f_law_with (mCons (mVar 1) (mCons (mVar 7) (mCons (mVar 4) mNil)))) mNil))))) (mNot (mB (mCall 1 f_law_is (mCons (mVar 9) mNil))))) (mC (.bl false)) (mIf (mNot (mB (mCall 2 (f_law_same 5) (mCons (mCallR 3 f_held_with (mCons (mVar 4) (mCons (mVar 7) (mCons (mVar 1) mNil)))) (mCons (mCall 3 f_law_with (mCons (mVar 1) (mCons (mVar 7) (mCons (mVar 4) mNil)))) mNil))))) (mRet (mC (.bl false))) mSkip)))
def rR6 : MS := (mDropB 5 (mCall 2 f_held_without (mCons (mVar 1) (mCons (mVar 7) mNil))) (mNot (mB (mCall 2 (f_law_same 5) (mCons (mVar 5) (mCons (mLc (mIt itsD (mVar 1)) (tgN 13) [13] (mB (mOp neD (mOp ixD (mVar 13) (mC (.int 0))) (mVar 7))) (mVar 13)) mNil))))) (mC (.bl false)) (mSeq (mIf (mOr (mNot (mB (mCall 2 (f_law_same 5) (mCons (mCallR 2 f_held_without (mCons (mVar 7) (mCons (mVar 1) mNil))) (mCons (mLc (mIt itsD (mVar 1)) (tgN 13) [13] (mB (mOp neD (mOp ixD (mVar 13) (mC (.int 0))) (mVar 7))) (mVar 13)) mNil))))) (mB (mOp neD (mVar 1) (mVar 6)))) (mRet (mC (.bl false))) mSkip) (mRet (mAndV (mCall 3 f_law_refused (mCons (mVar 0) (mCons (mVar 1) (mCons (mCall 2 f_law_text (mCons (mVar 0) (mCons (mVar 1) mNil))) mNil)))) (mOp eqD (mVar 1) (mVar 6))))))
theorem m_law_right_eq : m_law_right = (mSeq rR1 (mSeq rR2 (mSeq rR3 (mSeq rR4 (mSeq rR5 rR6))))) := rfl
theorem forM_inv {t : MTg} {body : MS} {I : Envd → Prop} : ∀ {ds : List D} {env : Envd}, I env → (∀ env, I env → ∀ d ∈ ds, ∃ env1 env2, t d env = some env1 ∧ body env1 = Mo.pure (.nx env2) ∧ I env2) → ∃ env', Ink.forM t body ds env = Mo.pure (.nx env') ∧ I env'
  | [], env, h, _ => ⟨env, rfl, h⟩
  | d :: r, env, h, hb => by
    obtain ⟨env1, env2, e1, e2, h2⟩ := hb env h d List.mem_cons_self
    obtain ⟨env', e3, h3⟩ := forM_inv (t := t) (body := body) (ds := r) h2 fun env he x hx => hb env he x (List.mem_cons_of_mem _ hx)
    refine ⟨env', ?_, h3⟩
    unfold Ink.forM
    rw [e1, ofO_some, pure_bind', e2, pure_bind']
    exact e3
theorem Tr_drop {i : Nat} {m : ME} {t : MT} {c : ME} {mr : MS} {env : Envd} {s : GS} {P : Fl → GS → Prop} {ds : List D} (hi : i < env.length) (hm : m env = Mo.pure (.lst ds)) (ht : t (env.set i (some (.lst ds))) = Mo.pure false) (ho : s.own = none) (hl : ds.length ≤ 100000) (h : Tr (mr (env.set i none)) s P) : Tr (mDropB i m t c mr env) s P := by
  unfold mDropB
  rw [hm, pure_bind', if_pos hi]
  show Tr ((t (env.set i (some (.lst ds)))).bind _) s P
  rw [ht, pure_bind']
  obtain ⟨a, s', e, q⟩ := h
  refine ⟨a, s', ?_, q⟩
  simp only [Bool.false_eq_true, if_false, ho]
  rw [if_pos hl]
  exact e
theorem same_bl (b : Bool) : f_law_same 5 [.bl b, .bl b] = Mo.pure (.bl true) := ev_same 4 (.bl b) (by decide) rfl rfl
theorem same_bb (b : Bool) : f_law_same 5 [.lst [.bl b, .bl b], .lst [.bl b, .bl b]] = Mo.pure (.bl true) := ev_same 4 _ (by decide) (by simp [lev]) (by simp [D.wf, wfA])
theorem rR3_body0 {p q g : List D → Mo D} {v : D} {B : Bool} {S : Str} {ds : List D} {x10 x11 x6 x7 x8 : Option D} (hp : p [v] = Mo.pure (.bl B)) (hq : q [v] = Mo.pure (.bl B)) (hg : g [.lst [.bl B, .bl B], .lst [.bl B, .bl B]] = Mo.pure (.bl true)) (hr : reprD [v] = some (.str S)) (e : neD (.str S) (.str S) = some (.bl false)) : (mSeq (mPar 10 11 (mCons (mCall 1 p (mCons (mVar 2) mNil)) (mCons (mBt reprD (mCons (mVar 2) mNil)) mNil))) (mIf (mOr (mNot (mB (mCall 2 g (mCons (mLst (mCons (mCall 1 q (mCons (mVar 2) mNil)) (mCons (mCallR 1 q (mCons (mVar 2) mNil)) mNil))) (mCons (mLst (mCons (mVar 10) (mCons (mVar 10) mNil))) mNil))))) (mB (mOp neD (mBt reprD (mCons (mVar 2) mNil)) (mVar 11)))) (mRet (mC (.bl false))) mSkip)) [some .gen, some (.lst ds), some v, none, none, none, x6, x7, x8, none, x10, x11, none, none] = Mo.pure (.nx [some .gen, some (.lst ds), some v, none, none, none, x6, x7, x8, none, some (.bl B), some (.str S), none, none]) := by
  simp [hp, hq, hr, hg, e, fnM, fnF, mSeq, mIf, mOr, mAnd, mNot, mB, mUn, mOp, mVar, mC, mRet, mSkip, mOrV, mAndV, mIfE, mCons, mNil, mTup, mLst, mBt, mCall, mCallR, mSet, mDrop, mRaise, noRt, mSl, mPt, mNoP, mPar, mAsg, mYes, mChain, pure_bind', ofO_some, er_bind, assoc', noEr_pure, join_ss, asB_bl, asI_int, List.getElem?_cons_zero, List.getElem?_cons_succ, List.set_cons_zero, List.set_cons_succ, List.map_cons, List.map_nil, List.length_cons, List.length_nil, List.cons_append, List.nil_append, List.replicate, isi_NoneType_int, isi_bool_int, isi_int_int, isi_str_int, isi_list_int, isi_tuple_int, isi_dict_int, isi_NoneType_bool, isi_bool_bool, isi_int_bool, isi_str_bool, isi_list_bool, isi_tuple_bool, isi_dict_bool, isi_NoneType_str, isi_bool_str, isi_int_str, isi_str_str, isi_list_str, isi_tuple_str, isi_dict_str, isi_NoneType_list, isi_bool_list, isi_int_list, isi_str_list, isi_list_list, isi_tuple_list, isi_dict_list, isi_NoneType_tuple, isi_bool_tuple, isi_int_tuple, isi_str_tuple, isi_list_tuple, isi_tuple_tuple, isi_dict_tuple, isi_NoneType_two, isi_bool_two, isi_int_two, isi_str_two, isi_list_two, isi_tuple_two, isi_dict_two]
end K84

set_option Elab.async false
set_option linter.all false
set_option maxRecDepth 100000
set_option maxHeartbeats 1000000
namespace K84
open PySem PySem.Spec PyProof.Rows L2 GxR GenW Ink
theorem rR3_ev {n : Int} {o : Option (List D)} {s : GS} {ds : List D} {x6 x7 x8 : Option D} {P : Fl → GS → Prop} (hs : GI n o s) (hn : 0 ≤ n ∧ n ≤ 100000) (ih : isHeld (.lst ds) = true) (hl : ds.length ≤ 7)
    (hP : ∀ x2 x10 x11 s', GI (n + 2) o s' → P (.nx [some .gen, some (.lst ds), x2, none, none, none, x6, x7, x8, none, x10, x11, none, none]) s') : Tr (rR3 [some .gen, some (.lst ds), none, none, none, none, x6, x7, x8, none, none, none, none, none]) s P := by
  have hd := held_all ih
  refine Tr.bind (m := (mIt itsD (mOp addD (mLst (mCons (mVar 1) mNil)) (mCall 2 f_law_bent (mCons (mVar 0) (mCons (mVar 1) mNil))))) _) ?_
  simp [mIt, fnM, fnF, mSeq, mIf, mOr, mAnd, mNot, mB, mUn, mOp, mVar, mC, mRet, mSkip, mOrV, mAndV, mIfE, mCons, mNil, mTup, mLst, mBt, mCall, mCallR, mSet, mDrop, mRaise, noRt, mSl, mPt, mNoP, mPar, mAsg, mYes, mChain, pure_bind', ofO_some, er_bind, assoc', noEr_pure, join_ss, asB_bl, asI_int, List.getElem?_cons_zero, List.getElem?_cons_succ, List.set_cons_zero, List.set_cons_succ, List.map_cons, List.map_nil, List.length_cons, List.length_nil, List.cons_append, List.nil_append, List.replicate, isi_NoneType_int, isi_bool_int, isi_int_int, isi_str_int, isi_list_int, isi_tuple_int, isi_dict_int, isi_NoneType_bool, isi_bool_bool, isi_int_bool, isi_str_bool, isi_list_bool, isi_tuple_bool, isi_dict_bool, isi_NoneType_str, isi_bool_str, isi_int_str, isi_str_str, isi_list_str, isi_tuple_str, isi_dict_str, isi_NoneType_list, isi_bool_list, isi_int_list, isi_str_list, isi_list_list, isi_tuple_list, isi_dict_list, isi_NoneType_tuple, isi_bool_tuple, isi_int_tuple, isi_str_tuple, isi_list_tuple, isi_tuple_tuple, isi_dict_tuple, isi_NoneType_two, isi_bool_two, isi_int_two, isi_str_two, isi_list_two, isi_tuple_two, isi_dict_two]
  refine Tr.bind (ev_bent hs hn hd hl fun vs s' V G => ?_)
  rw [add_l (by have := V.ln; simp; omega)]
  simp [itsD, fnM, fnF, mSeq, mIf, mOr, mAnd, mNot, mB, mUn, mOp, mVar, mC, mRet, mSkip, mOrV, mAndV, mIfE, mCons, mNil, mTup, mLst, mBt, mCall, mCallR, mSet, mDrop, mRaise, noRt, mSl, mPt, mNoP, mPar, mAsg, mYes, mChain, pure_bind', ofO_some, er_bind, assoc', noEr_pure, join_ss, asB_bl, asI_int, List.getElem?_cons_zero, List.getElem?_cons_succ, List.set_cons_zero, List.set_cons_succ, List.map_cons, List.map_nil, List.length_cons, List.length_nil, List.cons_append, List.nil_append, List.replicate, isi_NoneType_int, isi_bool_int, isi_int_int, isi_str_int, isi_list_int, isi_tuple_int, isi_dict_int, isi_NoneType_bool, isi_bool_bool, isi_int_bool, isi_str_bool, isi_list_bool, isi_tuple_bool, isi_dict_bool, isi_NoneType_str, isi_bool_str, isi_int_str, isi_str_str, isi_list_str, isi_tuple_str, isi_dict_str, isi_NoneType_list, isi_bool_list, isi_int_list, isi_str_list, isi_list_list, isi_tuple_list, isi_dict_list, isi_NoneType_tuple, isi_bool_tuple, isi_int_tuple, isi_str_tuple, isi_list_tuple, isi_tuple_tuple, isi_dict_tuple, isi_NoneType_two, isi_bool_two, isi_int_two, isi_str_two, isi_list_two, isi_tuple_two, isi_dict_two]
  have hv : ∀ v ∈ D.lst ds :: vs, OkV v := fun v hv => by
    rcases List.mem_cons.mp hv with rfl | hv
    · exact ok_lst (by omega) fun d h => hold_gd (hd d h)
    · exact (V.ok v hv).1
  obtain ⟨env', e, x2, x10, x11, rfl⟩ := forM_inv (t := tgN 2) (body := (mSeq (mPar 10 11 (mCons (mCall 1 f_law_is (mCons (mVar 2) mNil)) (mCons (mBt reprD (mCons (mVar 2) mNil)) mNil))) (mIf (mOr (mNot (mB (mCall 2 (f_law_same 5) (mCons (mLst (mCons (mCall 1 f_is_held (mCons (mVar 2) mNil)) (mCons (mCallR 1 f_is_held (mCons (mVar 2) mNil)) mNil))) (mCons (mLst (mCons (mVar 10) (mCons (mVar 10) mNil))) mNil))))) (mB (mOp neD (mBt reprD (mCons (mVar 2) mNil)) (mVar 11)))) (mRet (mC (.bl false))) mSkip))) (ds := D.lst ds :: vs)
    (I := fun env => ∃ x2 x10 x11, env = [some .gen, some (.lst ds), x2, none, none, none, x6, x7, x8, none, x10, x11, none, none]) (env := [some .gen, some (.lst ds), none, none, none, none, x6, x7, x8, none, none, none, none, none]) ⟨_, _, _, rfl⟩ fun env ⟨x2, x10, x11, he⟩ v hm => by
      subst he
      have q := hv v hm
      exact ⟨_, _, rfl, rR3_body0 (ev_law_is q.wf) (ev_is_held q.wf) (same_bb _) q.repr (neD_self (n := 0) (by decide) (by simpa [lev] using q.so)), _, _, _, rfl⟩
  refine Tr.pure ?_
  rw [e]
  exact Tr.pure (hP x2 x10 x11 s' G)
end K84

set_option Elab.async false
set_option linter.all false
set_option maxRecDepth 100000
set_option maxHeartbeats 1000000
namespace K84
open PySem PySem.Spec PyProof.Rows L2 GxR GenW Ink
theorem rR1_ev {n : Int} {s : GS} {P : Fl → GS → Prop} (hs : GI n none s) (hn : 0 ≤ n ∧ n ≤ 100000) (hP : ∀ ds s', isHeld (.lst ds) = true → ds.length ≤ 7 → GI (n + 30) none s' → P (.nx [some .gen, some (.lst ds), none, none, none, none, none, none, none, none, none, none, none, none]) s') : Tr (rR1 [some .gen, none, none, none, none, none, none, none, none, none, none, none, none, none]) s P := by
  simp [rR1, fnM, fnF, mSeq, mIf, mOr, mAnd, mNot, mB, mUn, mOp, mVar, mC, mRet, mSkip, mOrV, mAndV, mIfE, mCons, mNil, mTup, mLst, mBt, mCall, mCallR, mSet, mDrop, mRaise, noRt, mSl, mPt, mNoP, mPar, mAsg, mYes, mChain, pure_bind', ofO_some, er_bind, assoc', noEr_pure, join_ss, asB_bl, asI_int, List.getElem?_cons_zero, List.getElem?_cons_succ, List.set_cons_zero, List.set_cons_succ, List.map_cons, List.map_nil, List.length_cons, List.length_nil, List.cons_append, List.nil_append, List.replicate, isi_NoneType_int, isi_bool_int, isi_int_int, isi_str_int, isi_list_int, isi_tuple_int, isi_dict_int, isi_NoneType_bool, isi_bool_bool, isi_int_bool, isi_str_bool, isi_list_bool, isi_tuple_bool, isi_dict_bool, isi_NoneType_str, isi_bool_str, isi_int_str, isi_str_str, isi_list_str, isi_tuple_str, isi_dict_str, isi_NoneType_list, isi_bool_list, isi_int_list, isi_str_list, isi_list_list, isi_tuple_list, isi_dict_list, isi_NoneType_tuple, isi_bool_tuple, isi_int_tuple, isi_str_tuple, isi_list_tuple, isi_tuple_tuple, isi_dict_tuple, isi_NoneType_two, isi_bool_two, isi_int_two, isi_str_two, isi_list_two, isi_tuple_two, isi_dict_two]
  refine Tr.bind ((ev_drawn hs hn).mono ?_)
  rintro _ s1 ⟨ds, rfl, h1, h2, G1⟩
  exact Tr.pure (hP ds s1 h1 h2 G1)
theorem rR2_ev {n : Int} {o : Option (List D)} {s : GS} {ds : List D} {P : Fl → GS → Prop} (hs : GI n o s) (hn : 0 ≤ n ∧ n ≤ 100000) (hP : ∀ m c s', 0 ≤ m → m ≤ 60 → okC c = true → GI (n + 4) o s' → P (.nx [some .gen, some (.lst ds), none, none, none, none, some (.lst ds), some (.int m), some (.str ⟨#[c]⟩), none, none, none, none, none]) s') : Tr (rR2 [some .gen, some (.lst ds), none, none, none, none, none, none, none, none, none, none, none, none]) s P := by
  simp [rR2, listD, fnM, fnF, mSeq, mIf, mOr, mAnd, mNot, mB, mUn, mOp, mVar, mC, mRet, mSkip, mOrV, mAndV, mIfE, mCons, mNil, mTup, mLst, mBt, mCall, mCallR, mSet, mDrop, mRaise, noRt, mSl, mPt, mNoP, mPar, mAsg, mYes, mChain, pure_bind', ofO_some, er_bind, assoc', noEr_pure, join_ss, asB_bl, asI_int, List.getElem?_cons_zero, List.getElem?_cons_succ, List.set_cons_zero, List.set_cons_succ, List.map_cons, List.map_nil, List.length_cons, List.length_nil, List.cons_append, List.nil_append, List.replicate, isi_NoneType_int, isi_bool_int, isi_int_int, isi_str_int, isi_list_int, isi_tuple_int, isi_dict_int, isi_NoneType_bool, isi_bool_bool, isi_int_bool, isi_str_bool, isi_list_bool, isi_tuple_bool, isi_dict_bool, isi_NoneType_str, isi_bool_str, isi_int_str, isi_str_str, isi_list_str, isi_tuple_str, isi_dict_str, isi_NoneType_list, isi_bool_list, isi_int_list, isi_str_list, isi_list_list, isi_tuple_list, isi_dict_list, isi_NoneType_tuple, isi_bool_tuple, isi_int_tuple, isi_str_tuple, isi_list_tuple, isi_tuple_tuple, isi_dict_tuple, isi_NoneType_two, isi_bool_two, isi_int_two, isi_str_two, isi_list_two, isi_tuple_two, isi_dict_two]
  refine Tr.bind ((ev_random hs (by omega) (by decide) (by decide)).mono ?_)
  rintro _ s1 ⟨r, rfl, a0, a1, G1⟩
  obtain ⟨b, hb, e⟩ := ix_lst (ds := [.int 3, .int 61]) a0 (show r < 2 from a1)
  have hb' : ∃ k : Int, b = .int k ∧ 1 ≤ k ∧ k ≤ 61 := by
    simp at hb
    rcases hb with rfl | rfl
    · exact ⟨3, rfl, by decide, by decide⟩
    · exact ⟨61, rfl, by decide, by decide⟩
  obtain ⟨k, rfl, k1, k2⟩ := hb'
  rw [e, ofO_some]
  simp only [pure_bind']
  refine Tr.bind ((ev_random G1 (by omega) k1 (by omega)).mono ?_)
  rintro _ s2 ⟨m, rfl, m0, m1, G2⟩
  refine Tr.bind ((ev_sign G2 (by omega)).mono ?_)
  rintro _ s3 ⟨c, rfl, hc, G3⟩
  simp [tg3, fnM, fnF, mSeq, mIf, mOr, mAnd, mNot, mB, mUn, mOp, mVar, mC, mRet, mSkip, mOrV, mAndV, mIfE, mCons, mNil, mTup, mLst, mBt, mCall, mCallR, mSet, mDrop, mRaise, noRt, mSl, mPt, mNoP, mPar, mAsg, mYes, mChain, pure_bind', ofO_some, er_bind, assoc', noEr_pure, join_ss, asB_bl, asI_int, List.getElem?_cons_zero, List.getElem?_cons_succ, List.set_cons_zero, List.set_cons_succ, List.map_cons, List.map_nil, List.length_cons, List.length_nil, List.cons_append, List.nil_append, List.replicate, isi_NoneType_int, isi_bool_int, isi_int_int, isi_str_int, isi_list_int, isi_tuple_int, isi_dict_int, isi_NoneType_bool, isi_bool_bool, isi_int_bool, isi_str_bool, isi_list_bool, isi_tuple_bool, isi_dict_bool, isi_NoneType_str, isi_bool_str, isi_int_str, isi_str_str, isi_list_str, isi_tuple_str, isi_dict_str, isi_NoneType_list, isi_bool_list, isi_int_list, isi_str_list, isi_list_list, isi_tuple_list, isi_dict_list, isi_NoneType_tuple, isi_bool_tuple, isi_int_tuple, isi_str_tuple, isi_list_tuple, isi_tuple_tuple, isi_dict_tuple, isi_NoneType_two, isi_bool_two, isi_int_two, isi_str_two, isi_list_two, isi_tuple_two, isi_dict_two]
  exact Tr.pure (hP m c s3 m0 (by omega) hc (G3.up (by omega)))
theorem Tr_lc {t : MTg} {env : Envd} {tt : MT} {te : ME} {o : Option (List D)} {Q : D → Prop} {N c : Int} (hc : 0 ≤ c) : ∀ {l : List D} {n : Int} {s : GS} {P : List D → GS → Prop}, 0 ≤ n → GI n o s → n + c * l.length ≤ N →
    (∀ d ∈ l, ∃ env1, t d env = some env1 ∧ tt env1 = Mo.pure true ∧ ∀ (n : Int) (s : GS) (P : D → GS → Prop), 0 ≤ n → GI n o s → n + c ≤ N → (∀ y s', Q y → GI (n + c) o s' → P y s') → Tr (te env1) s P) →
    (∀ ys s', (∀ y ∈ ys, Q y) → ys.length = l.length → GI (n + c * l.length) o s' → P ys s') → Tr (lcM t env tt te l) s P
  | [], n, s, P, n0, hs, hn, hb, hP => Tr.pure (hP [] s (fun _ h => by cases h) rfl (hs.up (by simp)))
  | d :: r, n, s, P, n0, hs, hn, hb, hP => by
    obtain ⟨env1, e1, e2, e3⟩ := hb d List.mem_cons_self
    have hm : c * ((d :: r).length : Int) = c + c * (r.length : Int) := by
      rw [List.length_cons]
      push_cast
      rw [Int.mul_add, Int.mul_one]
      omega
    rw [hm] at hn hP
    have hp : 0 ≤ c * (r.length : Int) := Int.mul_nonneg hc (by omega)
    unfold lcM
    rw [e1, ofO_some, pure_bind', e2, noEr_pure, pure_bind', if_pos rfl]
    refine Tr.bind (Tr.noEr (e3 n s _ n0 hs (by omega) fun y s1 hy G1 => Tr.bind ?_))
    refine Tr_lc hc (by omega) G1 (by omega) (fun x hx => hb x (List.mem_cons_of_mem _ hx)) fun ys s2 h1 h2 h3 => ?_
    refine Tr.pure (hP (y :: ys) s2 (fun z hz => ?_) (by rw [List.length_cons, List.length_cons, h2]) (h3.up (by omega)))
    rcases List.mem_cons.mp hz with rfl | hz
    · exact hy
    · exact h1 z hz
/-- a short text of signs -/
def Tx (d : D) : Prop := ∃ y, d = .str y ∧ okS y = true ∧ y.length ≤ 60
theorem rR4_body0 {p q g : List D → Mo D} {t : D} {B : Bool} {ds : List D} {x2 x6 x7 x8 x10 x11 : Option D} (hp : p [.lst ds, t] = Mo.pure (.bl B)) (hq : q [.lst ds, t] = Mo.pure (.bl B)) (hg : g [.bl B, .bl B] = Mo.pure (.bl true)) : (mIf (mOr (mNot (mB (mCall 2 g (mCons (mCall 2 p (mCons (mVar 1) (mCons (mVar 3) mNil))) (mCons (mCall 2 q (mCons (mVar 1) (mCons (mVar 3) mNil))) mNil))))) (mNot (mB (mCall 2 g (mCons (mCallR 2 p (mCons (mVar 3) (mCons (mVar 1) mNil))) (mCons (mCall 2 q (mCons (mVar 1) (mCons (mVar 3) mNil))) mNil)))))) (mRet (mC (.bl false))) mSkip) [some .gen, some (.lst ds), x2, some t, none, none, x6, x7, x8, none, x10, x11, none, none] = Mo.pure (.nx [some .gen, some (.lst ds), x2, some t, none, none, x6, x7, x8, none, x10, x11, none, none]) := by
  simp [hp, hq, hg, fnM, fnF, mSeq, mIf, mOr, mAnd, mNot, mB, mUn, mOp, mVar, mC, mRet, mSkip, mOrV, mAndV, mIfE, mCons, mNil, mTup, mLst, mBt, mCall, mCallR, mSet, mDrop, mRaise, noRt, mSl, mPt, mNoP, mPar, mAsg, mYes, mChain, pure_bind', ofO_some, er_bind, assoc', noEr_pure, join_ss, asB_bl, asI_int, List.getElem?_cons_zero, List.getElem?_cons_succ, List.set_cons_zero, List.set_cons_succ, List.map_cons, List.map_nil, List.length_cons, List.length_nil, List.cons_append, List.nil_append, List.replicate, isi_NoneType_int, isi_bool_int, isi_int_int, isi_str_int, isi_list_int, isi_tuple_int, isi_dict_int, isi_NoneType_bool, isi_bool_bool, isi_int_bool, isi_str_bool, isi_list_bool, isi_tuple_bool, isi_dict_bool, isi_NoneType_str, isi_bool_str, isi_int_str, isi_str_str, isi_list_str, isi_tuple_str, isi_dict_str, isi_NoneType_list, isi_bool_list, isi_int_list, isi_str_list, isi_list_list, isi_tuple_list, isi_dict_list, isi_NoneType_tuple, isi_bool_tuple, isi_int_tuple, isi_str_tuple, isi_list_tuple, isi_tuple_tuple, isi_dict_tuple, isi_NoneType_two, isi_bool_two, isi_int_two, isi_str_two, isi_list_two, isi_tuple_two, isi_dict_two]
theorem tx_all : ∀ d ∈ [D.str "", .str "a", .str "b", .str "ab", .str "ba", .str "aab"], Tx d := fun d hd => by
  simp only [List.mem_cons, List.not_mem_nil, or_false] at hd
  rcases hd with rfl | rfl | rfl | rfl | rfl | rfl <;> exact ⟨_, rfl, by decide +kernel, by decide +kernel⟩
theorem rR4_ev {n : Int} {o : Option (List D)} {s : GS} {ds : List D} {x2 x6 x7 x8 x10 x11 : Option D} {P : Fl → GS → Prop} (hs : GI n o s) (hn : 0 ≤ n ∧ n ≤ 90000) (ih : isHeld (.lst ds) = true) (hl : ds.length ≤ 7)
    (hP : ∀ x3 s', GI (n + 600) o s' → P (.nx [some .gen, some (.lst ds), x2, x3, none, none, x6, x7, x8, none, x10, x11, none, none]) s') : Tr (rR4 [some .gen, some (.lst ds), x2, none, none, none, x6, x7, x8, none, x10, x11, none, none]) s P := by
  have hd := held_all ih
  have hh : (D.lst ds).wf = true := (ok_lst (by omega) fun d h => hold_gd (hd d h)).wf
  refine Tr.bind (m := (mIt itsD (mOp addD (mLc (mItA rngD (mCons (mC (.int 3)) mNil)) (tgN 12) [12] mYes (mCall 2 f_law_text (mCons (mVar 0) (mCons (mVar 1) mNil)))) (mLst (mCons (mC (.str "")) (mCons (mC (.str "a")) (mCons (mC (.str "b")) (mCons (mC (.str "ab")) (mCons (mC (.str "ba")) (mCons (mC (.str "aab")) mNil))))))))) _) ?_
  have er : rngD [.int 3] = some [.int 0, .int 1, .int 2] := rfl
  simp [mIt, mLc, mItA, er, wipeD, fnM, fnF, mSeq, mIf, mOr, mAnd, mNot, mB, mUn, mOp, mVar, mC, mRet, mSkip, mOrV, mAndV, mIfE, mCons, mNil, mTup, mLst, mBt, mCall, mCallR, mSet, mDrop, mRaise, noRt, mSl, mPt, mNoP, mPar, mAsg, mYes, mChain, pure_bind', ofO_some, er_bind, assoc', noEr_pure, join_ss, asB_bl, asI_int, List.getElem?_cons_zero, List.getElem?_cons_succ, List.set_cons_zero, List.set_cons_succ, List.map_cons, List.map_nil, List.length_cons, List.length_nil, List.cons_append, List.nil_append, List.replicate, isi_NoneType_int, isi_bool_int, isi_int_int, isi_str_int, isi_list_int, isi_tuple_int, isi_dict_int, isi_NoneType_bool, isi_bool_bool, isi_int_bool, isi_str_bool, isi_list_bool, isi_tuple_bool, isi_dict_bool, isi_NoneType_str, isi_bool_str, isi_int_str, isi_str_str, isi_list_str, isi_tuple_str, isi_dict_str, isi_NoneType_list, isi_bool_list, isi_int_list, isi_str_list, isi_list_list, isi_tuple_list, isi_dict_list, isi_NoneType_tuple, isi_bool_tuple, isi_int_tuple, isi_str_tuple, isi_list_tuple, isi_tuple_tuple, isi_dict_tuple, isi_NoneType_two, isi_bool_two, isi_int_two, isi_str_two, isi_list_two, isi_tuple_two, isi_dict_two]
  refine Tr.bind (Tr_lc (Q := Tx) (N := 100000) (c := 200) (by decide) hn.1 hs (by simp; omega) (fun d hd' => ⟨_, rfl, rfl, fun n s P n0 hs hn hP => ?_⟩) fun ys s' h1 h2 h3 => ?_)
  · have e4 : mCall 2 f_law_text (mCons (mVar 0) (mCons (mVar 1) mNil)) ([some .gen, some (.lst ds), x2, none, none, none, x6, x7, x8, none, x10, x11, none, none].set 12 (some d)) = f_law_text [.gen, .lst ds] := by
      simp [fnM, fnF, mSeq, mIf, mOr, mAnd, mNot, mB, mUn, mOp, mVar, mC, mRet, mSkip, mOrV, mAndV, mIfE, mCons, mNil, mTup, mLst, mBt, mCall, mCallR, mSet, mDrop, mRaise, noRt, mSl, mPt, mNoP, mPar, mAsg, mYes, mChain, pure_bind', ofO_some, er_bind, assoc', noEr_pure, join_ss, asB_bl, asI_int, List.getElem?_cons_zero, List.getElem?_cons_succ, List.set_cons_zero, List.set_cons_succ, List.map_cons, List.map_nil, List.length_cons, List.length_nil, List.cons_append, List.nil_append, List.replicate, isi_NoneType_int, isi_bool_int, isi_int_int, isi_str_int, isi_list_int, isi_tuple_int, isi_dict_int, isi_NoneType_bool, isi_bool_bool, isi_int_bool, isi_str_bool, isi_list_bool, isi_tuple_bool, isi_dict_bool, isi_NoneType_str, isi_bool_str, isi_int_str, isi_str_str, isi_list_str, isi_tuple_str, isi_dict_str, isi_NoneType_list, isi_bool_list, isi_int_list, isi_str_list, isi_list_list, isi_tuple_list, isi_dict_list, isi_NoneType_tuple, isi_bool_tuple, isi_int_tuple, isi_str_tuple, isi_list_tuple, isi_tuple_tuple, isi_dict_tuple, isi_NoneType_two, isi_bool_two, isi_int_two, isi_str_two, isi_list_two, isi_tuple_two, isi_dict_two]
    rw [e4]
    refine (ev_text hs (by omega) hd (by omega)).mono ?_
    rintro _ s1 ⟨y, rfl, h1, h2, h3⟩
    exact hP _ s1 ⟨y, rfl, h1, h2⟩ h3
  · rw [add_l (by simp [h2])]
    simp [itsD, fnM, fnF, mSeq, mIf, mOr, mAnd, mNot, mB, mUn, mOp, mVar, mC, mRet, mSkip, mOrV, mAndV, mIfE, mCons, mNil, mTup, mLst, mBt, mCall, mCallR, mSet, mDrop, mRaise, noRt, mSl, mPt, mNoP, mPar, mAsg, mYes, mChain, pure_bind', ofO_some, er_bind, assoc', noEr_pure, join_ss, asB_bl, asI_int, List.getElem?_cons_zero, List.getElem?_cons_succ, List.set_cons_zero, List.set_cons_succ, List.map_cons, List.map_nil, List.length_cons, List.length_nil, List.cons_append, List.nil_append, List.replicate, isi_NoneType_int, isi_bool_int, isi_int_int, isi_str_int, isi_list_int, isi_tuple_int, isi_dict_int, isi_NoneType_bool, isi_bool_bool, isi_int_bool, isi_str_bool, isi_list_bool, isi_tuple_bool, isi_dict_bool, isi_NoneType_str, isi_bool_str, isi_int_str, isi_str_str, isi_list_str, isi_tuple_str, isi_dict_str, isi_NoneType_list, isi_bool_list, isi_int_list, isi_str_list, isi_list_list, isi_tuple_list, isi_dict_list, isi_NoneType_tuple, isi_bool_tuple, isi_int_tuple, isi_str_tuple, isi_list_tuple, isi_tuple_tuple, isi_dict_tuple, isi_NoneType_two, isi_bool_two, isi_int_two, isi_str_two, isi_list_two, isi_tuple_two, isi_dict_two]
    refine Tr.pure ?_
    have hv : ∀ v ∈ ys ++ [D.str "", .str "a", .str "b", .str "ab", .str "ba", .str "aab"], Tx v := fun v hv => by
      rcases List.mem_append.mp hv with q | q
      · exact h1 v q
      · exact tx_all v q
    obtain ⟨env', e, x3, rfl⟩ := forM_inv (t := tgN 3) (body := (mIf (mOr (mNot (mB (mCall 2 (f_law_same 5) (mCons (mCall 2 f_keeps (mCons (mVar 1) (mCons (mVar 3) mNil))) (mCons (mCall 2 f_law_keeps (mCons (mVar 1) (mCons (mVar 3) mNil))) mNil))))) (mNot (mB (mCall 2 (f_law_same 5) (mCons (mCallR 2 f_keeps (mCons (mVar 3) (mCons (mVar 1) mNil))) (mCons (mCall 2 f_law_keeps (mCons (mVar 1) (mCons (mVar 3) mNil))) mNil)))))) (mRet (mC (.bl false))) mSkip)) (ds := ys ++ [D.str "", .str "a", .str "b", .str "ab", .str "ba", .str "aab"])
      (I := fun env => ∃ x3, env = [some .gen, some (.lst ds), x2, x3, none, none, x6, x7, x8, none, x10, x11, none, none]) (env := [some .gen, some (.lst ds), x2, none, none, none, x6, x7, x8, none, x10, x11, none, none]) ⟨_, rfl⟩ fun env ⟨x3, he⟩ v hm => by
        subst he
        obtain ⟨y, rfl, q1, q2⟩ := hv v hm
        have wy : (D.str y).wf = true := (str_ok (okS_asc q1) (by omega)).wf
        have ty : txtD (.str y) = true := q1
        exact ⟨_, _, rfl, rR4_body0 (B := keepsB ds y) (by rw [ev_keeps hh wy, ih, ty]; rfl) (ev_law_keeps (by omega) hd (okS_ok q1) (by omega)) (same_bl _), _, rfl⟩
    rw [e]
    exact Tr.pure (hP x3 s' (h3.up (by simp)))
end K84

set_option Elab.async false
set_option linter.all false
set_option maxRecDepth 100000
set_option maxHeartbeats 1000000
namespace K84
open PySem PySem.Spec PyProof.Rows L2 GxR GenW Ink
theorem forM_invS {t : MTg} {body : MS} {I : Envd → Prop} {s : GS} : ∀ {ds : List D} {env : Envd} {P : Fl → GS → Prop}, I env → (∀ env, I env → ∀ d ∈ ds, ∃ env1, t d env = some env1 ∧ ∀ P : Fl → GS → Prop, (∀ env2, I env2 → P (.nx env2) s) → Tr (body env1) s P) → (∀ env', I env' → P (.nx env') s) → Tr (Ink.forM t body ds env) s P
  | [], env, P, h, _, hP => Tr.pure (hP env h)
  | d :: r, env, P, h, hb, hP => by
    obtain ⟨env1, e1, e2⟩ := hb env h d List.mem_cons_self
    unfold Ink.forM
    rw [e1, ofO_some, pure_bind']
    refine Tr.bind (e2 _ fun env2 h2 => ?_)
    exact forM_invS (t := t) (body := body) (ds := r) h2 (fun env he x hx => hb env he x (List.mem_cons_of_mem _ hx)) hP
theorem lev_holds {L : List D} (h : ∀ d ∈ L, holdB d = true) : lev 4 (.lst L) = true := by
  simp only [lev, List.all_eq_true]
  intro d hd
  obtain ⟨n, x, rfl, _, _, hx, _⟩ := hold_shape (h d hd)
  simp [lev, okS_ok hx]
theorem rR5_body0 {p q r g : List D → Mo D} {t : D} {m : Int} {ds L : List D} {s : GS} {x2 x3 x6 x8 x10 x11 : Option D} {P : Fl → GS → Prop} (hp : p [.lst ds, .int m, t] = Mo.pure (.lst L)) (hq : q [.lst ds, .int m, t] = Mo.pure (.lst L)) (hg : g [.lst L, .lst L] = Mo.pure (.bl true)) (hr : r [.lst L] = Mo.pure (.bl true)) (hl : L.length ≤ 100000) (ho : s.own = none) (hP : P (.nx [some .gen, some (.lst ds), x2, x3, some t, none, x6, some (.int m), x8, none, x10, x11, none, none]) s) :
    Tr ((mDropB 9 (mCall 3 p (mCons (mVar 1) (mCons (mVar 7) (mCons (mVar 4) mNil)))) (mOr (mNot (mB (mCall 2 g (mCons (mVar 9) (mCons (mCall 3 q (mCons (mVar 1) (mCons (mVar 7) (mCons (mVar 4) mNil)))) mNil))))) (mNot (mB (mCall 1 r (mCons (mVar 9) mNil))))) (mC (.bl false)) (mIf (mNot (mB (mCall 2 g (mCons (mCallR 3 p (mCons (mVar 4) (mCons (mVar 7) (mCons (mVar 1) mNil)))) (mCons (mCall 3 q (mCons (mVar 1) (mCons (mVar 7) (mCons (mVar 4) mNil)))) mNil))))) (mRet (mC (.bl false))) mSkip)) [some .gen, some (.lst ds), x2, x3, some t, none, x6, some (.int m), x8, none, x10, x11, none, none]) s P := by
  refine Tr_drop (ds := L) (by simp) (by simp [hp, fnM, fnF, mSeq, mIf, mOr, mAnd, mNot, mB, mUn, mOp, mVar, mC, mRet, mSkip, mOrV, mAndV, mIfE, mCons, mNil, mTup, mLst, mBt, mCall, mCallR, mSet, mDrop, mRaise, noRt, mSl, mPt, mNoP, mPar, mAsg, mYes, mChain, pure_bind', ofO_some, er_bind, assoc', noEr_pure, join_ss, asB_bl, asI_int, List.getElem?_cons_zero, List.getElem?_cons_succ, List.set_cons_zero, List.set_cons_succ, List.map_cons, List.map_nil, List.length_cons, List.length_nil, List.cons_append, List.nil_append, List.replicate, isi_NoneType_int, isi_bool_int, isi_int_int, isi_str_int, isi_list_int, isi_tuple_int, isi_dict_int, isi_NoneType_bool, isi_bool_bool, isi_int_bool, isi_str_bool, isi_list_bool, isi_tuple_bool, isi_dict_bool, isi_NoneType_str, isi_bool_str, isi_int_str, isi_str_str, isi_list_str, isi_tuple_str, isi_dict_str, isi_NoneType_list, isi_bool_list, isi_int_list, isi_str_list, isi_list_list, isi_tuple_list, isi_dict_list, isi_NoneType_tuple, isi_bool_tuple, isi_int_tuple, isi_str_tuple, isi_list_tuple, isi_tuple_tuple, isi_dict_tuple, isi_NoneType_two, isi_bool_two, isi_int_two, isi_str_two, isi_list_two, isi_tuple_two, isi_dict_two]) (by simp [hq, hg, hr, fnM, fnF, mSeq, mIf, mOr, mAnd, mNot, mB, mUn, mOp, mVar, mC, mRet, mSkip, mOrV, mAndV, mIfE, mCons, mNil, mTup, mLst, mBt, mCall, mCallR, mSet, mDrop, mRaise, noRt, mSl, mPt, mNoP, mPar, mAsg, mYes, mChain, pure_bind', ofO_some, er_bind, assoc', noEr_pure, join_ss, asB_bl, asI_int, List.getElem?_cons_zero, List.getElem?_cons_succ, List.set_cons_zero, List.set_cons_succ, List.map_cons, List.map_nil, List.length_cons, List.length_nil, List.cons_append, List.nil_append, List.replicate, isi_NoneType_int, isi_bool_int, isi_int_int, isi_str_int, isi_list_int, isi_tuple_int, isi_dict_int, isi_NoneType_bool, isi_bool_bool, isi_int_bool, isi_str_bool, isi_list_bool, isi_tuple_bool, isi_dict_bool, isi_NoneType_str, isi_bool_str, isi_int_str, isi_str_str, isi_list_str, isi_tuple_str, isi_dict_str, isi_NoneType_list, isi_bool_list, isi_int_list, isi_str_list, isi_list_list, isi_tuple_list, isi_dict_list, isi_NoneType_tuple, isi_bool_tuple, isi_int_tuple, isi_str_tuple, isi_list_tuple, isi_tuple_tuple, isi_dict_tuple, isi_NoneType_two, isi_bool_two, isi_int_two, isi_str_two, isi_list_two, isi_tuple_two, isi_dict_two]) ho hl ?_
  simp [hp, hq, hg, fnM, fnF, mSeq, mIf, mOr, mAnd, mNot, mB, mUn, mOp, mVar, mC, mRet, mSkip, mOrV, mAndV, mIfE, mCons, mNil, mTup, mLst, mBt, mCall, mCallR, mSet, mDrop, mRaise, noRt, mSl, mPt, mNoP, mPar, mAsg, mYes, mChain, pure_bind', ofO_some, er_bind, assoc', noEr_pure, join_ss, asB_bl, asI_int, List.getElem?_cons_zero, List.getElem?_cons_succ, List.set_cons_zero, List.set_cons_succ, List.map_cons, List.map_nil, List.length_cons, List.length_nil, List.cons_append, List.nil_append, List.replicate, isi_NoneType_int, isi_bool_int, isi_int_int, isi_str_int, isi_list_int, isi_tuple_int, isi_dict_int, isi_NoneType_bool, isi_bool_bool, isi_int_bool, isi_str_bool, isi_list_bool, isi_tuple_bool, isi_dict_bool, isi_NoneType_str, isi_bool_str, isi_int_str, isi_str_str, isi_list_str, isi_tuple_str, isi_dict_str, isi_NoneType_list, isi_bool_list, isi_int_list, isi_str_list, isi_list_list, isi_tuple_list, isi_dict_list, isi_NoneType_tuple, isi_bool_tuple, isi_int_tuple, isi_str_tuple, isi_list_tuple, isi_tuple_tuple, isi_dict_tuple, isi_NoneType_two, isi_bool_two, isi_int_two, isi_str_two, isi_list_two, isi_tuple_two, isi_dict_two]
  exact Tr.pure hP
theorem rR5_ev {n : Int} {s : GS} {ds : List D} {m : Int} {c : Nat} {x2 x3 x10 x11 : Option D} {P : Fl → GS → Prop} (hs : GI n none s) (ih : isHeld (.lst ds) = true) (hl : ds.length ≤ 7) (m0 : 0 ≤ m) (m1 : m ≤ 60) (hc : okC c = true)
    (hP : ∀ x4, P (.nx [some .gen, some (.lst ds), x2, x3, x4, none, some (.lst ds), some (.int m), some (.str ⟨#[c]⟩), none, x10, x11, none, none]) s) : Tr (rR5 [some .gen, some (.lst ds), x2, x3, none, none, some (.lst ds), some (.int m), some (.str ⟨#[c]⟩), none, x10, x11, none, none]) s P := by
  have hd := held_all ih
  have hh : (D.lst ds).wf = true := (ok_lst (by omega) fun d h => hold_gd (hd d h)).wf
  have lh : ∀ es, D.lst ds = .lst es → es.length ≤ 900 := fun es z => by
    cases z
    omega
  unfold rR5 mFor
  refine Tr.bind ?_
  simp [mIt, itsD, fnM, fnF, mSeq, mIf, mOr, mAnd, mNot, mB, mUn, mOp, mVar, mC, mRet, mSkip, mOrV, mAndV, mIfE, mCons, mNil, mTup, mLst, mBt, mCall, mCallR, mSet, mDrop, mRaise, noRt, mSl, mPt, mNoP, mPar, mAsg, mYes, mChain, pure_bind', ofO_some, er_bind, assoc', noEr_pure, join_ss, asB_bl, asI_int, List.getElem?_cons_zero, List.getElem?_cons_succ, List.set_cons_zero, List.set_cons_succ, List.map_cons, List.map_nil, List.length_cons, List.length_nil, List.cons_append, List.nil_append, List.replicate, isi_NoneType_int, isi_bool_int, isi_int_int, isi_str_int, isi_list_int, isi_tuple_int, isi_dict_int, isi_NoneType_bool, isi_bool_bool, isi_int_bool, isi_str_bool, isi_list_bool, isi_tuple_bool, isi_dict_bool, isi_NoneType_str, isi_bool_str, isi_int_str, isi_str_str, isi_list_str, isi_tuple_str, isi_dict_str, isi_NoneType_list, isi_bool_list, isi_int_list, isi_str_list, isi_list_list, isi_tuple_list, isi_dict_list, isi_NoneType_tuple, isi_bool_tuple, isi_int_tuple, isi_str_tuple, isi_list_tuple, isi_tuple_tuple, isi_dict_tuple, isi_NoneType_two, isi_bool_two, isi_int_two, isi_str_two, isi_list_two, isi_tuple_two, isi_dict_two]
  refine Tr.pure ?_
  refine forM_invS (I := fun env => ∃ x4, env = [some .gen, some (.lst ds), x2, x3, x4, none, some (.lst ds), some (.int m), some (.str ⟨#[c]⟩), none, x10, x11, none, none]) ⟨_, rfl⟩ ?_ ?_
  · rintro env ⟨x4, rfl⟩ d hm
    have hx : ∃ y, d = .str y ∧ okS y = true ∧ y.length < 2 := by
      simp only [List.mem_cons, List.not_mem_nil, or_false] at hm
      rcases hm with rfl | rfl | rfl
      · exact ⟨_, rfl, by rw [okS_one]; exact hc, by rw [len_one]; decide⟩
      · exact ⟨_, rfl, okS_emp, by rw [len_emp]; decide⟩
      · exact ⟨_, rfl, by rw [okS_one]; exact hc, by rw [len_one]; decide⟩
    obtain ⟨y, rfl, hy, ly⟩ := hx
    have wy : (D.str y).wf = true := (str_ok (okS_asc hy) (by omega)).wf
    have ht : (txtD (.str y) && shB (.str y)) = true := by
      simp [txtD, shB, hy, ly]
    have hcn : cnt (.int m) = true := by
      simp [cnt, m0, m1]
    have hw := with_held ih m0 m1 hy ly
    have h8 := with_len (ds := ds) (m := m) (x := y)
    have ok := ok_lst (L := withB ds m y) (by omega) fun d h => hold_gd (held_all hw d h)
    have hp : f_held_with [.lst ds, .int m, .str y] = Mo.pure (.lst (withB ds m y)) := by
      rw [ev_held_with hh (by simp [D.kn]) wy lh, ih, hcn, ht]
      rfl
    refine ⟨_, rfl, fun P hP => rR5_body0 hp (ev_law_with ih (by omega) m0 m1 hy ly) (ev_same 4 _ (by decide) (lev_holds (held_all hw)) ok.wf) (by rw [ev_law_is ok.wf, hw]) (by omega) hs.2 (hP _ ⟨_, rfl⟩)⟩
  · rintro env ⟨x4, rfl⟩
    exact hP x4
end K84

set_option Elab.async false
set_option linter.all false
set_option maxRecDepth 100000
set_option maxHeartbeats 1000000
namespace K84
open PySem PySem.Spec PyProof.Rows L2 GxR GenW Ink
/-- the holds but for one number -/
def lessB (ds : List D) (m : Int) : List D := ds.filter fun d => !(numN d == m)
def lcL : ME := (mLc (mIt itsD (mVar 1)) (tgN 13) [13] (mB (mOp neD (mOp ixD (mVar 13) (mC (.int 0))) (mVar 7))) (mVar 13))
theorem lcL_ev {ds : List D} {m : Int} {x2 x3 x4 x5 x6 x8 x9 x10 x11 : Option D} (hd : ∀ d ∈ ds, holdB d = true) (hl : ds.length ≤ 7) : lcL [some .gen, some (.lst ds), x2, x3, x4, x5, x6, some (.int m), x8, x9, x10, x11, none, none] = Mo.pure (.lst (lessB ds m)) := by
  have h6 : ds.length ≤ 100000 := by omega
  have g := lc_pure (t := tgN 13) (env := [some .gen, some (.lst ds), x2, x3, x4, x5, x6, some (.int m), x8, x9, x10, x11, none, none]) (tt := mB (mOp neD (mOp ixD (mVar 13) (mC (.int 0))) (mVar 7))) (te := mVar 13) (fun d => [some .gen, some (.lst ds), x2, x3, x4, x5, x6, some (.int m), x8, x9, x10, x11, none, some d]) (fun d => !(numN d == m)) (fun d => d) (ds := ds) (fun d hm => by
    obtain ⟨n, x, rfl, _, _, _, _⟩ := hold_shape (hd d hm)
    refine ⟨rfl, ?_, fun _ => rfl⟩
    simp [at0, neD_int, numN_t, fnM, fnF, mSeq, mIf, mOr, mAnd, mNot, mB, mUn, mOp, mVar, mC, mRet, mSkip, mOrV, mAndV, mIfE, mCons, mNil, mTup, mLst, mBt, mCall, mCallR, mSet, mDrop, mRaise, noRt, mSl, mPt, mNoP, mPar, mAsg, mYes, mChain, pure_bind', ofO_some, er_bind, assoc', noEr_pure, join_ss, asB_bl, asI_int, List.getElem?_cons_zero, List.getElem?_cons_succ, List.set_cons_zero, List.set_cons_succ, List.map_cons, List.map_nil, List.length_cons, List.length_nil, List.cons_append, List.nil_append, List.replicate, isi_NoneType_int, isi_bool_int, isi_int_int, isi_str_int, isi_list_int, isi_tuple_int, isi_dict_int, isi_NoneType_bool, isi_bool_bool, isi_int_bool, isi_str_bool, isi_list_bool, isi_tuple_bool, isi_dict_bool, isi_NoneType_str, isi_bool_str, isi_int_str, isi_str_str, isi_list_str, isi_tuple_str, isi_dict_str, isi_NoneType_list, isi_bool_list, isi_int_list, isi_str_list, isi_list_list, isi_tuple_list, isi_dict_list, isi_NoneType_tuple, isi_bool_tuple, isi_int_tuple, isi_str_tuple, isi_list_tuple, isi_tuple_tuple, isi_dict_tuple, isi_NoneType_two, isi_bool_two, isi_int_two, isi_str_two, isi_list_two, isi_tuple_two, isi_dict_two])
  rw [filter_map_id] at g
  simp [lcL, mLc, mIt, itsD, wipeD, h6, g, lessB, fnM, fnF, mSeq, mIf, mOr, mAnd, mNot, mB, mUn, mOp, mVar, mC, mRet, mSkip, mOrV, mAndV, mIfE, mCons, mNil, mTup, mLst, mBt, mCall, mCallR, mSet, mDrop, mRaise, noRt, mSl, mPt, mNoP, mPar, mAsg, mYes, mChain, pure_bind', ofO_some, er_bind, assoc', noEr_pure, join_ss, asB_bl, asI_int, List.getElem?_cons_zero, List.getElem?_cons_succ, List.set_cons_zero, List.set_cons_succ, List.map_cons, List.map_nil, List.length_cons, List.length_nil, List.cons_append, List.nil_append, List.replicate, isi_NoneType_int, isi_bool_int, isi_int_int, isi_str_int, isi_list_int, isi_tuple_int, isi_dict_int, isi_NoneType_bool, isi_bool_bool, isi_int_bool, isi_str_bool, isi_list_bool, isi_tuple_bool, isi_dict_bool, isi_NoneType_str, isi_bool_str, isi_int_str, isi_str_str, isi_list_str, isi_tuple_str, isi_dict_str, isi_NoneType_list, isi_bool_list, isi_int_list, isi_str_list, isi_list_list, isi_tuple_list, isi_dict_list, isi_NoneType_tuple, isi_bool_tuple, isi_int_tuple, isi_str_tuple, isi_list_tuple, isi_tuple_tuple, isi_dict_tuple, isi_NoneType_two, isi_bool_two, isi_int_two, isi_str_two, isi_list_two, isi_tuple_two, isi_dict_two]
theorem rR6_a {p g : List D → Mo D} {q : ME} {mr : MS} {m : Int} {ds L : List D} {s : GS} {x2 x3 x4 x8 x10 x11 : Option D} {P : Fl → GS → Prop} (hp : p [.lst ds, .int m] = Mo.pure (.lst L))
    (hq : ∀ x5, q [some .gen, some (.lst ds), x2, x3, x4, x5, some (.lst ds), some (.int m), x8, none, x10, x11, none, none] = Mo.pure (.lst L)) (hg : g [.lst L, .lst L] = Mo.pure (.bl true)) (he : neD (.lst ds) (.lst ds) = some (.bl false)) (hl : L.length ≤ 100000) (ho : s.own = none)
    (hP : Tr (mr [some .gen, some (.lst ds), x2, x3, x4, none, some (.lst ds), some (.int m), x8, none, x10, x11, none, none]) s P) :
    Tr ((mDropB 5 (mCall 2 p (mCons (mVar 1) (mCons (mVar 7) mNil))) (mNot (mB (mCall 2 g (mCons (mVar 5) (mCons q mNil))))) (mC (.bl false)) (mSeq (mIf (mOr (mNot (mB (mCall 2 g (mCons (mCallR 2 p (mCons (mVar 7) (mCons (mVar 1) mNil))) (mCons q mNil))))) (mB (mOp neD (mVar 1) (mVar 6)))) (mRet (mC (.bl false))) mSkip) mr)) [some .gen, some (.lst ds), x2, x3, x4, none, some (.lst ds), some (.int m), x8, none, x10, x11, none, none]) s P := by
  refine Tr_drop (ds := L) (by simp) (by simp [hp, fnM, fnF, mSeq, mIf, mOr, mAnd, mNot, mB, mUn, mOp, mVar, mC, mRet, mSkip, mOrV, mAndV, mIfE, mCons, mNil, mTup, mLst, mBt, mCall, mCallR, mSet, mDrop, mRaise, noRt, mSl, mPt, mNoP, mPar, mAsg, mYes, mChain, pure_bind', ofO_some, er_bind, assoc', noEr_pure, join_ss, asB_bl, asI_int, List.getElem?_cons_zero, List.getElem?_cons_succ, List.set_cons_zero, List.set_cons_succ, List.map_cons, List.map_nil, List.length_cons, List.length_nil, List.cons_append, List.nil_append, List.replicate, isi_NoneType_int, isi_bool_int, isi_int_int, isi_str_int, isi_list_int, isi_tuple_int, isi_dict_int, isi_NoneType_bool, isi_bool_bool, isi_int_bool, isi_str_bool, isi_list_bool, isi_tuple_bool, isi_dict_bool, isi_NoneType_str, isi_bool_str, isi_int_str, isi_str_str, isi_list_str, isi_tuple_str, isi_dict_str, isi_NoneType_list, isi_bool_list, isi_int_list, isi_str_list, isi_list_list, isi_tuple_list, isi_dict_list, isi_NoneType_tuple, isi_bool_tuple, isi_int_tuple, isi_str_tuple, isi_list_tuple, isi_tuple_tuple, isi_dict_tuple, isi_NoneType_two, isi_bool_two, isi_int_two, isi_str_two, isi_list_two, isi_tuple_two, isi_dict_two]) (by simp [hq, hg, fnM, fnF, mSeq, mIf, mOr, mAnd, mNot, mB, mUn, mOp, mVar, mC, mRet, mSkip, mOrV, mAndV, mIfE, mCons, mNil, mTup, mLst, mBt, mCall, mCallR, mSet, mDrop, mRaise, noRt, mSl, mPt, mNoP, mPar, mAsg, mYes, mChain, pure_bind', ofO_some, er_bind, assoc', noEr_pure, join_ss, asB_bl, asI_int, List.getElem?_cons_zero, List.getElem?_cons_succ, List.set_cons_zero, List.set_cons_succ, List.map_cons, List.map_nil, List.length_cons, List.length_nil, List.cons_append, List.nil_append, List.replicate, isi_NoneType_int, isi_bool_int, isi_int_int, isi_str_int, isi_list_int, isi_tuple_int, isi_dict_int, isi_NoneType_bool, isi_bool_bool, isi_int_bool, isi_str_bool, isi_list_bool, isi_tuple_bool, isi_dict_bool, isi_NoneType_str, isi_bool_str, isi_int_str, isi_str_str, isi_list_str, isi_tuple_str, isi_dict_str, isi_NoneType_list, isi_bool_list, isi_int_list, isi_str_list, isi_list_list, isi_tuple_list, isi_dict_list, isi_NoneType_tuple, isi_bool_tuple, isi_int_tuple, isi_str_tuple, isi_list_tuple, isi_tuple_tuple, isi_dict_tuple, isi_NoneType_two, isi_bool_two, isi_int_two, isi_str_two, isi_list_two, isi_tuple_two, isi_dict_two]) ho hl ?_
  simp [hp, hq, hg, he, fnM, fnF, mSeq, mIf, mOr, mAnd, mNot, mB, mUn, mOp, mVar, mC, mRet, mSkip, mOrV, mAndV, mIfE, mCons, mNil, mTup, mLst, mBt, mCall, mCallR, mSet, mDrop, mRaise, noRt, mSl, mPt, mNoP, mPar, mAsg, mYes, mChain, pure_bind', ofO_some, er_bind, assoc', noEr_pure, join_ss, asB_bl, asI_int, List.getElem?_cons_zero, List.getElem?_cons_succ, List.set_cons_zero, List.set_cons_succ, List.map_cons, List.map_nil, List.length_cons, List.length_nil, List.cons_append, List.nil_append, List.replicate, isi_NoneType_int, isi_bool_int, isi_int_int, isi_str_int, isi_list_int, isi_tuple_int, isi_dict_int, isi_NoneType_bool, isi_bool_bool, isi_int_bool, isi_str_bool, isi_list_bool, isi_tuple_bool, isi_dict_bool, isi_NoneType_str, isi_bool_str, isi_int_str, isi_str_str, isi_list_str, isi_tuple_str, isi_dict_str, isi_NoneType_list, isi_bool_list, isi_int_list, isi_str_list, isi_list_list, isi_tuple_list, isi_dict_list, isi_NoneType_tuple, isi_bool_tuple, isi_int_tuple, isi_str_tuple, isi_list_tuple, isi_tuple_tuple, isi_dict_tuple, isi_NoneType_two, isi_bool_two, isi_int_two, isi_str_two, isi_list_two, isi_tuple_two, isi_dict_two]
  exact hP
theorem rR6_b {p q : List D → Mo D} {ds : List D} {s : GS} {x2 x3 x4 x7 x8 x10 x11 : Option D} {P : Fl → GS → Prop} (he : eqD (.lst ds) (.lst ds) = some (.bl true)) (h : Tr (q [.gen, .lst ds]) s fun d s' => ∃ y, d = .str y ∧ Tr (p [.gen, .lst ds, .str y]) s' fun d s'' => d = .bl true ∧ P (.rt (.bl true)) s'') :
    Tr ((mRet (mAndV (mCall 3 p (mCons (mVar 0) (mCons (mVar 1) (mCons (mCall 2 q (mCons (mVar 0) (mCons (mVar 1) mNil))) mNil)))) (mOp eqD (mVar 1) (mVar 6)))) [some .gen, some (.lst ds), x2, x3, x4, none, some (.lst ds), x7, x8, none, x10, x11, none, none]) s P := by
  simp [fnM, fnF, mSeq, mIf, mOr, mAnd, mNot, mB, mUn, mOp, mVar, mC, mRet, mSkip, mOrV, mAndV, mIfE, mCons, mNil, mTup, mLst, mBt, mCall, mCallR, mSet, mDrop, mRaise, noRt, mSl, mPt, mNoP, mPar, mAsg, mYes, mChain, pure_bind', ofO_some, er_bind, assoc', noEr_pure, join_ss, asB_bl, asI_int, List.getElem?_cons_zero, List.getElem?_cons_succ, List.set_cons_zero, List.set_cons_succ, List.map_cons, List.map_nil, List.length_cons, List.length_nil, List.cons_append, List.nil_append, List.replicate, isi_NoneType_int, isi_bool_int, isi_int_int, isi_str_int, isi_list_int, isi_tuple_int, isi_dict_int, isi_NoneType_bool, isi_bool_bool, isi_int_bool, isi_str_bool, isi_list_bool, isi_tuple_bool, isi_dict_bool, isi_NoneType_str, isi_bool_str, isi_int_str, isi_str_str, isi_list_str, isi_tuple_str, isi_dict_str, isi_NoneType_list, isi_bool_list, isi_int_list, isi_str_list, isi_list_list, isi_tuple_list, isi_dict_list, isi_NoneType_tuple, isi_bool_tuple, isi_int_tuple, isi_str_tuple, isi_list_tuple, isi_tuple_tuple, isi_dict_tuple, isi_NoneType_two, isi_bool_two, isi_int_two, isi_str_two, isi_list_two, isi_tuple_two, isi_dict_two]
  refine Tr.bind (h.mono ?_)
  rintro _ s1 ⟨y, rfl, h1⟩
  refine Tr.bind (h1.mono ?_)
  rintro _ s2 ⟨rfl, h2⟩
  simp [he, fnM, fnF, mSeq, mIf, mOr, mAnd, mNot, mB, mUn, mOp, mVar, mC, mRet, mSkip, mOrV, mAndV, mIfE, mCons, mNil, mTup, mLst, mBt, mCall, mCallR, mSet, mDrop, mRaise, noRt, mSl, mPt, mNoP, mPar, mAsg, mYes, mChain, pure_bind', ofO_some, er_bind, assoc', noEr_pure, join_ss, asB_bl, asI_int, List.getElem?_cons_zero, List.getElem?_cons_succ, List.set_cons_zero, List.set_cons_succ, List.map_cons, List.map_nil, List.length_cons, List.length_nil, List.cons_append, List.nil_append, List.replicate, isi_NoneType_int, isi_bool_int, isi_int_int, isi_str_int, isi_list_int, isi_tuple_int, isi_dict_int, isi_NoneType_bool, isi_bool_bool, isi_int_bool, isi_str_bool, isi_list_bool, isi_tuple_bool, isi_dict_bool, isi_NoneType_str, isi_bool_str, isi_int_str, isi_str_str, isi_list_str, isi_tuple_str, isi_dict_str, isi_NoneType_list, isi_bool_list, isi_int_list, isi_str_list, isi_list_list, isi_tuple_list, isi_dict_list, isi_NoneType_tuple, isi_bool_tuple, isi_int_tuple, isi_str_tuple, isi_list_tuple, isi_tuple_tuple, isi_dict_tuple, isi_NoneType_two, isi_bool_two, isi_int_two, isi_str_two, isi_list_two, isi_tuple_two, isi_dict_two]
  exact Tr.pure h2
theorem rR6_ev {n : Int} {s : GS} {ds : List D} {m : Int} {x2 x3 x4 x8 x10 x11 : Option D} {P : Fl → GS → Prop} (hs : GI n none s) (hn : 0 ≤ n ∧ n ≤ 90000) (ih : isHeld (.lst ds) = true) (hl : ds.length ≤ 7) (m0 : 0 ≤ m) (m1 : m ≤ 60)
    (hP : ∀ s', GI (n + 206) none s' → P (.rt (.bl true)) s') : Tr (rR6 [some .gen, some (.lst ds), x2, x3, x4, none, some (.lst ds), some (.int m), x8, none, x10, x11, none, none]) s P := by
  have hd := held_all ih
  have hh : (D.lst ds).wf = true := (ok_lst (by omega) fun d h => hold_gd (hd d h)).wf
  have hcn : cnt (.int m) = true := by
    simp [cnt, m0, m1]
  have hp : f_held_without [.lst ds, .int m] = Mo.pure (.lst (lessB ds m)) := by
    rw [ev_held_without hh (by simp [D.kn]), ih, hcn]
    rfl
  have hb : ∀ d ∈ lessB ds m, holdB d = true := fun d h => hd d (List.mem_filter.mp h).1
  have h8 : (lessB ds m).length ≤ ds.length := List.length_filter_le _ _
  have ok := ok_lst (L := lessB ds m) (by omega) fun d h => hold_gd (hb d h)
  refine rR6_a (L := lessB ds m) (q := lcL) hp (fun x5 => lcL_ev hd hl) (ev_same 4 _ (by decide) (lev_holds hb) ok.wf) (neD_self (n := 4) (by decide) (lev_holds hd)) (by omega) hs.2 ?_
  refine rR6_b (eqD_self (n := 4) (by decide) (lev_holds hd)) ((ev_text hs (by omega) hd (by omega)).mono ?_)
  rintro _ s1 ⟨y, rfl, h1, h2, h3⟩
  exact ⟨y, rfl, ev_refused h3 (by omega) ih hl h1 h2 fun s' h => ⟨rfl, hP s' (h.up (by omega))⟩⟩
theorem ev_right {n : Int} {s : GS} {P : D → GS → Prop} (hs : GI n none s) (hn : 0 ≤ n ∧ n ≤ 80000) (hP : ∀ s', GI (n + 1000) none s' → P (.bl true) s') : Tr (f_law_right [.gen]) s P := by
  unfold f_law_right
  rw [m_law_right_eq]
  refine Tr.noEr (Tr.bind (Tr.bind (rR1_ev hs (by omega) fun ds s1 ih hl G1 => ?_)))
  refine Tr.bind (rR2_ev G1 (by omega) fun m c s2 m0 m1 hc G2 => ?_)
  refine Tr.bind (rR3_ev G2 (by omega) ih hl fun x2 x10 x11 s3 G3 => ?_)
  refine Tr.bind (rR4_ev G3 (by omega) ih hl fun x3 s4 G4 => ?_)
  refine Tr.bind (rR5_ev G4 ih hl m0 m1 hc fun x4 => ?_)
  refine rR6_ev G4 (by omega) ih hl m0 m1 fun s5 G5 => ?_
  exact Tr.pure (hP s5 (G5.up (by omega)))
end K84

set_option Elab.async false
set_option linter.all false
set_option maxRecDepth 100000
set_option maxHeartbeats 1000000
namespace K84
open PySem PySem.Spec PyProof.Rows L2 GxR GenW Ink
def rL1 : MS := (mFor (mItA rngD (mCons (mC (.int 3)) mNil)) (tgN 1) (mIf (mNot (mB (mGen f_law_right (mCall 2 f_law_generator (mCons (mVar 0) (mCons (mVar 1) mNil)))))) (mRet (mC (.bl false))) mSkip))
def rL2 : MS := (mSet 2 (mLst (mCons (mCall 3 f_held_with (mCons (mLst (mCons (mTup (mCons (mC (.int 0)) (mCons (mC (.str "a")) mNil))) (mCons (mTup (mCons (mC (.int 4)) (mCons (mC (.str "")) mNil))) mNil))) (mCons (mC (.int 2)) (mCons (mC (.str "b")) mNil)))) (mCons (mCall 3 f_held_with (mCons (mLst (mCons (mTup (mCons (mC (.int 0)) (mCons (mC (.str "a")) mNil))) (mCons (mTup (mCons (mC (.int 4)) (mCons (mC (.str "")) mNil))) mNil))) (mCons (mC (.int 4)) (mCons (mC (.str "b")) mNil)))) (mCons (mCall 3 f_held_with (mCons (mLst (mCons (mTup (mCons (mC (.int 0)) (mCons (mC (.str "a")) mNil))) (mCons (mTup (mCons (mC (.int 4)) (mCons (mC (.str "")) mNil))) mNil))) (mCons (mC (.int 9)) (mCons (mC (.str "b")) mNil)))) (mCons (mCall 3 f_held_with (mCons (mLst (mCons (mTup (mCons (mC (.int 0)) (mCons (mC (.str "a")) mNil))) (mCons (mTup (mCons (mC (.int 2)) (mCons (mC (.str "c")) mNil))) mNil))) (mCons (mC (.int 1)) (mCons (mC (.str "")) mNil)))) mNil))))))
def rL3 : MS := (mSet 3 (mLst (mCons (mLst (mCons (mTup (mCons (mC (.int 0)) (mCons (mC (.str "a")) mNil))) (mCons (mTup (mCons (mC (.int 2)) (mCons (mC (.str "b")) mNil))) (mCons (mTup (mCons (mC (.int 4)) (mCons (mC (.str "")) mNil))) mNil)))) (mCons (mLst (mCons (mTup (mCons (mC (.int 0)) (mCons (mC (.str "a")) mNil))) (mCons (mTup (mCons (mC (.int 4)) (mCons (mC (.str "b")) mNil))) mNil))) (mCons (mLst (mCons (mTup (mCons (mC (.int 0)) (mCons (mC (.str "a")) mNil))) (mCons (mTup (mCons (mC (.int 9)) (mCons (mC (.str "b")) mNil))) mNil))) (mCons (mLst (mCons (mTup (mCons (mC (.int 0)) (mCons (mC (.str "a")) mNil))) (mCons (mTup (mCons (mC (.int 1)) (mCons (mC (.str "")) mNil))) mNil))) mNil))))))
def rL4 : MS := (mSet 2 (mOp addD (mVar 2) (mLst (mCons (mCall 3 f_held_with (mCons (mLst (mCons (mTup (mCons (mC (.int 3)) (mCons (mC (.str "")) mNil))) mNil)) (mCons (mC (.int 5)) (mCons (mC (.str "")) mNil)))) (mCons (mCall 3 f_held_with (mCons (mLst (mCons (mTup (mCons (mC (.int 3)) (mCons (mC (.str "")) mNil))) mNil)) (mCons (mC (.int 2)) (mCons (mC (.str "")) mNil)))) (mCons (mCall 3 f_held_with (mCons (mLst mNil) (mCons (mC (.int 60)) (mCons (mC (.str "")) mNil)))) (mCons (mCall 2 f_held_without (mCons (mLst (mCons (mTup (mCons (mC (.int 3)) (mCons (mC (.str "")) mNil))) mNil)) (mCons (mC (.int 3)) mNil))) (mCons (mCall 2 f_held_without (mCons (mLst (mCons (mTup (mCons (mC (.int 3)) (mCons (mC (.str "")) mNil))) mNil)) (mCons (mC (.int 4)) mNil))) mNil))))))))
def rL5 : MS := (mRet (mAndV (mCall 2 (f_law_same 5) (mCons (mVar 2) (mCons (mOp addD (mVar 3) (mLst (mCons (mLst (mCons (mTup (mCons (mC (.int 3)) (mCons (mC (.str "")) mNil))) mNil)) (mCons (mLst (mCons (mTup (mCons (mC (.int 2)) (mCons (mC (.str "")) mNil))) mNil)) (mCons (mLst (mCons (mTup (mCons (mC (.int 60)) (mCons (mC (.str "")) mNil))) mNil)) (mCons (mLst mNil) (mCons (mLst (mCons (mTup (mCons (mC (.int 3)) (mCons (mC (.str "")) mNil))) mNil)) mNil))))))) mNil))) (mAndV (mOp isD (mCall 2 f_keeps (mCons (mLst (mCons (mTup (mCons (mC (.int 60)) (mCons (mC (.str "")) mNil))) mNil)) (mCons (mOp mulS (mC (.str "a")) (mC (.int 60))) mNil))) (mC (.bl true))) (mOp isD (mCall 2 f_keeps (mCons (mLst (mCons (mTup (mCons (mC (.int 59)) (mCons (mC (.str "a")) mNil))) mNil)) (mCons (mOp mulS (mC (.str "a")) (mC (.int 60))) mNil))) (mC (.bl true))))))
theorem m_law_eq : m_law = (mSeq rL1 (mSeq rL2 (mSeq rL3 (mSeq rL4 rL5)))) := rfl
abbrev S0 : GS := ⟨none, none⟩
theorem gen_ok {f : List D → Mo D} {m : ME} {env : Envd} {x y z : Int} (h : m env = Mo.pure (.lst [.int x, .int y, .int z])) (hf : Tr (f [.gen]) ⟨some (x, y, z), none⟩ fun d s' => d = .bl true ∧ s'.own = none) : mGen f m env S0 = some ((Rs.ok (D.bl true) : Rs D), S0) := by
  obtain ⟨d, s', e, rfl, ho⟩ := hf
  unfold mGen
  rw [h, pure_bind']
  simp only [S0, e, ho]
theorem rL1_body {ns : List Int} {i : Int} {x2 x3 : Option D} {P : Fl → GS → Prop} (h0 : 0 ≤ i) (h2 : i ≤ 2) (hP : P (.nx [some (.frl ns), some (.int i), x2, x3]) S0) : Tr ((mIf (mNot (mB (mGen f_law_right (mCall 2 f_law_generator (mCons (mVar 0) (mCons (mVar 1) mNil)))))) (mRet (mC (.bl false))) mSkip) [some (.frl ns), some (.int i), x2, x3]) S0 P := by
  obtain ⟨x, y, e⟩ := ev_generator (ns := ns) h0 h2
  have g := gen_ok (f := f_law_right) (m := mCall 2 f_law_generator (mCons (mVar 0) (mCons (mVar 1) mNil))) (env := [some (.frl ns), some (.int i), x2, x3]) (x := x) (y := y) (z := 1000 * i) (by simp [e, fnM, fnF, mSeq, mIf, mOr, mAnd, mNot, mB, mUn, mOp, mVar, mC, mRet, mSkip, mOrV, mAndV, mIfE, mCons, mNil, mTup, mLst, mBt, mCall, mCallR, mSet, mDrop, mRaise, noRt, mSl, mPt, mNoP, mPar, mAsg, mYes, mChain, pure_bind', ofO_some, er_bind, assoc', noEr_pure, join_ss, asB_bl, asI_int, List.getElem?_cons_zero, List.getElem?_cons_succ, List.set_cons_zero, List.set_cons_succ, List.map_cons, List.map_nil, List.length_cons, List.length_nil, List.cons_append, List.nil_append, List.replicate, isi_NoneType_int, isi_bool_int, isi_int_int, isi_str_int, isi_list_int, isi_tuple_int, isi_dict_int, isi_NoneType_bool, isi_bool_bool, isi_int_bool, isi_str_bool, isi_list_bool, isi_tuple_bool, isi_dict_bool, isi_NoneType_str, isi_bool_str, isi_int_str, isi_str_str, isi_list_str, isi_tuple_str, isi_dict_str, isi_NoneType_list, isi_bool_list, isi_int_list, isi_str_list, isi_list_list, isi_tuple_list, isi_dict_list, isi_NoneType_tuple, isi_bool_tuple, isi_int_tuple, isi_str_tuple, isi_list_tuple, isi_tuple_tuple, isi_dict_tuple, isi_NoneType_two, isi_bool_two, isi_int_two, isi_str_two, isi_list_two, isi_tuple_two, isi_dict_two]) (ev_right (n := 2000) ⟨⟨x, y, 1000 * i, rfl, by omega, by omega⟩, rfl⟩ (by decide) fun s' G => ⟨rfl, G.2⟩)
  refine ⟨_, _, ?_, hP⟩
  show ((mNot (mB (mGen f_law_right (mCall 2 f_law_generator (mCons (mVar 0) (mCons (mVar 1) mNil)))))) [some (.frl ns), some (.int i), x2, x3]).bind _ S0 = _
  unfold mNot mB Mo.bind
  rw [g]
  rfl
theorem rL1_ev {ns : List Int} {P : Fl → GS → Prop} (hP : P (.nx [some (.frl ns), some (.int 2), none, none]) S0) : Tr (rL1 [some (.frl ns), none, none, none]) S0 P := by
  unfold rL1 mFor
  refine Tr.bind ?_
  have er : rngD [.int 3] = some [.int 0, .int 1, .int 2] := rfl
  simp [mItA, er, fnM, fnF, mSeq, mIf, mOr, mAnd, mNot, mB, mUn, mOp, mVar, mC, mRet, mSkip, mOrV, mAndV, mIfE, mCons, mNil, mTup, mLst, mBt, mCall, mCallR, mSet, mDrop, mRaise, noRt, mSl, mPt, mNoP, mPar, mAsg, mYes, mChain, pure_bind', ofO_some, er_bind, assoc', noEr_pure, join_ss, asB_bl, asI_int, List.getElem?_cons_zero, List.getElem?_cons_succ, List.set_cons_zero, List.set_cons_succ, List.map_cons, List.map_nil, List.length_cons, List.length_nil, List.cons_append, List.nil_append, List.replicate, isi_NoneType_int, isi_bool_int, isi_int_int, isi_str_int, isi_list_int, isi_tuple_int, isi_dict_int, isi_NoneType_bool, isi_bool_bool, isi_int_bool, isi_str_bool, isi_list_bool, isi_tuple_bool, isi_dict_bool, isi_NoneType_str, isi_bool_str, isi_int_str, isi_str_str, isi_list_str, isi_tuple_str, isi_dict_str, isi_NoneType_list, isi_bool_list, isi_int_list, isi_str_list, isi_list_list, isi_tuple_list, isi_dict_list, isi_NoneType_tuple, isi_bool_tuple, isi_int_tuple, isi_str_tuple, isi_list_tuple, isi_tuple_tuple, isi_dict_tuple, isi_NoneType_two, isi_bool_two, isi_int_two, isi_str_two, isi_list_two, isi_tuple_two, isi_dict_two]
  refine Tr.pure ?_
  unfold Ink.forM
  simp only [tgN, List.set_cons_zero, List.set_cons_succ, ofO_some, pure_bind']
  refine Tr.bind (rL1_body (by decide) (by decide) ?_)
  unfold Ink.forM
  simp only [tgN, List.set_cons_zero, List.set_cons_succ, ofO_some, pure_bind']
  refine Tr.bind (rL1_body (by decide) (by decide) ?_)
  unfold Ink.forM
  simp only [tgN, List.set_cons_zero, List.set_cons_succ, ofO_some, pure_bind']
  refine Tr.bind (rL1_body (by decide) (by decide) ?_)
  unfold Ink.forM
  exact Tr.pure hP
theorem tail_ev (ns : List Int) (x1 : Option D) : mSeq rL2 (mSeq rL3 (mSeq rL4 rL5)) [some (.frl ns), x1, none, none] S0 = some ((Rs.ok (Fl.rt (.bl true)) : Rs Fl), S0) := by kernel_rfl
theorem law_ev (ns : List Int) : f_law [.frl ns] S0 = some ((Rs.ok (D.bl true) : Rs D), S0) := by
  have h : Tr (f_law [.frl ns]) S0 fun d s => d = .bl true ∧ s = S0 := by
    unfold f_law
    rw [m_law_eq]
    refine Tr.noEr (Tr.bind (Tr.bind (rL1_ev ?_)))
    exact ⟨_, _, tail_ev ns _, Tr.pure ⟨rfl, rfl⟩⟩
  obtain ⟨d, s, e, rfl, rfl⟩ := h
  exact e
end K84

set_option Elab.async false
set_option linter.all false
set_option maxRecDepth 100000
set_option maxHeartbeats 1000000
namespace K84
open PySem PySem.Spec PyProof.Rows L2 GxR GenW Ink
abbrev RW : PySem.W.OpenLaw := PySem.Challenge.rw_inksays_k84_whole_held_signs
section
variable {w : World} {K : PySem.W.Frag} {mg : Str → Option Value} {base h : Heap}
theorem ba3 {a b : Bool} (h : (a && b) = true) : a = true ∧ b = true := Bool.and_eq_true_iff.mp h
theorem err_of {x : Str} {i : Nat} (X : K.In h) (G : h.Ns mainGlobals mg) (gx : mg x = some (.ref (He.ga K x))) (sup : mg "super" = none) (e : excB K x = true) (o : PySem.W.nsIn K cStatics "thirdparty.any" = some none)
    (c : ∃ (qual : Str) (p1 p2 p3 q1 q2 q3 q4 q5 q6 q7 q8 q9 q10 : Pos), (q3.endLine == q5.line) = true ∧ (q6.line == q6.line) = true ∧ CloD K PP.main.file "__init__" qual (iArgs p1 p2 p3) (iBody q1 q2 q3 q4 q5 q6 q7 q8 q9 q10) iScope [.non] (He.ga K x) (He.ma K (He.ga K x) "__init__")) :
    ErrC PP K mg x (He.ga K x) (He.ma K (He.ga K x) "__init__") ∧ PySem.W.exmOne K (.ref (He.ga K x)) (.ref (He.ga K "InkError")) = some true := by
  unfold excB at e
  simp only [Bool.and_eq_true, decide_eq_true_eq] at e
  obtain ⟨e1, e2, e3, e4, e5, e6, e7, e8, e9, e10, e11, e12, e13, e14, e15⟩ := e
  exact ⟨⟨gx, oexB_ok e1, e2, e3, He.eqO_ok e4, He.eqO_ok e5, He.eqO_ok e6, e7, e8, e9, e10, e11, e12, He.eqO_ok e14, e15, c, o, sup, by decide +kernel⟩, e13⟩
theorem fx_of (X : K.In h) (G : h.Ns mainGlobals mg) (S : SaysY fa fn tf ex fc h K) (TB : ∀ t ∈ tf.map (He.cT K), TabB base mg t.1 t.2) : Fx w K mg base := by
  have gl : ∀ (i : Nat) (x : Str), fa[i]? = some (.glo x) → mg x = some (.ref (He.ga K x)) := fun i x e => He.glo_ok X G (S.d.fact i (f := .glo x) e)
  have fr : ∀ (i : Nat) (x : Str), fa[i]? = some (.free x) → mg x = none := fun i x e => He.free_ok X G (S.d.fact i (f := .free x) e)
  have m := S.more
  unfold ex at m
  simp only [Bool.and_eq_true, decide_eq_true_eq, List.all_eq_true] at m
  obtain ⟨eN, eT, eH, cN, cT', cH, o, sp, tk, kt⟩ := m
  have o := He.eqO_ok o
  have sup := fr 24 "super" rfl
  have fcs := S.c
  have f0 : fnC K (ini "InvalidNumber" 2).at_ = valC (ini "InvalidNumber" 2) := congrArg (fun z : List FnC => z.getD 0 none) fcs
  have f1 : fnC K (ini "InvalidText" 3).at_ = valC (ini "InvalidText" 3) := congrArg (fun z : List FnC => z.getD 1 none) fcs
  have f2 : fnC K (ini "InvalidHeld" 4).at_ = valC (ini "InvalidHeld" 4) := congrArg (fun z : List FnC => z.getD 2 none) fcs
  have EN := err_of (i := 2) X G (gl 3 "InvalidNumber" rfl) sup eN o ⟨_, _, _, _, _, _, _, _, _, _, _, _, _, _, rfl, rfl, clo_ok f0 cN⟩
  have ET := err_of (i := 3) X G (gl 4 "InvalidText" rfl) sup eT o ⟨_, _, _, _, _, _, _, _, _, _, _, _, _, _, rfl, rfl, clo_ok f1 cT'⟩
  have EH := err_of (i := 4) X G (gl 5 "InvalidHeld" rfl) sup eH o ⟨_, _, _, _, _, _, _, _, _, _, _, _, _, _, rfl, rfl, clo_ok f2 cH⟩
  refine ⟨S.d, gl, fr, He.int_ok X G (S.d.fact 0 (f := .int "MOST_NUMBER" 60) rfl), He.str_ok X G (S.d.fact 1 (f := .str "SIGNS" " 0123456789abcdefghijklmnopqrstuvwxyz") rfl), fun k => ?_, EH.1, EN.1, ET.1, fun k hk j hj => ?_, He.eqO_ok sp, tk, fun k => ?_, fun i x e => ?_, fun i x e => ?_⟩
  · match k with
    | 0 => exact ⟨_, _, EH.1⟩
    | 1 => exact ⟨_, _, EN.1⟩
    | k + 2 => exact ⟨_, _, ET.1⟩
  · have mem : ∀ k, errN k ∈ (["InvalidNumber", "InvalidText", "InvalidHeld"] : List Str) := fun k => by
      match k with
      | 0 => simp [errN]
      | 1 => simp [errN]
      | k + 2 => simp [errN]
    have q := of_decide_eq_true (kt (errN j) (mem j) (errN k) (mem k))
    refine q.trans (congrArg some ?_)
    match k, hk, j, hj with
    | 0, _, 0, _ => decide +kernel
    | 0, _, 1, _ => decide +kernel
    | 0, _, 2, _ => decide +kernel
    | 1, _, 0, _ => decide +kernel
    | 1, _, 1, _ => decide +kernel
    | 1, _, 2, _ => decide +kernel
    | 2, _, 0, _ => decide +kernel
    | 2, _, 1, _ => decide +kernel
    | 2, _, 2, _ => decide +kernel
  · match k with
    | 0 => exact EH.2
    | 1 => exact EN.2
    | k + 2 => exact ET.2
  · exact List.mem_map.mpr ⟨_, List.mem_of_getElem? e, rfl⟩
  · exact TB _ (List.mem_map.mpr ⟨_, List.mem_of_getElem? e, rfl⟩)
theorem law_sp {H : Hp} {a : Addr} {ns : List Int} (ht : ∀ t ∈ tf.map (He.cT K), H t.2 = some (.tbl #[])) (hs : (∃ o, H a = some (.frz o (.lst (ns.map V.int)))) ∨ KW K a ns) : SpM (Mk K) 1 f_law [.ref a] H (fun v _ => v = .bl true) fun _ _ _ => False := by
  refine ⟨rfl, ⟨fun _ => False, none, none, nofun, nofun⟩, S0, [.frl ns], ⟨fun _ => False.elim, fun P hP => ?_, trivial, trivial, fun _ => nofun⟩, .cons ?_ .nil, .ok (.bl true), S0, law_ev ns, fun H' _ _ v hv => ?_⟩
  · obtain ⟨p, hp, rfl⟩ := List.mem_map.mp hP
    exact ⟨#[], ht _ (List.mem_map_of_mem hp), trivial⟩
  · rcases hs with ⟨o, e⟩ | e
    · exact .frl (fun z => z) e
    · exact .frk e
  · cases hv
    rfl
end
theorem fin : RW.Holds := by
  w_on; o_law
  refine HandSHeadRun.head_any (r := PySem.W.OpenLaw.row RW) (q := PySem.W.view (PySem.W.OpenLaw.row RW).prog [37]) (H := hk) (ob := ob) (M := 2000) (loose := names) (d := HandSHeadRun.topDef (PySem.W.OpenLaw.row RW).prog 37) (kwd := []) ob_eq
    (by kernel_rfl) (fun s => by kernel_rfl) run (by kernel_rfl) (by kernel_rfl) (by kernel_rfl) (by rfl) (by first | assumption | decide +kernel) (by decide +kernel) ⟨rfl, rfl, rfl, rfl, rfl, by decide +kernel⟩ ?hw ?hc
  case hw => w_witness2
  case hc =>
    refine Att.attach_callB (l := RW) (n := 63) rfl (by kernel_rfl) fun w s0 s1 mg mb fa o pm cd doc a vs ns G Y ho hd hcd hmg hobj hints hlen hbits hg => ?_
    obtain ⟨K, KX, S⟩ := Y
    have e0 : (HandSHeadRun.topDef (PySem.W.OpenLaw.row RW).prog 37).name = ("law" : PySem.Str) := by kernel_rfl
    rw [e0] at hmg
    have GN := G.T.g
    have e1 : mg "law" = some (.ref (He.ga K "law")) := He.glo_ok KX GN (S.d.fact 53 (f := .glo "law") rfl)
    rw [hmg] at e1
    cases e1
    have TT : ∀ t ∈ tf.map (He.cT K), PySem.W.codeHdIn K t.1 t.2 = true ∧ K.lookup t.2 = none ∧ s1.heap.get? t.2 = some { cls := .none, data := .fields #[] } := fun t ht => by
      obtain ⟨p, hp, rfl⟩ := List.mem_map.mp ht
      exact S.tab p hp
    have R : Rest K mg (tf.map (He.cT K)) s1.heap := ⟨KX, GN, ⟨mb, G.T.b, G.T.builtins⟩, G.T.nolimit, fun t ht => (TT t ht).2.2, fun t ht => (TT t ht).2.1, fun t ht => PySem.W.codeHd_of_K KX (TT t ht).1, G.T.bmain⟩
    refine law_callG (k := 16) (x := "script") (sp := SpM (Mk K) 1 f_law) R hg hobj hints (Nat.le_trans hlen (by decide)) ⟨rfl, by decide, by decide⟩ (fun B TB => ?_) fun H ht hs => law_sp ht hs
    obtain ⟨fd, D, b, _⟩ := got_law (w := w) (fx_of (w := w) (base := B) KX GN S TB)
    exact ⟨fd, D, b⟩
end K84

set_option Elab.async false
set_option maxRecDepth 100000 in
set_option maxHeartbeats 0 in
theorem PySem.Challenge.cw_inksays_k84_whole_held_signs_holds : PySem.Challenge.rw_inksays_k84_whole_held_signs.Holds := by
  exact K84.fin
