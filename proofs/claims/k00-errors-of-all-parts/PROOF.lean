import PyProof.Rows.All
import Wide.All
import OpenK.AllK
import Wide.FinOn
import KE.KStateDown
import HandS.Head0
import HandS.Head1
import HandS.Head2
import HandS.HeadEnd
import HandS.HeadHook1
import HandS.HeadHook2
import HandS.HeadHook4
import HandS.EndTab
import HandS.HeadWalk
import HandS.IsInst
import HandS.ExcInit
import HandS.RaiseMore
import KE.KExcSuper
import HandS.ExcField
import HandS.Base
import HandS.Call
import HandS.Ends
import HandS.More
import HandS.Words
import HandS.WordsExc
import HandS.Defaults
import HandS.Codes
import HandS.Zip
import PyProof.ZipIter
import PyProof.EnumIter
import HandS.ForMost
import HandS.SortInts
import HandS.Style
import HandS.Flow
import HandS.Conv
import HandS.Lambda
import HandS.TupAny
import HandS.TupMul
import PyProof.StrOps2
import HandS.ForExc
import KE.GoesEnum
import HandS.Small
import KE.KExcIs
import HandS.TupSets
import HandS.SortRule
import PyProof.ReprRoads
import PyProof.FitsInt
import HandS.ExcValue
import HandS.OwnEq
import PyProof.InstNe
import PyProof.NeKinds
import PySem.Challenge.RW_ruleshadows_k00_errors_of_all_parts
set_option Elab.async false
set_option linter.all false
set_option maxRecDepth 100000
set_option maxHeartbeats 4000000
section T_HA
namespace Hy
open PySem PySem.Spec PyProof.Rows L2
/-- an empty table -/
def tabE : Option Obj → Bool
  | some ⟨.none, none, .fields vs, sl⟩ => vs.isEmpty && sl.isEmpty
  | _ => false
theorem tabE_ok {o : Option Obj} (h : tabE o = true) : o = some { cls := .none, data := .fields #[] } := by
  unfold tabE at h
  split at h
  · rw [Bool.and_eq_true] at h
    rw [Array.isEmpty_iff.mp h.1, Array.isEmpty_iff.mp h.2]
  · cases h
theorem frG_mem {g : Addr → Option Obj} {a : Addr} {o : Obj} : ∀ {as : List Addr}, (He.frG g as).lookup a = some o → a ∈ as ∧ g a = some o
  | [], e => nomatch (show (none : Option Obj) = some o from e)
  | b :: r, e => by
    unfold He.frG at e
    rw [List.filterMap_cons] at e
    cases q : g b with
    | none =>
      rw [q] at e
      obtain ⟨h1, h2⟩ := frG_mem (as := r) e
      exact ⟨List.mem_cons_of_mem _ h1, h2⟩
    | some u =>
      rw [q] at e
      simp only [Option.map_some, List.lookup_cons] at e
      split at e
      · rename_i z
        cases e
        rw [eq_of_beq z]
        exact ⟨List.mem_cons_self, q⟩
      · obtain ⟨h1, h2⟩ := frG_mem (as := r) e
        exact ⟨List.mem_cons_of_mem _ h1, h2⟩
/-- a def's code object and its table -/
def cdT (K : PySem.W.Frag) (x : Str) : Option (Addr × Addr) := match K.lookup (He.fAd K (x, none)) with
  | some ⟨_, _, .func fd, _⟩ => match fd.code with
    | .ref cd => match K.lookup cd with
      | some ⟨_, _, .fields vs, _⟩ => match vs.getD 11 .none with
        | .ref P => some (cd, P)
        | _ => none
      | _ => none
    | _ => none
  | _ => none
def isS : Value → Bool
  | .str _ _ => true
  | _ => false
def isN : Value → Bool
  | .int _ _ => true
  | _ => false
def isT : Value → Bool
  | .bool _ => true
  | _ => false
def headB (K : PySem.W.Frag) (c P : Addr) : Bool := match K.lookup c with
  | some ⟨.type "code", _, .fields vs, _⟩ => decide (vs[11]? = some (.ref P)) && (isS (vs.getD 18 .none) && (isN (vs.getD 7 .none) && (isT (vs.getD 9 .none) && (isN (vs.getD 10 .none) && decide (c ≠ P)))))
  | _ => false
/-- an own __init__ of a class of the package -/
abbrev SupW : Type := Option (Str × Str × Arguments × FuncBody × Scope × Addr × List Str × Addr)
def supV (K : PySem.W.Frag) (C : Str) : SupW := match K.lookup (He.fAd K (C, some "__init__")) with
  | some ⟨_, _, .func fd, _⟩ => some (fd.name, fd.qualname, fd.params, fd.body, fd.scope, fd.globals, fd.closure.map (·.1), fd.builtins)
  | _ => none
def cellsOf (K : PySem.W.Frag) (C : Str) : List Addr := match K.lookup (He.fAd K (C, some "__init__")) with
  | some ⟨_, _, .func fd, _⟩ => fd.closure.map (·.2)
  | _ => []
def asY (g : Addr → Option Obj) (n : Nat) (cs : List Str) : List Addr := ((if cs.isEmpty then [] else [cStatics, sysModules]) ++ He.asD g n ++ cs.flatMap fun C => cellsOf (He.frG g (He.asD g n)) C).filter fun a => !tabE (g a)
def frY (g : Addr → Option Obj) (n : Nat) (cs : List Str) : PySem.W.Frag := He.frG g (asY g n cs)
def tabOk (K : PySem.W.Frag) (g : Addr → Option Obj) (x : Str) : Bool := match cdT K x with
  | some p => tabE (g p.2) && headB K p.1 p.2
  | none => false
abbrev AlY : Type := Bool × List SupW × He.AlD
def obY (n : Nat) (fa : List He.Fa) (fn : List He.DefD) (xt : PySem.W.Frag → Bool) (cs lx : List Str) (g : Addr → Option Obj) : AlY :=
  (xt (frY g n cs) && lx.all (tabOk (frY g n cs) g), cs.map (supV (frY g n cs)), He.obsD fa fn (frY g n cs))
def SaysY (fa : List He.Fa) (fn : List He.DefD) (xt : PySem.W.Frag → Bool) (cs lx : List Str) (sv : List SupW) (h : Heap) : Prop := ∃ F : PySem.W.Frag, F.In h ∧ xt F = true ∧
  (∀ x ∈ lx, ∃ p, cdT F x = some p ∧ h.get? p.2 = some { cls := .none, data := .fields #[] } ∧ F.lookup p.2 = none ∧ headB F p.1 p.2 = true) ∧ cs.map (supV F) = sv ∧ He.SaysD fa fn F
def hookY (n : Nat) (fa : List He.Fa) (fn : List He.DefD) (xt : PySem.W.Frag → Bool) (cs lx : List Str) (sv : List SupW) : PySem.W.Hook where
  α := AlY
  obs := fun s => obY n fa fn xt cs lx s.heap.get?
  val := fun _ => (true, sv, He.valD fn)
  says := fun _ h => SaysY fa fn xt cs lx sv h
  of := fun _ s e => by
    have e1 := congrArg Prod.fst e
    have e2 := congrArg Prod.snd e
    have e3 : xt (frY s.heap.get? n cs) = true ∧ (lx.all (tabOk (frY s.heap.get? n cs) s.heap.get?)) = true := by
      have : (xt (frY s.heap.get? n cs) && lx.all (tabOk (frY s.heap.get? n cs) s.heap.get?)) = true := e1
      simpa using this
    refine ⟨frY s.heap.get? n cs, He.frG_in, e3.1, fun x hx => ?_, congrArg Prod.fst e2, congrArg Prod.snd e2⟩
    have q := List.all_eq_true.mp e3.2 x hx
    unfold tabOk at q
    split at q
    · rename_i p hp
      rw [Bool.and_eq_true] at q
      refine ⟨p, hp, tabE_ok q.1, ?_, q.2⟩
      cases z : (frY s.heap.get? n cs).lookup p.2 with
      | none => rfl
      | some o =>
        have m := (frG_mem z).1
        have := (List.mem_filter.mp m).2
        rw [q.1] at this
        cases this
    · cases q
  keeps := fun _ _ _ ⟨F, hF, a, b, c, d⟩ k => ⟨F, PySem.W.Frag.In.keeps hF k, a, fun x hx => by
    obtain ⟨p, p1, p2, p3, p4⟩ := b x hx
    exact ⟨p, p1, k _ _ p2, p3, p4⟩, c, d⟩
section
open PySem.W PySem.Calls HandSHeadRun
def Run1 (r : OpenRow) (q : Program) (M : Nat) (loose : List PySem.Str) (w : World) : Prop :=
  ∀ os : OsState, (endF (stepQ (denQ tabQ) r.prog w) M r.prog w os).map (fun s => (looksF r.prog (boot_heap w.params) s.abs, seenQ q loose (importedModules r.prog.main.body) (fun s => xlAt q [] s && recOk r.toRowW.records s) s.abs)) = some (true, openGood q loose)
def Run2 (r : OpenRow) {α : Type} (ob : SharedT → α) (v : α) (M : Nat) (w : World) : Prop :=
  ∀ os : OsState, (endF (stepQ (denQ tabQ) r.prog w) M r.prog w os).map ob = some v
theorem run_of {r : OpenRow} {q : Program} {H : Hook} {ob : SharedT → H.α} {M : Nat} {loose : List PySem.Str} {w : World} (h1 : Run1 r q M loose w) (h2 : Run2 r ob (H.val w) M w) : RunEq r q H ob M loose w := by
  intro os
  have a := h1 os
  have b := h2 os
  generalize endF (stepQ (denQ tabQ) r.prog w) M r.prog w os = S at a b ⊢
  cases S with
  | none => cases a
  | some s =>
    have a := Option.some.inj a
    have b : ob s = H.val w := Option.some.inj b
    have a1 : looksF r.prog (boot_heap w.params) s.abs = true := congrArg Prod.fst a
    have a2 : seenQ q loose (importedModules r.prog.main.body) (fun s => xlAt q [] s && recOk r.toRowW.records s) s.abs = openGood q loose := congrArg Prod.snd a
    show some (looksF r.prog (boot_heap w.params) s.abs, seenQ q loose (importedModules r.prog.main.body) (fun s => xlAt q [] s && recOk r.toRowW.records s) s.abs, ob s) = some (true, openGood q loose, H.val w)
    rw [a1, a2, b]
end
theorem obY_eq {n : Nat} {fa : List He.Fa} {fn : List He.DefD} {xt : PySem.W.Frag → Bool} {cs lx : List PySem.Str} {sv : List SupW} {g : PySem.Addr → Option PySem.Obj} {s : PySem.Shared} (h : ∀ a, g a = s.heap.get? a) : obY n fa fn xt cs lx g = (hookY n fa fn xt cs lx sv).obs s := by
  have : g = s.heap.get? := funext h
  subst this
  rfl
end Hy
namespace Z
open PySem PySem.Spec PyProof.Rows L2
def attrOf (x : Str) : Str := if x = "TooMany" then "most" else if x = "NoWatch" then "name" else if x = "NoMark" then "name" else if x = "BadText" then "at" else "part"
def clB (K : PySem.W.Frag) (C : Addr) : Bool := decide (PySem.W.findIn K (.ref C) "__class__" = some (some (.builtin "object.__class__"))) && (decide (PySem.W.specialIn K (.builtin "object.__class__") "__get__" = some (some (.builtin "getset_descriptor.__get__"))) &&
  (decide (PySem.W.takesIn K (.builtin "object.__class__") = some true) && decide (PySem.W.mroIn K C (.type "object") = some true)))
def exB (K : PySem.W.Frag) (C : Addr) : Bool := clB K C && ((PySem.W.clsIn K C).isSome && (decide (PySem.W.findIn K (.ref C) "__getattribute__" = some (some (.builtin "BaseException.__getattribute__"))) && (decide (PySem.W.findIn K (.ref C) "__getattr__" = some none) && decide (PySem.W.subIn K (.ref C) (.type "BaseException") = some true))))
def inB (K : PySem.W.Frag) (x : Str) : Bool := clB K (He.ga K x) && (He.Fa.cls x).ok K
def isaB (K : PySem.W.Frag) (es is : List Str) (C : Str) : Bool := (["NoneType", "bool", "int", "str", "list", "tuple", "dict"].all fun T => decide (PySem.W.kitOne K (.type T) (.ref (He.ga K C)) = some false)) &&
  ((is.all fun x => inB K x && decide (PySem.W.kitOne K (.ref (He.ga K x)) (.ref (He.ga K C)) = some (decide (x = C)))) && es.all fun x => exB K (He.ga K x) && decide (PySem.W.kitOne K (.ref (He.ga K x)) (.ref (He.ga K C)) = some (decide (x = C) || (decide (C = "RuleError") || decide (C = "ValueError")))))
def isaVB (K : PySem.W.Frag) (es is : List Str) : Bool := (["NoneType", "bool", "int", "str", "list", "tuple", "dict"].all fun T => decide (PySem.W.kitOne K (.type T) (.type "ValueError") = some false)) &&
  ((is.all fun x => inB K x && decide (PySem.W.kitOne K (.ref (He.ga K x)) (.type "ValueError") = some false)) && es.all fun x => exB K (He.ga K x) && decide (PySem.W.kitOne K (.ref (He.ga K x)) (.type "ValueError") = some true))
def hexB (K : PySem.W.Frag) (es : List Str) : Bool := es.all fun x => decide (PySem.W.exmOne K (.ref (He.ga K x)) (.ref (He.ga K "RuleError")) = some true)
def fldB (K : PySem.W.Frag) (f x : Str) : Bool := xfB K (He.ga K x) && decide (PySem.W.findIn K (.ref (He.ga K x)) f = some none)
def raiB (K : PySem.W.Frag) (C : Addr) : Bool := PySem.W.excIn K C [.type "ValueError", .type "Exception", .type "BaseException", .type "object"] "ValueError.__new__" && (PySem.W.keepIn K (.ref C) && (decide (PySem.W.subIn K (.ref C) (.type "BaseException") = some true) && decide (PySem.W.typeIn K (.ref C) = some (.type "type"))))
def clsB (K : PySem.W.Frag) (C : Addr) : Bool := match K.lookup C with
  | some ⟨.type "type", _, .cls cd, sl⟩ => (match cd.mro, sl.toList with
    | .ref C' :: bm, [_, _, _, _, some (.builtin n), _] => decide (C' = C) && (decide (n = "ValueError.__new__") && (!cd.hasDel && (cd.hasDict && PySem.HandSPX.refsVE bm)))
    | _, _ => false)
  | _ => false
structure SupT where
  qual : Str
  params : Arguments
  body : List Stmt
  scope : Scope
def SupT.val (t : SupT) : Hy.SupW := some ("__init__", t.qual, t.params, .stmts t.body, t.scope, mainGlobals, ["__class__"], builtinsNs)
def noneB : Value → Bool
  | .none => true
  | _ => false
def fnB (P : Program) (K : PySem.W.Frag) (C fI : Addr) (qual : Str) : Bool := match K.lookup fI with
  | some ⟨.type "function", _, .func fd, _⟩ => noneB fd.defaults && (noneB fd.kwdefaults && match fd.code, fd.closure with
    | .ref cd, [(_, cc)] => PySem.W.codeIn K (.ref cd) qual && ((match K.lookup cd with
        | some ⟨_, _, .fields vs, _⟩ => (match vs[2]? with
          | some (Value.str file _) => (P.main.file : Str) == file
          | _ => false)
        | _ => false) && (match K.lookup cc with
        | some ⟨_, _, .cell (some (.ref D)), _⟩ => decide (D = C)
        | _ => false))
    | _, _ => false)
  | _ => false
def supB2 (P : Program) (K : PySem.W.Frag) (x qual : Str) : Bool := clsB K (He.ga K x) && (decide (PySem.W.findIn K (.ref (He.ga K x)) "__setattr__" = some (some (.builtin "object.__setattr__"))) && (decide (PySem.W.findIn K (.ref (He.ga K x)) (attrOf x) = some none) &&
  (PySem.W.keepIn K (.ref (He.ga K x)) && (decide (PySem.W.subIn K (.ref (He.ga K x)) (.type "BaseException") = some true) && (decide (PySem.W.subIn K (.ref (He.ga K x)) (.type "ValueError") = some true) && (decide (PySem.W.typeIn K (.ref (He.ga K x)) = some (.type "type")) &&
  (decide (PySem.W.mroIn K (He.ga K x) (.ref (He.ga K x)) = some true) && (decide (PySem.W.nsIn K cStatics "thirdparty.any" = some none) && (decide (PySem.W.ks_superIn K (He.ga K x) (He.ga K x) "__init__" = some (some (.builtin "ValueError.__init__"))) &&
  (PySem.W.excInitIn K (He.ga K x) PySem.HandSPX.veTail "ValueError.__new__" && (decide (PySem.W.findIn K (.ref (He.ga K x)) "__init__" = some (some (.ref (He.fAd K (x, some "__init__"))))) && (decide (PySem.W.typeIn K (.ref (He.fAd K (x, some "__init__"))) = some (.type "function")) &&
  fnB P K (He.ga K x) (He.fAd K (x, some "__init__")) qual))))))))))))
def xtB (P : Program) (es is clss plain : List Str) (sups xfl : List (Str × Str)) (F : PySem.W.Frag) : Bool :=
  clss.all (isaB F es is) && (plain.all (fun x => raiB F (He.ga F x)) && (sups.all (fun q => supB2 P F q.1 q.2) && (xfl.all (fun q => fldB F q.1 q.2) && hexB F es)))
def smB (F : PySem.W.Frag) : Bool := match F.lookup sysModules with
  | some ⟨.type "dict", _, _, _⟩ => true
  | _ => false
end Z
end T_HA
section T_K00h
namespace K00
open PySem PySem.Spec PyProof.Rows L2
abbrev pw := PySem.Challenge.pw_ruleshadows_k00_errors_of_all_parts
def top (i : Nat) : Stmt := pw.main.body.getD i (.Pass ⟨0, 0, 0, 0⟩)
abbrev dsc (i : Nat) : Scope := defScope (top i)
abbrev dbd (i : Nat) : List Stmt := defBody (top i)
def clsM (i j : Nat) : Stmt := match top i with
  | .ClassDef _ _ _ b _ _ _ _ _ _ _ => b.getD j (.Pass ⟨0, 0, 0, 0⟩)
  | _ => .Pass ⟨0, 0, 0, 0⟩
def defs1 : List (Nat × Str) := ([(26, "_law_begun"), (27, "_law_mixed"), (28, "_law_take"), (29, "_law_pick")] : List (Nat × Str))
def defs2 : List (Nat × Str) := ([(30, "_law_any"), (31, "_law_kinds"), (32, "_law_plain_errors"), (33, "_law_errors_of"), (34, "law")] : List (Nat × Str))
def blt0 : List Str := ["len", "tuple", "list", "dict", "sorted", "min", "max", "sum", "all", "any", "abs", "int", "bool", "isinstance", "range", "enumerate", "zip"]
abbrev sU0 : Stmt := clsM 3 0
def tU0 : Z.SupT := ⟨"BadNumber.__init__", defArgs sU0, defBody sU0, defScope sU0⟩
abbrev sU1 : Stmt := clsM 7 0
def tU1 : Z.SupT := ⟨"BadBook.__init__", defArgs sU1, defBody sU1, defScope sU1⟩
abbrev sU2 : Stmt := clsM 8 0
def tU2 : Z.SupT := ⟨"TooMany.__init__", defArgs sU2, defBody sU2, defScope sU2⟩
abbrev sU3 : Stmt := clsM 22 0
def tU3 : Z.SupT := ⟨"NoWatch.__init__", defArgs sU3, defBody sU3, defScope sU3⟩
abbrev sU4 : Stmt := clsM 23 0
def tU4 : Z.SupT := ⟨"NoMark.__init__", defArgs sU4, defBody sU4, defScope sU4⟩
abbrev sU5 : Stmt := clsM 24 0
def tU5 : Z.SupT := ⟨"BadText.__init__", defArgs sU5, defBody sU5, defScope sU5⟩
def es : List Str := ["RuleError", "BadPrime", "BadNumber", "BadWord", "BadRow", "BadTable", "BadBook", "TooMany", "NotAlike", "BadMap", "NotFull", "BadLower", "BadOrder", "NotTidy", "BadWeb", "BadCells", "BadStart", "BadDeed", "BadName", "BadLive", "NothingLeft", "NoWatch", "NoMark", "BadText"]
def is : List Str := []
def frees : List Str := ["ValueError", "Rules", "Lowered", "Rungs", "Workshop", "LastWord", "LiveBook", "Desk", "Stepper", "repr", "super"]
def dOf (i : Nat) (x : Str) : He.DefD := ⟨(x, none), x, x, defArgs (top i), defBody (top i), defScope (top i), [], []⟩
def fn : List He.DefD := (defs1.map (fun q => dOf q.1 q.2) ++ defs2.map (fun q => dOf q.1 q.2))
def fa : List He.Fa := [] ++ (defs1.map (fun q => He.Fa.glo q.2) ++ defs2.map (fun q => He.Fa.glo q.2)) ++ (es ++ is).map He.Fa.glo ++ (blt0 ++ frees).map He.Fa.free
def xt0 (F : PySem.W.Frag) : Bool := true
abbrev R : PySem.W.OpenRow := PySem.W.OpenLaw.row PySem.Challenge.rw_ruleshadows_k00_errors_of_all_parts
def xt (F : PySem.W.Frag) : Bool := Z.smB F && (Z.isaVB F es is && (xt0 F && Z.xtB R.prog es is ["BadPrime", "BadWord", "BadRow", "BadTable", "NotAlike", "BadMap", "NotFull", "BadLower", "BadOrder", "NotTidy", "BadWeb", "BadCells", "BadStart", "BadDeed", "BadName", "BadLive", "NothingLeft", "BadNumber", "BadBook", "TooMany", "NoWatch", "NoMark", "BadText", "RuleError"] ["RuleError", "BadPrime", "BadWord", "BadRow", "BadTable", "NotAlike", "BadMap", "NotFull", "BadLower", "BadOrder", "NotTidy", "BadWeb", "BadCells", "BadStart", "BadDeed", "BadName", "BadLive", "NothingLeft"] [("BadNumber", "BadNumber.__init__"), ("BadBook", "BadBook.__init__"), ("TooMany", "TooMany.__init__"), ("NoWatch", "NoWatch.__init__"), ("NoMark", "NoMark.__init__"), ("BadText", "BadText.__init__")] [("part", "BadBook"), ("part", "BadNumber"), ("most", "TooMany"), ("name", "NoWatch"), ("name", "NoMark"), ("at", "BadText")] F))
def cs : List Str := ["BadNumber", "BadBook", "TooMany", "NoWatch", "NoMark", "BadText"]
def lx : List Str := []
def sv : List Hy.SupW := [tU0.val, tU1.val, tU2.val, tU3.val, tU4.val, tU5.val]
abbrev hk : PySem.W.Hook := Hy.hookY 4 fa fn xt cs lx sv
def ob (s : PySem.W.SharedT) : Hy.AlY := Hy.obY 4 fa fn xt cs lx (HandSHeadRun.getT s)
theorem ob_eq (s : PySem.W.SharedT) : ob s = hk.obs s.abs := Hy.obY_eq (sv := sv) (HandSHeadRun.getT_eq s)
def loose1 : List Str := ["RuleError", "BadPrime", "BadNumber", "BadWord", "BadRow", "BadTable", "BadBook", "TooMany", "NotAlike", "BadMap", "NotFull", "BadLower", "BadOrder", "NotTidy", "BadWeb", "BadCells", "BadStart", "BadDeed", "BadName", "BadLive", "NothingLeft", "NoWatch", "NoMark", "BadText"]
def loose : List Str := loose1 ++ (defs1.map (·.2) ++ (defs2.map (·.2)).dropLast)
set_option maxHeartbeats 0 in
theorem run1 (w : World) : Hy.Run1 R (PySem.W.view R.prog [34]) 8000 loose w := by
  intro os
  kernel_rfl
set_option maxHeartbeats 0 in
theorem run2 (w : World) : Hy.Run2 R ob (hk.val w) 8000 w := by
  intro os
  kernel_rfl
theorem run (w : World) : HandSHeadRun.RunEq R (PySem.W.view R.prog [34]) hk ob 8000 loose w := Hy.run_of (run1 w) (run2 w)
end K00
end T_K00h
section T_ZT
namespace Z
open PySem PySem.Spec PyProof.Rows
inductive SK where
  | l | t
def SK.It (k : SK) (h : Heap) (a b : Addr) (j : Nat) : Prop := match k with
  | .l => h.IsListIter a b j
  | .t => h.IsTupleIter a b j
def SK.Sq (k : SK) (h : Heap) (a : Addr) (us : Array Value) : Prop := match k with
  | .l => h.IsList a us
  | .t => h.IsTuple a us
section
variable {sk sm : SK} {h h' : Heap} {a b : Addr} {j : Nat} {us : Array Value}
theorem SK.It.ie (x : sk.It h a b j) {c : Addr} (e : Heap.ExtBut c h h') (n : a ≠ c) : sk.It h' a b j := by
  cases sk
  · exact Heap.IsListIter.extBut x e n
  · exact Heap.IsTupleIter.extBut x e n
theorem SK.Sq.se (x : sk.Sq h a us) {c : Addr} (e : Heap.ExtBut c h h') (n : a ≠ c) : sk.Sq h' a us := by
  cases sk
  · exact Heap.IsList.extBut x e n
  · exact Heap.IsTuple.extBut x e n
theorem SK.It.ia (x : sk.It h a b j) (e : ∀ o, h.get? a = some o → h'.get? a = some o) : sk.It h' a b j := by
  cases sk
  · exact Heap.IsListIter.at x e
  · exact Heap.IsTupleIter.at x e
theorem SK.It.io (x : sk.It h a b j) : ∃ o v, h.get? a = some o ∧ o.data = .fields v := by
  cases sk
  · obtain ⟨o, e, _, d⟩ := x; exact ⟨o, _, e, d⟩
  · obtain ⟨o, e, _, d⟩ := x; exact ⟨o, _, e, d⟩
theorem SK.It.ilt (x : sk.It h a b j) : a < h.objs.size := by
  obtain ⟨o, _, e, _⟩ := x.io
  exact Heap.lt_size e
end
section
variable {prog : Program} {w : World} {A : Around} {E : Value → Shared → Prop} {s : Shared} {sk sm : SK}
theorem SK.step {ia la : Addr} {j : Nat} {us : Array Value} {u : Value} {Q : Value → Shared → Prop} (x : sk.It s.heap ia la j) (y : sk.Sq s.heap la us) (e : us[j]? = some u)
    (q : ∀ h', sk.It h' ia la (j + 1) → Heap.SameBut ia s.heap h' → Q u { s with heap := h' }) : wpAny (model prog w) A (Builtin.SmallTypes.nextOf (.ref ia)) Q E s := by
  cases sk
  · exact wpAny_nextOf_list_item x y e q
  · exact RZ.nextOf_tuple_item x y e q
theorem SK.stop {ia la : Addr} {j : Nat} {us : Array Value} {Q : Value → Shared → Prop} (hh : A.handled = none) (x : sk.It s.heap ia la j) (y : sk.Sq s.heap la us) (e : us[j]? = none)
    (q : ∀ h' e, Heap.ExtBut ia s.heap h' → (∃ o, h'.get? e = some o ∧ o.cls = .type "StopIteration") → E (.ref e) { s with heap := h' }) : wpAny (model prog w) A (Builtin.SmallTypes.nextOf (.ref ia)) Q E s := by
  cases sk
  · exact wpAny_nextOf_list_end hh x y e q
  · exact RZ.nextOf_tuple_end hh x y e q
open PyProof.Rows in
theorem zm_item {zz ti tu ia ib la lb : Addr} {j1 j2 : Nat} {us vs : Array Value} {u v a b : Value} {Q : Value → Shared → Prop} (ap : ZipApart zz ti tu ia ib la lb)
    (gz : IsZip s.heap zz ti tu .none) (gi : IsPair s.heap ti (.ref ia) (.ref ib)) (gu : IsPair s.heap tu a b)
    (m1 : sk.It s.heap ia la j1) (m2 : sm.It s.heap ib lb j2) (n1 : sk.Sq s.heap la us) (n2 : sm.Sq s.heap lb vs) (eu : us[j1]? = some u) (ev : vs[j2]? = some v)
    (gQ : ∀ h', IsZip h' zz ti tu (rawInt s.heap.objs.size) → IsPair h' tu u v → sk.It h' ia la (j1 + 1) → sm.It h' ib lb (j2 + 1) → IsPair h' s.heap.objs.size u v → h'.objs.size = s.heap.objs.size + 1 →
      (∀ c o, c ≠ zz → c ≠ tu → c ≠ ia → c ≠ ib → s.heap.get? c = some o → h'.get? c = some o) → Q (.ref s.heap.objs.size) { s with heap := h' }) :
    wpAny (model prog w) A (Builtin.«zip.__next__» ⟨[.ref zz], []⟩) (fun fin s' => ∃ v, fin = .done (.ret v) ∧ Q v s') E s := by
  show wpAny _ _ (field (.ref zz) 2 >>= _) _ _ _
  refine wpAny_bind (wpAny_field gz rfl (x := .bool false) rfl ?_)
  show wpAny _ _ (field (.ref zz) 3 >>= _) _ _ _
  refine wpAny_bind (wpAny_field gz rfl (x := .ref ti) rfl ?_)
  refine wpAny_bind (wpAny_seqItems gi rfl ?_)
  show wpAny _ _ (Builtin.SmallTypes.ownedTupleIsFree (.ref zz) >>= _) _ _ _
  refine wpAny_bind ?_
  unfold Builtin.SmallTypes.ownedTupleIsFree
  refine wpAny_bind (wpAny_field gz rfl (x := .none) rfl (wpAny_pure ?_))
  simp only [if_true]
  refine wpAny_bind (wpAny_rule ?_)
  refine wpAny_bind (wpAny_field gz rfl (x := .ref tu) rfl ?_)
  refine wpAny_bind (wpAny_setField_rec gz (by simp) fun p1 gz1 b1 => ?_)
  replace gz1 : IsZip p1 zz ti tu .ellipsis := gz1
  refine wpAny_bind ?_
  simp only [List.zipIdx_cons, List.zipIdx_nil, List.forIn_cons, List.forIn_nil]
  refine wpAny_bind (wpAny_bind (wpAny_onRaise ?_))
  show wpAny _ _ (Builtin.SmallTypes.nextOf (.ref ia) >>= _) _ _ _
  refine wpAny_bind (SK.step (m1.ie b1.extBut ap.i1z) (n1.se b1.extBut ap.l1z) eu fun p2 k2 b2 => wpAny_pure ?_)
  have gu2 : IsPair p2 tu a b := b2.extBut _ _ ap.TOi1 (b1.extBut _ _ ap.TOz gu)
  refine wpAny_bind (wpAny_seqItems gu2 rfl ?_)
  refine wpAny_bind (wpAny_updateSeq_pair gu2 fun p3 gu3 b3 => ?_)
  replace gu3 : IsPair p3 tu u b := gu3
  refine wpAny_bind (wpAny_letGo (wpAny_pure ?_))
  refine wpAny_bind (wpAny_bind (wpAny_onRaise ?_))
  show wpAny _ _ (Builtin.SmallTypes.nextOf (.ref ib) >>= _) _ _ _
  refine wpAny_bind (SK.step (((m2.ie b1.extBut ap.i2z).ie b2.extBut ap.i12.symm).ie b3.extBut ap.TOi2.symm) (((n2.se b1.extBut ap.l2z).se b2.extBut ap.l2i1).se b3.extBut ap.l2TO) ev fun p4 k4 b4 => wpAny_pure ?_)
  have gu4 : IsPair p4 tu u b := b4.extBut _ _ ap.TOi2 gu3
  refine wpAny_bind (wpAny_seqItems gu4 rfl ?_)
  refine wpAny_bind (wpAny_updateSeq_pair gu4 fun p5 gu5 b5 => ?_)
  replace gu5 : IsPair p5 tu u v := gu5
  refine wpAny_bind (wpAny_letGo (wpAny_pure (wpAny_pure ?_)))
  refine wpAny_bind (wpAny_seqItems gu5 rfl ?_)
  refine wpAny_bind (wpAny_newTuple ?_)
  have sz : p5.objs.size = s.heap.objs.size := by rw [b5.1, b4.1, b3.1, b2.1, b1.1]
  have gz5 : IsZip p5 zz ti tu .ellipsis := b5.extBut _ _ ap.TOz.symm (b4.extBut _ _ ap.i2z.symm (b3.extBut _ _ ap.TOz.symm (b2.extBut _ _ ap.i1z.symm gz1)))
  have kp : ∀ c o, c ≠ zz → c ≠ tu → c ≠ ia → c ≠ ib → s.heap.get? c = some o → p5.get? c = some o := fun c o c1 c2 c3 c4 e =>
    b5.extBut _ _ c2 (b4.extBut _ _ c4 (b3.extBut _ _ c2 (b2.extBut _ _ c3 (b1.extBut _ _ c1 e))))
  have m15 : sk.It p5 ia la (j1 + 1) := ((k2.ie b3.extBut ap.TOi1.symm).ie b4.extBut ap.i12).ie b5.extBut ap.TOi1.symm
  have m25 : sm.It p5 ib lb (j2 + 1) := k4.ie b5.extBut ap.TOi2.symm
  have zlt : zz < p5.objs.size := Heap.lt_size gz5
  show wpAny _ _ (Builtin.SmallTypes.ownedTupleHandOut (.ref zz) (.ref p5.objs.size) >>= _) _ _ _
  refine wpAny_bind ?_
  unfold Builtin.SmallTypes.ownedTupleHandOut
  have gz6 : IsZip (p5.push { cls := .type "tuple", data := .seq #[u, v] }) zz ti tu .ellipsis := Heap.get?_push_of_some _ gz5
  refine wpAny_bind (wpAny_setField_rec gz6 (by simp) fun p7 gz7 b7 => ?_)
  replace gz7 : IsZip p7 zz ti tu (rawInt p5.objs.size) := gz7
  refine wpAny_setField_rec gz7 (by simp) fun p8 gz8 b8 => ?_
  replace gz8 : IsZip p8 zz ti tu (rawInt p5.objs.size) := gz8
  have up : ∀ c o, c ≠ zz → p5.get? c = some o → p8.get? c = some o := fun c o c1 e => b8.extBut _ _ c1 (b7.extBut _ _ c1 (Heap.get?_push_of_some _ e))
  have gT : IsPair p8 p5.objs.size u v := b8.extBut _ _ (Nat.ne_of_gt zlt) (b7.extBut _ _ (Nat.ne_of_gt zlt) (Heap.get?_push_size _ rfl))
  have sz8 : p8.objs.size = p5.objs.size + 1 := by rw [b8.1, b7.1, Heap.size_push]
  rw [sz] at gz8 gT sz8
  refine wpAny_pure ⟨_, rfl, ?_⟩
  show Q (.ref p5.objs.size) _
  rw [sz]
  exact gQ p8 gz8 (up _ _ ap.TOz gu5) (m15.ia fun o e => up _ o ap.i1z e) (m25.ia fun o e => up _ o ap.i2z e) gT sz8 fun c o c1 c2 c3 c4 e => up c o c1 (kp c o c1 c2 c3 c4 e)
theorem zm_end {zz ti tu ia ib la lb : Addr} {j1 j2 : Nat} {us vs : Array Value} {a b : Value} {Q : Fin → Shared → Prop} (hh : A.handled = none) (ap : ZipApart zz ti tu ia ib la lb)
    (gz : IsZip s.heap zz ti tu .none) (gi : IsPair s.heap ti (.ref ia) (.ref ib)) (gu : IsPair s.heap tu a b)
    (m1 : sk.It s.heap ia la j1) (m2 : sm.It s.heap ib lb j2) (n1 : sk.Sq s.heap la us) (n2 : sm.Sq s.heap lb vs) (fin : us[j1]? = none ∨ vs[j2]? = none)
    (gE : ∀ h' e, (∀ c o, c ≠ zz → c ≠ tu → c ≠ ia → c ≠ ib → s.heap.get? c = some o → h'.get? c = some o) → (∃ o, h'.get? e = some o ∧ o.cls = .type "StopIteration") → E (.ref e) { s with heap := h' }) :
    wpAny (model prog w) A (Builtin.«zip.__next__» ⟨[.ref zz], []⟩) Q E s := by
  show wpAny _ _ (field (.ref zz) 2 >>= _) _ _ _
  refine wpAny_bind (wpAny_field gz rfl (x := .bool false) rfl ?_)
  show wpAny _ _ (field (.ref zz) 3 >>= _) _ _ _
  refine wpAny_bind (wpAny_field gz rfl (x := .ref ti) rfl ?_)
  refine wpAny_bind (wpAny_seqItems gi rfl ?_)
  show wpAny _ _ (Builtin.SmallTypes.ownedTupleIsFree (.ref zz) >>= _) _ _ _
  refine wpAny_bind ?_
  unfold Builtin.SmallTypes.ownedTupleIsFree
  refine wpAny_bind (wpAny_field gz rfl (x := .none) rfl (wpAny_pure ?_))
  simp only [if_true]
  refine wpAny_bind (wpAny_rule ?_)
  refine wpAny_bind (wpAny_field gz rfl (x := .ref tu) rfl ?_)
  refine wpAny_bind (wpAny_setField_rec gz (by simp) fun p1 gz1 b1 => ?_)
  replace gz1 : IsZip p1 zz ti tu .ellipsis := gz1
  refine wpAny_bind ?_
  simp only [List.zipIdx_cons, List.zipIdx_nil, List.forIn_cons, List.forIn_nil]
  refine wpAny_bind (wpAny_bind (wpAny_onRaise ?_))
  show wpAny _ _ (Builtin.SmallTypes.nextOf (.ref ia) >>= _) _ _ _
  cases eu : us[j1]? with
  | none =>
    refine wpAny_bind (SK.stop hh (m1.ie b1.extBut ap.i1z) (n1.se b1.extBut ap.l1z) eu fun p2 e b2 he => ?_)
    obtain ⟨oe, q1, q2⟩ := he
    have gz2 : IsZip p2 zz ti tu .ellipsis := b2 _ _ ap.i1z.symm gz1
    have ne : e ≠ zz := fun x => by subst x; rw [gz2] at q1; cases q1; simp at q2
    refine wpAny_setField_rec gz2 (by simp) fun p3 _ b3 => gE p3 e (fun c o c1 _ c3 _ x => b3.extBut _ _ c1 (b2 _ _ c3 (b1.extBut _ _ c1 x))) ⟨oe, b3.extBut _ _ ne q1, q2⟩
  | some u =>
    have ev : vs[j2]? = none := by rcases fin with h | h; rw [eu] at h; cases h; exact h
    refine wpAny_bind (SK.step (m1.ie b1.extBut ap.i1z) (n1.se b1.extBut ap.l1z) eu fun p2 k2 b2 => wpAny_pure ?_)
    have gu2 : IsPair p2 tu a b := b2.extBut _ _ ap.TOi1 (b1.extBut _ _ ap.TOz gu)
    refine wpAny_bind (wpAny_seqItems gu2 rfl ?_)
    refine wpAny_bind (wpAny_updateSeq_pair gu2 fun p3 gu3 b3 => ?_)
    refine wpAny_bind (wpAny_letGo (wpAny_pure ?_))
    refine wpAny_bind (wpAny_bind (wpAny_onRaise ?_))
    show wpAny _ _ (Builtin.SmallTypes.nextOf (.ref ib) >>= _) _ _ _
    refine wpAny_bind (SK.stop hh (((m2.ie b1.extBut ap.i2z).ie b2.extBut ap.i12.symm).ie b3.extBut ap.TOi2.symm) (((n2.se b1.extBut ap.l2z).se b2.extBut ap.l2i1).se b3.extBut ap.l2TO) ev fun p4 e b4 he => ?_)
    obtain ⟨oe, q1, q2⟩ := he
    have gz4 : IsZip p4 zz ti tu .ellipsis := b4 _ _ ap.i2z.symm (b3.extBut _ _ ap.TOz.symm (b2.extBut _ _ ap.i1z.symm gz1))
    have ne : e ≠ zz := fun x => by subst x; rw [gz4] at q1; cases q1; simp at q2
    refine wpAny_setField_rec gz4 (by simp) fun p5 _ b5 => gE p5 e (fun c o c1 c2 c3 c4 x => b5.extBut _ _ c1 (b4 _ _ c4 (b3.extBut _ _ c2 (b2.extBut _ _ c3 (b1.extBut _ _ c1 x))))) ⟨oe, b5.extBut _ _ ne q1, q2⟩
theorem zm_next {zz ti tu ia ib la lb : Addr} {j1 j2 : Nat} {us vs : Array Value} {u v a b : Value} {Q : Option Value → Shared → Prop} (ap : ZipApart zz ti tu ia ib la lb)
    (gz : IsZip s.heap zz ti tu .none) (gi : IsPair s.heap ti (.ref ia) (.ref ib)) (gu : IsPair s.heap tu a b)
    (m1 : sk.It s.heap ia la j1) (m2 : sm.It s.heap ib lb j2) (n1 : sk.Sq s.heap la us) (n2 : sm.Sq s.heap lb vs) (eu : us[j1]? = some u) (ev : vs[j2]? = some v)
    (gQ : ∀ h', IsZip h' zz ti tu (rawInt s.heap.objs.size) → IsPair h' tu u v → sk.It h' ia la (j1 + 1) → sm.It h' ib lb (j2 + 1) → IsPair h' s.heap.objs.size u v → h'.objs.size = s.heap.objs.size + 1 →
      (∀ c o, c ≠ zz → c ≠ tu → c ≠ ia → c ≠ ib → s.heap.get? c = some o → h'.get? c = some o) → Q (some (.ref s.heap.objs.size)) { s with heap := h' }) :
    wpAny (model prog w) A (pyNext (.ref zz)) Q E s := by
  have ty : s.TypeIs (.ref zz) "zip" := ⟨_, gz, rfl⟩
  unfold pyNext
  exact wpAny_bind (wpAny_attempt (wpAny_callSpecial?_slot (name := Str.ofString "__next__") ty F.slot_zip_next
    (wpAny_call_entry F.slot_zip_next ty F.entry_zip_next (zm_item ap gz gi gu m1 m2 n1 n2 eu ev fun h' a1 a2 a3 a4 a5 a6 a7 => wpAny_pure (gQ h' a1 a2 a3 a4 a5 a6 a7)) (F.args_zip_next_1 _))))
theorem zm_over {zz ti tu ia ib la lb : Addr} {j1 j2 : Nat} {us vs : Array Value} {a b : Value} {Q : Option Value → Shared → Prop} (hh : A.handled = none) (ap : ZipApart zz ti tu ia ib la lb)
    (gz : IsZip s.heap zz ti tu .none) (gi : IsPair s.heap ti (.ref ia) (.ref ib)) (gu : IsPair s.heap tu a b)
    (m1 : sk.It s.heap ia la j1) (m2 : sm.It s.heap ib lb j2) (n1 : sk.Sq s.heap la us) (n2 : sm.Sq s.heap lb vs) (fin : us[j1]? = none ∨ vs[j2]? = none)
    (gQ : ∀ h', (∀ c o, c ≠ zz → c ≠ tu → c ≠ ia → c ≠ ib → s.heap.get? c = some o → h'.get? c = some o) → Q none { s with heap := h' }) : wpAny (model prog w) A (pyNext (.ref zz)) Q E s := by
  have ty : s.TypeIs (.ref zz) "zip" := ⟨_, gz, rfl⟩
  unfold pyNext
  refine wpAny_bind (wpAny_attempt (wpAny_callSpecial?_slot (name := Str.ofString "__next__") ty F.slot_zip_next
    (wpAny_call_entry F.slot_zip_next ty F.entry_zip_next (zm_end hh ap gz gi gu m1 m2 n1 n2 fin fun h' e hk he => ?_) (F.args_zip_next_1 _))))
  obtain ⟨o, ho, hc⟩ := he
  refine wpAny_bind (wpAny_isInstance (T := "StopIteration") (b := true) ⟨o, ho, hc⟩ isSubtype_stop ?_)
  exact wpAny_pure (gQ _ hk)
end
def SK.ob (k : SK) (a : Addr) : Obj := match k with
  | .l => { cls := .type "list_iterator", data := .fields #[.ref a, .int 0 0] }
  | .t => { cls := .type "tuple_iterator", data := .fields #[.ref a, .int 0 0] }
abbrev zmA (k1 : SK) (h : Heap) (a : Addr) : Heap := h.push (k1.ob a)
abbrev zmB (k1 k2 : SK) (h : Heap) (a b : Addr) : Heap := (zmA k1 h a).push (k2.ob b)
abbrev zmC (k1 k2 : SK) (h : Heap) (a b : Addr) : Heap := (zmB k1 k2 h a b).push { cls := .type "tuple", data := .seq #[.ref h.objs.size, .ref (zmA k1 h a).objs.size] }
abbrev zmD (k1 k2 : SK) (h : Heap) (a b : Addr) : Heap := (zmC k1 k2 h a b).push { cls := .type "tuple", data := .seq #[.none, .none] }
abbrev zmE (k1 k2 : SK) (h : Heap) (a b : Addr) : Heap := (zmD k1 k2 h a b).push { cls := .type "zip", data := .fields #[.none, .bool false, .bool false, .ref (zmB k1 k2 h a b).objs.size, .ref (zmC k1 k2 h a b).objs.size] }
theorem zm_new_lt (a b : Addr) (us vs : Array Value) :
    Meets (Builtin.«zip.__new__» ⟨[.type "zip", .ref a, .ref b], []⟩) (fun _ R s => s.heap.IsList a us ∧ s.heap.IsTuple b vs ∧ R (.ok (.ret (.ref (zmD .l .t s.heap a b).objs.size))) { s with heap := zmE .l .t s.heap a b }) :=
  .of_wp fun prog w A R s h => by
    obtain ⟨hp, g, d, tk, os⟩ := s
    obtain ⟨n1, n2, h⟩ := h
    have hsub := sub_zip
    have q1 : Heap.IsList (Shared.heap ⟨hp, g, d, tk, os⟩) a us := n1
    have q2 : Heap.IsTuple (Shared.heap ⟨hp.push { cls := .type "list_iterator", data := .fields #[.ref a, .int 0 0] }, g, d, tk, os⟩) b vs := Heap.IsTuple.push n2 _
    wp_walk using wpAny_pyIter_list q1, wpAny_pyIter_tuple q2
    exact ⟨_, rfl, h⟩
theorem zm_new_tl (a b : Addr) (us vs : Array Value) :
    Meets (Builtin.«zip.__new__» ⟨[.type "zip", .ref a, .ref b], []⟩) (fun _ R s => s.heap.IsTuple a us ∧ s.heap.IsList b vs ∧ R (.ok (.ret (.ref (zmD .t .l s.heap a b).objs.size))) { s with heap := zmE .t .l s.heap a b }) :=
  .of_wp fun prog w A R s h => by
    obtain ⟨hp, g, d, tk, os⟩ := s
    obtain ⟨n1, n2, h⟩ := h
    have hsub := sub_zip
    have q1 : Heap.IsTuple (Shared.heap ⟨hp, g, d, tk, os⟩) a us := n1
    have q2 : Heap.IsList (Shared.heap ⟨hp.push { cls := .type "tuple_iterator", data := .fields #[.ref a, .int 0 0] }, g, d, tk, os⟩) b vs := Heap.IsList.push n2 _
    wp_walk using wpAny_pyIter_tuple q1, wpAny_pyIter_list q2
    exact ⟨_, rfl, h⟩
section
variable {prog : Program} {w : World} {A : Around} {E : Value → Shared → Prop} {s : Shared} {sk sm : SK}
theorem SK.obIt {h : Heap} {i a : Addr} (e : h.get? i = some (sk.ob a)) : sk.It h i a 0 := by
  cases sk
  · exact ⟨_, e, rfl, rfl⟩
  · exact ⟨_, e, rfl, rfl⟩
/-- what the new zip is -/
theorem zm_facts {h : Heap} {a b : Addr} : (zmD sk sm h a b).objs.size = h.objs.size + 4 ∧ IsZip (zmE sk sm h a b) (h.objs.size + 4) (h.objs.size + 2) (h.objs.size + 3) .none ∧ IsPair (zmE sk sm h a b) (h.objs.size + 2) (.ref h.objs.size) (.ref (h.objs.size + 1)) ∧
    IsPair (zmE sk sm h a b) (h.objs.size + 3) .none .none ∧ sk.It (zmE sk sm h a b) h.objs.size a 0 ∧ sm.It (zmE sk sm h a b) (h.objs.size + 1) b 0 ∧ (zmE sk sm h a b).objs.size = h.objs.size + 5 ∧ ∀ c o, h.get? c = some o → (zmE sk sm h a b).get? c = some o := by
  have y1 : (zmA sk h a).objs.size = h.objs.size + 1 := Heap.size_push ..
  have y2 : (zmB sk sm h a b).objs.size = h.objs.size + 2 := by rw [Heap.size_push, y1]
  have y3 : (zmC sk sm h a b).objs.size = h.objs.size + 3 := by rw [Heap.size_push, y2]
  have y4 : (zmD sk sm h a b).objs.size = h.objs.size + 4 := by rw [Heap.size_push, y3]
  have y5 : (zmE sk sm h a b).objs.size = h.objs.size + 5 := by rw [Heap.size_push, y4]
  have e5 : (zmE sk sm h a b).get? (zmD sk sm h a b).objs.size = some _ := Heap.get?_push_size _ rfl
  have e4 : (zmE sk sm h a b).get? (zmC sk sm h a b).objs.size = some _ := Heap.get?_push_of_some _ (Heap.get?_push_size _ rfl)
  have e3 : (zmE sk sm h a b).get? (zmB sk sm h a b).objs.size = some _ := Heap.get?_push_of_some _ (Heap.get?_push_of_some _ (Heap.get?_push_size _ rfl))
  have e2 : (zmE sk sm h a b).get? (zmA sk h a).objs.size = some (sm.ob b) := Heap.get?_push_of_some _ (Heap.get?_push_of_some _ (Heap.get?_push_of_some _ (Heap.get?_push_size _ (by cases sm <;> rfl))))
  have e1 : (zmE sk sm h a b).get? h.objs.size = some (sk.ob a) := Heap.get?_push_of_some _ (Heap.get?_push_of_some _ (Heap.get?_push_of_some _ (Heap.get?_push_of_some _ (Heap.get?_push_size _ (by cases sk <;> rfl)))))
  rw [y2, y3, y4] at e5
  rw [y1, y2] at e3
  rw [y3] at e4
  rw [y1] at e2
  exact ⟨y4, e5, e3, e4, SK.obIt e1, SK.obIt e2, y5, fun c o x => Heap.get?_push_of_some _ (Heap.get?_push_of_some _ (Heap.get?_push_of_some _ (Heap.get?_push_of_some _ (Heap.get?_push_of_some _ x))))⟩
def ZmNew (sk sm : SK) : Prop := ∀ (a b : Addr) (us vs : Array Value), Meets (Builtin.«zip.__new__» ⟨[.type "zip", .ref a, .ref b], []⟩) (fun _ R s => sk.Sq s.heap a us ∧ sm.Sq s.heap b vs ∧ R (.ok (.ret (.ref (zmD sk sm s.heap a b).objs.size))) { s with heap := zmE sk sm s.heap a b })
theorem call_zm {a b : Addr} {us vs : Array Value} {Q : Value → Shared → Prop} (N : ZmNew sk sm) (n1 : sk.Sq s.heap a us) (n2 : sm.Sq s.heap b vs)
    (q : ∀ h', IsZip h' (s.heap.objs.size + 4) (s.heap.objs.size + 2) (s.heap.objs.size + 3) .none → IsPair h' (s.heap.objs.size + 2) (.ref s.heap.objs.size) (.ref (s.heap.objs.size + 1)) → IsPair h' (s.heap.objs.size + 3) .none .none →
      sk.It h' s.heap.objs.size a 0 → sm.It h' (s.heap.objs.size + 1) b 0 → h'.objs.size = s.heap.objs.size + 5 → (∀ c o, s.heap.get? c = some o → h'.get? c = some o) → Q (.ref (s.heap.objs.size + 4)) { s with heap := h' }) :
    wpAny (model prog w) A (call (.type "zip") [.ref a, .ref b]) Q E s := by
  refine callType_new F.called_zip (by decide) (F.typeCall_zip_2 _ _) (F.newCall_zip_2 _ _) (fun obj => F.args_object_init_3 obj _ _) F.entry_zip_new (N a b us vs) ⟨n1, n2, ?_⟩
  obtain ⟨y4, e5, e3, e4, i1, i2, y5, kp⟩ := zm_facts (sk := sk) (sm := sm) (h := s.heap) (a := a) (b := b)
  show _ ∧ _
  rw [y4]
  exact ⟨⟨_, e5, rfl⟩, q _ e5 e3 e4 i1 i2 y5 kp⟩
end
end Z
end T_ZT
section T_ZU
namespace Z
open PySem PySem.Spec PyProof.Rows L2
def SqS (k : SK) (K : PySem.W.Frag) (H : Hp) (a : Addr) (xs : List V) : Prop := match k with
  | .l => SqL K H a xs
  | .t => SqT K H a xs
/-- what stands at a and b at each turn, the items in new pairs -/
def ItzM (k1 k2 : SK) (K : PySem.W.Frag) (a b : Addr) : It :=
  ⟨fun i H => ∃ (xs ys : List V) (x y : V), SqS k1 K H a xs ∧ SqS k2 K H b ys ∧ xs[i]? = some x ∧ ys[i]? = some y,
    fun i H v H' => ∃ T x y, v = .ref T ∧ H T = none ∧ H' = upd H T (.tup [x, y]) ∧ (∀ xs, SqS k1 K H a xs → xs[i]? = some x) ∧ ∀ ys, SqS k2 K H b ys → ys[i]? = some y,
    fun i H => ∃ xs ys : List V, SqS k1 K H a xs ∧ SqS k2 K H b ys ∧ (xs.length ≤ i ∨ ys.length ≤ i)⟩
section
variable {X : Cx} {pins : List (Addr × Obj)} {σ : L2.St} {H : Hp} {s : Shared} {k : SK} {a : Addr} {xs xs' : List V}
theorem sq_inv (I : Inv X pins σ H s) (h : SqS k X.K H a xs) : ∃ its : List Value, Vals xs its ∧ k.Sq s.heap a its.toArray ∧ a < s.heap.objs.size := by
  cases k
  · obtain ⟨its, rv, p, _⟩ := I.list h
    exact ⟨its, rv, p.isList, p.lt⟩
  · obtain ⟨its, rv, p, _⟩ := I.tuple h
    obtain ⟨o, ho, _⟩ := id p
    exact ⟨its, rv, p, Heap.lt_size ho⟩
theorem sq_inj (I : Inv X pins σ H s) (h : SqS k X.K H a xs) (h' : SqS k X.K H a xs') : xs = xs' := by
  cases k
  · exact I.list_inj h h'
  · exact I.tuple_inj h h'
end
theorem turn_zm {P : Program} {w : World} {K : PySem.W.Frag} {elts : List Expr} {kk : Nat} {tpos : Pos} {a b zz ti tu ia ib : Addr} {k1 k2 : SK} (ap : ZipApart zz ti tu ia ib a b) :
    Turn P w K (.Tuple elts kk tpos) (ItzM k1 k2 K a b) [zz, ti, tu, ia, ib] zz (fun i h => IsZip h zz ti tu .none ∧ IsPair h ti (.ref ia) (.ref ib) ∧ (∃ x y, IsPair h tu x y) ∧ k1.It h ia a i ∧ k2.It h ib b i) where
  mem := by simp
  obj := fun i h st c hc => by
    obtain ⟨gz, gi, ⟨x, y, gu⟩, m1, m2⟩ := st
    obtain ⟨o1, v1, e1, d1⟩ := m1.io
    obtain ⟨o2, v2, e2, d2⟩ := m2.io
    have e' : c = zz ∨ c = ti ∨ c = tu ∨ c = ia ∨ c = ib := by simpa using hc
    rcases e' with q | q | q | q | q
    · rw [q]; exact ⟨_, gz, fun v q => nomatch q⟩
    · rw [q]; exact ⟨_, gi, fun v q => nomatch q⟩
    · rw [q]; exact ⟨_, gu, fun v q => nomatch q⟩
    · rw [q]; exact ⟨o1, e1, fun v q => by rw [d1] at q; cases q⟩
    · rw [q]; exact ⟨o2, e2, fun v q => by rw [d2] at q; cases q⟩
  keep := fun i h h' st k => by
    obtain ⟨gz, gi, ⟨x, y, gu⟩, m1, m2⟩ := st
    exact ⟨k zz (by simp) _ gz, k ti (by simp) _ gi, ⟨x, y, k tu (by simp) _ gu⟩, m1.ia fun o q => k ia (by simp) o q, m2.ia fun o q => k ib (by simp) o q⟩
  item := by
    intro X hP hw hK hc i pins s σ H E I hf st hg
    subst hP hw hK
    obtain ⟨gz, gi, ⟨x0, y0, gu⟩, m1, m2⟩ := st
    obtain ⟨xs, ys, x, y, qx, qy, hx, hy⟩ := hg
    obtain ⟨its, rv, n1, _⟩ := sq_inv I qx
    obtain ⟨jts, rv2, n2, _⟩ := sq_inv I qy
    obtain ⟨u, hu, ru⟩ := rv.get hx
    obtain ⟨u2, hu2, ru2⟩ := rv2.get hy
    have zl : zz < s.heap.objs.size := Heap.lt_size gz
    refine zm_next ap gz gi gu m1 m2 n1 n2 (u := u) (v := u2) (by simpa using hu) (by simpa using hu2) fun h' gz' gu' m1' m2' gT hsz hk => ?_
    refine ⟨_, rfl, wpAny_letOwnedTupleGo_zip (s := { s with heap := h' }) gz' fun h'' gz'' sb => ?_⟩
    have gT2 : h''.get? s.heap.objs.size = some { cls := .type "tuple", data := .seq #[u, u2] } := (sb.2 _ (Nat.ne_of_gt zl)).trans gT
    have new : ObjOk X.prog X.w (upd H s.heap.objs.size (.tup [x, y])) h'' s.heap.objs.size (.tup [x, y]) :=
      ⟨by show 2 ≤ sizeLine; decide, [u, u2], .cons ru (.cons ru2 .nil), ⟨_, gT2, rfl, _, rfl⟩⟩
    have I1 : Inv X pins σ (upd H s.heap.objs.size (.tup [x, y])) { s with heap := h'' } :=
      I.turnedNew (t' := s.toks) (ch := [zz, ti, tu, ia, ib]) (fun c o hb q => (sb.2 c (fun q' => hb (by simp [q']))).trans (hk c o (fun q' => hb (by simp [q'])) (fun q' => hb (by simp [q'])) (fun q' => hb (by simp [q'])) (fun q' => hb (by simp [q'])) q)) hf (Nat.le_refl _) new
    refine ⟨.ref s.heap.objs.size, _, I1, rfl, ⟨_, x, y, rfl, I.hok.fresh (Nat.le_refl _), rfl, fun l hl => by rw [sq_inj I hl qx]; exact hx, fun l hl => by rw [sq_inj I hl qy]; exact hy⟩, ⟨gz'', ?_, ⟨u, u2, ?_⟩, ?_, ?_⟩, fun c hcm => ?_⟩
    · exact (sb.2 _ ap.TIz).trans (hk _ _ ap.TIz ap.TITO ap.TIi1 ap.TIi2 gi)
    · exact (sb.2 _ ap.TOz).trans gu'
    · exact m1'.ia fun o q => (sb.2 _ ap.i1z).trans q
    · exact m2'.ia fun o q => (sb.2 _ ap.i2z).trans q
    · have lt : c < s.heap.objs.size := by
        have e' : c = zz ∨ c = ti ∨ c = tu ∨ c = ia ∨ c = ib := by simpa using hcm
        rcases e' with q | q | q | q | q
        · rw [q]; exact zl
        · rw [q]; exact Heap.lt_size gi
        · rw [q]; exact Heap.lt_size gu
        · rw [q]; exact m1.ilt
        · rw [q]; exact m2.ilt
      rw [upd_ne (Nat.ne_of_lt lt)]
      exact (hf c hcm).1
  done := by
    intro X hP hw hK hc i pins s σ H E I hf st hg
    subst hP hw hK
    obtain ⟨gz, gi, ⟨x0, y0, gu⟩, m1, m2⟩ := st
    obtain ⟨xs, ys, qx, qy, fin⟩ := hg
    obtain ⟨its, rv, n1, _⟩ := sq_inv I qx
    obtain ⟨jts, rv2, n2, _⟩ := sq_inv I qy
    have l1 := rv.length
    have l2 := rv2.length
    have he : its.toArray[i]? = none ∨ jts.toArray[i]? = none := by
      rcases fin with q | q
      · exact .inl (by simp; omega)
      · exact .inr (by simp; omega)
    exact zm_over (I.ok.hd hc) ap gz gi gu m1 m2 n1 n2 he fun h' hk => ⟨rfl, I.turnedL (t' := s.toks) (ch := [zz, ti, tu, ia, ib]) (fun c o hb q =>
      hk c o (fun q' => hb (by simp [q'])) (fun q' => hb (by simp [q'])) (fun q' => hb (by simp [q'])) (fun q' => hb (by simp [q'])) q) hf⟩
  self := fun A i s Q E st h => wpAny_pyIter_zip st.1 h
def iZipM (K : PySem.W.Frag) (ta : TA) : TI := fun σ H R => ta σ H fun vs H1 => ∃ (k1 k2 : SK) (a b : Addr) (xs ys : List V), vs = [.ref a, .ref b] ∧ SqS k1 K H1 a xs ∧ SqS k2 K H1 b ys ∧ R (ItzM k1 k2 K a b) H1
theorem zm_new : ∀ k1 k2 : SK, ZmNew k1 k2
  | .l, .l => fun a b us vs => meets_zip_new a b us vs
  | .l, .t => zm_new_lt
  | .t, .l => zm_new_tl
  | .t, .t => fun a b us vs => RZ.meets_zipT_new a b us vs
theorem pi_zipM {X : Cx} {e e2 : Expr} {ta : TA} {p pos tpos : Pos} {elts : List Expr} {kk : Nat} (hg : Gl X "zip") (hm : X.mg "zip" = none) (ha : PA X [e, e2] ta)
    (hs : starEach [e, e2] X.env = (false, eval e X.env) :: starEach [e2] X.env := by rfl) (hpl : (backTo pos (starEach [e2] X.env)).any (·.1) = false := by rfl) :
    PI X (.Tuple elts kk tpos) (.Call (.Name "zip" p) [e, e2] [] pos) (iZipM X.K ta) := by
  refine ⟨fun pins s σ H R I h => ?_⟩
  refine Call_ (ld_blt I hg hm PyProof.Rows.boot_zip (PyProof.Rows.callWith_type1 (thn (ha.run pos pins s σ H _ I h) fun us s1 ⟨vs, H1, I1, r1, q1⟩ => ?_) hs hpl))
  obtain ⟨k1, k2, a, b, xs, ys, ex, qx, qy, q⟩ := q1
  subst ex
  cases r1 with
  | cons r rr =>
    cases rr with
    | cons r' rr =>
      cases rr
      cases r
      cases r'
      have fresh : ∀ c, c ∈ [s1.heap.objs.size + 4, s1.heap.objs.size + 2, s1.heap.objs.size + 3, s1.heap.objs.size, s1.heap.objs.size + 1] → FpOk X pins H1 c := fun c hcm => by
        have le : s1.heap.objs.size ≤ c := by
          simp only [List.mem_cons, List.not_mem_nil, or_false] at hcm
          omega
        exact I1.fpOk le (I1.hok.fresh le)
      obtain ⟨its, rv, n1, l1⟩ := sq_inv I1 qx
      obtain ⟨jts, rv2, n2, l2⟩ := sq_inv I1 qy
      refine call_zm (zm_new k1 k2) n1 n2 fun h' gz gi gu m1 m2 hsz hk => wpAny_pyIter_zip gz ?_
      have I2 : Inv X pins σ H1 { s1 with heap := h' } := I1.kept (t' := s1.toks) hk
      exact ⟨s1.heap.objs.size + 4, [s1.heap.objs.size + 4, s1.heap.objs.size + 2, s1.heap.objs.size + 3, s1.heap.objs.size, s1.heap.objs.size + 1], _, _, H1, rfl, I2, turn_zm (PySem.W.ktu_apart s1.heap.objs.size a b l1 l2), ⟨gz, gi, ⟨_, _, gu⟩, m1, m2⟩, fresh, q⟩
end Z
end T_ZU
section T_Z1
namespace Z
open PySem L2
/-- a lambda's text -/
structure LamT where
  params : Arguments
  body : Expr
  scope : Scope
/-- a scope without a name from outside -/
def clsd (sc : Scope) : Bool := sc.names.all fun y => !decide (y.2 = .free)
/-- data, without addresses -/
inductive D where
  | non | bl (b : Bool) | int (i : Int) | str (x : Str)
  | lst (xs : List D) | tup (xs : List D) | dct (kvs : List (Key × D))
  | ins (C : Str) (fs : List (Str × D)) | drw | opq (v : V) | rng (lo hi : Int) | exc (C : Str) (fs : List (Str × D)) | clo (j : Nat) | fnv (x : Str) | lamc (l : LamT) (q : Str)
/-- an exception: its class's name, its attribute -/
abbrev Xn := Str × Option D
/-- a value's standing: clean; a name's own object; just made -/
inductive Kd where | cln | own (i : Nat) | new
/-- what a name holds: data that nobody changes; an object of its own -/
inductive Sl where
  | frz (d : D) | own (d : D)
def Kd.no : Kd → Prop
  | .own _ => False
  | _ => True
def Kd.frs : Kd → Prop
  | .cln => False
  | _ => True
abbrev Env := List (Option Sl)
abbrev Kt := D → Kd → Env → Prop
/-- a def that is called: does it hand back an object that is new; is what it hands back flat; what it does -/
structure Fn where
  nm : String
  fr : Bool
  fl : Bool
  run : List D → (D → Prop) → (Xn → Prop) → Prop
inductive O2 where
  | add | sub | mul | mod | fdiv | pow | eq | ne | lt | le | gt | ge | isin | notin | is_ | isnot | eqI | neI | neX | eqX | rep
  deriving DecidableEq
inductive Pr where
  | len | tuple | list | dict | sorted | min | max | sum | all | any | abs | int | str | repr | isint | isbool | islist | range | istup
  deriving DecidableEq
inductive Tg where
  | one (i : Nat) | tup (is : List Nat)
mutual
inductive CE where
  | var (i : Nat) | lit (d : D)
  | op (o : O2) (a b : CE) | neg (a : CE) | not (a : CE)
  | chain (o p : O2) (a b c : CE)
  | and (a b : CE) | or (a b : CE) | ife (c a b : CE)
  | lst (es : CL) | tup (es : CL) | dsp (ks : List Key) (es : CL) | dspe (es : CL)
  | idx (a b : CE) | cut (a : CE) (lo hi : CO) | rev (a : CE)
  | call (F : Fn) (es : CL) | prim (p : Pr) (es : CL)
  | get (a k d : CE) | popd (i : Nat) (k d : CE) | popl (i : Nat) (k : CE)
  | fld (Cs : List Str) (a : CE) (f : Str)
  | comp (vs : List Nat) (e : CE) (t : Tg) (it : CI) (c : CO)
  | comp2 (vs vs2 : List Nat) (e : CE) (t : Tg) (it : CI) (c : CO) (t2 : Tg) (it2 : CI) (c2 : CO)
  | isa (a : CE) (C : Str) | lam (j : Nat) | caught (bs : CL) (e : CE) | callk (F : Fn) (pm : List Nat) (es : CL) | callv (i : Nat) (tb : List (Str × Nat × Fn)) (es : CL) | callw (i : Nat) (tb : List (Str × Nat × Fn)) (ll : List (LamT × Str × Nat × Fn)) (es : CL)
inductive CL where
  | nil | cons (e : CE) (es : CL)
inductive CO where
  | no | one (e : CE)
inductive CI where
  | seq (e : CE) | key (i : Nat) | rng (a b : CE) | rng1 (a : CE) | enum (e : CE) | zip (a b : CE)
end
/-- scalars -/
def D.scal : D → Bool
  | .non | .bl _ | .int _ | .str _ => true
  | _ => false
/-- a list, a dict, a tuple of scalars -/
def D.shal : D → Bool
  | .lst xs => xs.all D.scal
  | .dct kvs => kvs.all fun p => p.2.scal
  | _ => false
def D.isNon : D → Bool
  | .non => true
  | _ => false
/-- the key that a value is -/
def D.key : D → Option Key
  | .int i => some (.inl i)
  | .str x => some (.inr x)
  | _ => none
def D.ofKey : Key → D
  | .inl i => .int i
  | .inr x => .str x
section
variable {κ : Type} [DecidableEq κ]
def valD (kvs : List (κ × D)) (k : κ) : Option D := (kvs.find? fun kv => decide (kv.1 = k)).map (·.2)
def putD (kvs : List (κ × D)) (k : κ) (v : D) : List (κ × D) :=
  if (kvs.any fun kv => decide (kv.1 = k)) = true then kvs.map (fun kv => if kv.1 = k then (kv.1, v) else kv) else kvs ++ [(k, v)]
def delD (kvs : List (κ × D)) (k : κ) : List (κ × D) := kvs.filter fun kv => decide (kv.1 ≠ k)
def mrgD (kvs more : List (κ × D)) : List (κ × D) := more.foldl (fun acc kv => putD acc kv.1 kv.2) kvs
end
mutual
/-- == of data; none where it is not told here -/
def eqD : D → D → Bool
  | .non, .non => true
  | .bl a, .bl b => a == b
  | .int a, .int b => a == b
  | .bl a, .int b => (if a then 1 else 0) == b
  | .int a, .bl b => a == (if b then 1 else 0)
  | .str a, .str b => a == b
  | .lst a, .lst b => eqDs a b
  | .tup a, .tup b => eqDs a b
  | _, _ => false
def eqDs : List D → List D → Bool
  | [], [] => true
  | a :: as, b :: bs => eqD a b && eqDs as bs
  | _, _ => false
end
mutual
/-- plain data of None, bools, ints, texts, lists, tuples -/
def D.plain : D → Bool
  | .non | .bl _ | .int _ => true
  | .str x => PyData.strOk x
  | .lst xs | .tup xs => D.plains xs
  | _ => false
def D.plains : List D → Bool
  | [] => true
  | x :: xs => x.plain && D.plains xs
end
mutual
/-- how deep -/
def D.deep : D → Nat
  | .lst xs | .tup xs => D.deeps xs + 1
  | _ => 0
def D.deeps : List D → Nat
  | [] => 0
  | x :: xs => max x.deep (D.deeps xs)
end
/-- items of a list or a tuple -/
def D.seq : D → Option (List D)
  | .lst xs => some xs
  | .tup xs => some xs
  | _ => none
def big : Nat := 16777216
/-- a display's keys and values, one behind the other -/
def prsD : List D → Option (List (Key × D))
  | [] => some []
  | [_] => none
  | k :: v :: r => match k.key, prsD r with
    | some j, some l => some ((j, v) :: l)
    | _, _ => none
/-- two rule books: are they equal? -/
def insEq : D → D → Option Bool
  | .ins c [(a1, .int p), (a2, .int n), (a3, .tup t)], .ins c' [(b1, .int q), (b2, .int m), (b3, .tup u)] =>
    if (c = "Rules" ∧ a1 = "prime" ∧ a2 = "letters" ∧ a3 = "rules") ∧ (c' = "Rules" ∧ b1 = "prime" ∧ b2 = "letters" ∧ b3 = "rules") ∧ D.plains t = true ∧ D.plains u = true ∧ (D.tup t).deep ≤ 60 ∧ (D.tup u).deep ≤ 60 then some (decide (p = q) && (decide (n = m) && eqDs t u)) else none
  | _, _ => none
/-- two lists of rule books, alike one by one -/
def insAll : List D → List D → Bool
  | [], [] => true
  | x :: xs, y :: ys => (match insEq x y with | some true => true | _ => false) && insAll xs ys
  | _, _ => false
def insLst : D → D → Bool
  | .lst (x :: xs), .lst (y :: ys) => insAll (x :: xs) (y :: ys)
  | _, _ => false
/-- rule books, or lists of them: are they equal? -/
def insCmp (x y : D) : Option Bool := match insEq x y with
  | some b => some b
  | none => if insLst x y = true then some true else none
/-- the package's other classes -/
def insN : List Str := ["Rules", "Lowered", "Rungs", "Workshop", "LastWord", "LiveBook", "Desk", "Stepper"]
/-- is it an object of the class C? -/
def isaD (C : Str) : D → Option Bool
  | .non | .bl _ | .int _ | .str _ | .lst _ | .tup _ | .dct _ => some false
  | .ins C' _ => if insN.contains C' then some (decide (C' = C)) else none
  | .exc C' _ => some (decide (C' = C) || (decide (C = "RuleError") || decide (C = "ValueError")))
  | _ => none
/-- the package's errors -/
def errN : List Str := ["RuleError", "BadPrime", "BadNumber", "BadWord", "BadRow", "BadTable", "BadBook", "TooMany", "NotAlike", "BadMap", "NotFull", "BadLower", "BadOrder", "NotTidy", "BadWeb", "BadCells", "BadStart", "BadDeed", "BadName", "BadLive", "NothingLeft", "NoWatch", "NoMark", "BadText"]
def isExc (C : Str) : Bool := errN.contains C
/-- the errors that have an attribute -/
def hasAt (C : Str) : Bool := [("BadNumber" : Str), "BadBook", "TooMany", "NoWatch", "NoMark", "BadText"].contains C
/-- an exception that was caught -/
def excD (x : Xn) : D := .exc x.1 (match x.2 with | none => [] | some d => [(attrOf x.1, d)])
/-- the names as a lambda sees them -/
def shut (ρ : Env) : Env := ρ.map fun | some (.frz d) => some (.frz d) | _ => none
/-- a call's values in the sequence of the parameters -/
def permD (pm : List Nat) (ds : List D) : Option (List D) := pm.mapM fun i => ds[i]?
/-- a text so many times -/
def sRep (x : Str) (k : Int) : Str := if k < 1 then Str.empty else if (k == 1 || x.length == 0) = true then x else ⟨(List.replicate k.toNat x.cps).foldl (· ++ ·) #[]⟩
/-- a binary operation that cannot raise here; none: not told -/
def op2 (o : O2) (x y : D) : Option (D × Kd) :=
  match o with
  | .add => match x, y with
    | .int i, .int j => some (.int (i + j), .cln)
    | .lst a, .lst b => if a.length + b.length ≤ big then some (.lst (a ++ b), .new) else none
    | .tup a, .tup b => if a.length + b.length ≤ big then some (.tup (a ++ b), .cln) else none
    | .str a, .str b => if a.length + b.length ≤ big then some (.str (a ++ b), .cln) else none
    | _, _ => none
  | .sub => match x, y with
    | .int i, .int j => some (.int (i - j), .cln)
    | _, _ => none
  | .mul => match x, y with
    | .int i, .int j => if (-(2 ^ 64) < i ∧ i < 2 ^ 64) ∨ (-(2 ^ 64) < j ∧ j < 2 ^ 64) then some (.int (i * j), .cln) else none
    | .lst a, .int k => if k < 2 ^ 62 ∧ -(2 ^ 62) < k ∧ a.length * k.toNat ≤ big then some (.lst (List.replicate k.toNat a).flatten, .new) else none
    | _, _ => none
  | .mod => match x, y with
    | .int i, .int j => if 0 < j then some (.int (i % j), .cln) else none
    | _, _ => none
  | .fdiv => match x, y with
    | .int i, .int j => if 0 < j ∧ j < 1073741824 then some (.int (i / j), .cln) else none
    | _, _ => none
  | .pow => match x, y with
    | .int i, .int j => if 0 ≤ j ∧ j ≤ 1000000 ∧ i.natAbs < 2 ^ 64 then some (.int (i ^ j.toNat), .cln) else none
    | _, _ => none
  | .lt => match x, y with
    | .int i, .int j => some (.bl (decide (i < j)), .cln)
    | _, _ => none
  | .le => match x, y with
    | .int i, .int j => some (.bl (decide (i ≤ j)), .cln)
    | _, _ => none
  | .gt => match x, y with
    | .int i, .int j => some (.bl (decide (j < i)), .cln)
    | _, _ => none
  | .ge => match x, y with
    | .int i, .int j => some (.bl (decide (j ≤ i)), .cln)
    | _, _ => none
  | .eq => match x, y with
    | .dct a, .dct [] => some (.bl a.isEmpty, .cln)
    | _, _ => if x.plain && y.plain && decide (x.deep ≤ 60) && decide (y.deep ≤ 60) then some (.bl (eqD x y), .cln) else none
  | .ne => match x, y with
    | .dct a, .dct [] => some (.bl (!a.isEmpty), .cln)
    | _, _ => if x.plain && y.plain && decide (x.deep ≤ 60) && decide (y.deep ≤ 60) then some (.bl (!eqD x y), .cln) else none
  | .isin => match x, y with
    | k, .dct kvs => k.key.map fun k => (.bl (valD kvs k).isSome, .cln)
    | x, .lst ys => if x.scal && ys.all D.scal then some (.bl (ys.any fun y => eqD y x), .cln) else none
    | x, .tup ys => if x.scal && ys.all D.scal then some (.bl (ys.any fun y => eqD y x), .cln) else none
    | _, _ => none
  | .notin => match x, y with
    | k, .dct kvs => k.key.map fun k => (.bl (!(valD kvs k).isSome), .cln)
    | x, .lst ys => if x.scal && ys.all D.scal then some (.bl (!ys.any fun y => eqD y x), .cln) else none
    | x, .tup ys => if x.scal && ys.all D.scal then some (.bl (!ys.any fun y => eqD y x), .cln) else none
    | _, _ => none
  | .is_ => match x, y with
    | .opq _, _ => none
    | .bl a, .bl b => some (.bl (decide (a = b)), .cln)
    | x, .non => some (.bl x.isNon, .cln)
    | _, _ => none
  | .isnot => match x, y with
    | .opq _, _ => none
    | .bl a, .bl b => some (.bl (!decide (a = b)), .cln)
    | x, .non => some (.bl (!x.isNon), .cln)
    | _, _ => none
  | .eqI => (insEq x y).map fun b => (.bl b, .cln)
  | .neI => (insCmp x y).map fun b => (.bl (!b), .cln)
  | .neX => match insCmp x y with
    | some b => some (.bl (!b), .cln)
    | none => match x, y with
      | .dct a, .dct [] => some (.bl (!a.isEmpty), .cln)
      | _, _ => if x.plain && y.plain && decide (x.deep ≤ 60) && decide (y.deep ≤ 60) then some (.bl (!eqD x y), .cln) else none
  | .eqX => match insEq x y with
    | some b => some (.bl b, .cln)
    | none => match x, y with
      | .dct a, .dct [] => some (.bl a.isEmpty, .cln)
      | _, _ => if x.plain && y.plain && decide (x.deep ≤ 60) && decide (y.deep ≤ 60) then some (.bl (eqD x y), .cln) else none
  | .rep => match x, y with
    | .tup a, .int k => if 0 < a.length ∧ 1 ≤ k ∧ k ≤ 1000 ∧ a.length ≤ 1000 then some (.tup (List.replicate k.toNat a).flatten, .cln) else none
    | .str a, .int k => if k < 2 ^ 62 ∧ -(2 ^ 62) < k ∧ a.length * k.toNat ≤ big then some (.str (sRep a k), .cln) else none
    | _, _ => none
theorem eqX_I {x y : D} {b : Bool} (h : insEq x y = some b) : op2 .eqX x y = op2 .eqI x y := by
  unfold op2
  rw [h]
  rfl
theorem eqX_eq {x y : D} (h : insEq x y = none) : op2 .eqX x y = op2 .eq x y := by
  unfold op2
  simp only [h]
theorem neX_I {x y : D} {b : Bool} (h : insCmp x y = some b) : op2 .neX x y = op2 .neI x y := by
  unfold op2
  rw [h]
  rfl
theorem neX_ne {x y : D} (h : insCmp x y = none) : op2 .neX x y = op2 .ne x y := by
  unfold op2
  simp only [h]
def D.isI : D → Option Bool
  | .int _ | .bl _ => some true
  | .non | .str _ | .lst _ | .tup _ | .dct _ => some false
  | _ => none
def D.isB : D → Option Bool
  | .bl _ => some true
  | .int _ | .non | .str _ | .lst _ | .tup _ | .dct _ => some false
  | _ => none
def D.isL : D → Option Bool
  | .lst _ | .tup _ => some true
  | .bl _ | .int _ | .non | .str _ | .dct _ => some false
  | _ => none
def D.isT : D → Option Bool
  | .tup _ => some true
  | .bl _ | .int _ | .non | .str _ | .lst _ | .dct _ => some false
  | _ => none
def rngD (lo : Int) (n : Nat) : List D := (List.range n).map fun i => .int (lo + (i : Nat))
/-- a built-in on its arguments -/
def pr (p : Pr) (ds : List D) (P : D → Kd → Prop) : Prop :=
  match p, ds with
  | .len, [.lst xs] => P (.int xs.length) .cln
  | .len, [.tup xs] => P (.int xs.length) .cln
  | .len, [.dct xs] => P (.int xs.length) .cln
  | .tuple, [.lst xs] => P (.tup xs) .cln
  | .tuple, [.tup xs] => P (.tup xs) .cln
  | .tuple, [.rng lo hi] => (hi - lo ≤ big ∧ -(2 ^ 61) ≤ lo ∧ lo < 2 ^ 61 ∧ -(2 ^ 61) ≤ hi) ∧ P (.tup (rngD lo (hi - lo).toNat)) .cln
  | .list, [.lst xs] => P (.lst xs) .new
  | .list, [.tup xs] => P (.lst xs) .new
  | .list, [.dct kvs] => P (.lst (kvs.map fun kv => .ofKey kv.1)) .new
  | .list, [.rng lo hi] => (hi - lo ≤ big ∧ -(2 ^ 61) ≤ lo ∧ lo < 2 ^ 61 ∧ -(2 ^ 61) ≤ hi) ∧ P (.lst (rngD lo (hi - lo).toNat)) .new
  | .dict, [.dct kvs] => P (.dct kvs) .new
  | .dict, [.lst ps] => ∃ kvs : List (Key × D), ps = kvs.map (fun kv => .tup [.ofKey kv.1, kv.2]) ∧ P (.dct (mrgD [] kvs)) .new
  | .sorted, [.lst xs] => ∃ ns : List Int, xs = ns.map .int ∧ ∀ ms : List Int, ms.Perm ns → ms.Pairwise (· ≤ ·) → P (.lst (ms.map .int)) .new
  | .sorted, [.dct kvs] => ∃ ns : List Int, kvs.map (·.1) = ns.map Sum.inl ∧ ∀ ms : List Int, ms.Perm ns → ms.Pairwise (· ≤ ·) → P (.lst (ms.map .int)) .new
  | .min, [.dct kvs] => ∃ ns : List Int, kvs.map (·.1) = ns.map Sum.inl ∧ 0 < ns.length ∧ ∀ m, m ∈ ns → (∀ y ∈ ns, m ≤ y) → P (.int m) .cln
  | .min, [.lst xs] => ∃ ns : List Int, xs = ns.map .int ∧ 0 < ns.length ∧ ∀ m, m ∈ ns → (∀ y ∈ ns, m ≤ y) → P (.int m) .cln
  | .max, [.lst xs] => ∃ ns : List Int, xs = ns.map .int ∧ 0 < ns.length ∧ ∀ m, m ∈ ns → (∀ y ∈ ns, y ≤ m) → P (.int m) .cln
  | .min, [.int i, .int j] => P (.int (if j < i then j else i)) .cln
  | .max, [.int i, .int j] => P (.int (if j > i then j else i)) .cln
  | .sum, [.lst xs] => ∃ ns : List Int, xs = ns.map .int ∧ P (.int ns.sum) .cln
  | .all, [.lst xs] => ∃ bs : List Bool, xs = bs.map .bl ∧ P (.bl (bs.all id)) .cln
  | .any, [.lst xs] => ∃ bs : List Bool, xs = bs.map .bl ∧ P (.bl (bs.any id)) .cln
  | .abs, [.int i] => P (.int (if i < 0 then -i else i)) .cln
  | .int, [.int i] => P (.int i) .cln
  | .int, [.bl b] => P (.int (if b then 1 else 0)) .cln
  | .isint, [d] => ∃ b, d.isI = some b ∧ P (.bl b) .cln
  | .isbool, [d] => ∃ b, d.isB = some b ∧ P (.bl b) .cln
  | .islist, [d] => ∃ b, d.isL = some b ∧ P (.bl b) .cln
  | .istup, [d] => ∃ b, d.isT = some b ∧ P (.bl b) .cln
  | .range, [.int n] => (-(2 ^ 61) ≤ n ∧ n ≤ big) ∧ P (.rng 0 n) .cln
  | .range, [.int l, .int n] => P (.rng l n) .cln
  | _, _ => False
/-- a name's own object is given away: from now on it is data -/
def frzAt (ρ : Env) (i : Nat) (d : D) : Env := ρ.set i (some (.frz d))
def clr (d : D) (k : Kd) (ρ : Env) (P : Env → Prop) : Prop :=
  match k with
  | .own i => P (frzAt ρ i d)
  | _ => P ρ
/-- a name's own object stands as it stood -/
def stood (ρ : Env) (d : D) : Kd → Prop
  | .own i => ρ[i]? = some (some (.own d))
  | _ => True
def stoods (ρ : Env) : List (D × Kd) → Prop
  | [] => True
  | p :: r => stood ρ p.1 p.2 ∧ stoods ρ r
def owns (ks : List (D × Kd)) : Bool := ks.any fun p => match p.2 with | .own _ => true | _ => false
def wipeD (ρ : Env) : List Nat → Env
  | [] => ρ
  | v :: vs => (wipeD ρ vs).set v none
def bindL : List Nat → List D → Env → Option Env
  | [], [], ρ => some ρ
  | i :: is, d :: ds, ρ => bindL is ds (ρ.set i (some (.frz d)))
  | _, _, _ => none
def bindT (t : Tg) (d : D) (ρ : Env) : Option Env :=
  match t, d with
  | .one i, d => some (ρ.set i (some (.frz d)))
  | .tup is, .tup ds => bindL is ds ρ
  | _, _ => none
/-- a comprehension's turns -/
def cmpL (step : D → (Option D → Prop) → Prop) : List D → List D → (List D → Prop) → Prop
  | [], acc, P => P acc
  | x :: xs, acc, P => step x fun r => match r with
    | none => cmpL step xs acc P
    | some d => acc.length < big ∧ cmpL step xs (acc ++ [d]) P
/-- .. with an inner walk -/
def cmpLs (step : D → List D → (List D → Prop) → Prop) : List D → List D → (List D → Prop) → Prop
  | [], acc, P => P acc
  | x :: xs, acc, P => step x acc fun acc' => cmpLs step xs acc' P
def atD (xs : List D) (i : Int) : Option D := atI xs i
def cutD (xs : List D) (lo hi : Option Int) : List D := (xs.drop (HT.sIx xs.length 0 lo)).take (HT.sIx xs.length xs.length hi - HT.sIx xs.length 0 lo)
def enumD (i : Nat) : List D → List D
  | [] => []
  | x :: xs => .tup [.int i, x] :: enumD (i + 1) xs
def noX : Xn → Prop := fun _ => False
def zipD : List D → List D → List D
  | x :: xs, y :: ys => .tup [x, y] :: zipD xs ys
  | _, _ => []
def zk : Kd → Kd → Kd
  | .own i, _ => .own i
  | _, .own i => .own i
  | _, _ => .cln
def Sl.isOwn : Option (Option Sl) → Bool
  | some (some (.own _)) => true
  | _ => false
/-- none of these names holds an object of its own -/
def noOwn (ρ : Env) (vs : List Nat) : Bool := vs.all fun v => !Sl.isOwn ρ[v]?
def Sl.isK : Option (Option Sl) → Bool
  | some (some (.own (.dct _))) => true
  | _ => false
def Sl.isL : Option (Option Sl) → Bool
  | some (some (.own (.lst _))) => true
  | _ => false
/-- x[y] -/
def idxR (x y : D) (P : D → Prop) : Prop := match x, y with
  | .lst xs, .int i => ∃ d, atD xs i = some d ∧ P d
  | .tup xs, .int i => ∃ d, atD xs i = some d ∧ P d
  | .dct kvs, y => ∃ j d, y.key = some j ∧ valD kvs j = some d ∧ P d
  | _, _ => False
def cutR (x : D) (l h : Option Int) (P : D → Kd → Prop) : Prop := match x with
  | .lst xs => P (.lst (cutD xs l h)) .new
  | .tup xs => P (.tup (cutD xs l h)) .cln
  | _ => False
def revR (x : D) (P : D → Prop) : Prop := match x with
  | .lst xs => P (.lst xs.reverse)
  | _ => False
/-- d.pop(y, ..): where the key is, where it is not -/
def popR (s : Option (Option Sl)) (y : D) (P : D → List (Key × D) → Prop) (N : Prop) : Prop := ∃ kvs j, s = some (some (.own (.dct kvs))) ∧ y.key = some j ∧
      match valD kvs j with
      | some v => P v (delD kvs j)
      | none => N
def poplR (s : Option (Option Sl)) (y : D) (P : D → List D → Prop) : Prop := ∃ (xs : List D) (j : Nat) (d : D), s = some (some (.own (.lst xs))) ∧ y = .int (j : Nat) ∧ xs[j]? = some d ∧ P d (xs.eraseIdx j)
def seqR (x : D) (P : List D → Prop) : Prop := match x with
  | .lst xs => P xs
  | .tup xs => P xs
  | .rng lo hi => (hi - lo ≤ big ∧ -(2 ^ 61) ≤ lo ∧ lo < 2 ^ 61 ∧ -(2 ^ 61) ≤ hi) ∧ P (rngD lo (hi - lo).toNat)
  | _ => False
def enR (x : D) (P : List D → Prop) : Prop := match x with
  | .lst xs => P xs
  | .tup xs => P xs
  | _ => False
def keyR (s : Option (Option Sl)) (P Q : List (Key × D) → Prop) : Prop := match s with
  | some (some (.frz (.dct kvs))) => P kvs
  | some (some (.own (.dct kvs))) => Q kvs
  | _ => False
def zipR (x y : D) (P : List D → Prop) : Prop := match x, y with
  | .lst xs, .lst ys => P (zipD xs ys)
  | .tup xs, .tup ys => P (zipD xs ys)
  | .lst xs, .tup ys => P (zipD xs ys)
  | .tup xs, .lst ys => P (zipD xs ys)
  | _, _ => False
/-- a comprehension's turn -/
def trn (t : Tg) (vs : List Nat) (fc : Env → (Bool → Env → Prop) → Prop) (fe : Env → Kt → Prop) (ρ1 : Env) (x : D) (K : Option D → Prop) : Prop :=
  ∃ ρ2, bindT t x (wipeD ρ1 vs) = some ρ2 ∧ fc ρ2 fun b ρ3 => ρ3 = ρ2 ∧ if b = true then fe ρ2 (fun d k ρ4 => ρ4 = ρ2 ∧ k.no ∧ K (some d)) else K none
/-- .. of two clauses -/
def trn2 (t : Tg) (vs : List Nat) (t2 : Tg) (vs2 : List Nat) (fc : Env → (Bool → Env → Prop) → Prop) (fi : Env → (List D → Kd → Env → Prop) → Prop) (fc2 : Env → (Bool → Env → Prop) → Prop) (fe : Env → Kt → Prop) (ρ1 : Env) (x : D) (acc : List D) (K : List D → Prop) : Prop :=
  ∃ ρ2, bindT t x (wipeD ρ1 vs) = some ρ2 ∧ fc ρ2 fun b ρ3 => ρ3 = ρ2 ∧ if b = true then fi ρ2 fun items2 k2 ρ4 => ρ4 = ρ2 ∧ noOwn ρ2 vs2 = true ∧ cmpL (trn t2 vs2 fc2 fe ρ2) items2 acc K else K acc
/-- a function that a name holds -/
def fnvR (s : Option (Option Sl)) (tb : List (Str × Nat × Fn)) (P : Nat → Fn → Prop) : Prop := ∃ x m F, s = some (some (.frz (.fnv x))) ∧ tb.lookup x = some (m, F) ∧ P m F
/-- .. or a lambda's object that stands alone -/
def fnvW (s : Option (Option Sl)) (tb : List (Str × Nat × Fn)) (ll : List (LamT × Str × Nat × Fn)) (P : Nat → Fn → Prop) : Prop := fnvR s tb P ∨ ∃ l q m F, s = some (some (.frz (.lamc l q))) ∧ (l, q, m, F) ∈ ll ∧ P m F
/-- a dict that an inner walk goes over is there from the first -/
def kOk : CI → Env → Prop
  | .key i, ρ => ∃ kvs, ρ[i]? = some (some (.frz (.dct kvs)))
  | _, _ => True
mutual
def ev (E : Xn → Prop) : CE → Env → Kt → Prop
  | .var i, ρ, P => match ρ[i]? with
    | some (some (.frz d)) => P d .cln ρ
    | some (some (.own d)) => P d (.own i) ρ
    | _ => False
  | .lit d, ρ, P => P d .cln ρ
  | .op o a b, ρ, P => ev E a ρ fun x k ρ1 => ev E b ρ1 fun y _ ρ2 => stood ρ2 x k ∧ ∃ r, op2 o x y = some r ∧ P r.1 r.2 ρ2
  | .neg a, ρ, P => ev E a ρ fun x _ ρ1 => ∃ i, x = .int i ∧ P (.int (-i)) .cln ρ1
  | .not a, ρ, P => ev E a ρ fun x _ ρ1 => ∃ b, x = .bl b ∧ P (.bl (!b)) .cln ρ1
  | .chain o p a b c, ρ, P => ev E a ρ fun x k ρ1 => ev E b ρ1 fun y k' ρ2 => stood ρ2 x k ∧ ∃ r, op2 o x y = some (.bl r, .cln) ∧
      if r = true then ev E c ρ2 fun z _ ρ3 => stood ρ3 y k' ∧ ∃ s, op2 p y z = some s ∧ P s.1 s.2 ρ3 else P (.bl false) .cln ρ2
  | .and a b, ρ, P => ev E a ρ fun x _ ρ1 => ∃ c, x = .bl c ∧ if c = true then ev E b ρ1 P else P (.bl false) .cln ρ1
  | .or a b, ρ, P => ev E a ρ fun x _ ρ1 => ∃ c, x = .bl c ∧ if c = true then P (.bl true) .cln ρ1 else ev E b ρ1 P
  | .ife c a b, ρ, P => ev E c ρ fun x _ ρ1 => ∃ t, x = .bl t ∧ if t = true then ev E a ρ1 P else ev E b ρ1 P
  | .lst es, ρ, P => evs E es ρ fun ds ρ1 => P (.lst ds) .new ρ1
  | .tup es, ρ, P => evs E es ρ fun ds ρ1 => P (.tup ds) .cln ρ1
  | .dsp ks es, ρ, P => evs E es ρ fun ds ρ1 => ds.length = ks.length ∧ ds.length ≤ 15 ∧ P (.dct (mrgD [] (ks.zip ds))) .new ρ1
  | .dspe es, ρ, P => evs E es ρ fun ds ρ1 => ∃ kvs, prsD ds = some kvs ∧ kvs.length ≤ 15 ∧ P (.dct (mrgD [] kvs)) .new ρ1
  | .idx a b, ρ, P => ev E a ρ fun x k ρ1 => ev E b ρ1 fun y _ ρ2 => stood ρ2 x k ∧ idxR x y fun d => P d .cln ρ2
  | .cut a lo hi, ρ, P => ev E a ρ fun x k ρ1 => evo E lo ρ1 fun l ρ2 => evo E hi ρ2 fun h ρ3 => stood ρ3 x k ∧ cutR x l h fun d k => P d k ρ3
  | .rev a, ρ, P => ev E a ρ fun x _ ρ1 => revR x fun d => P d .new ρ1
  | .call F es, ρ, P => if F.fl = true then evas E es ρ fun ps ρ1 => stoods ρ1 ps ∧ F.run (ps.map (·.1)) (fun d => (d.scal = true ∨ (F.fr = true ∧ d.shal = true) ∨ owns ps = false) ∧ P d (if F.fr = true then .new else .cln) ρ1) E
      else evs E es ρ fun ds ρ1 => F.run ds (fun d => P d (if F.fr = true then .new else .cln) ρ1) E
  | .prim p es, ρ, P => evas E es ρ fun ps ρ1 => stoods ρ1 ps ∧ pr p (ps.map (·.1)) fun d k => P d k ρ1
  | .get a k d, ρ, P => ev E a ρ fun x q ρ1 => ∃ kvs, x = .dct kvs ∧ ev E k ρ1 fun y _ ρ2 => ev E d ρ2 fun z _ ρ3 => stood ρ3 x q ∧ z.scal = true ∧ ∃ j, y.key = some j ∧ P ((valD kvs j).getD z) .cln ρ3
  | .popd i k d, ρ, P => Sl.isK ρ[i]? = true ∧ ev E k ρ fun y _ ρ1 => ev E d ρ1 fun z _ ρ2 => z.scal = true ∧ popR ρ2[i]? y (fun v kvs => P v .cln (ρ2.set i (some (.own (.dct kvs))))) (P z .cln ρ2)
  | .popl i k, ρ, P => Sl.isL ρ[i]? = true ∧ ev E k ρ fun y _ ρ1 => poplR ρ1[i]? y fun d xs => P d .cln (ρ1.set i (some (.own (.lst xs))))
  | .fld Cs a f, ρ, P => ev E a ρ fun x _ ρ1 => ∃ C fs d, C ∈ Cs ∧ (isExc C = false ∧ x = .ins C fs ∨ isExc C = true ∧ x = .exc C fs) ∧ fs.lookup f = some d ∧ P d .cln ρ1
  | .comp vs e t it c, ρ, P => evi E it ρ fun items k ρ1 => noOwn ρ1 vs = true ∧ cmpL (trn t vs (evc noX c) (ev noX e) ρ1) items [] fun ds => P (.lst ds) .new ρ1
  | .comp2 vs vs2 e t it c t2 it2 c2, ρ, P => kOk it2 ρ ∧ evi E it ρ fun items k ρ1 => noOwn ρ1 vs = true ∧ kOk it2 (wipeD ρ1 vs) ∧ cmpLs (trn2 t vs t2 vs2 (evc noX c) (evi noX it2) (evc noX c2) (ev noX e) ρ1) items [] fun ds => P (.lst ds) .new ρ1
  | .isa a C, ρ, P => ev E a ρ fun x _ ρ1 => ∃ b, isaD C x = some b ∧ P (.bl b) .cln ρ1
  | .lam j, ρ, P => P (.clo j) .cln ρ
  | .caught bs e, ρ, P => ev E e ρ fun x _ ρ1 => ∃ j, x = .clo j ∧ evj bs j (shut ρ1) (fun y => P (excD y) .cln ρ1) (P .non .cln ρ1)
  | .callk F pm es, ρ, P => evs E es ρ fun ds ρ1 => ∃ ds', permD pm ds = some ds' ∧ F.run ds' (fun d => P d (if F.fr = true then .new else .cln) ρ1) E
  | .callv i tb es, ρ, P => fnvR ρ[i]? tb fun m F => evs E es ρ fun ds ρ1 => ds.length = m ∧ F.run ds (fun d => P d (if F.fr = true then .new else .cln) ρ1) E
  | .callw i tb ll es, ρ, P => fnvW ρ[i]? tb ll fun m F => evs E es ρ fun ds ρ1 => ds.length = m ∧ F.run ds (fun d => P d (if F.fr = true then .new else .cln) ρ1) E
def evj : CL → Nat → Env → (Xn → Prop) → Prop → Prop
  | .nil, _, _, _, _ => False
  | .cons b bs, j, ρ, E, P => match j with
    | 0 => ev E b ρ fun _ _ _ => P
    | j + 1 => evj bs j ρ E P
def evs (E : Xn → Prop) : CL → Env → (List D → Env → Prop) → Prop
  | .nil, ρ, P => P [] ρ
  | .cons e es, ρ, P => ev E e ρ fun d k ρ1 => clr d k ρ1 fun ρ2 => evs E es ρ2 fun ds ρ3 => P (d :: ds) ρ3
def evas (E : Xn → Prop) : CL → Env → (List (D × Kd) → Env → Prop) → Prop
  | .nil, ρ, P => P [] ρ
  | .cons e es, ρ, P => ev E e ρ fun d k ρ1 => evas E es ρ1 fun ds ρ2 => P ((d, k) :: ds) ρ2
def evo (E : Xn → Prop) : CO → Env → (Option Int → Env → Prop) → Prop
  | .no, ρ, P => P none ρ
  | .one e, ρ, P => ev E e ρ fun d _ ρ1 => ∃ i, d = .int i ∧ P (some i) ρ1
def evc (E : Xn → Prop) : CO → Env → (Bool → Env → Prop) → Prop
  | .no, ρ, P => P true ρ
  | .one e, ρ, P => ev E e ρ fun d _ ρ1 => ∃ b, d = .bl b ∧ P b ρ1
def evi (E : Xn → Prop) : CI → Env → (List D → Kd → Env → Prop) → Prop
  | .seq e, ρ, P => ev E e ρ fun d k ρ1 => seqR d fun xs => P xs k ρ1
  | .key i, ρ, P => keyR ρ[i]? (fun kvs => P (kvs.map fun kv => .ofKey kv.1) .cln ρ) fun kvs => P (kvs.map fun kv => .ofKey kv.1) .cln (frzAt ρ i (.dct kvs))
  | .rng1 a, ρ, P => ev E a ρ fun x _ ρ1 => ∃ j : Int, x = .int j ∧ j ≤ big ∧ -(2 ^ 62) ≤ j ∧ P (rngD 0 j.toNat) .cln ρ1
  | .rng a b, ρ, P => ev E a ρ fun x _ ρ1 => ev E b ρ1 fun y _ ρ2 => ∃ i j : Int, x = .int i ∧ y = .int j ∧ j - i ≤ big ∧ -(2 ^ 61) ≤ i ∧ i < 2 ^ 61 ∧ -(2 ^ 61) ≤ j ∧ P (rngD i (j - i).toNat) .cln ρ2
  | .enum e, ρ, P => ev E e ρ fun d k ρ1 => enR d fun xs => P (enumD 0 xs) k ρ1
  | .zip a b, ρ, P => ev E a ρ fun x k ρ1 => ev E b ρ1 fun y k2 ρ2 => stood ρ2 x k ∧ zipR x y fun xs => P xs (zk k k2) ρ2
end
mutual
inductive CS where
  | asg (i : Nat) (o : Bool) (e : CE)
  | unp (t : Tg) (e : CE)
  | par (is : List (Nat × Bool)) (es : CL)
  | aug (i : Nat) (o : O2) (e : CE)
  | app (i : Nat) (e : CE)
  | ext (i : Nat) (e : CE)
  | seti (i : Nat) (k e : CE)
  | augi (i : Nat) (k : CE) (o : O2) (e : CE)
  | exp (e : CE)
  | ret (e : CE) | retn
  | ite (c : CE) (a b : CB)
  | for_ (t : Tg) (it : CI) (b : CB)
  | whl (c : CE) (b : CB)
  | raise_ (C : Str) (a : CO)
  | cont | pass | never | clr (i : Nat)
inductive CB where
  | nil | cons (s : CS) (r : CB)
end
/-- z[y] -/
def getD (z y : D) : Option D :=
  match z, y with
  | .lst xs, .int i => atD xs i
  | .dct kvs, y => y.key.bind (valD kvs)
  | _, _ => none
/-- z[y] = d -/
def setD (z y d : D) : Option D :=
  match z, y with
  | .lst xs, .int n => (ixN xs.length n).map fun j => .lst (xs.set j d)
  | .dct kvs, y => if kvs.length < big then y.key.map fun j => .dct (putD kvs j d) else none
  | _, _ => none
def setR (s : Option (Option Sl)) (y d : D) (P : D → Prop) : Prop := ∃ z z', s = some (some (.own z)) ∧ setD z y d = some z' ∧ P z'
def appR (s : Option (Option Sl)) (d : D) (P : D → Prop) : Prop := ∃ xs, s = some (some (.own (.lst xs))) ∧ xs.length < big ∧ P (.lst (xs ++ [d]))
def extR (s : Option (Option Sl)) (d : D) (P : D → Prop) : Prop := ∃ xs ys, s = some (some (.own (.lst xs))) ∧ d = .lst ys ∧ xs.length + ys.length ≤ big ∧ P (.lst (xs ++ ys))
/-- while a dict is walked nothing may be raised -/
def itX : CI → (Xn → Prop) → Xn → Prop
  | .key _, _ => noX
  | _, E => E
/-- what is wanted behind a statement -/
structure Kn where
  nx : Env → Prop
  rt : D → Kd → Env → Prop
  ct : Env → Prop := fun _ => False
def forL (body : Env → Kn → Prop) (t : Tg) : List D → Env → Kn → Prop
  | [], ρ, K => K.nx ρ
  | x :: xs, ρ, K => ∃ ρ1, bindT t x ρ = some ρ1 ∧ body ρ1 ⟨fun ρ2 => forL body t xs ρ2 K, K.rt, fun ρ2 => forL body t xs ρ2 K⟩
def whlN (c : Env → (Bool → Env → Prop) → Prop) (body : Env → Kn → Prop) : Nat → Env → Kn → Prop
  | 0, _, _ => False
  | n + 1, ρ, K => c ρ fun b ρ1 => if b = true then body ρ1 ⟨fun ρ2 => whlN c body n ρ2 K, K.rt, fun ρ2 => whlN c body n ρ2 K⟩ else K.nx ρ1
/-- a value as a test -/
def tst (f : Env → Kt → Prop) (ρ : Env) (P : Bool → Env → Prop) : Prop := f ρ fun x _ ρ1 => ∃ t, x = .bl t ∧ P t ρ1
/-- x = e -/
def sto (i : Nat) (o : Bool) (d : D) (k : Kd) (ρ : Env) (P : Env → Prop) : Prop :=
  match o, k with
  | true, .new => P (ρ.set i (some (.own d)))
  | _, k => clr d k ρ fun ρ1 => P (ρ1.set i (some (.frz d)))
mutual
def evS (E : Xn → Prop) : CS → Env → Kn → Prop
  | .asg i o e, ρ, K => ev E e ρ fun d k ρ1 => sto i o d k ρ1 K.nx
  | .unp t e, ρ, K => ev E e ρ fun d k ρ1 => ∃ ρ2, bindT t d ρ1 = some ρ2 ∧ K.nx ρ2
  | .par is es, ρ, K => match is, es with
    | [(i, o), (j, p)], .cons e (.cons f .nil) => ev E e ρ fun d k ρ1 => k.no ∧ ev E f ρ1 fun d' k' ρ2 => k'.no ∧ sto i o d k ρ2 fun ρ3 => sto j p d' k' ρ3 K.nx
    | [(i, o), (j, p), (l, q)], .cons e (.cons f (.cons g .nil)) => ev E e ρ fun d k ρ1 => k.no ∧ ev E f ρ1 fun d' k' ρ2 => k'.no ∧ ev E g ρ2 fun d'' k'' ρ3 =>
        k''.no ∧ sto i o d k ρ3 fun ρ4 => sto j p d' k' ρ4 fun ρ5 => sto l q d'' k'' ρ5 K.nx
    | _, _ => False
  | .aug i o e, ρ, K => ∃ x, ρ[i]? = some (some (.frz x)) ∧ x.scal = true ∧ ev E e ρ fun d k ρ1 => ∃ r, op2 o x d = some r ∧ K.nx (ρ1.set i (some (.frz r.1)))
  | .app i e, ρ, K => Sl.isL ρ[i]? = true ∧ ev E e ρ fun d k ρ1 => clr d k ρ1 fun ρ2 => appR ρ2[i]? d fun x => K.nx (ρ2.set i (some (.own x)))
  | .ext i e, ρ, K => Sl.isL ρ[i]? = true ∧ ev E e ρ fun d k ρ1 => clr d k ρ1 fun ρ2 => extR ρ2[i]? d fun x => K.nx (ρ2.set i (some (.own x)))
  | .seti i k e, ρ, K => Sl.isOwn ρ[i]? = true ∧ ev E e ρ fun d kd ρ1 => clr d kd ρ1 fun ρ2 => ev E k ρ2 fun y _ ρ3 => setR ρ3[i]? y d fun z' => K.nx (ρ3.set i (some (.own z')))
  | .augi i k o e, ρ, K => Sl.isOwn ρ[i]? = true ∧ ev E k ρ fun y _ ρ1 => ∃ x z, ρ1[i]? = some (some (.own z)) ∧ getD z y = some x ∧ x.scal = true ∧ ev E e ρ1 fun d _ ρ2 => ∃ r z' z'', ρ2[i]? = some (some (.own z')) ∧ op2 o x d = some r ∧ r.1.scal = true ∧ setD z' y r.1 = some z'' ∧ K.nx (ρ2.set i (some (.own z'')))
  | .exp e, ρ, K => ev E e ρ fun _ _ ρ1 => K.nx ρ1
  | .ret e, ρ, K => ev E e ρ K.rt
  | .retn, ρ, K => K.rt .non .cln ρ
  | .ite c a b, ρ, K => ev E c ρ fun x _ ρ1 => ∃ t, x = .bl t ∧ if t = true then evB E a ρ1 K else evB E b ρ1 K
  | .for_ t it b, ρ, K => evi E it ρ fun items k ρ1 => k.no ∧ forL (evB (itX it E) b) t items ρ1 K
  | .whl c b, ρ, K => ∃ n, whlN (tst (ev E c)) (evB E b) n ρ K
  | .raise_ C a, ρ, K => match a with
    | .no => E (C, none)
    | .one e => ev E e ρ fun d _ _ => d.scal = true ∧ if hasAt C = true then E (C, some d) else E (C, none)
  | .cont, ρ, K => K.ct ρ
  | .pass, ρ, K => K.nx ρ
  | .never, _, _ => False
  | .clr i, ρ, K => Sl.isL ρ[i]? = true ∧ K.nx (ρ.set i (some (.own (.lst []))))
def evB (E : Xn → Prop) : CB → Env → Kn → Prop
  | .nil, ρ, K => K.nx ρ
  | .cons s r, ρ, K => evS E s ρ { K with nx := fun ρ1 => evB E r ρ1 K }
end
/-- a def's body, called -/
def evF (b : CB) (n : Nat) (fr : Bool) (ds : List D) (P : D → Prop) (E : Xn → Prop) : Prop :=
  evB E b (ds.map (fun d => some (.frz d)) ++ List.replicate (n - ds.length) none)
    ⟨fun _ => fr = false ∧ P .non, fun d k _ => (fr = true → k.frs) ∧ P d, fun _ => False⟩
theorem isK_of {s : Option (Option Sl)} (h : Sl.isK s = true) : ∃ kvs, s = some (some (.own (.dct kvs))) := by
  unfold Sl.isK at h
  split at h
  · exact ⟨_, rfl⟩
  · cases h
theorem isL_of {s : Option (Option Sl)} (h : Sl.isL s = true) : ∃ xs, s = some (some (.own (.lst xs))) := by
  unfold Sl.isL at h
  split at h
  · exact ⟨_, rfl⟩
  · cases h
theorem keyR_of {s : Option (Option Sl)} {P Q : List (Key × D) → Prop} (h : keyR s P Q) : (∃ kvs, s = some (some (.frz (.dct kvs))) ∧ P kvs) ∨ ∃ kvs, s = some (some (.own (.dct kvs))) ∧ Q kvs := by
  unfold keyR at h
  split at h
  · exact .inl ⟨_, rfl, h⟩
  · exact .inr ⟨_, rfl, h⟩
  · exact h.elim
end Z
end T_Z1
section T_Z2
namespace Z
open PySem L2
/-- the tables of code objects that may grow; the frame's lambdas, its cells, its lambdas' name -/
structure CnX where
  tb : List (Addr × Str)
  lm : List LamT
  cl : List (Str × Addr)
  lq : Str
def CnX.no : CnX := ⟨[], [], [], ""⟩
/-- what is around: the written part, the module's names, the draws' objects (their dict, the large numbers, the cells), where they are begun -/
structure Cn where
  K : PySem.W.Frag
  mg : Str → Option Value
  dr : Option (Addr × Addr × Addr)
  xs : CnX
/-- the objects that the draws change, the tables that lambdas change -/
def Cn.ws (c : Cn) (a : Addr) : Prop := (∃ x y z, c.dr = some (x, y, z) ∧ (a = x ∨ a = y ∨ a = z)) ∨ ∃ q, (a, q) ∈ c.xs.tb
def drwD (y z : Addr) (r t : Int) : List (Key × V) := [(.inr "large", .ref y), (.inr "rest", .int r), (.inr "cells", .ref z), (.inr "turn", .int t)]
def DrawOk (x y z : Addr) (H : Hp) : Prop := ∃ (r t : Int) (ls cs : List Int), H x = some (.dK (drwD y z r t)) ∧ H y = some (.lst (ls.map V.int)) ∧ H z = some (.lst (cs.map V.int)) ∧ ls.length ≤ sizeLine ∧ cs.length ≤ sizeLine ∧ x ≠ y ∧ x ≠ z ∧ y ≠ z
def Cn.wok (c : Cn) (H : Hp) : Prop := (∀ x y z, c.dr = some (x, y, z) → DrawOk x y z H) ∧ LamX.Tabs c.xs.tb H
/-- objects of the library's own kind stand as they stood -/
def Exk (H H' : Hp) : Prop := ∀ b φ, H b = some (.ext φ) → H' b = some (.ext φ)
theorem exk_upd {H : Hp} {p : Addr} {o : HO} (h : ∀ φ, H p ≠ some (.ext φ)) : Exk H (upd H p o) := fun b φ e => by
  rw [upd_ne fun z => by rw [z] at e; exact h φ e]; exact e
theorem exk_new {H : Hp} {p : Addr} {o : HO} (h : H p = none) : Exk H (upd H p o) := exk_upd fun φ e => by rw [h] at e; cases e
theorem exk_at {H : Hp} {p : Addr} {o u : HO} (h : H p = some u) (hu : ∀ φ, u ≠ .ext φ) : Exk H (upd H p o) := exk_upd fun φ e => by rw [h] at e; cases e; exact hu _ rfl
theorem Cn.wdep (c : Cn) (H H' : Hp) (h : ∀ a, c.ws a → H' a = H a) (kx : Exk H H') (k : c.wok H) : c.wok H' := by
  refine ⟨fun x y z e => ?_, fun p hp => ?_⟩
  · obtain ⟨r, t, ls, cs, h1, h2, h3, h4⟩ := k.1 x y z e
    exact ⟨r, t, ls, cs, by rw [h _ (.inl ⟨x, y, z, e, .inl rfl⟩)]; exact h1, by rw [h _ (.inl ⟨x, y, z, e, .inr (.inl rfl)⟩)]; exact h2, by rw [h _ (.inl ⟨x, y, z, e, .inr (.inr rfl)⟩)]; exact h3, h4⟩
  · obtain ⟨ps, h1, h2, h3⟩ := k.2 p hp
    refine ⟨ps, by rw [h _ (.inr ⟨p.2, hp⟩)]; exact h1, h2, fun pos cv hc => ?_⟩
    obtain ⟨a, e1, e2⟩ := h3 pos cv hc
    exact ⟨a, e1, kx _ _ e2⟩
theorem Cn.wal (c : Cn) (H : Hp) (a : Addr) (k : c.wok H) (w : c.ws a) : H a ≠ none := by
  rcases w with ⟨x, y, z, e, w⟩ | ⟨q, w⟩
  · obtain ⟨r, t, ls, cs, h1, h2, h3, _⟩ := k.1 x y z e
    rcases w with rfl | rfl | rfl
    · rw [h1]; simp
    · rw [h2]; simp
    · rw [h3]; simp
  · obtain ⟨ps, h1, _⟩ := k.2 _ w
    rw [h1]; simp
/-- there is an object at a, none of the library's own kind -/
def Ob (H : Hp) (a : Addr) : Prop := H a ≠ none ∧ ∀ φ, H a ≠ some (.ext φ)
theorem ob_at {H : Hp} {a : Addr} {o : HO} (h : H a = some o) (n : ∀ φ, o ≠ .ext φ) : Ob H a := ⟨by rw [h]; simp, fun φ e => by rw [h] at e; cases e; exact n _ rfl⟩
theorem Ob.to {H H' : Hp} {a : Addr} (h : Ob H a) (k : ∀ o, H a = some o → H' a = some o) : Ob H' a := by
  obtain ⟨o, e⟩ := Option.ne_none_iff_exists'.mp h.1
  exact ob_at (k o e) fun φ z => h.2 φ (by rw [e, z])
theorem ob_upd {H : Hp} {a b : Addr} {o : HO} (h : Ob H b) (n : Ob (upd H a o) a) : Ob (upd H a o) b := by
  by_cases e : b = a
  · rw [e]; exact n
  · exact h.to fun u z => by rw [upd_ne e]; exact z
theorem Cn.wob (c : Cn) (H : Hp) (a : Addr) (k : c.wok H) (w : c.ws a) : Ob H a := by
  rcases w with ⟨x, y, z, e, w⟩ | ⟨q, w⟩
  · obtain ⟨r, t, ls, cs, h1, h2, h3, _⟩ := k.1 x y z e
    rcases w with rfl | rfl | rfl
    · exact ob_at h1 fun _ z => nomatch z
    · exact ob_at h2 fun _ z => nomatch z
    · exact ob_at h3 fun _ z => nomatch z
  · obtain ⟨ps, h1, _⟩ := k.2 _ w
    exact ob_at h1 fun _ z => nomatch z
theorem Cn.kob (c : Cn) {H H' : Hp} {a : Addr} (h : Ob H a) (k : ∀ b o, H b = some o → ¬ c.ws b → H' b = some o) (wk : c.wok H') : Ob H' a :=
  Classical.byCases (fun w : c.ws a => c.wob H' a wk w) fun w => h.to fun o e => k a o e w
def isDk : HO → Bool
  | .dK _ => true
  | _ => false
def Rz (H : Hp) (Z : Addr → Prop) (a : Addr) (u : HO) : Prop := ¬ Z a ∧ (H a = some u ∨ (isDk u = true ∧ ∃ o, H a = some (.frz o u)))
def KTup (K : PySem.W.Frag) (a : Addr) (xs : List V) : Prop :=
  ∃ (o : Obj) (its : Array Value) (n : Nat), K.lookup a = some o ∧ o.cls = .type "tuple" ∧ o.data = .seq its n ∧ its.size ≤ sizeLine ∧ Vals xs its.toList
/-- an exception that is let be -/
def ExV (a : Addr) (cls : Value) (d : Option Addr) : HO := .ext fun h => ∃ (oe : Obj) (vs : Array Value), h.get? a = some oe ∧ Zc cls d oe ∧ oe.data = .fields vs
/-- a lambda's object at f, its code object at e -/
def CloO (x : CnX) (l : LamT) (f e : Addr) : HO := .ext fun h => ∃ (pm ctv : Value), h.get? f = some (PySem.W.kla_obj "<lambda>" x.lq l.params l.body l.scope (cloFrom x.cl l.scope.names []) pm e ctv)
mutual
inductive Rep (c : Cn) (R : Addr → HO → Prop) : V → D → Prop
  | non : Rep c R .non .non
  | bl (b : Bool) : Rep c R (.bl b) (.bl b)
  | int (i : Int) : Rep c R (.int i) (.int i)
  | str (x : Str) : Rep c R (.str x) (.str x)
  | lst {a : Addr} {xs : List V} {ds : List D} : R a (.lst xs) → xs.length ≤ sizeLine → RepL c R xs ds → Rep c R (.ref a) (.lst ds)
  | tup {a : Addr} {xs : List V} {ds : List D} : R a (.tup xs) → xs.length ≤ sizeLine → RepL c R xs ds → Rep c R (.ref a) (.tup ds)
  | ktup {a : Addr} {xs : List V} {ds : List D} : KTup c.K a xs → xs.length ≤ sizeLine → RepL c R xs ds → Rep c R (.ref a) (.tup ds)
  | dct {a : Addr} {ks : List (Key × V)} {kvs : List (Key × D)} : R a (.dK ks) → ks.length ≤ sizeLine → RepK c R ks kvs → Rep c R (.ref a) (.dct kvs)
  | ins {a Ca dx : Addr} {C : Str} {fs : List (Str × V)} {gs : List (Str × D)} : c.mg C = some (.ref Ca) → R a (.ins Ca dx fs) → RepF c R fs gs → Rep c R (.ref a) (.ins C gs)
  | drw {x y z : Addr} : c.dr = some (x, y, z) → Rep c R (.ref x) .drw
  | opq (v : V) : Rep c R v (.opq v)
  | rng {a : Addr} (lo hi : Int) : R a (.rng lo hi) → Rep c R (.ref a) (.rng lo hi)
  | exc0 {a Ca : Addr} {C : Str} : c.mg C = some (.ref Ca) → isExc C = true → R a (ExV a (.ref Ca) none) → Rep c R (.ref a) (.exc C [])
  | exc1 {a dx Ca : Addr} {C : Str} {fs : List (Str × V)} {gs : List (Str × D)} : c.mg C = some (.ref Ca) → isExc C = true → R a (ExV a (.ref Ca) (some dx)) → R dx (.xd fs) → RepF c R fs gs → Rep c R (.ref a) (.exc C gs)
  | clo {f e : Addr} {j : Nat} {l : LamT} : c.xs.lm[j]? = some l → R f (CloO c.xs l f e) → R e (LamX.CodeO e c.xs.lq) → Rep c R (.ref f) (.clo j)
  | fnv {f : Addr} {x : Str} : c.mg x = some (.ref f) → Rep c R (.ref f) (.fnv x)
  | lamc {f e : Addr} {l : LamT} {q : Str} : R f (CloO ⟨[], [], [], q⟩ l f e) → R e (LamX.CodeO e q) → Rep c R (.ref f) (.lamc l q)
inductive RepL (c : Cn) (R : Addr → HO → Prop) : List V → List D → Prop
  | nil : RepL c R [] []
  | cons {v : V} {vs : List V} {d : D} {ds : List D} : Rep c R v d → RepL c R vs ds → RepL c R (v :: vs) (d :: ds)
inductive RepK (c : Cn) (R : Addr → HO → Prop) : List (Key × V) → List (Key × D) → Prop
  | nil : RepK c R [] []
  | cons (k : Key) {v : V} {vs : List (Key × V)} {d : D} {ds : List (Key × D)} : Rep c R v d → RepK c R vs ds → RepK c R ((k, v) :: vs) ((k, d) :: ds)
inductive RepF (c : Cn) (R : Addr → HO → Prop) : List (Str × V) → List (Str × D) → Prop
  | nil : RepF c R [] []
  | cons (k : Str) {v : V} {vs : List (Str × V)} {d : D} {ds : List (Str × D)} : Rep c R v d → RepF c R vs ds → RepF c R ((k, v) :: vs) ((k, d) :: ds)
end
section
variable {c : Cn} {R R' : Addr → HO → Prop}
theorem Rep.to (h : ∀ a u, R a u → R' a u) {v : V} {d : D} (r : Rep c R v d) : Rep c R' v d :=
  Rep.rec (motive_1 := fun v d _ => Rep c R' v d) (motive_2 := fun v d _ => RepL c R' v d) (motive_3 := fun v d _ => RepK c R' v d) (motive_4 := fun v d _ => RepF c R' v d)
    .non .bl .int .str (fun r z _ l => .lst (h _ _ r) z l) (fun r z _ l => .tup (h _ _ r) z l) (fun r z _ l => .ktup r z l) (fun r z _ l => .dct (h _ _ r) z l) (fun m r _ l => .ins m (h _ _ r) l) (fun e => .drw e) .opq (fun lo hi r => .rng lo hi (h _ _ r)) (fun m i r => .exc0 m i (h _ _ r)) (fun m i r r2 _ l => .exc1 m i (h _ _ r) (h _ _ r2) l) (fun e r r2 => .clo e (h _ _ r) (h _ _ r2)) (fun e => .fnv e) (fun r r2 => .lamc (h _ _ r) (h _ _ r2))
    .nil (fun _ _ a b => .cons a b) .nil (fun k _ _ _ _ _ _ a b => .cons k a b) .nil (fun k _ _ _ _ _ _ a b => .cons k a b) r
theorem RepL.to (h : ∀ a u, R a u → R' a u) : ∀ {vs : List V} {ds : List D}, RepL c R vs ds → RepL c R' vs ds
  | _, _, .nil => .nil
  | _, _, .cons a b => .cons (a.to h) (RepL.to h b)
theorem RepK.to (h : ∀ a u, R a u → R' a u) : ∀ {vs : List (Key × V)} {ds : List (Key × D)}, RepK c R vs ds → RepK c R' vs ds
  | _, _, .nil => .nil
  | _, _, .cons k a b => .cons k (a.to h) (RepK.to h b)
theorem RepL.len : ∀ {vs : List V} {ds : List D}, RepL c R vs ds → vs.length = ds.length
  | _, _, .nil => rfl
  | _, _, .cons _ b => by simp [RepL.len b]
theorem RepL.at : ∀ {vs : List V} {ds : List D} {i : Nat} {v : V} {d : D}, RepL c R vs ds → vs[i]? = some v → ds[i]? = some d → Rep c R v d
  | _, _, _, _, _, .nil, h, _ => by simp at h
  | _, _, 0, _, _, .cons a _, h, k => by simp at h k; subst h k; exact a
  | _, _, i + 1, _, _, .cons _ b, h, k => RepL.at b (i := i) (by simpa using h) (by simpa using k)
theorem RepL.of : ∀ {vs : List V} {ds : List D}, vs.length = ds.length → (∀ (i : Nat) v d, vs[i]? = some v → ds[i]? = some d → Rep c R v d) → RepL c R vs ds
  | [], [], _, _ => .nil
  | v :: vs, d :: ds, h, k => .cons (k 0 v d rfl rfl) (RepL.of (by simpa using h) fun i a b e f => k (i + 1) a b (by simpa using e) (by simpa using f))
  | [], _ :: _, h, _ => by simp at h
  | _ :: _, [], h, _ => by simp at h
theorem RepL.getD {vs : List V} {ds : List D} (r : RepL c R vs ds) {i : Nat} {d : D} (h : ds[i]? = some d) : ∃ v, vs[i]? = some v ∧ Rep c R v d := by
  have l := r.len
  have hi : i < vs.length := by rw [l]; exact (List.getElem?_eq_some_iff.mp h).1
  exact ⟨vs[i], List.getElem?_eq_getElem hi, r.at (List.getElem?_eq_getElem hi) h⟩
theorem RepL.getV {vs : List V} {ds : List D} (r : RepL c R vs ds) {i : Nat} {v : V} (h : vs[i]? = some v) : ∃ d, ds[i]? = some d ∧ Rep c R v d := by
  have l := r.len
  have hi : i < ds.length := by rw [← l]; exact (List.getElem?_eq_some_iff.mp h).1
  exact ⟨ds[i], List.getElem?_eq_getElem hi, r.at h (List.getElem?_eq_getElem hi)⟩
theorem RepL.app : ∀ {vs ws : List V} {ds es : List D}, RepL c R vs ds → RepL c R ws es → RepL c R (vs ++ ws) (ds ++ es)
  | _, _, _, _, .nil, s => s
  | _, _, _, _, .cons a b, s => .cons a (RepL.app b s)
theorem RepL.rep {vs : List V} {ds : List D} (r : RepL c R vs ds) : ∀ k : Nat, RepL c R (List.replicate k vs).flatten (List.replicate k ds).flatten
  | 0 => .nil
  | k + 1 => by
    rw [List.replicate_succ, List.replicate_succ, List.flatten_cons, List.flatten_cons]
    exact r.app (RepL.rep r k)
theorem RepL.drop {vs : List V} {ds : List D} : ∀ (n : Nat), RepL c R vs ds → RepL c R (vs.drop n) (ds.drop n)
  | 0, r => by simpa using r
  | _ + 1, .nil => by simpa using RepL.nil
  | n + 1, .cons _ b => by simpa using RepL.drop n b
theorem RepL.take : ∀ {vs : List V} {ds : List D} (n : Nat), RepL c R vs ds → RepL c R (vs.take n) (ds.take n)
  | _, _, 0, r => by simpa using RepL.nil
  | _, _, _ + 1, .nil => by simpa using RepL.nil
  | _, _, n + 1, .cons a b => by simpa using RepL.cons a (RepL.take n b)
theorem RepL.rev {vs : List V} {ds : List D} (r : RepL c R vs ds) : RepL c R vs.reverse ds.reverse := by
  induction vs generalizing ds with
  | nil => cases r; simpa using RepL.nil
  | cons v vs ih =>
    cases r with
    | cons a b => simpa using (ih b).app (.cons a .nil)
theorem RepL.set : ∀ {vs : List V} {ds : List D} {v : V} {d : D} (i : Nat), RepL c R vs ds → Rep c R v d → RepL c R (vs.set i v) (ds.set i d)
  | _, _, _, _, _, .nil, _ => by simpa using RepL.nil
  | _, _, _, _, 0, .cons _ b, q => by simpa using RepL.cons q b
  | _, _, _, _, i + 1, .cons a b, q => by simpa using RepL.cons a (RepL.set i b q)
theorem RepL.erase : ∀ {vs : List V} {ds : List D} (i : Nat), RepL c R vs ds → RepL c R (vs.eraseIdx i) (ds.eraseIdx i)
  | _, _, _, .nil => by simpa using RepL.nil
  | _, _, 0, .cons _ b => by simpa using b
  | _, _, i + 1, .cons a b => by simpa using RepL.cons a (RepL.erase i b)
theorem RepL.ints : ∀ {vs : List V} {ns : List Int}, RepL c R vs (ns.map .int) → vs = ns.map V.int
  | [], [], _ => rfl
  | _ :: _, n :: ns, .cons a b => by
    cases a
    rw [RepL.ints b]
    rfl
  | _ :: _, [], h => by cases h
  | [], _ :: _, h => by cases h
theorem RepL.bls : ∀ {vs : List V} {ns : List Bool}, RepL c R vs (ns.map .bl) → vs = ns.map V.bl
  | [], [], _ => rfl
  | _ :: _, n :: ns, .cons a b => by
    cases a
    rw [RepL.bls b]
    rfl
  | _ :: _, [], h => by cases h
  | [], _ :: _, h => by cases h
theorem RepL.ofInts : ∀ (ns : List Int), RepL c R (ns.map V.int) (ns.map .int)
  | [] => .nil
  | n :: ns => .cons (.int n) (RepL.ofInts ns)
theorem Rep.ofKey (k : Key) : Rep c R (kV k) (.ofKey k) := by
  cases k with
  | inl i => exact .int i
  | inr x => exact .str x
theorem Rep.key {v : V} {d : D} {k : Key} (r : Rep c R v d) (h : d.key = some k) : v = kV k := by
  cases r <;> simp [D.key] at h <;> subst h <;> rfl
theorem key_ofKey (k : Key) : (D.ofKey k).key = some k := by cases k <;> rfl
theorem RepK.val : ∀ {vs : List (Key × V)} {ds : List (Key × D)}, RepK c R vs ds → ∀ k, (valV vs k = none ∧ valD ds k = none) ∨ ∃ v d, valV vs k = some v ∧ valD ds k = some d ∧ Rep c R v d
  | _, _, .nil, k => .inl ⟨rfl, rfl⟩
  | _, _, .cons j (v := v) (d := d) a b, k => by
    by_cases e : j = k
    · exact .inr ⟨v, d, by simp [valV, List.find?, e], by simp [valD, List.find?, e], a⟩
    · rcases RepK.val b k with ⟨x, y⟩ | ⟨v', d', x, y, z⟩
      · exact .inl ⟨by simpa [valV, List.find?, e] using x, by simpa [valD, List.find?, e] using y⟩
      · exact .inr ⟨v', d', by simpa [valV, List.find?, e] using x, by simpa [valD, List.find?, e] using y, z⟩
theorem RepK.any : ∀ {vs : List (Key × V)} {ds : List (Key × D)}, RepK c R vs ds → ∀ k, (vs.any fun kv => decide (kv.1 = k)) = ds.any fun kv => decide (kv.1 = k)
  | _, _, .nil, k => rfl
  | _, _, .cons j a b, k => by simp [RepK.any b k]
theorem RepK.repl : ∀ {vs : List (Key × V)} {ds : List (Key × D)}, RepK c R vs ds → ∀ (k : Key) {y : V} {u : D}, Rep c R y u →
    RepK c R (vs.map fun kv => if kv.1 = k then (kv.1, y) else kv) (ds.map fun kv => if kv.1 = k then (kv.1, u) else kv)
  | _, _, .nil, k, _, _, _ => .nil
  | _, _, .cons j a b, k, y, u, q => by
    simp only [List.map_cons]
    by_cases e : j = k
    · simp only [e, if_true]
      exact .cons k q (RepK.repl b k q)
    · simp only [e, if_false]
      exact .cons j a (RepK.repl b k q)
theorem RepK.snoc : ∀ {vs : List (Key × V)} {ds : List (Key × D)}, RepK c R vs ds → ∀ (k : Key) {y : V} {u : D}, Rep c R y u → RepK c R (vs ++ [(k, y)]) (ds ++ [(k, u)])
  | _, _, .nil, k, _, _, q => .cons k q .nil
  | _, _, .cons j a b, k, _, _, q => .cons j a (RepK.snoc b k q)
theorem RepK.put {vs : List (Key × V)} {ds : List (Key × D)} (r : RepK c R vs ds) (k : Key) {y : V} {u : D} (q : Rep c R y u) : RepK c R (putK vs k y) (putD ds k u) := by
  unfold putK putD
  rw [r.any k]
  split
  · exact r.repl k q
  · exact r.snoc k q
theorem RepK.drop : ∀ {vs : List (Key × V)} {ds : List (Key × D)}, RepK c R vs ds → ∀ (k : Key), RepK c R (dropK vs k) (delD ds k)
  | _, _, .nil, k => .nil
  | _, _, .cons j a b, k => by
    unfold dropK delD
    by_cases e : j = k
    · have := RepK.drop b k
      unfold dropK delD at this
      simpa [List.filter, e] using this
    · have := RepK.cons j a (RepK.drop b k)
      unfold dropK delD at this
      simpa [List.filter, e] using this
theorem RepK.mrg : ∀ {vs : List (Key × V)} {ds : List (Key × D)}, RepK c R vs ds → ∀ {ws : List (Key × V)} {es : List (Key × D)}, RepK c R ws es → RepK c R (mergeK ws vs) (mrgD es ds)
  | _, _, .nil, _, _, s => s
  | _, _, .cons j a b, ws, es, s => by
    show RepK c R (mergeK (putK ws j _) _) (mrgD (putD es j _) _)
    exact RepK.mrg b (s.put j a)
theorem RepK.len : ∀ {vs : List (Key × V)} {ds : List (Key × D)}, RepK c R vs ds → vs.length = ds.length
  | _, _, .nil => rfl
  | _, _, .cons _ _ b => by simp [RepK.len b]
theorem RepK.keys : ∀ {vs : List (Key × V)} {ds : List (Key × D)}, RepK c R vs ds → vs.map (·.1) = ds.map (·.1)
  | _, _, .nil => rfl
  | _, _, .cons _ _ b => by simp [RepK.keys b]
theorem RepF.look : ∀ {vs : List (Str × V)} {ds : List (Str × D)}, RepF c R vs ds → ∀ {f : Str} {d : D}, ds.lookup f = some d → ∃ v, vs.lookup f = some v ∧ Rep c R v d
  | _, _, .nil, f, d, h => by simp at h
  | _, _, .cons k a b, f, d, h => by
    simp only [List.lookup_cons] at h ⊢
    cases e : f == k with
    | true => simp only [e] at h ⊢; cases h; exact ⟨_, rfl, a⟩
    | false => simp only [e] at h ⊢; exact RepF.look b h
end
def Ow (σ : L2.St) (ρ : Env) (b : Addr) : Prop := ∃ (i : Nat) (d : D), ρ[i]? = some (some (.own d)) ∧ σ[i]? = some (some (.ref b))
def full (Z : Addr → Prop) (σ : L2.St) (ρ : Env) (b : Addr) : Prop := Z b ∨ Ow σ ρ b
def Zp (Z : Addr → Prop) (a : Addr) : Addr → Prop := fun b => Z b ∨ b = a
def TopAt (c : Cn) (H : Hp) (R : Addr → HO → Prop) (a : Addr) : D → Prop
  | .lst ds => ∃ xs, H a = some (.lst xs) ∧ xs.length ≤ sizeLine ∧ RepL c R xs ds
  | .dct kvs => ∃ ks, H a = some (.dK ks) ∧ ks.length ≤ sizeLine ∧ RepK c R ks kvs
  | _ => False
structure RE (c : Cn) (H0 : Hp) (Z : Addr → Prop) (σ : L2.St) (H : Hp) (ρ : Env) : Prop where
  len : ρ.length = σ.length
  frz : ∀ (i : Nat) d, ρ[i]? = some (some (.frz d)) → ∃ v, σ[i]? = some (some v) ∧ Rep c (Rz H (full Z σ ρ)) v d
  own : ∀ (i : Nat) d, ρ[i]? = some (some (.own d)) → ∃ a, σ[i]? = some (some (.ref a)) ∧ ¬ Z a ∧ H0 a = none ∧ TopAt c H (Rz H (full Z σ ρ)) a d
  one : ∀ (i j : Nat) d e v, i ≠ j → ρ[i]? = some (some (.own d)) → ρ[j]? = some (some (.own e)) → σ[i]? = some (some v) → σ[j]? ≠ some (some v)
  ext : ∀ b o, H0 b = some o → ¬ c.ws b → H b = some o
  al : ∀ b, H0 b ≠ none → H b ≠ none
  wok : c.wok H
  wz : ∀ a, c.ws a → Z a
  zal : ∀ a, Z a → Ob H a
structure Stp (W : Addr → Prop) (σ : L2.St) (ρ : Env) (H : Hp) (σ' : L2.St) (ρ' : Env) (H' : Hp) : Prop where
  keep : ∀ b o, H b = some o → ¬ full W σ ρ b → H' b = some o
  ow : ∀ b, Ow σ' ρ' b → Ow σ ρ b ∨ H b = none
  al : ∀ b, H b ≠ none → H' b ≠ none
section
variable {c : Cn} {H0 H H1 H2 H' : Hp} {Z W : Addr → Prop} {σ σ1 σ2 σ' : L2.St} {ρ ρ1 ρ2 ρ' : Env}
theorem some_ne {α : Type} {o : Option α} {x : α} (h : o = some x) : o ≠ none := by rw [h]; simp
theorem Stp.refl : Stp W σ ρ H σ ρ H := ⟨fun _ _ h _ => h, fun _ h => .inl h, fun _ h => h⟩
theorem Stp.nf (s : Stp W σ ρ H σ' ρ' H') {b : Addr} (hb : H b ≠ none) (n : ¬ full Z σ ρ b) : ¬ full Z σ' ρ' b := by
  rintro (z | z)
  · exact n (.inl z)
  · rcases s.ow b z with q | q
    · exact n (.inr q)
    · exact hb q
theorem Stp.trans (s : Stp W σ ρ H σ1 ρ1 H1) (t : Stp W σ1 ρ1 H1 σ2 ρ2 H2) : Stp W σ ρ H σ2 ρ2 H2 where
  keep b o h n := t.keep b o (s.keep b o h n) (s.nf (some_ne h) n)
  ow b h := by
    rcases t.ow b h with q | q
    · exact s.ow b q
    · by_cases hb : H b = none
      · exact .inr hb
      · exact absurd q (s.al b hb)
  al b h := t.al b (s.al b h)
theorem Rz.sm {a : Addr} {u : HO} (h : Rz H Z a u) : H a ≠ none := by
  rcases h.2 with e | ⟨_, o, e⟩ <;> simp [e]
theorem Stp.R (s : Stp W σ ρ H σ' ρ' H') (hw : ∀ a, W a → Z a) : ∀ a u, Rz H (full Z σ ρ) a u → Rz H' (full Z σ' ρ') a u := fun a u h =>
  have n : ¬ full W σ ρ a := fun z => h.1 (z.imp (hw a) id)
  ⟨s.nf h.sm h.1, h.2.elim (fun e => .inl (s.keep a _ e n)) fun ⟨i, o, e⟩ => .inr ⟨i, o, s.keep a _ e n⟩⟩
theorem Rz.mono {Z' : Addr → Prop} (h : ∀ a, Z' a → Z a) : ∀ a u, Rz H Z a u → Rz H Z' a u := fun a u r => ⟨fun z => r.1 (h a z), r.2⟩
theorem full_mono {Z' : Addr → Prop} (h : ∀ a, Z a → Z' a) : ∀ a, full Z σ ρ a → full Z' σ ρ a := fun a r => r.elim (fun z => .inl (h a z)) .inr
theorem Zp_le (Z : Addr → Prop) (a : Addr) : ∀ b, Z b → Zp Z a b := fun _ h => .inl h
theorem TopAt.to {R R' : Addr → HO → Prop} (h : ∀ a u, R a u → R' a u) {a : Addr} {d : D} (e : H' a = H a) (t : TopAt c H R a d) : TopAt c H' R' a d := by
  cases d <;> try exact t
  · obtain ⟨xs, x, y, z⟩ := t; exact ⟨xs, by rw [e]; exact x, y, z.to h⟩
  · obtain ⟨xs, x, y, z⟩ := t; exact ⟨xs, by rw [e]; exact x, y, z.to h⟩
theorem TopAt.al {R : Addr → HO → Prop} {a : Addr} {d : D} (t : TopAt c H R a d) : H a ≠ none := by
  cases d <;> first | exact t.elim | (obtain ⟨xs, x, _⟩ := t; exact some_ne x)
/-- what is known is kept; Z' hides no more of what stood -/
theorem RE.grow {Z' : Addr → Prop} (r : RE c H0 Z σ H ρ) (k : ∀ b o, H b = some o → ¬ c.ws b → H' b = some o) (al : ∀ b, H b ≠ none → H' b ≠ none) (wk : c.wok H')
    (z1 : ∀ b, Z' b → Z b ∨ H b = none) (z2 : ∀ b, c.ws b → Z' b) (z3 : ∀ b, Z' b → H b = none → Ob H' b) : RE c H0 Z' σ H' ρ := by
  have nz : ∀ b, H b ≠ none → ¬ full Z σ ρ b → ¬ full Z' σ ρ b := fun b hb n z => by
    rcases z with z | z
    · rcases z1 b z with q | q
      · exact n (.inl q)
      · exact hb q
    · exact n (.inr z)
  have kp : ∀ b o, H b = some o → ¬ Z b → H' b = some o := fun b o e n => k b o e fun w => n (r.wz b w)
  have hR : ∀ a u, Rz H (full Z σ ρ) a u → Rz H' (full Z' σ ρ) a u := fun a u h =>
    ⟨nz a h.sm h.1, h.2.elim (fun e => .inl (kp a _ e fun z => h.1 (.inl z))) fun ⟨i, o, e⟩ => .inr ⟨i, o, kp a _ e fun z => h.1 (.inl z)⟩⟩
  refine ⟨r.len, fun i d h => ?_, fun i d h => ?_, r.one, fun b o e n => k b o (r.ext b o e n) n, fun b h => al b (r.al b h), wk, z2, fun b z => Classical.byCases (z3 b z) fun n => (z1 b z).elim (fun q => c.kob (r.zal b q) k wk) fun q => (n q).elim⟩
  · obtain ⟨v, e, q⟩ := r.frz i d h
    exact ⟨v, e, q.to hR⟩
  · obtain ⟨a, e, n, h0, t⟩ := r.own i d h
    obtain ⟨o, ho⟩ := Option.ne_none_iff_exists'.mp t.al
    refine ⟨a, e, fun z => ?_, h0, t.to hR (by rw [ho]; exact kp a o ho n)⟩
    rcases z1 a z with q | q
    · exact n q
    · exact t.al q
theorem Stp.grow (r : RE c H0 Z σ H ρ) (k : ∀ b o, H b = some o → ¬ c.ws b → H' b = some o) (al : ∀ b, H b ≠ none → H' b ≠ none) : Stp c.ws σ ρ H σ ρ H' :=
  ⟨fun b o e n => k b o e fun w => n (.inl w), fun b h => .inl h, al⟩
theorem upd_keep {p : Addr} {o : HO} (hp : H p = none) : ∀ b u, H b = some u → upd H p o b = some u := fun b u e => by rw [upd_ne (ne_of_none e hp)]; exact e
theorem upd_al {p : Addr} {o : HO} : ∀ b, H b ≠ none → upd H p o b ≠ none := fun b h => by
  unfold upd; split
  · simp
  · exact h
theorem RE.wupd (r : RE c H0 Z σ H ρ) {p : Addr} {o : HO} (hp : ¬ c.ws p) (hx : ∀ φ, H p ≠ some (.ext φ)) : c.wok (upd H p o) :=
  c.wdep H _ (fun a w => upd_ne fun e => hp (e ▸ w)) (exk_upd hx) r.wok
theorem RE.nws (r : RE c H0 Z σ H ρ) {p : Addr} (hp : H p = none) : ¬ c.ws p := fun w => c.wal H p r.wok w hp
theorem RE.new (r : RE c H0 Z σ H ρ) {p : Addr} {o : HO} (hp : H p = none) : RE c H0 Z σ (upd H p o) ρ :=
  r.grow (fun b u e _ => upd_keep hp b u e) upd_al (r.wupd (r.nws hp) fun φ e => by rw [hp] at e; cases e) (fun b h => .inl h) r.wz fun b h n => absurd n (r.zal b h).1
theorem RE.newZ (r : RE c H0 Z σ H ρ) {p : Addr} {o : HO} (hp : H p = none) (ho : ∀ φ, o ≠ .ext φ) : RE c H0 (Zp Z p) σ (upd H p o) ρ :=
  r.grow (fun b u e _ => upd_keep hp b u e) upd_al (r.wupd (r.nws hp) fun φ e => by rw [hp] at e; cases e) (fun b h => h.elim .inl fun e => .inr (by rw [e]; exact hp)) (fun b w => .inl (r.wz b w))
    fun b h n => h.elim (fun z => absurd n (r.zal b z).1) fun e => by rw [e]; exact ob_at upd_same ho
theorem Stp.new {p : Addr} {o : HO} (hp : H p = none) : Stp c.ws σ ρ H σ ρ (upd H p o) := ⟨fun b u e _ => upd_keep hp b u e, fun b h => .inl h, upd_al⟩
theorem RE.nfull (r : RE c H0 Z σ H ρ) {p : Addr} (hp : H p = none) : ¬ full Z σ ρ p := by
  rintro (z | ⟨i, d, e, f⟩)
  · exact (r.zal p z).1 hp
  · obtain ⟨a, e', n, h0, t⟩ := r.own i d e
    rw [f] at e'; cases e'
    exact t.al hp
end
def VR (c : Cn) (H0 : Hp) (Z : Addr → Prop) (σ : L2.St) (Hs H : Hp) (ρ : Env) (v : V) (d : D) : Kd → Prop
  | .cln => Rep c (Rz H (full Z σ ρ)) v d
  | .own i => σ[i]? = some (some v) ∧ ρ[i]? = some (some (.own d))
  | .new => ∃ a, v = .ref a ∧ Hs a = none ∧ ¬ full Z σ ρ a ∧ RE c H0 (Zp Z a) σ H ρ ∧ TopAt c H (Rz H (full (Zp Z a) σ ρ)) a d
def VW (c : Cn) (Z : Addr → Prop) (σ : L2.St) (H : Hp) (ρ : Env) (v : V) (d : D) : Prop :=
  Rep c (Rz H (full Z σ ρ)) v d ∨ ∃ i : Nat, σ[i]? = some (some v) ∧ ρ[i]? = some (some (.own d))
section
variable {c : Cn} {H0 Hs H H1 H2 H' : Hp} {Z : Addr → Prop} {σ σ1 σ2 σ' : L2.St} {ρ ρ1 ρ2 ρ' : Env} {v : V} {d : D} {k : Kd}
theorem TopAt.rep {R R' : Addr → HO → Prop} (h : ∀ a u, R a u → R' a u) {a : Addr} (hr : ∀ u, H a = some u → R' a u) (t : TopAt c H R a d) : Rep c R' (.ref a) d := by
  cases d <;> try exact t.elim
  · obtain ⟨xs, x, y, z⟩ := t; exact .lst (hr _ x) y (z.to h)
  · obtain ⟨xs, x, y, z⟩ := t; exact .dct (hr _ x) y (z.to h)
theorem Rz.zp {a : Addr} : ∀ b u, Rz H (full (Zp Z a) σ ρ) b u → Rz H (full Z σ ρ) b u := Rz.mono (full_mono (Zp_le Z a))
theorem VR.clean (h : VR c H0 Z σ Hs H ρ v d .new) : Rep c (Rz H (full Z σ ρ)) v d := by
  obtain ⟨a, rfl, _, n, _, t⟩ := h
  exact t.rep Rz.zp fun u e => ⟨n, .inl e⟩
theorem VR.weak (h : VR c H0 Z σ Hs H ρ v d k) : VW c Z σ H ρ v d := by
  cases k with
  | cln => exact .inl h
  | own i => exact .inr ⟨i, h⟩
  | new => exact .inl h.clean
theorem VR.keep (h : VR c H0 Z σ Hs H ρ v d k) (hw : ∀ a, c.ws a → Z a) (s : Stp c.ws σ ρ H σ ρ' H') (st : stood ρ' d k) : VW c Z σ H' ρ' v d := by
  cases k with
  | cln => exact .inl (Rep.to (s.R hw) h)
  | own i => exact .inr ⟨i, h.1, st⟩
  | new => exact .inl (Rep.to (s.R hw) h.clean)
theorem VW.lst {ds : List D} (r : RE c H0 Z σ H ρ) (h : VW c Z σ H ρ v (.lst ds)) : ∃ a xs, v = .ref a ∧ H a = some (.lst xs) ∧ xs.length ≤ sizeLine ∧ RepL c (Rz H (full Z σ ρ)) xs ds := by
  rcases h with h | ⟨i, e, f⟩
  · cases h with
    | lst r z l =>
      rcases r.2 with e | ⟨e, _⟩
      · exact ⟨_, _, rfl, e, z, l⟩
      · cases e
  · obtain ⟨a, e', _, _, xs, x, y, z⟩ := r.own i _ f
    rw [e] at e'; cases e'
    exact ⟨a, xs, rfl, x, y, z⟩
theorem VW.tup {ds : List D} (r : RE c H0 Z σ H ρ) (h : VW c Z σ H ρ v (.tup ds)) : ∃ a xs, v = .ref a ∧ SqT c.K H a xs ∧ xs.length ≤ sizeLine ∧ RepL c (Rz H (full Z σ ρ)) xs ds := by
  rcases h with h | ⟨i, e, f⟩
  · cases h with
    | tup r z l =>
      rcases r.2 with e | ⟨e, _⟩
      · exact ⟨_, _, rfl, SqT.of e, z, l⟩
      · cases e
    | ktup k z l => exact ⟨_, _, rfl, .inr k, z, l⟩
  · obtain ⟨a, e', _, _, t⟩ := r.own i _ f
    exact t.elim
theorem VW.rng {lo hi : Int} (r : RE c H0 Z σ H ρ) (h : VW c Z σ H ρ v (.rng lo hi)) : ∃ a, v = .ref a ∧ H a = some (.rng lo hi) := by
  rcases h with h | ⟨i, e, f⟩
  · cases h with
    | rng lo hi q =>
      rcases q.2 with e | ⟨e, _⟩
      · exact ⟨_, rfl, e⟩
      · cases e
  · obtain ⟨a, e', _, _, t⟩ := r.own i _ f
    exact t.elim
theorem VW.dct {ds : List (Key × D)} (r : RE c H0 Z σ H ρ) (h : VW c Z σ H ρ v (.dct ds)) : ∃ a ks, v = .ref a ∧ Rd H a (.dK ks) ∧ ks.length ≤ sizeLine ∧ RepK c (Rz H (full Z σ ρ)) ks ds := by
  rcases h with h | ⟨i, e, f⟩
  · cases h with
    | dct r z l => exact ⟨_, _, rfl, r.2.elim .inl fun ⟨_, o, e⟩ => .inr ⟨o, e⟩, z, l⟩
  · obtain ⟨a, e', _, _, ks, x, y, z⟩ := r.own i _ f
    rw [e] at e'; cases e'
    exact ⟨a, ks, rfl, .inl x, y, z⟩
theorem VW.rep (r : RE c H0 Z σ H ρ) (h : VW c Z σ H ρ v d) (n1 : ∀ ds, d ≠ .lst ds) (n2 : ∀ ds, d ≠ .dct ds) : Rep c (Rz H (full Z σ ρ)) v d := by
  rcases h with h | ⟨i, e, f⟩
  · exact h
  · obtain ⟨a, e', _, _, t⟩ := r.own i _ f
    cases d <;> first | exact t.elim | exact absurd rfl (n1 _) | exact absurd rfl (n2 _)
theorem VW.scal (r : RE c H0 Z σ H ρ) (h : VW c Z σ H ρ v d) (hs : d.scal = true) : Rep c (Rz H (full Z σ ρ)) v d :=
  h.rep r (fun ds e => by rw [e] at hs; cases hs) fun ds e => by rw [e] at hs; cases hs
theorem VW.int {i : Int} (r : RE c H0 Z σ H ρ) (h : VW c Z σ H ρ v (.int i)) : v = .int i := by
  have q := h.scal r rfl
  cases q; rfl
theorem VW.bl {i : Bool} (r : RE c H0 Z σ H ρ) (h : VW c Z σ H ρ v (.bl i)) : v = .bl i := by
  have q := h.scal r rfl
  cases q; rfl
theorem VW.str {i : Str} (r : RE c H0 Z σ H ρ) (h : VW c Z σ H ρ v (.str i)) : v = .str i := by
  have q := h.scal r rfl
  cases q; rfl
theorem VW.non (r : RE c H0 Z σ H ρ) (h : VW c Z σ H ρ v .non) : v = .non := by
  have q := h.scal r rfl
  cases q; rfl
theorem VW.key {j : Key} (r : RE c H0 Z σ H ρ) (h : VW c Z σ H ρ v d) (e : d.key = some j) : v = kV j :=
  (h.rep r (fun ds q => by rw [q] at e; cases e) fun ds q => by rw [q] at e; cases e).key e
/-- scalars stand for themselves, whatever the heap -/
theorem Rep.scal {R R' : Addr → HO → Prop} (h : Rep c R v d) (hs : d.scal = true) : Rep c R' v d := by
  cases h <;> first | cases hs; done | constructor
end
end Z
end T_Z2
section T_Z3
namespace Z
open PySem L2
section
variable {c : Cn} {H0 Hs H H1 H2 H' : Hp} {Z : Addr → Prop} {σ σ1 σ2 σ' : L2.St} {ρ ρ1 ρ2 ρ' : Env} {v : V} {d : D} {k : Kd} {E : Xn → Prop}
theorem PE.imp {X : Cx} {e : Expr} {t t' : TE} (h : PE X e t) (i : ∀ σ H Q, t' σ H Q → t σ H Q) : PE X e t' := ⟨fun pins s σ H Q I q => h.run pins s σ H Q I (i σ H Q q)⟩
theorem PT.imp {X : Cx} {e : Expr} {t t' : TT} (h : PT X e t) (i : ∀ σ H Q, t' σ H Q → t σ H Q) : PT X e t' := ⟨fun pins s σ H Q I q => h.run pins s σ H Q I (i σ H Q q)⟩
theorem PA.imp {X : Cx} {e : List Expr} {t t' : TA} (h : PA X e t) (i : ∀ σ H Q, t' σ H Q → t σ H Q) : PA X e t' := ⟨fun pos pins s σ H Q I q => h.run pos pins s σ H Q I (i σ H Q q)⟩
theorem PS.imp {X : Cx} {e : Stmt} {t t' : TS} (h : PS X e t) (i : ∀ D σ H, t' D σ H → t D σ H) : PS X e t' := ⟨fun pins s σ H D I q => h.run pins s σ H D I (i D σ H q)⟩
theorem PSs.imp {X : Cx} {e : List Stmt} {t t' : TS} (h : PSs X e t) (i : ∀ D σ H, t' D σ H → t D σ H) : PSs X e t' := ⟨fun pins s σ H D I q => h.run pins s σ H D I (i D σ H q)⟩
theorem PI.imp {X : Cx} {tg e : Expr} {t t' : TI} (h : PI X tg e t) (i : ∀ σ H R, t' σ H R → t σ H R) : PI X tg e t' := ⟨fun pins s σ H R I q => h.run pins s σ H R I (i σ H R q)⟩
theorem PE.or {X : Cx} {e : Expr} {t t' : TE} (h : PE X e t) (h' : PE X e t') : PE X e (fun σ H Q => t σ H Q ∨ t' σ H Q) := ⟨fun pins s σ H Q I q => q.elim (h.run pins s σ H Q I) (h'.run pins s σ H Q I)⟩
def tr (c : Cn) (H0 : Hp) (E : Xn → Prop) (e : CE) : TE := fun σ H Q => ∃ (Z : Addr → Prop) (ρ : Env) (P : Kt), RE c H0 Z σ H ρ ∧ ev E e ρ P ∧
  ∀ d k ρ' v H', P d k ρ' → RE c H0 Z σ H' ρ' → Stp c.ws σ ρ H σ ρ' H' → VR c H0 Z σ H H' ρ' v d k → Q v H'
def trB (c : Cn) (H0 : Hp) (E : Xn → Prop) (e : CE) : TT := fun σ H Q => ∃ (Z : Addr → Prop) (ρ : Env) (P : Bool → Env → Prop), RE c H0 Z σ H ρ ∧ ev E e ρ (fun d _ ρ' => ∃ b, d = .bl b ∧ P b ρ') ∧
  ∀ b ρ' H', P b ρ' → RE c H0 Z σ H' ρ' → Stp c.ws σ ρ H σ ρ' H' → Q b H'
/-- what an operation on two values does to data -/
def R2ok (c : Cn) (H0 : Hp) (f : D → D → Option (D × Kd)) (r : R2) : Prop :=
  ∀ (Z : Addr → Prop) (σ : L2.St) (ρ : Env) (Hs H : Hp) (x y : D) (vx vy : V) (d : D) (k : Kd) (Q : VK), RE c H0 Z σ H ρ → (∀ b, Hs b ≠ none → H b ≠ none) → VW c Z σ H ρ vx x → VW c Z σ H ρ vy y → f x y = some (d, k) →
    (∀ v H', RE c H0 Z σ H' ρ → Stp c.ws σ ρ H σ ρ H' → VR c H0 Z σ Hs H' ρ v d k → Q v H') → r vx vy H Q
theorem R2ok.bin {o : O2} {r : R2} (h : R2ok c H0 (op2 o) r) {a b : CE} : ∀ σ H Q, tr c H0 E (.op o a b) σ H Q → tOp r (tr c H0 E a) (tr c H0 E b) σ H Q := by
  rintro σ H Q ⟨Z, ρ, P, r0, hev, hk⟩
  rw [ev] at hev
  refine ⟨Z, ρ, _, r0, hev, fun x k ρ1 vx H1 hp r1 s1 v1 => ⟨Z, ρ1, _, r1, hp, fun y k2 ρ2 vy H2 hp2 r2 s2 v2 => ?_⟩⟩
  obtain ⟨st, ⟨d, kd⟩, e, hP⟩ := hp2
  exact h Z σ ρ2 H H2 x y vx vy d kd Q r2 (fun b hb => s2.al b (s1.al b hb)) (v1.keep r1.wz s2 st) v2.weak e fun v H' r3 s3 v3 => hk _ _ _ v H' hP r3 ((s1.trans s2).trans s3) v3
/-- a new list -/
theorem VR.newL (r : RE c H0 Z σ H ρ) {p : Addr} (hp : H p = none) {xs : List V} {ds : List D} (hz : xs.length ≤ sizeLine) (l : RepL c (Rz H (full Z σ ρ)) xs ds) (hs : ∀ b, Hs b ≠ none → H b ≠ none) :
    RE c H0 Z σ (upd H p (.lst xs)) ρ ∧ Stp c.ws σ ρ H σ ρ (upd H p (.lst xs)) ∧ VR c H0 Z σ Hs (upd H p (.lst xs)) ρ (.ref p) (.lst ds) .new := by
  have r2 := r.newZ (o := .lst xs) hp fun _ z => nomatch z
  refine ⟨r.new hp, .new hp, p, rfl, ?_, r.nfull hp, r2, xs, upd_same, hz, l.to fun a u q => ?_⟩
  · cases e : Hs p with
    | none => rfl
    | some o => exact absurd hp (hs p (some_ne e))
  · have ne : a ≠ p := fun e => q.sm (by rw [e]; exact hp)
    exact ⟨fun z => z.elim (fun z => z.elim (fun z => q.1 (.inl z)) ne) fun z => q.1 (.inr z), by rw [upd_ne ne]; exact q.2⟩
theorem VR.newK (r : RE c H0 Z σ H ρ) {p : Addr} (hp : H p = none) {xs : List (Key × V)} {ds : List (Key × D)} (hz : xs.length ≤ sizeLine) (l : RepK c (Rz H (full Z σ ρ)) xs ds) (hs : ∀ b, Hs b ≠ none → H b ≠ none) :
    RE c H0 Z σ (upd H p (.dK xs)) ρ ∧ Stp c.ws σ ρ H σ ρ (upd H p (.dK xs)) ∧ VR c H0 Z σ Hs (upd H p (.dK xs)) ρ (.ref p) (.dct ds) .new := by
  have r2 := r.newZ (o := .dK xs) hp fun _ z => nomatch z
  refine ⟨r.new hp, .new hp, p, rfl, ?_, r.nfull hp, r2, xs, upd_same, hz, l.to fun a u q => ?_⟩
  · cases e : Hs p with
    | none => rfl
    | some o => exact absurd hp (hs p (some_ne e))
  · have ne : a ≠ p := fun e => q.sm (by rw [e]; exact hp)
    exact ⟨fun z => z.elim (fun z => z.elim (fun z => q.1 (.inl z)) ne) fun z => q.1 (.inr z), by rw [upd_ne ne]; exact q.2⟩
theorem VR.newT (r : RE c H0 Z σ H ρ) {p : Addr} (hp : H p = none) {xs : List V} {ds : List D} (hz : xs.length ≤ sizeLine) (l : RepL c (Rz H (full Z σ ρ)) xs ds) :
    RE c H0 Z σ (upd H p (.tup xs)) ρ ∧ Stp c.ws σ ρ H σ ρ (upd H p (.tup xs)) ∧ VR c H0 Z σ Hs (upd H p (.tup xs)) ρ (.ref p) (.tup ds) .cln := by
  refine ⟨r.new hp, .new hp, .tup ⟨r.nfull hp, .inl upd_same⟩ hz (l.to fun a u q => ?_)⟩
  have ne : a ≠ p := fun e => q.sm (by rw [e]; exact hp)
  exact ⟨q.1, by rw [upd_ne ne]; exact q.2⟩
theorem VR.newR (r : RE c H0 Z σ H ρ) {p : Addr} (hp : H p = none) {lo hi : Int} :
    RE c H0 Z σ (upd H p (.rng lo hi)) ρ ∧ Stp c.ws σ ρ H σ ρ (upd H p (.rng lo hi)) ∧ VR c H0 Z σ Hs (upd H p (.rng lo hi)) ρ (.ref p) (.rng lo hi) .cln :=
  ⟨r.new hp, .new hp, .rng lo hi ⟨r.nfull hp, .inl upd_same⟩⟩
theorem VW.seqT {ds : List D} (r : RE c H0 Z σ H ρ) (h : VW c Z σ H ρ v (.tup ds)) : ∃ a xs, v = .ref a ∧ SqT c.K H a xs ∧ xs.length ≤ sizeLine ∧ RepL c (Rz H (full Z σ ρ)) xs ds ∧ Rep c (Rz H (full Z σ ρ)) (.ref a) (.tup ds) := by
  have q := h.rep r (fun _ e => nomatch e) fun _ e => nomatch e
  obtain ⟨a, xs, rfl, h1, h2, h3⟩ := h.tup r
  exact ⟨a, xs, rfl, h1, h2, h3, q⟩
def rAddA (K : PySem.W.Frag) : R2 := fun x y H Q => rI0 (fun i j => .int (i + j)) x y H Q ∨ rCat x y H Q ∨ rCatA K x y H Q ∨ (∃ i j, x = .str i ∧ y = .str j ∧ i.length + j.length ≤ sizeLine ∧ Q (.str (i ++ j)) H)
theorem op_addA {X : Cx} : OpR X (binaryOp .Add) (rAddA X.K) := op_add.or (op_cat.or (op_catA.or op_add_str))
theorem ok_add : R2ok c H0 (op2 .add) (rAddA c.K) := by
  intro Z σ ρ Hs H x y vx vy d k Q r hs hx hy e q
  unfold op2 at e
  cases x <;> cases y <;> simp only [reduceCtorEq] at e
  case int i j =>
    cases e
    exact .inl ⟨i, j, hx.int r, hy.int r, q _ _ r .refl (.int _)⟩
  case lst a b =>
    split at e
    · cases e
      rename_i hz
      obtain ⟨p, xs, rfl, h1, h2, h3⟩ := hx.lst r
      obtain ⟨p', ys, rfl, g1, g2, g3⟩ := hy.lst r
      have hl : xs.length + ys.length ≤ sizeLine := by rw [h3.len, g3.len]; exact hz
      refine .inr (.inl ⟨p, p', xs, ys, rfl, rfl, h1, g1, hl, fun t ht => ?_⟩)
      obtain ⟨a1, a2, a3⟩ := VR.newL (Hs := Hs) r ht (by rw [List.length_append]; exact hl) (h3.app g3) hs
      exact q _ _ a1 a2 a3
    · cases e
  case tup a b =>
    split at e
    · cases e
      rename_i hz
      obtain ⟨p, xs, rfl, h1, h2, h3, h4⟩ := hx.seqT r
      obtain ⟨p', ys, rfl, g1, g2, g3, g4⟩ := hy.seqT r
      have hl : xs.length + ys.length ≤ sizeLine := by rw [h3.len, g3.len]; exact hz
      refine .inr (.inr (.inl ⟨p, p', xs, ys, rfl, rfl, h1, g1, hl, fun z => ?_, fun _ z => ?_, fun _ _ t ht => ?_⟩))
      · subst z
        cases h3
        exact q _ _ r .refl (by simpa [VR] using g4)
      · subst z
        cases g3
        exact q _ _ r .refl (by simpa [VR] using h4)
      · obtain ⟨a1, a2, a3⟩ := VR.newT (Hs := Hs) r ht (by rw [List.length_append]; exact hl) (h3.app g3)
        exact q _ _ a1 a2 a3
    · cases e
  case str a b =>
    split at e
    · cases e
      rename_i hz
      exact .inr (.inr (.inr ⟨a, b, hx.str r, hy.str r, hz, q _ _ r .refl (.str _)⟩))
    · cases e
theorem ok_int {f : D → D → Option (D × Kd)} {g : Int → Int → D} {g' : Int → Int → V} {C : Int → Int → Prop} (hg : ∀ i j R, Rep c R (g' i j) (g i j)) (hf : ∀ x y d k, f x y = some (d, k) → ∃ i j, x = .int i ∧ y = .int j ∧ C i j ∧ d = g i j ∧ k = .cln) :
    R2ok c H0 f (rI C g') := by
  intro Z σ ρ Hs H x y vx vy d k Q r hs hx hy e q
  obtain ⟨i, j, rfl, rfl, hC, rfl, rfl⟩ := hf x y d k e
  exact ⟨i, j, hx.int r, hy.int r, hC, q _ _ r .refl (hg i j _)⟩
theorem ok_int0 {f : D → D → Option (D × Kd)} {g : Int → Int → D} {g' : Int → Int → V} (hg : ∀ i j R, Rep c R (g' i j) (g i j)) (hf : ∀ x y d k, f x y = some (d, k) → ∃ i j, x = .int i ∧ y = .int j ∧ d = g i j ∧ k = .cln) :
    R2ok c H0 f (rI0 g') := by
  intro Z σ ρ Hs H x y vx vy d k Q r hs hx hy e q
  obtain ⟨i, j, rfl, rfl, rfl, rfl⟩ := hf x y d k e
  exact ⟨i, j, hx.int r, hy.int r, q _ _ r .refl (hg i j _)⟩
theorem ok_sub : R2ok c H0 (op2 .sub) (rI0 fun i j => .int (i - j)) := ok_int0 (g := fun i j => .int (i - j)) (fun i j R => .int _) fun x y d k e => by
  unfold op2 at e
  cases x <;> cases y <;> simp only [reduceCtorEq] at e
  cases e
  exact ⟨_, _, rfl, rfl, rfl, rfl⟩
theorem ok_mod : R2ok c H0 (op2 .mod) (rI (fun _ j => 0 < j) fun i j => .int (i % j)) := ok_int (g := fun i j => .int (i % j)) (fun i j R => .int _) fun x y d k e => by
  unfold op2 at e
  cases x <;> cases y <;> simp only [reduceCtorEq] at e
  split at e <;> cases e
  exact ⟨_, _, rfl, rfl, by assumption, rfl, rfl⟩
theorem ok_fdiv : R2ok c H0 (op2 .fdiv) (rI CDiv fun i j => .int (i / j)) := ok_int (g := fun i j => .int (i / j)) (fun i j R => .int _) fun x y d k e => by
  unfold op2 at e
  cases x <;> cases y <;> simp only [reduceCtorEq] at e
  split at e <;> cases e
  exact ⟨_, _, rfl, rfl, by assumption, rfl, rfl⟩
theorem ok_pow : R2ok c H0 (op2 .pow) (rI CPow fun i j => .int (i ^ j.toNat)) := ok_int (g := fun i j => .int (i ^ j.toNat)) (fun i j R => .int _) fun x y d k e => by
  unfold op2 at e
  cases x <;> cases y <;> simp only [reduceCtorEq] at e
  split at e <;> cases e
  exact ⟨_, _, rfl, rfl, by assumption, rfl, rfl⟩
theorem ok_lt : R2ok c H0 (op2 .lt) (rI0 fun i j => .bl (decide (i < j))) := ok_int0 (g := fun i j => .bl (decide (i < j))) (fun i j R => .bl _) fun x y d k e => by
  unfold op2 at e
  cases x <;> cases y <;> simp only [reduceCtorEq] at e
  cases e
  exact ⟨_, _, rfl, rfl, rfl, rfl⟩
theorem ok_le : R2ok c H0 (op2 .le) (rI0 fun i j => .bl (decide (i ≤ j))) := ok_int0 (g := fun i j => .bl (decide (i ≤ j))) (fun i j R => .bl _) fun x y d k e => by
  unfold op2 at e
  cases x <;> cases y <;> simp only [reduceCtorEq] at e
  cases e
  exact ⟨_, _, rfl, rfl, rfl, rfl⟩
theorem ok_gt : R2ok c H0 (op2 .gt) (rI0 fun i j => .bl (decide (j < i))) := ok_int0 (g := fun i j => .bl (decide (j < i))) (fun i j R => .bl _) fun x y d k e => by
  unfold op2 at e
  cases x <;> cases y <;> simp only [reduceCtorEq] at e
  cases e
  exact ⟨_, _, rfl, rfl, rfl, rfl⟩
theorem ok_ge : R2ok c H0 (op2 .ge) (rI0 fun i j => .bl (decide (j ≤ i))) := ok_int0 (g := fun i j => .bl (decide (j ≤ i))) (fun i j R => .bl _) fun x y d k e => by
  unfold op2 at e
  cases x <;> cases y <;> simp only [reduceCtorEq] at e
  cases e
  exact ⟨_, _, rfl, rfl, rfl, rfl⟩
def rMulA : R2 := fun x y H Q => rI CMul (fun i j => .int (i * j)) x y H Q ∨ rRep x y H Q
theorem op_mulA {X : Cx} : OpR X (binaryOp .Mult) rMulA := op_mul.or op_rep
theorem ok_mul : R2ok c H0 (op2 .mul) rMulA := by
  intro Z σ ρ Hs H x y vx vy d k Q r hs hx hy e q
  unfold op2 at e
  cases x <;> cases y <;> simp only [reduceCtorEq] at e
  case int i j =>
    split at e <;> cases e
    exact .inl ⟨i, j, hx.int r, hy.int r, by assumption, q _ _ r .refl (.int _)⟩
  case lst a j =>
    split at e <;> cases e
    rename_i hz
    obtain ⟨p, xs, rfl, h1, h2, h3⟩ := hx.lst r
    have hl : xs.length * j.toNat ≤ sizeLine := by rw [h3.len]; exact hz.2.2
    refine .inr ⟨p, j, xs, rfl, hy.int r, h1, by omega, by omega, hl, fun t ht => ?_⟩
    obtain ⟨a1, a2, a3⟩ := VR.newL (Hs := Hs) r ht (xs := (List.replicate j.toNat xs).flatten) (by rw [List.length_flatten]; simpa [Nat.mul_comm] using hl) (h3.rep j.toNat) hs
    exact q _ _ a1 a2 a3
theorem size_joinN (xs : Array Nat) : ∀ (k : Nat) (acc : Array Nat), (List.foldl (fun x1 x2 => x1 ++ x2) acc (List.replicate k xs)).size = acc.size + k * xs.size
  | 0, acc => by simp
  | k + 1, acc => by
    rw [List.replicate_succ, List.foldl_cons, size_joinN xs k, Array.size_append, Nat.succ_mul]
    omega
theorem op_repS {X : Cx} : OpR X (binaryOp .Mult) (fun x y H Q => ∃ z k, x = .str z ∧ y = .int k ∧ (k < 2 ^ 62 ∧ -(2 ^ 62) < k ∧ z.length * k.toNat ≤ sizeLine) ∧ Q (.str (sRep z k)) H) := by
  intro pins s σ H x y v u Q I rx ry h
  obtain ⟨z, k, rfl, rfl, ⟨h1, h2, h3⟩, q⟩ := h
  obtain ⟨t, rfl⟩ := rx
  obtain ⟨t', rfl⟩ := ry
  have sl : sizeLine = 16777216 := sizeLine_eq
  have hr : (decide (k < -(2 ^ 63 : Int)) || decide (k ≥ 2 ^ 63)) = false := by
    rw [decide_eq_false (by omega), decide_eq_false (by omega)] <;> rfl
  have big : ∀ h : ¬ k < 1, ((z.length : Int)) * k ≤ 16777216 := fun h => by
    have e : ((z.length * k.toNat : Nat) : Int) = (z.length : Int) * k := by rw [Int.natCast_mul, Int.toNat_of_nonneg (by omega)]
    omega
  refine PySem.P.mul_str hr (fun a _ => ?_) (fun a _ => ?_) ?_
  · have := big a
    have g : (z.length : Int) ≤ 16777216 / k := (Int.le_ediv_iff_mul_le (by omega)).mpr this
    have g2 : (16777216 : Int) / k ≤ (2 ^ 63 - 1) / k := Int.ediv_le_ediv (by omega) (by omega)
    omega
  · unfold Builtin.Str.tooLong
    exact decide_eq_false (by omega)
  · unfold sRep at q
    by_cases c1 : k < 1
    · rw [if_pos c1] at q ⊢
      exact ⟨by decide, .str Str.empty, H, I.tok _, ⟨_, rfl⟩, q⟩
    · rw [if_neg c1] at q ⊢
      by_cases c2 : (k == 1 || z.length == 0) = true
      · rw [if_pos c2] at q ⊢
        exact ⟨.str z, H, I, ⟨_, rfl⟩, q⟩
      · rw [if_neg c2] at q ⊢
        refine ⟨?_, .str _, H, I.tok _, ⟨_, rfl⟩, q⟩
        show (List.foldl (fun x1 x2 => x1 ++ x2) #[] (List.replicate k.toNat z.cps)).size ≤ sizeLine
        rw [size_joinN, Nat.mul_comm]
        exact Nat.le_trans (Nat.le_of_eq (Nat.zero_add _)) h3
theorem tuple_mul1 (l : Addr) (items : Array Value) (n : Nat) (dd : Option Addr) (sl : Array (Option Value)) (x : Int) (u : Tok) (c0 : (decide (x < -(2 ^ 63)) || decide (x ≥ 2 ^ 63)) = false) (c1 : (items.isEmpty || x == 1) = true) :
    Meets (Builtin.«tuple.__mul__» ⟨[.ref l, .int x u], []⟩) (fun _ R s => s.heap.get? l = some { cls := .type "tuple", dict := dd, data := .seq items n, slots := sl } ∧ R (.ok (.ret (Value.ref l))) s) :=
  .of_wp fun prog w A R s h => by
    obtain ⟨hp, g, d, tk, os⟩ := s
    obtain ⟨hl, h⟩ := h
    have f1 := AutoSeq1.idx_int
    wp_walk using wpAny_loadPart' hl
    repeat (first
      | (refine wpAny_ite_false (decide_eq_false (by rw [c0]; exact Bool.false_ne_true)) ?_; wp_walk using wpAny_loadPart' hl)
      | (refine wpAny_ite_true (decide_eq_true c1) ?_; wp_walk using wpAny_loadPart' hl))
    exact ⟨_, rfl, h⟩
def rRep1 (K : PySem.W.Frag) : R2 := fun x y H Q => ∃ l k xs, x = .ref l ∧ y = .int k ∧ SqT K H l xs ∧ k = 1 ∧ Q (.ref l) H
theorem op_rep1 {X : Cx} : OpR X (binaryOp .Mult) (rRep1 X.K) := by
  intro pins s σ H x y v u Q I rx ry h
  obtain ⟨l, k, xs, rfl, rfl, hT, rfl, q⟩ := h
  cases rx
  obtain ⟨t, rfl⟩ := ry
  obtain ⟨its, r, ⟨⟨cls, dd, data, sl⟩, ho, hc, n, hd⟩, hs⟩ := I.tuple hT
  simp only at hc hd
  subst hc hd
  have c0 : (decide ((1 : Int) < -(2 ^ 63)) || decide ((1 : Int) ≥ 2 ^ 63)) = false := by decide
  have c1 : (its.toArray.isEmpty || (1 : Int) == 1) = true := by rw [show ((1 : Int) == 1) = true from rfl, Bool.or_true]
  refine wpAny_binaryOp_repeat_ref (T := "tuple") (U := "int") (by decide) ⟨_, ho, rfl⟩ (fun s' => typeIs_int s' 1 t) noFill_tuple_mul PySem.F.fills_int_mul PySem.F.slot_int_rmul repeat_tuple PySem.F.slot_int_index.lookup
    (call_meets PySem.F.slot_int_rmul (typeIs_int s 1 t) PySem.F.entry_int_rmul (PySem.F.args_int_rmul_2 _ _) (int_rmul_tuple 1 t l its.toArray n dd sl)
      ⟨ho, rfl, ⟨_, ho, rfl⟩, call_meets PySem.F.slot_tuple_mul ⟨_, ho, rfl⟩ PySem.F.entry_tuple_mul (PySem.F.args_tuple_mul_2 _ _) (tuple_mul1 l its.toArray n dd sl 1 t c0 c1) ⟨ho, ?_⟩⟩)
  exact ⟨.ref l, H, I, rfl, q⟩
def rRepA (K : PySem.W.Frag) : R2 := fun x y H Q => rRepT K x y H Q ∨ rRep1 K x y H Q ∨ (∃ z k, x = .str z ∧ y = .int k ∧ (k < 2 ^ 62 ∧ -(2 ^ 62) < k ∧ z.length * k.toNat ≤ sizeLine) ∧ Q (.str (sRep z k)) H)
theorem op_repA {X : Cx} : OpR X (binaryOp .Mult) (rRepA X.K) := op_repT.or (op_rep1.or op_repS)
theorem ok_rep : R2ok c H0 (op2 .rep) (rRepA c.K) := by
  intro Z σ ρ Hs H x y vx vy d k Q r hs hx hy e q
  unfold op2 at e
  cases x <;> cases y <;> simp only [reduceCtorEq] at e
  case tup a j =>
    split at e <;> cases e
    rename_i hz
    obtain ⟨p, xs, rfl, h1, h2, h3, h4⟩ := hx.seqT r
    have hl : xs.length = a.length := h3.len
    have sl : sizeLine = 16777216 := sizeLine_eq
    by_cases j1 : j = 1
    · subst j1
      refine .inr (.inl ⟨p, 1, xs, rfl, hy.int r, h1, rfl, ?_⟩)
      rw [show (1 : Int).toNat = 1 from rfl, List.replicate_one, List.flatten_cons, List.flatten_nil, List.append_nil] at q
      exact q _ _ r .refl (by simpa [VR] using h4)
    refine .inl ⟨p, j, xs, rfl, hy.int r, h1, fun e => by rw [e] at hl; simp at hl; omega, by omega, hz.2.2.1, by omega, fun t ht => ?_⟩
    have hb : j.toNat * xs.length ≤ 1000 * 1000 := Nat.mul_le_mul (by omega) (by omega)
    obtain ⟨a1, a2, a3⟩ := VR.newT (Hs := Hs) r ht (xs := (List.replicate j.toNat xs).flatten) (by rw [List.length_flatten]; simp; omega) (h3.rep j.toNat)
    exact q _ _ a1 a2 a3
  case str a j =>
    split at e <;> cases e
    rename_i hz
    exact .inr (.inr ⟨a, j, hx.str r, hy.int r, hz, q _ _ r .refl (.str _)⟩)
mutual
def toPy : D → PyData
  | .bl b => .bool b
  | .int i => .int i
  | .str x => .str x
  | .lst xs => .list (toPys xs)
  | .tup xs => .tuple (toPys xs)
  | _ => .none
def toPys : List D → List PyData
  | [] => []
  | x :: xs => toPy x :: toPys xs
end
theorem plains_cons {x : D} {xs : List D} : D.plains (x :: xs) = (x.plain && D.plains xs) := by rw [D.plains]
mutual
theorem eqv_toPy : ∀ (a b : D), a.plain = true → b.plain = true → PyData.eqv (toPy a) (toPy b) = eqD a b
  | .non, b, ha, hb => by cases b <;> simp_all [D.plain, toPy, PyData.eqv, eqD]
  | .bl _, b, ha, hb => by cases b <;> simp_all [D.plain, toPy, PyData.eqv, eqD]
  | .int _, b, ha, hb => by cases b <;> simp_all [D.plain, toPy, PyData.eqv, eqD]
  | .str _, b, ha, hb => by cases b <;> simp_all [D.plain, toPy, PyData.eqv, eqD]
  | .lst xs, b, ha, hb => by
    cases b <;> try (simp_all [D.plain, toPy, PyData.eqv, eqD]; done)
    simp only [D.plain] at ha hb
    simp only [toPy, PyData.eqv, eqD]
    exact eqv_toPys xs _ ha hb
  | .tup xs, b, ha, hb => by
    cases b <;> try (simp_all [D.plain, toPy, PyData.eqv, eqD]; done)
    simp only [D.plain] at ha hb
    simp only [toPy, PyData.eqv, eqD]
    exact eqv_toPys xs _ ha hb
  | .dct _, b, ha, _ => by simp [D.plain] at ha
  | .ins _ _, b, ha, _ => by simp [D.plain] at ha
  | .drw, b, ha, _ => by simp [D.plain] at ha
  | .opq _, b, ha, _ => by simp [D.plain] at ha
  | .rng _ _, b, ha, _ => by simp [D.plain] at ha
  | .exc _ _, b, ha, _ => by simp [D.plain] at ha
  | .clo _, b, ha, _ => by simp [D.plain] at ha
  | .fnv _, b, ha, _ => by simp [D.plain] at ha
  | .lamc _ _, b, ha, _ => by simp [D.plain] at ha
theorem eqv_toPys : ∀ (a b : List D), D.plains a = true → D.plains b = true → PyData.eqvAll (toPys a) (toPys b) = eqDs a b
  | [], b, _, _ => by cases b <;> simp [toPys, PyData.eqvAll, eqDs]
  | x :: xs, b, ha, hb => by
    cases b with
    | nil => simp [toPys, PyData.eqvAll, eqDs]
    | cons y ys =>
      rw [plains_cons, Bool.and_eq_true] at ha hb
      simp only [toPys, PyData.eqvAll, eqDs, eqv_toPy x y ha.1 hb.1, eqv_toPys xs ys ha.2 hb.2]
end
mutual
theorem depth_toPy : ∀ (a : D), (toPy a).depth = a.deep
  | .lst xs => by simp only [toPy, PyData.depth, D.deep, depth_toPys xs]
  | .tup xs => by simp only [toPy, PyData.depth, D.deep, depth_toPys xs]
  | .non | .bl _ | .int _ | .str _ | .dct _ | .ins _ _ | .drw | .opq _ | .rng _ _ | .exc _ _ | .clo _ | .fnv _ | .lamc _ _ => by simp [toPy, PyData.depth, D.deep]
theorem depth_toPys : ∀ (a : List D), PyData.depthAll (toPys a) = D.deeps a
  | [] => by simp [toPys, PyData.depthAll, D.deeps]
  | x :: xs => by simp only [toPys, PyData.depthAll, D.deeps, depth_toPy x, depth_toPys xs]
end
mutual
theorem canLay_toPy : ∀ (a : D), a.plain = true → (toPy a).canLay0 = true
  | .lst xs, h => by simp only [toPy, PyData.canLay0]; exact canLay_toPys xs (by rw [D.plain] at h; exact h)
  | .tup xs, h => by simp only [toPy, PyData.canLay0]; exact canLay_toPys xs (by rw [D.plain] at h; exact h)
  | .str x, h => by rw [D.plain] at h; simpa [toPy, PyData.canLay0] using h
  | .non, _ | .bl _, _ | .int _, _ | .dct _, _ | .ins _ _, _ | .drw, _ | .opq _, _ | .rng _ _, _ | .exc _ _, _ | .clo _, _ | .fnv _, _ | .lamc _ _, _ => by simp [toPy, PyData.canLay0]
theorem canLay_toPys : ∀ (a : List D), D.plains a = true → PyData.canLayAll0 (toPys a) = true
  | [], _ => by simp [toPys, PyData.canLayAll0]
  | x :: xs, h => by
    rw [plains_cons, Bool.and_eq_true] at h
    simp only [toPys, PyData.canLayAll0, canLay_toPy x h.1, canLay_toPys xs h.2, Bool.and_self]
end
theorem shaped_toPy {a : D} (hp : a.plain = true) (h : a.deep ≤ 60) : SeqAt.shaped (toPy a) = true := by
  unfold SeqAt.shaped
  rw [canLay_toPy a hp, depth_toPy, Bool.true_and]
  exact decide_eq_true (by omega)
mutual
theorem Rep.dp {R : Addr → HO → Prop} (hR : ∀ a u, isDk u = false → R a u → H a = some u) : ∀ (d : D) (v : V), d.plain = true → Rep c R v d → Dp c.K H v (toPy d)
  | .non, _, _, .non => .non
  | .bl b, _, _, .bl _ => .bl b
  | .int b, _, _, .int _ => .int b
  | .str b, _, _, .str _ => .str b
  | .lst ds, _, hp, .lst r z l => by
    rw [toPy]
    exact .lst (SqL.of (hR _ _ rfl r)) (RepL.dp hR ds _ (by rw [D.plain] at hp; exact hp) l)
  | .tup ds, _, hp, .tup r z l => by
    rw [toPy]
    exact .tup (SqT.of (hR _ _ rfl r)) (RepL.dp hR ds _ (by rw [D.plain] at hp; exact hp) l)
  | .tup ds, _, hp, .ktup r z l => by
    rw [toPy]
    exact .tup (.inr r) (RepL.dp hR ds _ (by rw [D.plain] at hp; exact hp) l)
  | .dct _, _, hp, _ => by simp [D.plain] at hp
  | .ins _ _, _, hp, _ => by simp [D.plain] at hp
  | .drw, _, hp, _ => by simp [D.plain] at hp
  | .opq _, _, hp, _ => by simp [D.plain] at hp
  | .rng _ _, _, hp, _ => by simp [D.plain] at hp
  | .exc _ _, _, hp, _ => by simp [D.plain] at hp
  | .clo _, _, hp, _ => by simp [D.plain] at hp
  | .fnv _, _, hp, _ => by simp [D.plain] at hp
  | .lamc _ _, _, hp, _ => by simp [D.plain] at hp
theorem RepL.dp {R : Addr → HO → Prop} (hR : ∀ a u, isDk u = false → R a u → H a = some u) : ∀ (d : List D) (v : List V), D.plains d = true → RepL c R v d → DpAll c.K H v (toPys d)
  | [], _, _, .nil => by rw [toPys]; exact .nil
  | d :: ds, _, hp, .cons a b => by
    rw [plains_cons, Bool.and_eq_true] at hp
    rw [toPys]
    exact .cons (Rep.dp hR d _ hp.1 a) (RepL.dp hR ds _ hp.2 b)
end
theorem Rz.get {a : Addr} {u : HO} (hd : isDk u = false) (h : Rz H Z a u) : H a = some u := h.2.elim id fun q => by rw [hd] at q; cases q.1
theorem VW.dp (r : RE c H0 Z σ H ρ) (h : VW c Z σ H ρ v d) (hp : d.plain = true) : Dp c.K H v (toPy d) := by
  cases d with
  | lst ds =>
    obtain ⟨a, xs, rfl, h1, h2, h3⟩ := h.lst r
    rw [toPy]
    exact .lst (SqL.of h1) (RepL.dp (fun _ _ e q => Rz.get e q) ds _ (by rw [D.plain] at hp; exact hp) h3)
  | dct _ => simp [D.plain] at hp
  | _ => exact Rep.dp (fun _ _ e q => Rz.get e q) _ _ hp (h.rep r (fun _ e => nomatch e) fun _ e => nomatch e)
def rDkE (neg : Bool) : R2 := fun x y H Q => ∃ a b ks, x = .ref a ∧ y = .ref b ∧ Rd H a (.dK ks) ∧ Rd H b (.dK []) ∧ Q (.bl (if neg then !ks.isEmpty else ks.isEmpty)) H
theorem op_eqDk {X : Cx} (hu : X.A.units < cLine) : OpR X (compareOp .Eq) (rDkE false) := by
  intro pins s σ H x y v u Q I rx ry h
  obtain ⟨a, b, ks, rfl, rfl, ea, eb, q⟩ := h
  obtain rfl : v = Value.ref a := rx
  obtain rfl : u = Value.ref b := ry
  obtain ⟨_, ya, va, ra, da⟩ := dk_rd I.hok ea
  obtain ⟨_, yb, vb, rb, db⟩ := dk_rd I.hok eb
  cases rb
  refine PySem.W.keq_eq (knd := mixKind X.prog X.w) (r := true) ya yb da db hu (fun e => ?_) (fin_bl I q ?_)
  · have : va = [] := List.eq_nil_of_length_eq_zero (by simpa using e)
    subst this
    exact .nil
  · cases ra <;> simp
theorem op_neDk {X : Cx} (hu : X.A.units < cLine) : OpR X (compareOp .NotEq) (rDkE true) := by
  intro pins s σ H x y v u Q I rx ry h
  obtain ⟨a, b, ks, rfl, rfl, ea, eb, q⟩ := h
  obtain rfl : v = Value.ref a := rx
  obtain rfl : u = Value.ref b := ry
  obtain ⟨_, ya, va, ra, da⟩ := dk_rd I.hok ea
  obtain ⟨_, yb, vb, rb, db⟩ := dk_rd I.hok eb
  cases rb
  refine PySem.W.keq_ne (knd := mixKind X.prog X.w) (r := true) ya yb da db hu (fun e => ?_) (fin_bl I q ?_)
  · have : va = [] := List.eq_nil_of_length_eq_zero (by simpa using e)
    subst this
    exact .nil
  · cases ra <;> simp
def rEqA (K : PySem.W.Frag) : R2 := fun x y H Q => rEqD K x y H Q ∨ rDkE false x y H Q
def rNeA (K : PySem.W.Frag) : R2 := fun x y H Q => rNeD K x y H Q ∨ rDkE true x y H Q
theorem op_eqA {X : Cx} (hu : X.A.units + 64 < cLine) : OpR X (compareOp .Eq) (rEqA X.K) := (op_eqD hu).or (op_eqDk (by omega))
theorem op_neA {X : Cx} (hu : X.A.units + 64 < cLine) : OpR X (compareOp .NotEq) (rNeA X.K) := (op_neD hu).or (op_neDk (by omega))
/-- what == of a dict beside the empty one, or of plain data, says -/
theorem op2_eq {x y : D} {d : D} {k : Kd} (e : op2 .eq x y = some (d, k)) : (∃ a, x = .dct a ∧ y = .dct [] ∧ d = .bl a.isEmpty ∧ k = .cln) ∨ (x.plain = true ∧ y.plain = true ∧ x.deep ≤ 60 ∧ y.deep ≤ 60 ∧ d = .bl (eqD x y) ∧ k = .cln) := by
  unfold op2 at e
  split at e
  · rename_i h; cases h
  all_goals first | (rename_i h; cases h; done) | skip
  split at e
  · cases e
    exact .inl ⟨_, rfl, rfl, rfl, rfl⟩
  · split at e <;> cases e
    rename_i h
    simp only [Bool.and_eq_true, decide_eq_true_eq] at h
    exact .inr ⟨h.1.1.1, h.1.1.2, h.1.2, h.2, rfl, rfl⟩
theorem op2_ne {x y : D} {d : D} {k : Kd} (e : op2 .ne x y = some (d, k)) : (∃ a, x = .dct a ∧ y = .dct [] ∧ d = .bl (!a.isEmpty) ∧ k = .cln) ∨ (x.plain = true ∧ y.plain = true ∧ x.deep ≤ 60 ∧ y.deep ≤ 60 ∧ d = .bl (!eqD x y) ∧ k = .cln) := by
  simp only [op2] at e
  split at e
  · cases e
    exact .inl ⟨_, rfl, rfl, rfl, rfl⟩
  · split at e <;> cases e
    rename_i h
    simp only [Bool.and_eq_true, decide_eq_true_eq] at h
    exact .inr ⟨h.1.1.1, h.1.1.2, h.1.2, h.2, rfl, rfl⟩
theorem ok_eq : R2ok c H0 (op2 .eq) (rEqA c.K) := by
  intro Z σ ρ Hs H x y vx vy d k Q r hs hx hy e q
  rcases op2_eq e with ⟨a, rfl, rfl, rfl, rfl⟩ | ⟨h1, h2, h3, h4, rfl, rfl⟩
  · obtain ⟨p, ks, rfl, g1, _, g2⟩ := hx.dct r
    obtain ⟨p', ks', rfl, g3, _, g4⟩ := hy.dct r
    cases g4
    refine .inr ⟨p, p', ks, rfl, rfl, g1, g3, ?_⟩
    have : ks.isEmpty = a.isEmpty := by cases g2 <;> rfl
    simp only [Bool.false_eq_true, if_false, this]
    exact q _ _ r .refl (.bl _)
  · refine .inl ⟨_, _, hx.dp r h1, hy.dp r h2, shaped_toPy h1 h3, shaped_toPy h2 h4, ?_⟩
    rw [eqv_toPy x y h1 h2]
    exact q _ _ r .refl (.bl _)
theorem ok_ne : R2ok c H0 (op2 .ne) (rNeA c.K) := by
  intro Z σ ρ Hs H x y vx vy d k Q r hs hx hy e q
  rcases op2_ne e with ⟨a, rfl, rfl, rfl, rfl⟩ | ⟨h1, h2, h3, h4, rfl, rfl⟩
  · obtain ⟨p, ks, rfl, g1, _, g2⟩ := hx.dct r
    obtain ⟨p', ks', rfl, g3, _, g4⟩ := hy.dct r
    cases g4
    refine .inr ⟨p, p', ks, rfl, rfl, g1, g3, ?_⟩
    have : ks.isEmpty = a.isEmpty := by cases g2 <;> rfl
    simp only [if_true, this]
    exact q _ _ r .refl (.bl _)
  · refine .inl ⟨_, _, hx.dp r h1, hy.dp r h2, shaped_toPy h1 h3, shaped_toPy h2 h4, ?_⟩
    rw [eqv_toPy x y h1 h2]
    exact q _ _ r .refl (.bl _)
def rDIn (neg : Bool) : R2 := fun x y H Q => ∃ a o, y = .ref a ∧ DGet H a x o ∧ Q (.bl (if neg then !o.isSome else o.isSome)) H
theorem op_dIn {X : Cx} (hu : X.A.units + 1 < cLine) : OpR X (compareOp .In) (rDIn false) := by
  intro pins s σ H x y v u Q I rx ry h
  obtain ⟨a, o, rfl, g, q⟩ := h
  obtain rfl : u = Value.ref a := ry
  exact d_in hu I g rx fun s' I' => ⟨.bl _, H, I', rfl, q⟩
theorem op_dNotIn {X : Cx} (hu : X.A.units + 1 < cLine) : OpR X (compareOp .NotIn) (rDIn true) := by
  intro pins s σ H x y v u Q I rx ry h
  obtain ⟨a, o, rfl, g, q⟩ := h
  obtain rfl : u = Value.ref a := ry
  exact d_notIn hu I g rx fun s' I' => ⟨.bl _, H, I', rfl, q⟩
def rInA (K : PySem.W.Frag) (neg : Bool) : R2 := fun x y H Q => rIn K neg x y H Q ∨ rDIn neg x y H Q
theorem op_inA {X : Cx} (hu : X.A.units + 1 < cLine) : OpR X (compareOp .In) (rInA X.K false) := op_in_seq.or (op_dIn hu)
theorem op_notinA {X : Cx} (hu : X.A.units + 1 < cLine) : OpR X (compareOp .NotIn) (rInA X.K true) := op_notIn_seq.or (op_dNotIn hu)
theorem Rep.flat {R : Addr → HO → Prop} (h : Rep c R v d) (hs : d.scal = true) : flatV v = true := by cases h <;> first | rfl | cases hs
theorem RepL.flat {R : Addr → HO → Prop} : ∀ {vs : List V} {ds : List D}, RepL c R vs ds → ds.all D.scal = true → vs.all flatV = true
  | _, _, .nil, _ => rfl
  | _, _, .cons a b, h => by
    simp only [List.all_cons, Bool.and_eq_true] at h ⊢
    exact ⟨a.flat h.1, RepL.flat b h.2⟩
theorem Rep.eqV {R : Addr → HO → Prop} {v' : V} {d' : D} (h : Rep c R v d) (hs : d.scal = true) (h' : Rep c R v' d') (hs' : d'.scal = true) : eqV v v' = eqD d d' := by
  cases h <;> first | cases hs; done | (cases h' <;> first | cases hs'; done | simp [L2.eqV, eqD])
theorem RepL.inV {R : Addr → HO → Prop} {x : V} {d : D} (h : Rep c R x d) (hs : d.scal = true) : ∀ {vs : List V} {ds : List D}, RepL c R vs ds → ds.all D.scal = true → inV x vs = ds.any fun y => eqD y d
  | _, _, .nil, _ => rfl
  | _, _, .cons a b, q => by
    simp only [List.all_cons, Bool.and_eq_true] at q
    have := RepL.inV h hs b q.2
    unfold L2.inV at this ⊢
    simp only [List.any_cons, this, a.eqV q.1 h hs]
theorem in_ok {neg : Bool} {f : D → D → Option (D × Kd)} (hf : ∀ x y d k, f x y = some (d, k) → k = .cln ∧ ((∃ kvs j, y = .dct kvs ∧ x.key = some j ∧ d = .bl (if neg then !(valD kvs j).isSome else (valD kvs j).isSome)) ∨
      (∃ ys, (y = .lst ys ∨ y = .tup ys) ∧ x.scal = true ∧ ys.all D.scal = true ∧ d = .bl (if neg then !ys.any (fun y => eqD y x) else ys.any fun y => eqD y x)))) : R2ok c H0 f (rInA c.K neg) := by
  intro Z σ ρ Hs H x y vx vy d k Q r hs hx hy e q
  obtain ⟨rfl, h⟩ := hf x y d k e
  rcases h with ⟨kvs, j, rfl, hj, rfl⟩ | ⟨ys, hy', h1, h2, rfl⟩
  · obtain ⟨p, ks, rfl, g1, _, g2⟩ := hy.dct r
    have e1 := hx.key r hj
    subst e1
    refine .inr ⟨p, valV ks j, rfl, .inl ⟨ks, j, g1, rfl, rfl⟩, ?_⟩
    have : (valV ks j).isSome = (valD kvs j).isSome := by rcases g2.val j with ⟨a, b⟩ | ⟨a, b, e1, e2, _⟩ <;> simp [*]
    rw [this]
    exact q _ _ r .refl (.bl _)
  · have hxr := hx.scal r h1
    rcases hy' with rfl | rfl
    · obtain ⟨p, xs, rfl, g1, g2, g3⟩ := hy.lst r
      refine .inl ⟨p, xs, rfl, .inl (SqL.of g1), hxr.flat h1, g3.flat h2, ?_⟩
      rw [RepL.inV hxr h1 g3 h2]
      exact q _ _ r .refl (.bl _)
    · obtain ⟨p, xs, rfl, g1, g2, g3⟩ := hy.tup r
      refine .inl ⟨p, xs, rfl, .inr g1, hxr.flat h1, g3.flat h2, ?_⟩
      rw [RepL.inV hxr h1 g3 h2]
      exact q _ _ r .refl (.bl _)
theorem ok_in : R2ok c H0 (op2 .isin) (rInA c.K false) := in_ok fun x y d k e => by
  cases y <;> simp only [op2] at e
  case lst ys => split at e <;> cases e; rename_i h; simp only [Bool.and_eq_true] at h; exact ⟨rfl, .inr ⟨ys, .inl rfl, h.1, h.2, rfl⟩⟩
  case tup ys => split at e <;> cases e; rename_i h; simp only [Bool.and_eq_true] at h; exact ⟨rfl, .inr ⟨ys, .inr rfl, h.1, h.2, rfl⟩⟩
  case dct kvs =>
    cases hk : x.key with
    | none => rw [hk] at e; cases e
    | some j => rw [hk] at e; cases e; exact ⟨rfl, .inl ⟨kvs, j, rfl, rfl, rfl⟩⟩
  all_goals cases e
theorem ok_notin : R2ok c H0 (op2 .notin) (rInA c.K true) := in_ok fun x y d k e => by
  cases y <;> simp only [op2] at e
  case lst ys => split at e <;> cases e; rename_i h; simp only [Bool.and_eq_true] at h; exact ⟨rfl, .inr ⟨ys, .inl rfl, h.1, h.2, rfl⟩⟩
  case tup ys => split at e <;> cases e; rename_i h; simp only [Bool.and_eq_true] at h; exact ⟨rfl, .inr ⟨ys, .inr rfl, h.1, h.2, rfl⟩⟩
  case dct kvs =>
    cases hk : x.key with
    | none => rw [hk] at e; cases e
    | some j => rw [hk] at e; cases e; exact ⟨rfl, .inl ⟨kvs, j, rfl, rfl, rfl⟩⟩
  all_goals cases e
def rIsA (neg : Bool) : R2 := fun x y H Q => (y = .non ∧ Q (.bl (if neg then !decide (x = .non) else decide (x = .non))) H) ∨ (∃ a b : Bool, x = .bl a ∧ y = .bl b ∧ Q (.bl (if neg then !decide (a = b) else decide (a = b))) H)
theorem op_isA {X : Cx} : OpR X (compareOp .Is) (rIsA false) := op_isN.or op_isBl
theorem op_isnotA {X : Cx} : OpR X (compareOp .IsNot) (rIsA true) := op_notN.or op_notBl
theorem VW.isNon (r : RE c H0 Z σ H ρ) (h : VW c Z σ H ρ v d) (ho : ∀ w, d ≠ .opq w) : decide (v = .non) = d.isNon := by
  rcases h with h | ⟨i, e, f⟩
  · cases h <;> first | rfl | exact absurd rfl (ho _)
  · obtain ⟨a, e', _, _, t⟩ := r.own i _ f
    rw [e] at e'; cases e'
    cases d <;> first | exact t.elim | rfl
theorem is_ok {neg : Bool} {f : D → D → Option (D × Kd)} (hf : ∀ x y d k, f x y = some (d, k) → k = .cln ∧ ((∃ a b, x = .bl a ∧ y = .bl b ∧ d = .bl (if neg then !decide (a = b) else decide (a = b))) ∨
      (y = .non ∧ (∀ w, x ≠ .opq w) ∧ d = .bl (if neg then !x.isNon else x.isNon)))) : R2ok c H0 f (rIsA neg) := by
  intro Z σ ρ Hs H x y vx vy d k Q r hs hx hy e q
  obtain ⟨rfl, h⟩ := hf x y d k e
  rcases h with ⟨a, b, rfl, rfl, rfl⟩ | ⟨rfl, ho, rfl⟩
  · exact .inr ⟨a, b, hx.bl r, hy.bl r, q _ _ r .refl (.bl _)⟩
  · refine .inl ⟨hy.non r, ?_⟩
    rw [hx.isNon r ho]
    exact q _ _ r .refl (.bl _)
theorem ok_is : R2ok c H0 (op2 .is_) (rIsA false) := is_ok fun x y d k e => by
  cases x <;> cases y <;> simp only [op2, reduceCtorEq] at e <;> cases e <;> first | exact ⟨rfl, .inl ⟨_, _, rfl, rfl, rfl⟩⟩ | exact ⟨rfl, .inr ⟨rfl, (fun _ z => nomatch z), rfl⟩⟩
theorem ok_isnot : R2ok c H0 (op2 .isnot) (rIsA true) := is_ok fun x y d k e => by
  cases x <;> cases y <;> simp only [op2, reduceCtorEq] at e <;> cases e <;> first | exact ⟨rfl, .inl ⟨_, _, rfl, rfl, rfl⟩⟩ | exact ⟨rfl, .inr ⟨rfl, (fun _ z => nomatch z), rfl⟩⟩
end
end Z
end T_Z3
section T_Z4
namespace Z
open PySem L2
section
variable {c : Cn} {H0 Hs H H1 H2 H' : Hp} {Z : Addr → Prop} {σ σ1 σ2 σ' : L2.St} {ρ ρ1 ρ2 ρ' : Env} {v : V} {d : D} {k : Kd} {E : Xn → Prop}
theorem list_set_same {α : Type} {l : List α} {i : Nat} {x : α} (h : i < l.length) : (l.set i x)[i]? = some x := by simp [h]
theorem ow_frz {i : Nat} {b : Addr} {d : D} : Ow σ (frzAt ρ i d) b → Ow σ ρ b := by
  rintro ⟨j, e, h, g⟩
  refine ⟨j, e, ?_, g⟩
  unfold frzAt at h
  by_cases hj : i = j
  · subst hj
    by_cases hl : i < ρ.length
    · rw [list_set_same hl] at h; cases h
    · rw [List.set_eq_of_length_le (by omega)] at h; exact h
  · rw [List.getElem?_set_ne hj] at h; exact h
/-- a name's own object becomes plain data -/
theorem RE.freeze (r : RE c H0 Z σ H ρ) {i : Nat} {d : D} (h : ρ[i]? = some (some (.own d))) :
    RE c H0 Z σ H (frzAt ρ i d) ∧ Stp c.ws σ ρ H σ (frzAt ρ i d) H ∧ (∀ v, σ[i]? = some (some v) → Rep c (Rz H (full Z σ (frzAt ρ i d))) v d) := by
  obtain ⟨a, e, n, h0, t⟩ := r.own i d h
  have hi : i < ρ.length := (List.getElem?_eq_some_iff.mp h).1
  have ff : ∀ b, full Z σ (frzAt ρ i d) b → full Z σ ρ b := fun b z => z.elim .inl fun z => .inr (ow_frz z)
  have na : ¬ full Z σ (frzAt ρ i d) a := by
    rintro (z | ⟨j, e', hj, g⟩)
    · exact n z
    · unfold frzAt at hj
      by_cases hji : i = j
      · subst hji; rw [list_set_same hi] at hj; cases hj
      · rw [List.getElem?_set_ne hji] at hj
        exact r.one i j d e' _ hji h hj e g
  have rep : Rep c (Rz H (full Z σ (frzAt ρ i d))) (.ref a) d := t.rep (Rz.mono ff) fun u hu => ⟨na, .inl hu⟩
  refine ⟨⟨?_, fun j x hj => ?_, fun j x hj => ?_, fun j l x y w hjl hj hl => ?_, r.ext, r.al, r.wok, r.wz, r.zal⟩, ⟨fun b o e _ => e, fun b z => .inl (ow_frz z), fun _ z => z⟩, fun v hv => ?_⟩
  · unfold frzAt; rw [List.length_set]; exact r.len
  · unfold frzAt at hj
    by_cases hji : i = j
    · subst hji
      rw [list_set_same hi] at hj
      cases hj
      exact ⟨_, e, rep⟩
    · rw [List.getElem?_set_ne hji] at hj
      obtain ⟨v, ev, q⟩ := r.frz j x hj
      exact ⟨v, ev, q.to (Rz.mono ff)⟩
  · unfold frzAt at hj
    by_cases hji : i = j
    · subst hji; rw [list_set_same hi] at hj; cases hj
    · rw [List.getElem?_set_ne hji] at hj
      obtain ⟨b, eb, nb, hb, tb⟩ := r.own j x hj
      exact ⟨b, eb, nb, hb, tb.to (Rz.mono ff) rfl⟩
  · have back : ∀ {j : Nat} {x : D}, (frzAt ρ i d)[j]? = some (some (Sl.own x)) → ρ[j]? = some (some (Sl.own x)) := fun {j x} q => by
      unfold frzAt at q
      by_cases hji : i = j
      · subst hji; rw [list_set_same hi] at q; cases q
      · rw [List.getElem?_set_ne hji] at q; exact q
    exact r.one j l x y w hjl (back hj) (back hl)
  · rw [e] at hv; cases hv
    exact rep
theorem clr_ok {P : Env → Prop} (r : RE c H0 Z σ H ρ) (h : VR c H0 Z σ Hs H ρ v d k) (q : clr d k ρ P) :
    ∃ ρ', P ρ' ∧ RE c H0 Z σ H ρ' ∧ Stp c.ws σ ρ H σ ρ' H ∧ Rep c (Rz H (full Z σ ρ')) v d := by
  cases k with
  | cln => exact ⟨ρ, q, r, .refl, h⟩
  | new => exact ⟨ρ, q, r, .refl, h.clean⟩
  | own i =>
    obtain ⟨a, b, e⟩ := r.freeze h.2
    exact ⟨_, q, a, b, e v h.1⟩
theorem trB.tr {e : CE} {Q : Bool → Hp → Prop} (h : trB c H0 E e σ H Q) : tr c H0 E e σ H (fun x H' => ∃ k, x = .bl k ∧ Q k H') := by
  obtain ⟨Z, ρ, P, r, hev, hk⟩ := h
  refine ⟨Z, ρ, _, r, hev, fun d k ρ' v H' hp r' s' v' => ?_⟩
  obtain ⟨b, rfl, hP⟩ := hp
  exact ⟨b, v'.weak.bl r', hk b ρ' H' hP r' s'⟩
structure XOk (c : Cn) (X : Cx) : Prop where
  K : X.K = c.K
  mg : X.mg = c.mg
  calm : X.calm = true
  nd : X.N.Nodup
  un : X.A.units + 100 < cLine
variable {X : Cx} {a b e : Expr} {es : List Expr} {pos : Pos} {ca cb cc : CE}
theorem e_var {i : Nat} {x : Str} (hN : X.N[i]? = some x) (hv : Vis X.env.scope x) (hd : (x == ("__debug__" : Str)) = false) (hcd : (x == ("__classdict__" : Str)) = false) : PE X (.Name x pos) (tr c H0 E (.var i)) := by
  refine PE.imp (pe_var hN hv hd hcd) fun σ H Q h => ?_
  obtain ⟨Z, ρ, P, r, hev, hk⟩ := h
  rw [ev] at hev
  split at hev
  · rename_i d hd
    obtain ⟨v, e, q⟩ := r.frz i d hd
    exact ⟨v, e, hk d .cln ρ v H hev r .refl q⟩
  · rename_i d hd
    obtain ⟨v, e, _⟩ := r.own i d hd
    exact ⟨_, e, hk d (.own i) ρ _ H hev r .refl ⟨e, hd⟩⟩
  · exact hev.elim
theorem e_c {v : V} (hr : ∀ R, Rep c R v d) (h : PE X e (tC v)) : PE X e (tr c H0 E (.lit d)) := by
  refine PE.imp h fun σ H Q h => ?_
  obtain ⟨Z, ρ, P, r, hev, hk⟩ := h
  rw [ev] at hev
  exact hk d .cln ρ v H hev r .refl (hr _)
theorem e_op {op : Operator} {o : O2} {r : R2} (ho : OpR X (binaryOp op) r) (hok : R2ok c H0 (op2 o) r) (ha : PE X a (tr c H0 E ca)) (hb : PE X b (tr c H0 E cb)) : PE X (.BinOp a op b pos) (tr c H0 E (.op o ca cb)) :=
  PE.imp (pe_op ho ha hb) hok.bin
theorem e_cmp {op : CmpOp} {o : O2} {r : R2} (ho : OpR X (compareOp op) r) (hok : R2ok c H0 (op2 o) r) (ha : PE X a (tr c H0 E ca)) (hb : PE X b (tr c H0 E cb)) (hm : behindInMarks op b = false) : PE X (.Compare a [op] [b] pos) (tr c H0 E (.op o ca cb)) :=
  PE.imp (pe_cmpR ho ha hb hm) hok.bin
theorem t_cmp {op : CmpOp} {o : O2} {r : R2} (ho : OpR X (compareOp op) r) (hok : R2ok c H0 (op2 o) r) (ha : PE X a (tr c H0 E ca)) (hb : PE X b (tr c H0 E cb)) (hm : behindInMarks op b = false) : PT X (.Compare a [op] [b] pos) (trB c H0 E (.op o ca cb)) :=
  PT.imp (pt_cmpR ho ha hb hm) fun σ H Q h => hok.bin _ _ _ h.tr
theorem t_val (h : PE X e (tr c H0 E ca)) (he : ∀ whole, isTrue e X.env whole = (do let v ← whole; standAt e.pos; holding [v] (truthy v))) : PT X e (trB c H0 E ca) :=
  PT.imp (pt_val h he) fun σ H Q q => q.tr
theorem e_neg (ha : PE X a (tr c H0 E ca)) : PE X (.UnaryOp .USub a pos) (tr c H0 E (.neg ca)) := by
  refine PE.imp (pe_un un_neg ha) fun σ H Q h => ?_
  obtain ⟨Z, ρ, P, r, hev, hk⟩ := h
  rw [ev] at hev
  refine ⟨Z, ρ, _, r, hev, fun x k ρ1 v H1 hp r1 s1 v1 => ?_⟩
  obtain ⟨i, rfl, hP⟩ := hp
  exact ⟨i, v1.weak.int r1, hk _ _ _ _ _ hP r1 s1 (.int _)⟩
theorem e_not (ha : PE X a (tr c H0 E ca)) : PE X (.UnaryOp .Not a pos) (tr c H0 E (.not ca)) := by
  refine PE.imp (pe_not ha) fun σ H Q h => ?_
  obtain ⟨Z, ρ, P, r, hev, hk⟩ := h
  rw [ev] at hev
  refine ⟨Z, ρ, _, r, hev, fun x k ρ1 v H1 hp r1 s1 v1 => ?_⟩
  obtain ⟨i, rfl, hP⟩ := hp
  exact ⟨i, v1.weak.bl r1, hk _ _ _ _ _ hP r1 s1 (.bl _)⟩
theorem t_not (ha : PT X a (trB c H0 E ca)) : PT X (.UnaryOp .Not a pos) (trB c H0 E (.not ca)) := by
  refine PT.imp (pt_not ha) fun σ H Q h => ?_
  obtain ⟨Z, ρ, P, r, hev, hk⟩ := h
  rw [ev] at hev
  refine ⟨Z, ρ, (fun b ρ' => P (!b) ρ'), r, ?_, fun b ρ1 H1 hp r1 s1 => hk _ _ _ hp r1 s1⟩
  have key : (fun (x : D) (_ : Kd) (ρ1 : Env) => ∃ b, x = .bl b ∧ ∃ b', (D.bl (!b)) = .bl b' ∧ P b' ρ1) = (fun (d : D) (_ : Kd) (ρ' : Env) => ∃ b, d = .bl b ∧ P (!b) ρ') := by
    funext x k ρ1
    apply propext
    constructor
    · rintro ⟨b, rfl, b', e, h⟩
      cases e
      exact ⟨b, rfl, h⟩
    · rintro ⟨b, rfl, h⟩
      exact ⟨b, rfl, _, rfl, h⟩
  rw [← key]
  exact hev
theorem trB_and {Q : Bool → Hp → Prop} (h : trB c H0 E (.and ca cb) σ H Q) : trB c H0 E ca σ H fun t H1 => if t = true then trB c H0 E cb σ H1 Q else Q false H1 := by
  obtain ⟨Z, ρ, P, r, hev, hk⟩ := h
  rw [ev] at hev
  refine ⟨Z, ρ, (fun t ρ1 => if t = true then ev E cb ρ1 (fun d _ ρ' => ∃ b, d = .bl b ∧ P b ρ') else P false ρ1), r, ?_, fun t ρ1 H1 hp r1 s1 => ?_⟩
  · have key : (fun (x : D) (_ : Kd) (ρ1 : Env) => ∃ t, x = .bl t ∧ if t = true then ev E cb ρ1 (fun d _ ρ' => ∃ b, d = .bl b ∧ P b ρ') else ∃ b, (D.bl false) = .bl b ∧ P b ρ1) =
        (fun (x : D) (_ : Kd) (ρ1 : Env) => ∃ t, x = .bl t ∧ if t = true then ev E cb ρ1 (fun d _ ρ' => ∃ b, d = .bl b ∧ P b ρ') else P false ρ1) := by
      funext x k ρ1
      apply propext
      constructor
      · rintro ⟨t, rfl, h⟩
        refine ⟨t, rfl, ?_⟩
        cases t
        · obtain ⟨b, e, h⟩ := h; cases e; exact h
        · exact h
      · rintro ⟨t, rfl, h⟩
        refine ⟨t, rfl, ?_⟩
        cases t
        · exact ⟨_, rfl, h⟩
        · exact h
    rw [← key]
    exact hev
  · cases t
    · exact hk _ _ _ hp r1 s1
    · exact ⟨Z, ρ1, P, r1, hp, fun b ρ2 H2 hp2 r2 s2 => hk _ _ _ hp2 r2 (s1.trans s2)⟩
theorem trB_or {Q : Bool → Hp → Prop} (h : trB c H0 E (.or ca cb) σ H Q) : trB c H0 E ca σ H fun t H1 => if t = true then Q true H1 else trB c H0 E cb σ H1 Q := by
  obtain ⟨Z, ρ, P, r, hev, hk⟩ := h
  rw [ev] at hev
  refine ⟨Z, ρ, (fun t ρ1 => if t = true then P true ρ1 else ev E cb ρ1 (fun d _ ρ' => ∃ b, d = .bl b ∧ P b ρ')), r, ?_, fun t ρ1 H1 hp r1 s1 => ?_⟩
  · have key : (fun (x : D) (_ : Kd) (ρ1 : Env) => ∃ t, x = .bl t ∧ if t = true then (∃ b, (D.bl true) = .bl b ∧ P b ρ1) else ev E cb ρ1 (fun d _ ρ' => ∃ b, d = .bl b ∧ P b ρ')) =
        (fun (x : D) (_ : Kd) (ρ1 : Env) => ∃ t, x = .bl t ∧ if t = true then P true ρ1 else ev E cb ρ1 (fun d _ ρ' => ∃ b, d = .bl b ∧ P b ρ')) := by
      funext x k ρ1
      apply propext
      constructor
      · rintro ⟨t, rfl, h⟩
        refine ⟨t, rfl, ?_⟩
        cases t
        · exact h
        · obtain ⟨b, e, h⟩ := h; cases e; exact h
      · rintro ⟨t, rfl, h⟩
        refine ⟨t, rfl, ?_⟩
        cases t
        · exact h
        · exact ⟨_, rfl, h⟩
    rw [← key]
    exact hev
  · cases t
    · exact ⟨Z, ρ1, P, r1, hp, fun b ρ2 H2 hp2 r2 s2 => hk _ _ _ hp2 r2 (s1.trans s2)⟩
    · exact hk _ _ _ hp r1 s1
theorem w_one1 (ha : PT X a (trB c H0 E ca)) : PW X (.BoolOp .And [a] pos) (trB c H0 E ca) := pw_and1 ha
theorem w_one2 (ha : PT X a (trB c H0 E ca)) : PW X (.BoolOp .Or [a] pos) (trB c H0 E ca) := pw_or1 ha
theorem PW.imp {e : Expr} {t t' : TT} (h : PW X e t) (i : ∀ σ H Q, t' σ H Q → t σ H Q) : PW X e t' := ⟨fun whole pins s σ H Q I q => h.run whole pins s σ H Q I (i σ H Q q)⟩
theorem w_and (ha : PT X a (trB c H0 E ca)) (hb : PW X (.BoolOp .And (b :: es) pos) (trB c H0 E cb)) : PW X (.BoolOp .And (a :: b :: es) pos) (trB c H0 E (.and ca cb)) :=
  PW.imp (pw_and ha hb) fun σ H Q h => trB_and h
theorem w_or (ha : PT X a (trB c H0 E ca)) (hb : PW X (.BoolOp .Or (b :: es) pos) (trB c H0 E cb)) : PW X (.BoolOp .Or (a :: b :: es) pos) (trB c H0 E (.or ca cb)) :=
  PW.imp (pw_or ha hb) fun σ H Q h => trB_or h
theorem e_one {op : BoolOp} (ha : PE X a (tr c H0 E ca)) : PE X (.BoolOp op [a] pos) (tr c H0 E ca) := pe_one ha
theorem e_and (ha : PE X a (tr c H0 E ca)) (hb : PE X (.BoolOp .And (b :: es) pos) (tr c H0 E cb)) : PE X (.BoolOp .And (a :: b :: es) pos) (tr c H0 E (.and ca cb)) := by
  refine PE.imp (pe_and ha hb) fun σ H Q h => ?_
  obtain ⟨Z, ρ, P, r, hev, hk⟩ := h
  rw [ev] at hev
  refine ⟨Z, ρ, _, r, hev, fun x k ρ1 v H1 hp r1 s1 v1 => ?_⟩
  obtain ⟨t, rfl, hp⟩ := hp
  refine ⟨t, v1.weak.bl r1, ?_⟩
  cases t
  · exact hk _ _ _ _ _ hp r1 s1 (.bl _)
  · exact ⟨Z, ρ1, P, r1, hp, fun d k ρ2 v H2 hp2 r2 s2 v2 => hk _ _ _ _ _ hp2 r2 (s1.trans s2) (by
      cases k with
      | cln => exact v2
      | own i => exact v2
      | new => obtain ⟨p, e1, e2, e3, e4, e5⟩ := v2; exact ⟨p, e1, by cases q : H p with | none => rfl | some o => exact absurd e2 (s1.al p (some_ne q)), e3, e4, e5⟩)⟩
theorem VR.back (h : VR c H0 Z σ H1 H ρ v d k) (al : ∀ b, Hs b ≠ none → H1 b ≠ none) : VR c H0 Z σ Hs H ρ v d k := by
  cases k with
  | cln => exact h
  | own i => exact h
  | new => obtain ⟨p, e1, e2, e3, e4, e5⟩ := h; exact ⟨p, e1, by cases q : Hs p with | none => rfl | some o => exact absurd e2 (al p (some_ne q)), e3, e4, e5⟩
theorem e_or (ha : PE X a (tr c H0 E ca)) (hb : PE X (.BoolOp .Or (b :: es) pos) (tr c H0 E cb)) : PE X (.BoolOp .Or (a :: b :: es) pos) (tr c H0 E (.or ca cb)) := by
  refine PE.imp (pe_or ha hb) fun σ H Q h => ?_
  obtain ⟨Z, ρ, P, r, hev, hk⟩ := h
  rw [ev] at hev
  refine ⟨Z, ρ, _, r, hev, fun x k ρ1 v H1 hp r1 s1 v1 => ?_⟩
  obtain ⟨t, rfl, hp⟩ := hp
  refine ⟨t, v1.weak.bl r1, ?_⟩
  cases t
  · exact ⟨Z, ρ1, P, r1, hp, fun d k ρ2 v H2 hp2 r2 s2 v2 => hk _ _ _ _ _ hp2 r2 (s1.trans s2) (v2.back s1.al)⟩
  · exact hk _ _ _ _ _ hp r1 s1 (.bl _)
theorem trB_of {Q : Bool → Hp → Prop} {P : Bool → Env → Prop} (r : RE c H0 Z σ H ρ) (hev : ev E ca ρ fun x _ ρ1 => ∃ t, x = .bl t ∧ P t ρ1) (hk : ∀ b ρ' H', P b ρ' → RE c H0 Z σ H' ρ' → Stp c.ws σ ρ H σ ρ' H' → Q b H') : trB c H0 E ca σ H Q :=
  ⟨Z, ρ, P, r, hev, hk⟩
theorem e_ife (hc : PT X e (trB c H0 E cc)) (ha : PE X a (tr c H0 E ca)) (hb : PE X b (tr c H0 E cb)) : PE X (.IfExp e a b pos) (tr c H0 E (.ife cc ca cb)) := by
  refine PE.imp (pe_ifExp hc ha hb) fun σ H Q h => ?_
  obtain ⟨Z, ρ, P, r, hev, hk⟩ := h
  rw [ev] at hev
  refine trB_of r hev fun t ρ1 H1 hp r1 s1 => ?_
  cases t
  · exact ⟨Z, ρ1, P, r1, hp, fun d k ρ2 v H2 hp2 r2 s2 v2 => hk _ _ _ _ _ hp2 r2 (s1.trans s2) (v2.back s1.al)⟩
  · exact ⟨Z, ρ1, P, r1, hp, fun d k ρ2 v H2 hp2 r2 s2 v2 => hk _ _ _ _ _ hp2 r2 (s1.trans s2) (v2.back s1.al)⟩
def CL.len : CL → Nat
  | .nil => 0
  | .cons _ es => es.len + 1
def trL (c : Cn) (H0 : Hp) (E : Xn → Prop) (es : CL) : TA := fun σ H Q => ∃ (Z : Addr → Prop) (ρ : Env) (P : List D → Env → Prop), RE c H0 Z σ H ρ ∧ evs E es ρ P ∧
  ∀ ds ρ' vs H', P ds ρ' → RE c H0 Z σ H' ρ' → Stp c.ws σ ρ H σ ρ' H' → RepL c (Rz H' (full Z σ ρ')) vs ds → vs.length = es.len → Q vs H'
inductive VRs (c : Cn) (H0 : Hp) (Z : Addr → Prop) (σ : L2.St) (Hs H : Hp) (ρ : Env) : List V → List (D × Kd) → Prop
  | nil : VRs c H0 Z σ Hs H ρ [] []
  | cons {v : V} {vs : List V} {d : D} {k : Kd} {ds : List (D × Kd)} : (stood ρ d k → VW c Z σ H ρ v d) → (match k with | .own _ => True | _ => Rep c (Rz H (full Z σ ρ)) v d) → VRs c H0 Z σ Hs H ρ vs ds → VRs c H0 Z σ Hs H ρ (v :: vs) ((d, k) :: ds)
def trA (c : Cn) (H0 : Hp) (E : Xn → Prop) (es : CL) : TA := fun σ H Q => ∃ (Z : Addr → Prop) (ρ : Env) (P : List (D × Kd) → Env → Prop), RE c H0 Z σ H ρ ∧ evas E es ρ P ∧
  ∀ ds ρ' vs H', P ds ρ' → RE c H0 Z σ H' ρ' → Stp c.ws σ ρ H σ ρ' H' → VRs c H0 Z σ H H' ρ' vs ds → vs.length = es.len → Q vs H'
variable {cs : CL}
theorem a_nil : PA X [] (trL c H0 E .nil) := by
  refine PA.imp pa_nil fun σ H Q h => ?_
  obtain ⟨Z, ρ, P, r, hev, hk⟩ := h
  rw [evs] at hev
  exact hk _ _ _ _ hev r .refl .nil rfl
theorem a_cons (ha : PE X e (tr c H0 E ca)) (hr : PA X es (trL c H0 E cs)) (hs : starEach (e :: es) X.env = (false, eval e X.env) :: starEach es X.env) : PA X (e :: es) (trL c H0 E (.cons ca cs)) := by
  refine PA.imp (pa_cons ha hr hs) fun σ H Q h => ?_
  obtain ⟨Z, ρ, P, r, hev, hk⟩ := h
  rw [evs] at hev
  refine ⟨Z, ρ, _, r, hev, fun x k ρ1 v H1 hp r1 s1 v1 => ?_⟩
  obtain ⟨ρ2, hp2, r2, s2, q2⟩ := clr_ok r1 v1 hp
  refine ⟨Z, ρ2, _, r2, hp2, fun ds ρ3 vs H3 hp3 r3 s3 l3 hl => ?_⟩
  exact hk _ _ _ _ hp3 r3 ((s1.trans s2).trans s3) (.cons (q2.to (s3.R r2.wz)) l3) (by simp [CL.len, hl])
theorem g_nil : PA X [] (trA c H0 E .nil) := by
  refine PA.imp pa_nil fun σ H Q h => ?_
  obtain ⟨Z, ρ, P, r, hev, hk⟩ := h
  rw [evas] at hev
  exact hk _ _ _ _ hev r .refl .nil rfl
theorem g_cons (ha : PE X e (tr c H0 E ca)) (hr : PA X es (trA c H0 E cs)) (hs : starEach (e :: es) X.env = (false, eval e X.env) :: starEach es X.env) : PA X (e :: es) (trA c H0 E (.cons ca cs)) := by
  refine PA.imp (pa_cons ha hr hs) fun σ H Q h => ?_
  obtain ⟨Z, ρ, P, r, hev, hk⟩ := h
  rw [evas] at hev
  refine ⟨Z, ρ, _, r, hev, fun x k ρ1 v H1 hp r1 s1 v1 => ?_⟩
  refine ⟨Z, ρ1, _, r1, hp, fun ds ρ3 vs H3 hp3 r3 s3 l3 hl => ?_⟩
  have back : ∀ {vs ds}, VRs c H0 Z σ H1 H3 ρ3 vs ds → VRs c H0 Z σ H H3 ρ3 vs ds := fun {vs ds} q => by
    induction q with
    | nil => exact .nil
    | cons a b _ ih => exact .cons a b ih
  refine hk _ _ _ _ hp3 r3 (s1.trans s3) (.cons (fun st => v1.keep r1.wz s3 st) ?_ (back l3)) (by simp [CL.len, hl])
  cases k with
  | cln => exact Rep.to (s3.R r1.wz) v1
  | own i => trivial
  | new => exact Rep.to (s3.R r1.wz) v1.clean
theorem e_lst (h : PA X es (trL c H0 E cs)) (hn : cs.len ≤ big) : PE X (.List es pos) (tr c H0 E (.lst cs)) := by
  refine PE.imp (pe_lst h) fun σ H Q h => ?_
  obtain ⟨Z, ρ, P, r, hev, hk⟩ := h
  rw [ev] at hev
  refine ⟨Z, ρ, _, r, hev, fun ds ρ1 vs H1 hp r1 s1 l1 hl => ⟨by rw [hl]; exact hn, fun p hp' => ?_⟩⟩
  obtain ⟨a1, a2, a3⟩ := VR.newL (Hs := H) r1 hp' (by rw [hl]; exact hn) l1 s1.al
  exact hk _ _ _ _ _ hp a1 (s1.trans a2) a3
theorem e_tup {kk : Nat} (h : PA X es (trL c H0 E cs)) (hn : cs.len ≤ big) : PE X (.Tuple es kk pos) (tr c H0 E (.tup cs)) := by
  refine PE.imp (pe_tup h) fun σ H Q h => ?_
  obtain ⟨Z, ρ, P, r, hev, hk⟩ := h
  rw [ev] at hev
  refine ⟨Z, ρ, _, r, hev, fun ds ρ1 vs H1 hp r1 s1 l1 hl => ⟨by rw [hl]; exact hn, fun p hp' => ?_⟩⟩
  obtain ⟨a1, a2, a3⟩ := VR.newT (Hs := H) r1 hp' (by rw [hl]; exact hn) l1
  exact hk _ _ _ _ _ hp a1 (s1.trans a2) a3
def rIxD : R2 := fun x y H Q => ∃ a w, x = .ref a ∧ DGet H a y (some w) ∧ Q w H
theorem ix_dict (hu : X.A.units + 1 < cLine) : IxR X rIxD := by
  intro value slice pins s σ H x y v u Q I rx ry h hs
  obtain ⟨a, w, rfl, g, q⟩ := h
  obtain rfl : v = Value.ref a := rx
  exact PyProof.Rows.tail_any (dict_typeIs I g) PySem.F.slot_dict_getitem.lookup (d_getItem hu I g ry fun w' s' I' rw' => ⟨w, H, I', rw', q⟩) hs
theorem atD_rep {R : Addr → HO → Prop} {vs : List V} {ds : List D} {i : Int} {d : D} (l : RepL c R vs ds) (h : atD ds i = some d) : ∃ v, atI vs i = some v ∧ Rep c R v d := by
  unfold atD atI at h
  obtain ⟨j, h1, h2⟩ := Option.bind_eq_some_iff.mp h
  obtain ⟨v, e, q⟩ := l.getD h2
  exact ⟨v, by unfold atI; rw [l.len, h1]; exact e, q⟩
theorem e_idx (O : XOk c X) (ha : PE X a (tr c H0 E ca)) (hb : PE X b (tr c H0 E cb)) (hs : PlainIx b) : PE X (.Subscript a b pos) (tr c H0 E (.idx ca cb)) := by
  refine PE.imp (pe_ix (IxR.or ix_list (IxR.or ix_tup (ix_dict (by have := O.un; omega)))) ha hb hs) fun σ H Q h => ?_
  obtain ⟨Z, ρ, P, r, hev, hk⟩ := h
  rw [ev] at hev
  refine ⟨Z, ρ, _, r, hev, fun x k ρ1 vx H1 hp r1 s1 v1 => ⟨Z, ρ1, _, r1, hp, fun y k2 ρ2 vy H2 hp2 r2 s2 v2 => ?_⟩⟩
  obtain ⟨st, hp2⟩ := hp2
  have hx := v1.keep r1.wz s2 st
  have hy := v2.weak
  cases x <;> try exact hp2.elim
  case lst xs =>
    cases y <;> try exact hp2.elim
    obtain ⟨d, e, hP⟩ := hp2
    obtain ⟨p, vs, rfl, h1, h2, h3⟩ := hx.lst r2
    obtain ⟨w, g, q⟩ := atD_rep h3 e
    exact .inl ⟨p, vs, _, w, rfl, hy.int r2, SqL.of h1, g, hk _ _ _ _ _ hP r2 (s1.trans s2) q⟩
  case tup xs =>
    cases y <;> try exact hp2.elim
    obtain ⟨d, e, hP⟩ := hp2
    obtain ⟨p, vs, rfl, h1, h2, h3⟩ := hx.tup r2
    obtain ⟨w, g, q⟩ := atD_rep h3 e
    exact .inr (.inl ⟨p, vs, _, w, rfl, hy.int r2, by rw [O.K]; exact h1, g, hk _ _ _ _ _ hP r2 (s1.trans s2) q⟩)
  case dct kvs =>
    obtain ⟨j, d, hj, e, hP⟩ := hp2
    obtain ⟨p, ks, rfl, h1, _, h2⟩ := hx.dct r2
    have e1 := hy.key r2 hj
    subst e1
    rcases h2.val j with ⟨g1, g2⟩ | ⟨w, d', g1, g2, q⟩
    · rw [g2] at e; cases e
    · rw [g2] at e; cases e
      exact .inr (.inr ⟨p, w, rfl, .inl ⟨ks, j, h1, rfl, g1.symm⟩, hk _ _ _ _ _ hP r2 (s1.trans s2) q⟩)
end
end Z
end T_Z4
section T_Z5
namespace Z
open PySem L2
def RepX (c : Cn) (Hb H : Hp) (x : Xn) (cls : Value) (od : Option Addr) : Prop :=
  isExc x.1 = true ∧ c.mg x.1 = some cls ∧ (∃ Ca, cls = .ref Ca) ∧ match x.2 with
    | none => od = none
    | some d => ∃ dd v, od = some dd ∧ Hb dd = none ∧ H dd = some (.xd [(attrOf x.1, v)]) ∧ Rep c (Rz H c.ws) v d ∧ d.scal = true
def Ret (c : Cn) (Z : Addr → Prop) (H H' : Hp) (fr : Bool) (v : V) (d : D) : Prop :=
  if fr = true then ∃ a, v = .ref a ∧ H a = none ∧ TopAt c H' (Rz H' (Zp Z a)) a d else Rep c (Rz H' Z) v d
/-- the promise of a def -/
def spF (K : PySem.W.Frag) (mg : Str → Option Value) (n : Nat) (F : Fn) : Sp := fun vs H Q E => ∃ (c : Cn) (Z : Addr → Prop) (ds : List D) (P : D → Prop) (Ex : Xn → Prop), c.K = K ∧ c.mg = mg ∧ vs.length = n ∧
  c.wok H ∧ (∀ a, c.ws a → Z a) ∧ (∀ a, Z a → Ob H a) ∧ RepL c (Rz H Z) vs ds ∧ F.run ds P Ex ∧
  (∀ d v H', P d → (∀ b o, H b = some o → ¬ c.ws b → H' b = some o) → (∀ b, H b ≠ none → H' b ≠ none) → c.wok H' → Ret c Z H H' F.fr v d → Q v H') ∧
  (∀ x cls od H', Ex x → (∀ b o, H b = some o → ¬ c.ws b → H' b = some o) → (∀ b, H b ≠ none → H' b ≠ none) → c.wok H' → RepX c H H' x cls od → E cls od H')
/-- what is raised reaches what is wanted -/
def XS (c : Cn) (H0 : Hp) (Ex : Xn → Prop) (EE : XK) : Prop :=
  ∀ x cls od H', Ex x → (∀ b o, H0 b = some o → ¬ c.ws b → H' b = some o) → (∀ b, H0 b ≠ none → H' b ≠ none) → c.wok H' → RepX c H0 H' x cls od → EE cls od H'
theorem RepX.back {c : Cn} {Hb Hb' H : Hp} {x : Xn} {cls : Value} {od : Option Addr} (h : RepX c Hb H x cls od) (al : ∀ b, Hb' b ≠ none → Hb b ≠ none) : RepX c Hb' H x cls od := by
  obtain ⟨h1, h2, h0, h3⟩ := h
  refine ⟨h1, h2, h0, ?_⟩
  split at h3
  · exact h3
  · obtain ⟨dd, v, e1, e2, e3⟩ := h3
    exact ⟨dd, v, e1, Classical.byContradiction fun z => al _ z e2, e3⟩
/-- what may be called by the name x -/
structure FT (X : Cx) (EE : XK) (x : Str) (n : Nat) (F : Fn) : Prop where
  call : ∀ {e : Expr} {es : List Expr} {t : TA} {p pos : Pos}, Gl X x → (x == ("__debug__" : Str)) = false → PA X (e :: es) t → starEach (e :: es) X.env = (false, eval e X.env) :: starEach es X.env → (backTo pos (starEach es X.env)).any (·.1) = false →
    PE X (.Call (.Name x p) (e :: es) [] pos) (tCall (spF X.K X.mg n F) [] EE t)
  call0 : ∀ {p pos : Pos}, Gl X x → (x == ("__debug__" : Str)) = false → PE X (.Call (.Name x p) [] [] pos) (tCall (spF X.K X.mg n F) [] EE tNil)
/-- a def -/
theorem FT.fn {X : Cx} {EE : XK} {x : Str} {n : Nat} {F : Fn} {f : Addr} {fd : FuncData} {ps : List Str} {k : Nat} {CX : CXT} (G : FnOk X.prog X.w X.K X.mg X.base CX k f fd ps (spF X.K X.mg n F)) (hm : X.mg x = some (.ref f)) (hk : PySem.W.keepIn X.K (.ref f) = true) (hb : Binds X.K fd ps []) (hr : Room k X.A) (hp : Passes CX X EE) : FT X EE x n F :=
  ⟨fun hg hdb ha hst hpl => pe_call G hr hg hm hk hb .nil hp ha hdb hst hpl, fun hg hdb => pe_call0 G hr hg hm hk hb .nil hp hdb⟩
/-- .. in every context over the same ground -/
def Cal (CX : CXT) (P : Program) (w : World) (K : PySem.W.Frag) (mg : Str → Option Value) (base : Heap) (A : Around) (x : Str) (n : Nat) (F : Fn) : Prop :=
  ∀ (X : Cx) (EE : XK), X.prog = P → X.w = w → X.K = K → X.mg = mg → X.base = base → X.A = A → Passes CX X EE → FT X EE x n F
section
variable {c : Cn} {H0 Hs H H1 H2 H' : Hp} {Z : Addr → Prop} {σ σ1 σ2 σ' : L2.St} {ρ ρ1 ρ2 ρ' : Env} {v : V} {d : D} {k : Kd} {Ex : Xn → Prop} {EE : XK}
theorem XS.noX {EE : XK} : XS c H0 noX EE := fun x cls od H' h => h.elim
theorem TopAt.ob {R : Addr → HO → Prop} {x : Addr} {d : D} (t : TopAt c H R x d) : Ob H x := by
  cases d <;> first | exact t.elim | (obtain ⟨xs, x, _⟩ := t; exact ob_at x fun _ z => nomatch z)
theorem full_ob (r : RE c H0 Z σ H ρ) : ∀ a, full Z σ ρ a → Ob H a := by
  rintro a (z | ⟨i, d, e, f⟩)
  · exact r.zal a z
  · obtain ⟨b, e', _, _, t⟩ := r.own i d e
    rw [f] at e'; cases e'
    exact t.ob
theorem RepL.scal {R R' : Addr → HO → Prop} : ∀ {vs : List V} {ds : List D}, RepL c R vs ds → ds.all D.scal = true → RepL c R' vs ds
  | _, _, .nil, _ => .nil
  | _, _, .cons a b, h => by
    simp only [List.all_cons, Bool.and_eq_true] at h
    exact .cons (a.scal h.1) (RepL.scal b h.2)
theorem RepK.scal {R R' : Addr → HO → Prop} : ∀ {vs : List (Key × V)} {ds : List (Key × D)}, RepK c R vs ds → ds.all (fun p => p.2.scal) = true → RepK c R' vs ds
  | _, _, .nil, _ => .nil
  | _, _, .cons k a b, h => by
    simp only [List.all_cons, Bool.and_eq_true] at h
    exact .cons k (a.scal h.1) (RepK.scal b h.2)
theorem TopAt.shal {R R' : Addr → HO → Prop} {a : Addr} (t : TopAt c H R a d) (hs : d.shal = true) : TopAt c H R' a d := by
  cases d <;> try exact t.elim
  · obtain ⟨xs, x, y, z⟩ := t; exact ⟨xs, x, y, z.scal hs⟩
  · obtain ⟨xs, x, y, z⟩ := t; exact ⟨xs, x, y, z.scal hs⟩
/-- behind a call: the state, and what came out -/
theorem after_call (r : RE c H0 Z σ H ρ) (k1 : ∀ b o, H b = some o → ¬ c.ws b → H' b = some o) (k2 : ∀ b, H b ≠ none → H' b ≠ none) (wk : c.wok H') : RE c H0 Z σ H' ρ ∧ Stp c.ws σ ρ H σ ρ H' :=
  ⟨r.grow k1 k2 wk (fun b z => .inl z) r.wz fun b z n => absurd n (r.zal b z).1, .grow r k1 k2⟩
theorem ret_new (r : RE c H0 Z σ H ρ) (k1 : ∀ b o, H b = some o → ¬ c.ws b → H' b = some o) (k2 : ∀ b, H b ≠ none → H' b ≠ none) (wk : c.wok H') (hs : ∀ b, Hs b ≠ none → H b ≠ none) {a : Addr} (ha : H a = none)
    (t : TopAt c H' (Rz H' (full (Zp Z a) σ ρ)) a d) : VR c H0 Z σ Hs H' ρ (.ref a) d .new := by
  refine ⟨a, rfl, ?_, r.nfull ha, r.grow k1 k2 wk (fun b z => z.elim .inl fun e => .inr (by rw [e]; exact ha)) (fun b w => .inl (r.wz b w)) (fun b z n => z.elim (fun z => absurd n (r.zal b z).1) fun e => by rw [e]; exact t.ob), t⟩
  cases e : Hs a with
  | none => rfl
  | some o => exact absurd ha (hs a (some_ne e))
theorem owns_cons {d : D} {k : Kd} {ps : List (D × Kd)} : owns ((d, k) :: ps) = ((match k with | .own _ => true | _ => false) || owns ps) := rfl
theorem VRs.clean {vs : List V} {ds : List (D × Kd)} (h : VRs c H0 Z σ Hs H ρ vs ds) (ho : owns ds = false) : RepL c (Rz H (full Z σ ρ)) vs (ds.map (·.1)) := by
  induction h with
  | nil => exact .nil
  | @cons v vs d k ds a b _ ih =>
    rw [owns_cons, Bool.or_eq_false_iff] at ho
    cases k with
    | own i => cases ho.1
    | cln => exact .cons b (ih ho.2)
    | new => exact .cons b (ih ho.2)
theorem VW.ws (r : RE c H0 Z σ H ρ) (h : VW c Z σ H ρ v d) : Rep c (Rz H c.ws) v d := by
  rcases h with h | ⟨i, e, f⟩
  · exact h.to (Rz.mono fun a w => .inl (r.wz a w))
  · obtain ⟨a, e', n, _, t⟩ := r.own i _ f
    rw [e] at e'; cases e'
    exact t.rep (Rz.mono fun b w => .inl (r.wz b w)) fun u hu => ⟨fun w => n (r.wz _ w), .inl hu⟩
theorem VRs.dirty (r : RE c H0 Z σ H ρ) {vs : List V} {ds : List (D × Kd)} (h : VRs c H0 Z σ Hs H ρ vs ds) (st : stoods ρ ds) : RepL c (Rz H c.ws) vs (ds.map (·.1)) := by
  induction h with
  | nil => exact .nil
  | @cons v vs d k ds a b _ ih => exact .cons ((a st.1).ws r) (ih st.2)
variable {X : Cx} {a b e : Expr} {es : List Expr} {pos p : Pos} {ca cb cc : CE} {cs : CL}
/-- the promise of a def, at one frame -/
def spC (c : Cn) (n : Nat) (F : Fn) : Sp := fun vs H Q E => ∃ (Z : Addr → Prop) (ds : List D) (P : D → Prop) (Ex : Xn → Prop), vs.length = n ∧
  c.wok H ∧ (∀ a, c.ws a → Z a) ∧ (∀ a, Z a → Ob H a) ∧ RepL c (Rz H Z) vs ds ∧ F.run ds P Ex ∧
  (∀ d v H', P d → (∀ b o, H b = some o → ¬ c.ws b → H' b = some o) → (∀ b, H b ≠ none → H' b ≠ none) → c.wok H' → Ret c Z H H' F.fr v d → Q v H') ∧
  (∀ x cls od H', Ex x → (∀ b o, H b = some o → ¬ c.ws b → H' b = some o) → (∀ b, H b ≠ none → H' b ≠ none) → c.wok H' → RepX c H H' x cls od → E cls od H')
theorem spC.F {n : Nat} {F : Fn} {vs : List V} {Q : VK} {E : XK} {K : PySem.W.Frag} {mg : Str → Option Value} (hK : c.K = K) (hm : c.mg = mg) (h : spC c n F vs H Q E) : spF K mg n F vs H Q E := by
  obtain ⟨Z, ds, P, Ex, h⟩ := h
  exact ⟨c, Z, ds, P, Ex, hK, hm, h⟩
/-- what may be called by the name x, at one frame -/
structure FTc (c : Cn) (X : Cx) (EE : XK) (x : Str) (n : Nat) (F : Fn) : Prop where
  call : ∀ {H0 : Hp} {Ex : Xn → Prop} {cs : CL} {e : Expr} {es : List Expr} {p pos : Pos}, Gl X x → (x == ("__debug__" : Str)) = false → PA X (e :: es) (trL c H0 Ex cs) → starEach (e :: es) X.env = (false, eval e X.env) :: starEach es X.env → (backTo pos (starEach es X.env)).any (·.1) = false →
    PE X (.Call (.Name x p) (e :: es) [] pos) (tCall (spC c n F) [] EE (trL c H0 Ex cs))
  calla : ∀ {H0 : Hp} {Ex : Xn → Prop} {cs : CL} {e : Expr} {es : List Expr} {p pos : Pos}, Gl X x → (x == ("__debug__" : Str)) = false → PA X (e :: es) (trA c H0 Ex cs) → starEach (e :: es) X.env = (false, eval e X.env) :: starEach es X.env → (backTo pos (starEach es X.env)).any (·.1) = false →
    PE X (.Call (.Name x p) (e :: es) [] pos) (tCall (spC c n F) [] EE (trA c H0 Ex cs))
  call0 : ∀ {p pos : Pos}, Gl X x → (x == ("__debug__" : Str)) = false → PE X (.Call (.Name x p) [] [] pos) (tCall (spC c n F) [] EE tNil)
/-- any promise that holds at the frame -/
theorem FTc.of {X : Cx} {x : Str} {n : Nat} {F : Fn} {sp : Sp} (hs : ∀ vs H Q, spC c n F vs H Q EE → sp vs H Q EE)
    (h1 : ∀ {e : Expr} {es : List Expr} {t : TA} {p pos : Pos}, Gl X x → (x == ("__debug__" : Str)) = false → PA X (e :: es) t → starEach (e :: es) X.env = (false, eval e X.env) :: starEach es X.env → (backTo pos (starEach es X.env)).any (·.1) = false → PE X (.Call (.Name x p) (e :: es) [] pos) (tCall sp [] EE t))
    (h0 : ∀ {p pos : Pos}, Gl X x → (x == ("__debug__" : Str)) = false → PE X (.Call (.Name x p) [] [] pos) (tCall sp [] EE tNil)) : FTc c X EE x n F :=
  ⟨fun hg hdb ha hst hpl => PE.imp (h1 hg hdb ha hst hpl) fun σ H Q ⟨Z, ρ, P, r, hev, hk⟩ => ⟨Z, ρ, P, r, hev, fun ds ρ1 vs H1 a1 a2 a3 a4 a5 => hs _ _ _ (hk ds ρ1 vs H1 a1 a2 a3 a4 a5)⟩,
   fun hg hdb ha hst hpl => PE.imp (h1 hg hdb ha hst hpl) fun σ H Q ⟨Z, ρ, P, r, hev, hk⟩ => ⟨Z, ρ, P, r, hev, fun ds ρ1 vs H1 a1 a2 a3 a4 a5 => hs _ _ _ (hk ds ρ1 vs H1 a1 a2 a3 a4 a5)⟩,
   fun hg hdb => PE.imp (h0 hg hdb) fun σ H Q h => hs _ _ _ h⟩
theorem FT.atC {X : Cx} {x : Str} {n : Nat} {F : Fn} (T : FT X EE x n F) (hK : c.K = X.K) (hm : c.mg = X.mg) : FTc c X EE x n F := FTc.of (fun vs H Q h => spC.F hK hm h) T.call T.call0
/-- .. in every context over the same ground -/
def CalC (c : Cn) (CX : CXT) (P : Program) (w : World) (K : PySem.W.Frag) (mg : Str → Option Value) (base : Heap) (A : Around) (x : Str) (n : Nat) (F : Fn) : Prop :=
  ∀ (X : Cx) (EE : XK), X.prog = P → X.w = w → X.K = K → X.mg = mg → X.base = base → X.A = A → Passes CX X EE → FTc c X EE x n F
theorem Cal.atC {CX : CXT} {P : Program} {w : World} {K : PySem.W.Frag} {mg : Str → Option Value} {base : Heap} {A : Around} {x : Str} {n : Nat} {F : Fn} (h : Cal CX P w K mg base A x n F) (hK : c.K = K) (hm : c.mg = mg) : CalC c CX P w K mg base A x n F :=
  fun X EE e1 e2 e3 e4 e5 e6 hp => (h X EE e1 e2 e3 e4 e5 e6 hp).atC (hK.trans e3.symm) (hm.trans e4.symm)
/-- a def that a name may hold -/
def CalV (c : Cn) (CX : CXT) (P : Program) (w : World) (K : PySem.W.Frag) (mg : Str → Option Value) (base : Heap) (A : Around) (x : Str) (n : Nat) (F : Fn) : Prop :=
  ∀ (X : Cx) (EE : XK), X.prog = P → X.w = w → X.K = K → X.mg = mg → X.base = base → X.A = A → Passes CX X EE → ∀ f, X.mg x = some (.ref f) → PySem.W.keepIn X.K (.ref f) = true ∧
    ∀ {pins : List (Addr × Obj)} {σ : L2.St} {H : Hp} {s : Shared} {Q : VK} {us : List Value} {vs : List V}, L2.Inv X pins σ H s → Vals vs us → spC c n F vs H Q EE → wpAny (model X.prog X.w) X.A (call (.ref f) us) (EP X pins σ Q) X.xe s
/-- a lambda's object that stands alone -/
def CalL (c : Cn) (CX : CXT) (P : Program) (w : World) (K : PySem.W.Frag) (mg : Str → Option Value) (base : Heap) (A : Around) (l : LamT) (q : Str) (n : Nat) (F : Fn) : Prop :=
  ∀ (X : Cx) (EE : XK), X.prog = P → X.w = w → X.K = K → X.mg = mg → X.base = base → X.A = A → Passes CX X EE → ∀ f e : Addr,
    ∀ {pins : List (Addr × Obj)} {σ : L2.St} {H : Hp} {s : Shared} {Q : VK} {us : List Value} {vs : List V}, L2.Inv X pins σ H s → H f = some (CloO ⟨[], [], [], q⟩ l f e) → H e = some (LamX.CodeO e q) → Vals vs us → spC c n F vs H Q EE → wpAny (model X.prog X.w) X.A (call (.ref f) us) (EP X pins σ Q) X.xe s
theorem clo_fnAt {X : Cx} {pins : List (Addr × Obj)} {σ : L2.St} {H : Hp} {s : Shared} {x : CnX} {l : LamT} {f e : Addr} (I : L2.Inv X pins σ H s) (h : H f = some (CloO x l f e)) : PySem.W.FnAt f s.heap := by
  obtain ⟨⟨pm, ctv, of1⟩, _, _⟩ := I.hok f _ h
  exact ⟨_, _, _, _, of1⟩
theorem callw_ok (O : XOk c X) (hX : XS c H0 Ex EE) {x : Str} {i : Nat} {tb : List (Str × Nat × Fn)} {ll : List (LamT × Str × Nat × Fn)} (T : ∀ y m F, tb.lookup y = some (m, F) → ∀ f, X.mg y = some (.ref f) → PySem.W.keepIn X.K (.ref f) = true ∧
      ∀ {pins : List (Addr × Obj)} {σ : L2.St} {H : Hp} {s : Shared} {Q : VK} {us : List Value} {vs : List V}, L2.Inv X pins σ H s → Vals vs us → spC c m F vs H Q EE → wpAny (model X.prog X.w) X.A (call (.ref f) us) (EP X pins σ Q) X.xe s)
    (U : ∀ l q m F, (l, q, m, F) ∈ ll → ∀ f e : Addr, ∀ {pins : List (Addr × Obj)} {σ : L2.St} {H : Hp} {s : Shared} {Q : VK} {us : List Value} {vs : List V}, L2.Inv X pins σ H s → H f = some (CloO ⟨[], [], [], q⟩ l f e) → H e = some (LamX.CodeO e q) → Vals vs us → spC c m F vs H Q EE → wpAny (model X.prog X.w) X.A (call (.ref f) us) (EP X pins σ Q) X.xe s)
    (hN : X.N[i]? = some x) (hv : Vis X.env.scope x) (hd : (x == ("__debug__" : Str)) = false) (hcd : (x == ("__classdict__" : Str)) = false)
    (ha : PA X (e :: es) (trL c H0 Ex cs)) (hst : starEach (e :: es) X.env = (false, eval e X.env) :: starEach es X.env) (hpl : (backTo pos (starEach es X.env)).any (·.1) = false) (fb : PE X (.Call (.Name x p) (e :: es) [] pos) (tr c H0 Ex (.callv i tb cs))) :
    PE X (.Call (.Name x p) (e :: es) [] pos) (tr c H0 Ex (.callw i tb ll cs)) := by
  refine ⟨fun pins s σ H Q I h => ?_⟩
  obtain ⟨Z, ρ, P, r, hev, hk⟩ := h
  rw [ev] at hev
  rcases hev with hev | ⟨l, lq, m, F, hs, hl, hev⟩
  · exact fb.run pins s σ H Q I ⟨Z, ρ, P, r, (by rw [ev]; exact hev), hk⟩
  obtain ⟨v, hsv, q⟩ := r.frz i _ hs
  cases q with
  | @lamc f ee _ _ rf re =>
  have hf0 := Rz.get rfl rf
  have he0 := Rz.get rfl re
  have nf : ¬ full c.ws σ ρ f := fun z => rf.1 (z.elim (fun z => .inl (r.wz _ z)) .inr)
  have ne : ¬ full c.ws σ ρ ee := fun z => re.1 (z.elim (fun z => .inl (r.wz _ z)) .inr)
  refine wpAny_Call_Name_kw (thn ((pe_var (pos := p) hN hv hd hcd).run pins s σ H (fun v H1 => v = .ref f ∧ H1 = H) I ⟨.ref f, hsv, rfl, rfl⟩) fun u s1 ⟨v, H1, I1, r1, q1⟩ => ?_)
  obtain ⟨rfl, rfl⟩ := q1
  cases r1
  refine PySem.W.callWith_F (clo_fnAt I1 hf0) (thn (ha.run pos pins s1 σ H1 (fun vs H2 => (H2 f = some (CloO ⟨[], [], [], lq⟩ l f ee) ∧ H2 ee = some (LamX.CodeO ee lq)) ∧ spC c m F vs H2 Q EE) I1 ?_) fun us s2 ⟨vs, H2, I2, rv, ⟨g1, g2⟩, q⟩ => ⟨clo_fnAt I2 g1, U l lq m F hl f ee I2 g1 g2 rv q⟩) hst hpl
  refine ⟨Z, ρ, _, r, hev, fun ds ρ1 vs H1 hp r1 s1 l1 hl => ?_⟩
  obtain ⟨hm, hp⟩ := hp
  refine ⟨⟨s1.keep _ _ hf0 nf, s1.keep _ _ he0 ne⟩, full Z σ ρ1, ds, _, Ex, l1.len.trans hm, r1.wok, fun a w => .inl (r1.wz a w), full_ob r1, l1, hp, fun d v H' hP k1 k2 wk q => ?_, fun x cls od H' hx k1 k2 wk q => ?_⟩
  · obtain ⟨r2, s2⟩ := after_call r1 k1 k2 wk
    unfold Ret at q
    by_cases hf : F.fr = true
    · rw [if_pos hf] at hP q
      obtain ⟨a, rfl, ha, t⟩ := q
      exact hk _ _ _ _ _ hP r2 (s1.trans s2) (ret_new r1 k1 k2 wk s1.al ha (t.to (Rz.mono fun b z => z.elim (fun z => z.elim (fun z => .inl (.inl z)) .inr) fun z => .inl (.inr z)) rfl))
    · rw [if_neg hf] at hP q
      exact hk _ _ _ _ _ hP r2 (s1.trans s2) q
  · exact hX x cls od H' hx (fun b o e n => k1 b o (r1.ext b o e n) n) (fun b h => k2 b (r1.al b h)) wk (q.back r1.al)
theorem callv_ok (O : XOk c X) (hX : XS c H0 Ex EE) {x : Str} {i : Nat} {tb : List (Str × Nat × Fn)} (T : ∀ y m F, tb.lookup y = some (m, F) → ∀ f, X.mg y = some (.ref f) → PySem.W.keepIn X.K (.ref f) = true ∧
      ∀ {pins : List (Addr × Obj)} {σ : L2.St} {H : Hp} {s : Shared} {Q : VK} {us : List Value} {vs : List V}, L2.Inv X pins σ H s → Vals vs us → spC c m F vs H Q EE → wpAny (model X.prog X.w) X.A (call (.ref f) us) (EP X pins σ Q) X.xe s)
    (hN : X.N[i]? = some x) (hv : Vis X.env.scope x) (hd : (x == ("__debug__" : Str)) = false) (hcd : (x == ("__classdict__" : Str)) = false)
    (ha : PA X (e :: es) (trL c H0 Ex cs)) (hst : starEach (e :: es) X.env = (false, eval e X.env) :: starEach es X.env) (hpl : (backTo pos (starEach es X.env)).any (·.1) = false) :
    PE X (.Call (.Name x p) (e :: es) [] pos) (tr c H0 Ex (.callv i tb cs)) := by
  refine ⟨fun pins s σ H Q I h => ?_⟩
  obtain ⟨Z, ρ, P, r, hev, hk⟩ := h
  rw [ev] at hev
  obtain ⟨y, m, F, hs, hl, hev⟩ := hev
  obtain ⟨v, hsv, q⟩ := r.frz i _ hs
  cases q with
  | fnv hy =>
  rename_i f
  obtain ⟨kf, go⟩ := T y m F hl f (by rw [O.mg]; exact hy)
  refine wpAny_Call_Name_kw (thn ((pe_var (pos := p) hN hv hd hcd).run pins s σ H (fun v H1 => v = .ref f ∧ H1 = H) I ⟨.ref f, hsv, rfl, rfl⟩) fun u s1 ⟨v, H1, I1, r1, q1⟩ => ?_)
  obtain ⟨rfl, rfl⟩ := q1
  cases r1
  refine PySem.W.callWith_K (h₀ := X.base) I.ok.mod.kin kf (thn (ha.run pos pins s1 σ H1 (fun vs H2 => spC c m F vs H2 Q EE) I1 ?_) fun us s2 ⟨vs, H2, I2, rv, q⟩ => ⟨I2.kIn, go I2 rv q⟩) hst hpl
  refine ⟨Z, ρ, _, r, hev, fun ds ρ1 vs H1 hp r1 s1 l1 hl => ?_⟩
  obtain ⟨hm, hp⟩ := hp
  refine ⟨full Z σ ρ1, ds, _, Ex, l1.len.trans hm, r1.wok, fun a w => .inl (r1.wz a w), full_ob r1, l1, hp, fun d v H' hP k1 k2 wk q => ?_, fun x cls od H' hx k1 k2 wk q => ?_⟩
  · obtain ⟨r2, s2⟩ := after_call r1 k1 k2 wk
    unfold Ret at q
    by_cases hf : F.fr = true
    · rw [if_pos hf] at hP q
      obtain ⟨a, rfl, ha, t⟩ := q
      exact hk _ _ _ _ _ hP r2 (s1.trans s2) (ret_new r1 k1 k2 wk s1.al ha (t.to (Rz.mono fun b z => z.elim (fun z => z.elim (fun z => .inl (.inl z)) .inr) fun z => .inl (.inr z)) rfl))
    · rw [if_neg hf] at hP q
      exact hk _ _ _ _ _ hP r2 (s1.trans s2) q
  · exact hX x cls od H' hx (fun b o e n => k1 b o (r1.ext b o e n) n) (fun b h => k2 b (r1.al b h)) wk (q.back r1.al)
theorem call_ok (O : XOk c X) (hX : XS c H0 Ex EE) {x : Str} {F : Fn} {n : Nat} (T : FTc c X EE x n F) (hn : cs.len = n) (hfl : F.fl = false) (hg : Gl X x) (hdb : (x == ("__debug__" : Str)) = false)
    (ha : PA X (e :: es) (trL c H0 Ex cs)) (hst : starEach (e :: es) X.env = (false, eval e X.env) :: starEach es X.env) (hpl : (backTo pos (starEach es X.env)).any (·.1) = false) :
    PE X (.Call (.Name x p) (e :: es) [] pos) (tr c H0 Ex (.call F cs)) := by
  refine PE.imp (T.call hg hdb ha hst hpl) fun σ H Q h => ?_
  obtain ⟨Z, ρ, P, r, hev, hk⟩ := h
  rw [ev, hfl] at hev
  simp only [Bool.false_eq_true, if_false] at hev
  refine ⟨Z, ρ, _, r, hev, fun ds ρ1 vs H1 hp r1 s1 l1 hl => ?_⟩
  show spC c n F (vs ++ []) H1 Q EE
  rw [List.append_nil]
  refine ⟨full Z σ ρ1, ds, _, Ex, hl.trans hn, r1.wok, fun a w => .inl (r1.wz a w), full_ob r1, l1, hp, fun d v H' hP k1 k2 wk q => ?_, fun x cls od H' hx k1 k2 wk q => ?_⟩
  · obtain ⟨r2, s2⟩ := after_call r1 k1 k2 wk
    unfold Ret at q
    by_cases hf : F.fr = true
    · rw [if_pos hf] at hP q
      obtain ⟨a, rfl, ha, t⟩ := q
      exact hk _ _ _ _ _ hP r2 (s1.trans s2) (ret_new r1 k1 k2 wk s1.al ha (t.to (Rz.mono fun b z => z.elim (fun z => z.elim (fun z => .inl (.inl z)) .inr) fun z => .inl (.inr z)) rfl))
    · rw [if_neg hf] at hP q
      exact hk _ _ _ _ _ hP r2 (s1.trans s2) q
  · exact hX x cls od H' hx (fun b o e n => k1 b o (r1.ext b o e n) n) (fun b h => k2 b (r1.al b h)) wk (q.back r1.al)
theorem call_fl (O : XOk c X) (hX : XS c H0 Ex EE) {x : Str} {F : Fn} {n : Nat} (T : FTc c X EE x n F) (hn : cs.len = n) (hfl : F.fl = true) (hg : Gl X x) (hdb : (x == ("__debug__" : Str)) = false)
    (ha : PA X (e :: es) (trA c H0 Ex cs)) (hst : starEach (e :: es) X.env = (false, eval e X.env) :: starEach es X.env) (hpl : (backTo pos (starEach es X.env)).any (·.1) = false) :
    PE X (.Call (.Name x p) (e :: es) [] pos) (tr c H0 Ex (.call F cs)) := by
  refine PE.imp (T.calla hg hdb ha hst hpl) fun σ H Q h => ?_
  obtain ⟨Z, ρ, P, r, hev, hk⟩ := h
  rw [ev, hfl] at hev
  simp only [if_true] at hev
  refine ⟨Z, ρ, _, r, hev, fun ds ρ1 vs H1 hp r1 s1 l1 hl => ?_⟩
  show spC c n F (vs ++ []) H1 Q EE
  rw [List.append_nil]
  obtain ⟨st, hp⟩ := hp
  have hE : ∀ x cls od H', Ex x → (∀ b o, H1 b = some o → ¬ c.ws b → H' b = some o) → (∀ b, H1 b ≠ none → H' b ≠ none) → c.wok H' → RepX c H1 H' x cls od → EE cls od H' := fun x cls od H' hx k1 k2 wk q =>
    hX x cls od H' hx (fun b o e n => k1 b o (r1.ext b o e n) n) (fun b h => k2 b (r1.al b h)) wk (q.back r1.al)
  by_cases ho : owns ds = true
  · refine ⟨c.ws, ds.map (·.1), _, Ex, hl.trans hn, r1.wok, fun a w => w, fun a w => c.wob H1 a r1.wok w, l1.dirty r1 st, hp, fun d v H' hP k1 k2 wk q => ?_, hE⟩
    obtain ⟨r2, s2⟩ := after_call r1 k1 k2 wk
    obtain ⟨sh, hP⟩ := hP
    unfold Ret at q
    by_cases hf : F.fr = true
    · rw [if_pos hf] at hP q
      obtain ⟨a, rfl, ha, t⟩ := q
      refine hk _ _ _ _ _ hP r2 (s1.trans s2) (ret_new r1 k1 k2 wk s1.al ha (t.shal ?_))
      rcases sh with z | z | z
      · cases d <;> first | exact t.elim | cases z
      · exact z.2
      · rw [ho] at z; cases z
    · rw [if_neg hf] at hP q
      refine hk _ _ _ _ _ hP r2 (s1.trans s2) (show Rep c _ _ _ from q.scal ?_)
      rcases sh with z | z | z
      · exact z
      · exact absurd z.1 hf
      · rw [ho] at z; cases z
  · refine ⟨full Z σ ρ1, ds.map (·.1), _, Ex, hl.trans hn, r1.wok, fun a w => .inl (r1.wz a w), full_ob r1, l1.clean (by simpa using ho), hp, fun d v H' hP k1 k2 wk q => ?_, hE⟩
    obtain ⟨r2, s2⟩ := after_call r1 k1 k2 wk
    obtain ⟨_, hP⟩ := hP
    unfold Ret at q
    by_cases hf : F.fr = true
    · rw [if_pos hf] at hP q
      obtain ⟨a, rfl, ha, t⟩ := q
      exact hk _ _ _ _ _ hP r2 (s1.trans s2) (ret_new r1 k1 k2 wk s1.al ha (t.to (Rz.mono fun b z => z.elim (fun z => z.elim (fun z => .inl (.inl z)) .inr) fun z => .inl (.inr z)) rfl))
    · rw [if_neg hf] at hP q
      exact hk _ _ _ _ _ hP r2 (s1.trans s2) q
/-- a built-in -/
def PrOk (c : Cn) (H0 : Hp) (p : Pr) (rr : List V → Hp → VK → Prop) : Prop :=
  ∀ (Z : Addr → Prop) (σ : L2.St) (ρ : Env) (Hs H : Hp) (ds : List D) (vs : List V) (P : D → Kd → Prop) (Q : VK), RE c H0 Z σ H ρ → (∀ b, Hs b ≠ none → H b ≠ none) →
    (∀ (i : Nat) v d, vs[i]? = some v → ds[i]? = some d → VW c Z σ H ρ v d) → vs.length = ds.length → pr p ds P →
    (∀ d k v H', P d k → RE c H0 Z σ H' ρ → Stp c.ws σ ρ H σ ρ H' → VR c H0 Z σ Hs H' ρ v d k → Q v H') → rr vs H Q
theorem VRs.get (r : RE c H0 Z σ H ρ) {vs : List V} {ds : List (D × Kd)} (h : VRs c H0 Z σ Hs H ρ vs ds) (st : stoods ρ ds) : ∀ (i : Nat) v d, vs[i]? = some v → (ds.map (·.1))[i]? = some d → VW c Z σ H ρ v d := by
  induction h with
  | nil => intro i v d e; simp at e
  | @cons v vs d k ds a b _ ih =>
    intro i x y e1 e2
    cases i with
    | zero => simp at e1 e2; subst e1 e2; exact a st.1
    | succ i => exact ih st.2 i x y (by simpa using e1) (by simpa using e2)
theorem VRs.len {vs : List V} {ds : List (D × Kd)} (h : VRs c H0 Z σ Hs H ρ vs ds) : vs.length = ds.length := by
  induction h with
  | nil => rfl
  | cons _ _ _ ih => simp [ih]
theorem PrOk.use {q : Pr} {rr : List V → Hp → VK → Prop} (h : PrOk c H0 q rr) : ∀ σ H Q, tr c H0 Ex (.prim q cs) σ H Q → tCB rr (trA c H0 Ex cs) σ H Q := by
  rintro σ H Q ⟨Z, ρ, P, r, hev, hk⟩
  rw [ev] at hev
  refine ⟨Z, ρ, _, r, hev, fun ds ρ1 vs H1 hp r1 s1 l1 hl => ?_⟩
  obtain ⟨st, hp⟩ := hp
  exact h Z σ ρ1 H H1 _ vs _ Q r1 s1.al (l1.get r1 st) (by rw [l1.len, List.length_map]) hp fun d k v H' hP r2 s2 v2 => hk _ _ _ _ _ hP r2 (s1.trans s2) v2
theorem p_blt {x : Str} {id : String} {q : Pr} {rr : List V → Hp → VK → Prop} (hc : CallR X (.builtin id) rr) (ok : PrOk c H0 q rr) (hg : Gl X x) (hm : X.mg x = none) (hv : bootBuiltins x = some (.builtin id)) (ha : PA X (e :: es) (trA c H0 Ex cs))
    (hn : x ≠ "__name__") (hd : (x == ("__debug__" : Str)) = false) (hst : starEach (e :: es) X.env = (false, eval e X.env) :: starEach es X.env) (hpl : (backTo pos (starEach es X.env)).any (·.1) = false) :
    PE X (.Call (.Name x p) (e :: es) [] pos) (tr c H0 Ex (.prim q cs)) := PE.imp (pe_callB hc hg hm hv ha hn hd hst hpl) ok.use
theorem p_ty {x : Str} {T : String} {q : Pr} {rr : List V → Hp → VK → Prop} (hc : CallR X (.type T) rr) (ok : PrOk c H0 q rr) (hg : Gl X x) (hm : X.mg x = none) (hv : bootBuiltins x = some (.type T)) (ha : PA X (e :: es) (trA c H0 Ex cs))
    (hn : x ≠ "__name__") (hd : (x == ("__debug__" : Str)) = false) (hst : starEach (e :: es) X.env = (false, eval e X.env) :: starEach es X.env) (hpl : (backTo pos (starEach es X.env)).any (·.1) = false) :
    PE X (.Call (.Name x p) (e :: es) [] pos) (tr c H0 Ex (.prim q cs)) := PE.imp (pe_callTy hc hg hm hv ha hn hd hst hpl) ok.use
end
end Z
end T_Z5
section T_Z6
namespace Z
open PySem L2
open PyProof.Rows (IntsAre)
section
variable {X : Cx}
theorem CallR.or {f : Value} {r r' : List V → Hp → VK → Prop} (h : CallR X f r) (h' : CallR X f r') : CallR X f (fun xs H Q => r xs H Q ∨ r' xs H Q) := fun pins s σ H xs us Q I rs q => q.elim (h pins s σ H xs us Q I rs) (h' pins s σ H xs us Q I rs)
theorem call_lenD' : CallR X (.builtin "len") (fun xs H Q => ∃ a kvs, xs = [.ref a] ∧ Rd H a (.dK kvs) ∧ Q (.int kvs.length) H) := by
  intro pins s σ H xs us Q I r ⟨a, kvs, e, hd, q⟩
  subst e
  obtain ⟨u, rfl, rx⟩ := vals1 r
  obtain rfl : u = Value.ref a := rx
  exact d_len I hd fun t s' I' => ⟨.int _, H, I', ⟨t, rfl⟩, q⟩
theorem call_listD (hc : X.calm = true) : CallR X (.type "list") (fun xs H Q => ∃ p kvs, xs = [.ref p] ∧ Rd H p (.dK kvs) ∧ ∀ q, H q = none → Q (.ref q) (upd H q (.lst (kvs.map fun kv => kV kv.1)))) := by
  intro pins s σ H xs us Q I r h
  obtain ⟨p, kvs, e, hk, q⟩ := h
  subst e
  obtain ⟨u, eu, rx⟩ := vals1 r
  subst eu
  obtain rfl : u = Value.ref p := rx
  obtain ⟨z, lo, vs, rk, hd⟩ := dk_rd I.hok hk
  obtain ⟨ep, hat⟩ := hd.dictAt
  have hl : kvs.length = vs.length := Paired.length rk
  refine PySem.W.kdl_call (PySem.W.kdl_dict (knd := mixKind X.prog X.w) (kvs := vs) (ep := ep) lo) (I.ok.hd hc) hat (by rw [← hl]; exact z) fun h' tk acc' c' hkeep hS hacc => ?_
  refine ⟨.ref s.heap.objs.size, upd H s.heap.objs.size (.lst (kvs.map fun kv => kV kv.1)), I.laid hkeep (Nat.le_refl _) (show ObjOk X.prog X.w _ _ _ (.lst (kvs.map fun kv => kV kv.1)) from ⟨?_, acc'.toList, c', ?_, ?_⟩), rfl, q _ (I.hok.fresh (Nat.le_refl _))⟩
  · rw [List.length_map]; exact z
  · have el : acc'.toList.length = acc'.size := by simp
    refine vals_of_at (by rw [List.length_map, el, hacc.1, hl]) fun j x w h1 h2 => ?_
    obtain ⟨k, y, hky, hi⟩ := hacc.2 j w (by rw [← Array.getElem?_toList]; exact h2)
    have e1 : (kvs.map (·.1))[j]? = some k := by
      rw [KV.keys rk, List.getElem?_map, hky] <;> rfl
    have e2 : (kvs.map fun kv => kV kv.1)[j]? = some (kV k) := by
      have e3 : (kvs.map fun kv => kV kv.1) = (kvs.map (·.1)).map kV := by rw [List.map_map] <;> rfl
      rw [e3, List.getElem?_map, e1] <;> rfl
    rw [e2] at h1
    cases h1
    exact keyIs_rel hi
  · rw [Array.toArray_toList]; exact hS
theorem ints_at : ∀ {us : List Value} {ks : List Int}, us.length = ks.length → (∀ (j : Nat) (v : Value), us[j]? = some v → ∃ (x : Int) (t : Tok), ks[j]? = some x ∧ v = Value.int x t) → IntsAre us ks
  | [], [], _, _ => .nil
  | u :: us, k :: ks, hl, h => by
    obtain ⟨x, t, e1, e2⟩ := h 0 u rfl
    have e1' : k = x := Option.some.inj e1
    subst e1'
    subst e2
    refine .cons _ _ (ints_at (by simpa using hl) fun j v e => ?_)
    obtain ⟨x, t, a, b⟩ := h (j + 1) v (by simpa using e)
    exact ⟨x, t, by simpa using a, b⟩
  | [], _ :: _, hl, _ => by simp at hl
  | _ :: _, [], hl, _ => by simp at hl
/-- sorted(d), a dict whose keys are ints -/
theorem call_sortedK (hcalm : X.calm = true) : CallR X (.builtin "sorted") (fun xs H Q => ∃ (a : Addr) (kvs : List (Key × V)) (ks : List Int), xs = [.ref a] ∧ Rd H a (.dK kvs) ∧ kvs.map (·.1) = ks.map Sum.inl ∧
    ∀ (ys : List Int) p, ys.Perm ks → ys.Pairwise (· ≤ ·) → H p = none → Q (.ref p) (upd H p (.lst (ys.map V.int)))) := by
  intro pins s σ H xs us Q I r q
  obtain ⟨a, kvs, ks, ex, hd, hks, q⟩ := q
  subst ex
  obtain ⟨u, eu, rx⟩ := vals1 r
  subst eu
  cases rx
  obtain ⟨z, lo, vs, rel, dd⟩ := dk_rd I.hok hd
  obtain ⟨ep, hat⟩ := dd.dictAt
  have hkeys : vs.map (·.1) = ks.map Sum.inl := rel.keys.symm.trans hks
  have hl : vs.length = ks.length := by
    have e := congrArg List.length hkeys
    rw [List.length_map, List.length_map] at e
    exact e
  have h16 : vs.length ≤ sizeLine := by rw [← rel.length]; exact z
  refine Calls.call_function_entry PyProof.Rows.kind_sorted PyProof.Rows.plain_sorted PyProof.Rows.entry_sorted (PyProof.Rows.args_sorted1 _) ?_
  unfold Builtin.«sorted»
  refine wpAny_bind (m := checkCount "sorted" 1 1 _) (wpAny_pure ?_)
  refine wpAny_bind (PySem.W.kdu_collect (A := X.A.in1) (PySem.W.kdl_dict (knd := mixKind X.prog X.w) (kvs := vs) (ep := ep) lo) (I.ok.hd hcalm) hat h16 fun h' tk acc hk hacc => ?_)
  have hal : acc.toList.length = ks.length := by rw [Array.length_toList, hacc.1, hl]
  have hS : IntsAre acc.toList ks := ints_at hal fun j v e => by
    obtain ⟨k, x, e1, e2⟩ := hacc.2 j v (by rw [← Array.getElem?_toList]; exact e)
    have e3 : (vs.map (·.1))[j]? = some k := by rw [List.getElem?_map, e1]; all_goals rfl
    rw [hkeys, List.getElem?_map] at e3
    cases e4 : ks[j]? with
    | none => rw [e4] at e3; cases e3
    | some y =>
      rw [e4] at e3
      have e5 : Sum.inl y = k := Option.some.inj e3
      subst e5
      obtain ⟨t, ev⟩ := Value.isInt_shape (k := y) (v := v) e2
      exact ⟨y, t, rfl, ev⟩
  have I1 : Inv X pins σ H { s with heap := h', toks := tk } := I.kept hk
  have hz : acc.toList.length ≤ sizeLine := by rw [hal, ← hl]; exact h16
  refine wpAny_bind (wpAny_newList ?_ hz)
  have hoL : (h'.push (PyProof.Rows.seqObj "list" acc.toList.toArray 0)).get? h'.objs.size = some (PyProof.Rows.seqObj "list" acc.toList.toArray 0) := Heap.get?_push_size _ rfl
  show wpAny _ _ _ _ _ { s with heap := h'.push (PyProof.Rows.seqObj "list" acc.toList.toArray 0), toks := tk }
  refine wpAny_bind (wpAny_holding (wpAny_call_entry PyProof.Rows.slot_list_sort ⟨_, hoL, rfl⟩ PyProof.Rows.entry_list_sort
    (SrtO.list_sort_ord SrtO.swo_int (s := { s with heap := h'.push (PyProof.Rows.seqObj "list" acc.toList.toArray 0), toks := tk }) hoL hz (fun h2 => SrtO.ints_sortable hS h2) fun out hs hb => ⟨_, rfl, ?_⟩)
    (PyProof.Rows.args_list_sort _)))
  obtain ⟨k1, k2, k3⟩ := SrtO.ints_out hS hs hb
  obtain ⟨e', he'⟩ := PyProof.Rows.sortedHeap_at (vs := acc.toList) (out := out.toArray) hoL
  have hlen : ((out.map SrtO.iv).map V.int).length ≤ sizeLine := by
    rw [List.length_map, k2.length_eq, ← hl]
    exact h16
  refine wpAny_pure ⟨_, rfl, .ref h'.objs.size, upd H h'.objs.size (.lst ((out.map SrtO.iv).map V.int)), I1.laid (t' := tk) (fun b u e => ?_) (Nat.le_refl _)
    (show ObjOk X.prog X.w _ _ _ (.lst ((out.map SrtO.iv).map V.int)) from ⟨hlen, out, e', vals_of_ints k1, he'⟩), rfl, q _ _ k2 k3 (I1.hok.fresh (Nat.le_refl _))⟩
  have hb : b ≠ h'.objs.size := Nat.ne_of_lt (Heap.lt_size e)
  rw [PyProof.Rows.sortedHeap_old hb (Heap.lt_size (Heap.get?_push_of_some _ e))]
  exact Heap.get?_push_of_some _ e
/-- min(d), a dict whose keys are ints -/
theorem call_minK (hcalm : X.calm = true) : CallR X (.builtin "min") (fun xs H Q => ∃ (a : Addr) (kvs : List (Key × V)) (ks : List Int), xs = [.ref a] ∧ Rd H a (.dK kvs) ∧ kvs.map (·.1) = ks.map Sum.inl ∧ 0 < ks.length ∧
    ∀ m, m ∈ ks → (∀ y ∈ ks, m ≤ y) → Q (.int m) H) := by
  intro pins s σ H xs us Q I r q
  obtain ⟨a, kvs, ks, ex, hd, hks, hne, q⟩ := q
  subst ex
  obtain ⟨u, eu, rx⟩ := vals1 r
  subst eu
  cases rx
  obtain ⟨z, lo, vs, rel, dd⟩ := dk_rd I.hok hd
  obtain ⟨ep, hat⟩ := dd.dictAt
  have hkeys : vs.map (·.1) = ks.map Sum.inl := rel.keys.symm.trans hks
  have hl : vs.length = ks.length := by
    have e := congrArg List.length hkeys
    rw [List.length_map, List.length_map] at e
    exact e
  have K := PySem.W.kdl_dict (prog := X.prog) (w := X.w) (knd := mixKind X.prog X.w) (kvs := vs) (ep := ep) (d := a) lo
  obtain ⟨oI, St, hit, W, st⟩ := K.iter X.A.in1.in1 s (I.ok.hd hcalm) hat
  obtain ⟨oI, St, hit, W, st⟩ := K.iter X.A.in1 s (I.ok.hd hcalm) hat
  have hla := (K.there _ hat).2
  refine call_min_walk (hit _ _ ⟨s.heap.objs.size, _, _, _, _, St, _, rfl, W, st, fun b hb => ?_, by rw [hl]; exact hne, CmpOf.ints_lt (fun i => ks.getD i 0) (fun i v h => ?_), fun v h' tk hP hk => ?_⟩)
  · show b < (s.heap.push oI).objs.size
    have e : (s.heap.push oI).objs.size = s.heap.objs.size + 1 := by simp [Heap.push]
    rw [e]
    rcases List.mem_cons.mp hb with e | hb
    · rw [e]; exact Nat.lt_succ_self _
    · rw [List.mem_singleton.mp hb]; exact Nat.lt_succ_of_lt hla
  · obtain ⟨k, x, e1, e2⟩ := h
    have e3 : (vs.map (·.1))[i]? = some k := by rw [List.getElem?_map, e1]; all_goals rfl
    rw [hkeys, List.getElem?_map] at e3
    cases e4 : ks[i]? with
    | none => rw [e4] at e3; cases e3
    | some y =>
      rw [e4] at e3
      have e5 : Sum.inl y = k := Option.some.inj e3
      subst e5
      obtain ⟨t, ev⟩ := Value.isInt_shape (k := y) (v := v) e2
      exact ⟨t, by rw [ev, List.getD_eq_getElem?_getD, e4]; rfl⟩
  · obtain ⟨h1, h2⟩ := argBest_lt (fun i => ks.getD i 0) (vs.length - 1)
    obtain ⟨k, x, e1, e2⟩ := hP
    generalize argBest (fun i j => decide (ks.getD i 0 < ks.getD j 0)) (vs.length - 1) = i at h1 h2 e1
    have e3 : (vs.map (·.1))[i]? = some k := by rw [List.getElem?_map, e1]; all_goals rfl
    rw [hkeys, List.getElem?_map] at e3
    cases e4 : ks[i]? with
    | none => rw [e4] at e3; cases e3
    | some y =>
      rw [e4] at e3
      have e5 : Sum.inl y = k := Option.some.inj e3
      subst e5
      obtain ⟨t, ev⟩ := Value.isInt_shape (k := y) (v := v) e2
      subst ev
      have I1 : Inv X pins σ H { s with heap := h', toks := tk } := I.kept fun b o e => hk b o (fun z => by rw [List.mem_singleton] at z; exact Nat.lt_irrefl _ (z ▸ Heap.lt_size e)) (Heap.get?_push_of_some _ e)
      refine ⟨.int y, H, I1, ⟨t, rfl⟩, q y (List.mem_of_getElem? e4) fun w hw => ?_⟩
      obtain ⟨j, hj⟩ := List.getElem?_of_mem hw
      have hjl : j < ks.length := (List.getElem?_eq_some_iff.mp hj).1
      have h3 := h2 j (by omega)
      simp only [List.getD_eq_getElem?_getD, e4, hj, Option.getD_some] at h3
      exact h3
end
end Z
end T_Z6
section T_Y1
namespace Z
open PySem PySem.Spec L2
open PySem.MeetsSeq PySem.MeetsSeq2 PySem.MeetsSeq3
open PySem.AutoSeq1 (wpAny_loadPart')
theorem meets_enum1 {v : Value} {o : Obj} {H : Heap → Prop} (B : Begins v o H) :
    Meets (Builtin.«enumerate.__new__» ⟨[.type "enumerate", v], []⟩) (fun _ R s => H s.heap ∧
      R (.ok (.ret (.ref (s.heap.push o).objs.size))) { s with heap := (s.heap.push o).push { cls := .type "enumerate", data := .fields #[.none, .bool false, .ref s.heap.objs.size, rawInt 0, .none, .none] } }) :=
  .of_wp fun prog w A R s h => by
    obtain ⟨hp, g, d, tk, os⟩ := s; obtain ⟨h1, h⟩ := h
    have hsub := sub_enumerate
    have q1 : ∀ {A' : Around} {E : Value → Shared → Prop} {Q : Value → Shared → Prop}, Q (.ref hp.objs.size) ⟨hp.push o, g, d, tk, os⟩ → wpAny (model prog w) A' (pyIter v) Q E ⟨hp, g, d, tk, os⟩ :=
      fun q => B.iter prog w _ _ ⟨hp, g, d, tk, os⟩ _ h1 q
    wp_walk using q1
    refine wpAny_stack_any fun st => wpAny_pure ?_
    split
    · rename_i c _ _ _ _ _
      cases (c == Value.type "enumerate")
      · wp_walk using q1
        exact ⟨_, rfl, h⟩
      · wp_walk using q1
        exact ⟨_, rfl, h⟩
    · wp_walk using q1
      exact ⟨_, rfl, h⟩
section
variable {prog : Program} {w : World} {A : Around} {E : Value → Shared → Prop} {s : Shared}
theorem enum_begins1 {v : Value} {o : Obj} {H : Heap → Prop} {Q : Value → Shared → Prop} (B : Begins v o H) (h1 : H s.heap)
    (h : ∀ h', IsEnum h' (s.heap.objs.size + 1) s.heap.objs.size 0 .none → h'.get? s.heap.objs.size = some o → h'.objs.size = s.heap.objs.size + 2 →
      (∀ b o, s.heap.get? b = some o → h'.get? b = some o) → Q (.ref (s.heap.objs.size + 1)) { s with heap := h' }) :
    wpAny (model prog w) A (call (.type "enumerate") [v]) Q E s := by
  refine callType_new F.called_enumerate (by decide) (F.typeCall_enumerate_1 _) (F.newCall_enumerate_1 _) (fun obj => F.args_object_init_2 obj _) F.entry_enumerate_new
    (meets_enum1 B) ⟨h1, ?_⟩
  have hz : (s.heap.push o).objs.size = s.heap.objs.size + 1 := Heap.size_push ..
  show _ ∧ _
  rw [hz]
  have he : IsEnum ((s.heap.push o).push { cls := .type "enumerate", data := .fields #[.none, .bool false, .ref s.heap.objs.size, rawInt 0, .none, .none] }) (s.heap.objs.size + 1) s.heap.objs.size 0 .none := by
    have := Heap.get?_push_size (s.heap.push o) (o := { cls := .type "enumerate", data := .fields #[.none, .bool false, .ref s.heap.objs.size, rawInt 0, .none, .none] }) rfl
    rw [hz] at this; exact this
  refine ⟨⟨_, he, rfl⟩, h _ he (Heap.get?_push_of_some _ (Heap.get?_push_size _ B.free)) (by rw [Heap.size_push, hz]) fun b o x => Heap.get?_push_of_some _ (Heap.get?_push_of_some _ x)⟩
end
/-- the tuple at a as it stands at each turn, each item with its place in a new pair -/
def IteT (K : PySem.W.Frag) (a : Addr) : It :=
  ⟨fun i H => ∃ (xs : List V) (x : V), SqT K H a xs ∧ xs[i]? = some x, fun i H v H' => ∃ T x, v = .ref T ∧ H T = none ∧ H' = upd H T (.tup [.int (i : Nat), x]) ∧ ∀ xs, SqT K H a xs → xs[i]? = some x, fun i H => ∃ xs : List V, SqT K H a xs ∧ xs.length = i⟩
theorem turn_enumT {P : Program} {w : World} {K : PySem.W.Frag} {elts : List Expr} {kk : Nat} {tpos : Pos} (a e it : Addr) (hne : a ≠ it) (hae : a ≠ e) :
    Turn P w K (.Tuple elts kk tpos) (IteT K a) [e, it] e (fun i h => (∃ old, IsEnum h e it ((i : Nat) : Int) old) ∧ h.IsTupleIter it a i ∧ e ≠ it) where
  mem := by simp
  obj := fun i h st b hb => by
    obtain ⟨⟨old, he⟩, ⟨o, ho, hc, hd⟩, _⟩ := st
    have e' : b = e ∨ b = it := by simpa using hb
    rcases e' with z | z
    · rw [z]; exact ⟨_, he, fun v q => nomatch q⟩
    · rw [z]; exact ⟨o, ho, fun v q => by rw [hd] at q; cases q⟩
  keep := fun i h h' st k => let ⟨⟨old, he⟩, hi, hne⟩ := st; ⟨⟨old, k e (by simp) _ he⟩, hi.at fun o q => k it (by simp) o q, hne⟩
  item := by
    intro X hP hw hK hc i pins s σ H E I hf st hg
    subst hP hw hK
    obtain ⟨⟨old, he⟩, hit, hne2⟩ := st
    obtain ⟨xs, x, hq, hx⟩ := hg
    obtain ⟨its, rv, p, hz⟩ := I.tuple hq
    obtain ⟨u, hu, ru⟩ := rv.get hx
    have hel : e < s.heap.objs.size := Heap.lt_size he
    have hil : it < s.heap.objs.size := by obtain ⟨_, q, _⟩ := hit; exact Heap.lt_size q
    have hTup : s.heap.IsTuple a its.toArray := p
    have hil2 : i < its.toArray.size := by
      have := (List.getElem?_eq_some_iff.mp hu).1
      simpa using this
    refine wpAny_pyNext_enum_itemD (Draws.tuple (A := X.A.in1) (I.ok.hd hc) it a hne its.toArray) he ⟨hit, hTup⟩ hil2 hne2 (by simp [hne2, Ne.symm hae]) fun x' h' tk hx' ho hit' hT hsz hk => ?_
    have hxu : x' = u := by
      have : its.toArray[i]? = some x' := hx'
      rw [show its.toArray[i]? = some u by simpa using hu] at this
      exact (Option.some.inj this).symm
    subst hxu
    refine ⟨_, rfl, wpAny_letOwnedTupleGo_enum (s := { s with heap := h', toks := tk + 1 }) ho fun h'' he' sb => ?_⟩
    have hT2 : h''.get? s.heap.objs.size = some { cls := .type "tuple", data := .seq #[.int i tk, x'] } := (sb.2 _ (Nat.ne_of_gt hel)).trans hT
    have new : ObjOk X.prog X.w (upd H s.heap.objs.size (.tup [.int (i : Nat), x])) h'' s.heap.objs.size (.tup [.int (i : Nat), x]) :=
      ⟨by show 2 ≤ sizeLine; decide, [.int i tk, x'], .cons ⟨_, rfl⟩ (.cons ru .nil), ⟨_, hT2, rfl, _, rfl⟩⟩
    have I1 : Inv X pins σ (upd H s.heap.objs.size (.tup [.int (i : Nat), x])) { s with heap := h'', toks := tk + 1 } :=
      I.turnedNew (ch := [e, it]) (fun b ob hb q => (sb.2 b (fun z => hb (by simp [z]))).trans (hk b ob (fun z => hb (by simp [z])) (fun z => hb (by simp [z])) q)) hf (Nat.le_refl _) new
    refine ⟨.ref s.heap.objs.size, _, I1, rfl, ⟨_, x, rfl, I.hok.fresh (Nat.le_refl _), rfl, fun ys hy => by rw [I.tuple_inj hy hq]; exact hx⟩, ⟨⟨x', ?_⟩, hit'.1.at fun o q => (sb.2 it (Ne.symm hne2)).trans q, hne2⟩, fun b hb => ?_⟩
    · have e1 : ((i + 1 : Nat) : Int) = (i : Int) + 1 := by omega
      rw [e1]; exact he'
    · have hb' : b < s.heap.objs.size := by
        have e' : b = e ∨ b = it := by simpa using hb
        rcases e' with z | z
        · rw [z]; exact hel
        · rw [z]; exact hil
      rw [upd_ne (Nat.ne_of_lt hb')]
      exact (hf b hb).1
  done := by
    intro X hP hw hK hc i pins s σ H E I hf st hg
    subst hP hw hK
    obtain ⟨⟨old, he⟩, hit, hne2⟩ := st
    obtain ⟨xs, hq, hx⟩ := hg
    obtain ⟨its, rv, p, hz⟩ := I.tuple hq
    obtain ⟨f0, f1, f2, f3, f4, f5⟩ := hf it (by simp)
    have hl := rv.length
    have hTup : s.heap.IsTuple a its.toArray := p
    have hi : i = its.toArray.size := by simp; omega
    rw [hi] at hit he
    exact wpAny_pyNext_enum_endD (Draws.tuple (A := X.A.in1) (I.ok.hd hc) it a hne its.toArray) he ⟨hit, hTup⟩ fun h' eb => ⟨rfl, I.turned (t' := s.toks) (fun b o hb q => eb b o hb q) f0 f1 f3 f4 f5⟩
  self := fun A i s Q E st h => let ⟨⟨_, he⟩, _⟩ := st; wpAny_pyIter_enum he h
/-- enumerate(e), e a list or a tuple -/
def iEnumA (K : PySem.W.Frag) (ta : TA) : TI := fun σ H R => ta σ H fun vs H1 => ∃ a xs, vs = [.ref a] ∧ ((SqL K H1 a xs ∧ R (Ite K a) H1) ∨ (SqT K H1 a xs ∧ R (IteT K a) H1))
theorem pi_enumA {X : Cx} {e : Expr} {ta : TA} {p pos tpos : Pos} {elts : List Expr} {kk : Nat} (hg : Gl X "enumerate") (hm : X.mg "enumerate" = none) (ha : PA X [e] ta) (hs : starEach [e] X.env = [(false, eval e X.env)]) :
    PI X (.Tuple elts kk tpos) (.Call (.Name "enumerate" p) [e] [] pos) (iEnumA X.K ta) := by
  refine ⟨fun pins s σ H R I h => ?_⟩
  refine PyProof.Rows.Call_ (ld_blt I hg hm PyProof.Rows.boot_enumerate (PyProof.Rows.callWith_type1 (thn (ha.run pos pins s σ H _ I h) fun us s1 ⟨vs, H1, I1, r1, q1⟩ => ?_) hs rfl))
  obtain ⟨a, xs, ex, q1⟩ := q1
  subst ex
  cases r1 with
  | cons r rr =>
    cases rr
    cases r
    have fin : ∀ {J : It} {tn : Nat → Heap → Prop} {h' : Heap}, (∀ b o, s1.heap.get? b = some o → h'.get? b = some o) → Turn X.prog X.w X.K (.Tuple elts kk tpos) J [s1.heap.objs.size + 1, s1.heap.objs.size] (s1.heap.objs.size + 1) tn → tn 0 h' → R J H1 →
        PIE X pins σ (.Tuple elts kk tpos) R (.ref (s1.heap.objs.size + 1)) { s1 with heap := h' } := fun {J tn h'} hk T t0 q => by
      have I2 : Inv X pins σ H1 { s1 with heap := h' } := I1.kept (t' := s1.toks) hk
      refine ⟨s1.heap.objs.size + 1, [s1.heap.objs.size + 1, s1.heap.objs.size], tn, J, H1, rfl, I2, T, t0, fun b hb => ?_, q⟩
      have e' : b = s1.heap.objs.size + 1 ∨ b = s1.heap.objs.size := by simpa using hb
      have hle : s1.heap.objs.size ≤ b := by
        rcases e' with z | z
        · rw [z]; exact Nat.le_add_right _ _
        · rw [z]; exact Nat.le_refl _
      exact I1.fpOk hle (I1.hok.fresh hle)
    rcases q1 with ⟨hq, q⟩ | ⟨hq, q⟩
    · obtain ⟨its, rv, p', hz⟩ := I1.list hq
      exact call_enumerate_list p'.isList fun h' he hit hsz hk => wpAny_pyIter_enum he (fin hk (turn_enum a _ _) ⟨⟨.none, he⟩, hit, Nat.succ_ne_self _⟩ q)
    · obtain ⟨its, rv, p', hz⟩ := I1.tuple hq
      have hla : a < s1.heap.objs.size := p'.lt
      have hTup : s1.heap.IsTuple a its.toArray := p'
      exact enum_begins1 (begins_tuple a its.toArray) hTup fun h' he hit hsz hk => wpAny_pyIter_enum he (fin hk (turn_enumT a _ _ (Nat.ne_of_lt hla) (Nat.ne_of_lt (Nat.lt_succ_of_lt hla))) ⟨⟨.none, he⟩, ⟨_, hit, rfl, rfl⟩, Nat.succ_ne_self _⟩ q)
/-- a list or a tuple walked -/
def iSeqA (K : PySem.W.Frag) (tl : TE) : TI := fun σ H R => tl σ H fun x H1 => ∃ a xs, x = .ref a ∧ ((SqL K H1 a xs ∧ R (Itl K a) H1) ∨ (SqT K H1 a xs ∧ R (Itt K a) H1) ∨ ∃ lo hi, H1 a = some (.rng lo hi) ∧ (-(2 ^ 62) ≤ lo ∧ lo < 2 ^ 62 ∧ -(2 ^ 62) ≤ hi ∧ hi < 2 ^ 62) ∧ R (Itr lo (hi - lo).toNat) H1)
theorem pi_seqA {X : Cx} {tg l : Expr} {tl : TE} (hl : PE X l tl) : PI X tg l (iSeqA X.K tl) := by
  refine ⟨fun pins s σ H R I h => ?_⟩
  refine thn (hl.run pins s σ H _ I h) fun v s1 ⟨x, H1, I1, r1, q1⟩ => ?_
  obtain ⟨a, xs, e, q1⟩ := q1
  subst e
  cases r1
  rcases q1 with ⟨hq, q⟩ | ⟨hq, q⟩ | ⟨lo, hi, hq, hb, q⟩
  · obtain ⟨its, rv, p, hz⟩ := I1.list hq
    refine wpAny_pyIter_list p.isList ?_
    refine ⟨s1.heap.objs.size, [s1.heap.objs.size], _, _, H1, rfl, I1.kept (t' := s1.toks) fun b o e => Heap.get?_push_of_some _ e, turn_list a _, ⟨_, Heap.get?_push_size _ rfl, rfl, rfl⟩, fun b hb => ?_, q⟩
    have e : b = s1.heap.objs.size := by simpa using hb
    subst e
    exact I1.fpOk (Nat.le_refl _) (I1.hok.fresh (Nat.le_refl _))
  · obtain ⟨its, rv, p, hz⟩ := I1.tuple hq
    refine wpAny_pyIter_tuple (show s1.heap.IsTuple a its.toArray from p) ?_
    refine ⟨s1.heap.objs.size, [s1.heap.objs.size], _, _, H1, rfl, I1.kept (t' := s1.toks) fun b o e => Heap.get?_push_of_some _ e, turn_tuple a _, ⟨_, Heap.get?_push_size _ rfl, rfl, rfl⟩, fun b hb => ?_, q⟩
    have e : b = s1.heap.objs.size := by simpa using hb
    subst e
    exact I1.fpOk (Nat.le_refl _) (I1.hok.fresh (Nat.le_refl _))
  · obtain ⟨t1, t2, t3, ho⟩ := I1.hok a _ hq
    refine wpAny_pyIter_range ho (small_one hb.1 hb.2.1 hb.2.2.1 hb.2.2.2) ?_
    refine ⟨_, [s1.heap.objs.size], _, _, H1, rfl, I1.kept (t' := s1.toks) fun b o e => Heap.get?_push_of_some _ e, turn_range _ lo (hi - lo).toNat, ?_, fun b hb => ?_, q⟩
    · have n1 : lo + ((0 : Nat) : Int) * 1 = lo := by omega
      have n2 : (((hi - lo).toNat : Nat) : Int) - ((0 : Nat) : Int) = Builtin.Range.rangeSize lo hi 1 := by
        rw [rangeSize_one]
        split <;> omega
      show IsRangeIter _ _ _ _ 1
      rw [n1, n2]
      exact Heap.get?_push_size _ rfl
    · have e : b = s1.heap.objs.size := by simpa using hb
      subst e
      exact I1.fpOk (Nat.le_refl _) (I1.hok.fresh (Nat.le_refl _))
/-- range(n) as a value -/
def rRange1 : List V → Hp → VK → Prop := fun vs H Q => ∃ j : Int, vs = [V.int j] ∧ ∀ r : Addr, H r = none → Q (.ref r) (upd H r (.rng 0 j))
theorem call_range1 {X : Cx} : CallR X (.type "range") rRange1 := by
  intro pins s σ H vs us Q I rv h
  obtain ⟨j, rfl, q⟩ := h
  cases rv with
  | cons a b =>
    cases b
    obtain ⟨t, rfl⟩ := a
    exact call_range_1 ⟨.ref s.heap.objs.size, upd H s.heap.objs.size (.rng 0 j), I.laid (t' := s.toks + 2) (fun _ _ z => Heap.get?_push_of_some _ z) (Nat.le_refl _) ⟨_, _, _, Heap.get?_push_size _ rfl⟩, rfl, q _ (I.hok.fresh (Nat.le_refl _))⟩
/-- range(n), range(l, n) as a value -/
def rRange2 : List V → Hp → VK → Prop := fun vs H Q => rRange1 vs H Q ∨ ∃ l j : Int, vs = [V.int l, V.int j] ∧ ∀ r : Addr, H r = none → Q (.ref r) (upd H r (.rng l j))
theorem call_range2 {X : Cx} : CallR X (.type "range") rRange2 := by
  intro pins s σ H vs us Q I rv h
  rcases h with h | ⟨l, j, rfl, q⟩
  · exact call_range1 pins s σ H vs us Q I rv h
  cases rv with
  | cons a b =>
    cases b with
    | cons a2 b =>
    cases b
    obtain ⟨t, rfl⟩ := a
    obtain ⟨t2, rfl⟩ := a2
    exact call_range_2 ⟨.ref s.heap.objs.size, upd H s.heap.objs.size (.rng l j), I.laid (t' := s.toks + 1) (fun _ _ z => Heap.get?_push_of_some _ z) (Nat.le_refl _) ⟨_, _, _, Heap.get?_push_size _ rfl⟩, rfl, q _ (I.hok.fresh (Nat.le_refl _))⟩
/-- list(r) of a range object -/
def rListR : List V → Hp → VK → Prop := fun vs H Q => ∃ (a : Addr) (lo hi : Int), vs = [V.ref a] ∧ H a = some (.rng lo hi) ∧ RgOk lo hi ∧ ∀ q, H q = none → Q (.ref q) (upd H q (.lst (rgV lo hi)))
theorem call_listR {X : Cx} (hc : X.calm = true) : CallR X (.type "list") rListR := by
  intro pins s σ H vs us Q I rv h
  obtain ⟨a, lo, hi, rfl, ha, ok, q⟩ := h
  cases rv with
  | cons r rr =>
    cases rr
    cases r
    obtain ⟨t1, t2, t3, ho⟩ := I.hok a _ ha
    obtain ⟨b1, b2, b3, b4, b5⟩ := ok
    refine call_list_range (n := (hi - lo).toNat) (I.ok.hd hc) ho (small_one b1 b2 b3 b4) (PyProof.Rows.rangeSize_nat lo hi) b5 fun h' tk acc c' hk e' hi' => ?_
    have len : (rgV lo hi).length ≤ sizeLine := by rw [rgV_length, sizeLine_eq]; omega
    exact ⟨.ref s.heap.objs.size, _, I.laid hk (Nat.le_refl _) (show ObjOk X.prog X.w _ _ _ (.lst (rgV lo hi)) from ⟨len, acc.toList, c', vals_rg hi', by rw [Array.toArray_toList]; exact e'⟩), rfl, q _ (I.hok.fresh (Nat.le_refl _))⟩
/-- tuple(r) of a range object -/
def rTupR : List V → Hp → VK → Prop := fun vs H Q => ∃ (a : Addr) (lo hi : Int), vs = [V.ref a] ∧ H a = some (.rng lo hi) ∧ RgOk lo hi ∧ ∀ q, H q = none → Q (.ref q) (upd H q (.tup (rgV lo hi)))
theorem call_tupR {X : Cx} (hc : X.calm = true) : CallR X (.type "tuple") rTupR := by
  intro pins s σ H vs us Q I rv h
  obtain ⟨a, lo, hi, rfl, ha, ok, q⟩ := h
  cases rv with
  | cons r rr =>
    cases rr
    cases r
    obtain ⟨t1, t2, t3, ho⟩ := I.hok a _ ha
    obtain ⟨b1, b2, b3, b4, b5⟩ := ok
    refine call_tuple_range (n := (hi - lo).toNat) (I.ok.hd hc) ho (small_one b1 b2 b3 b4) (PyProof.Rows.rangeSize_nat lo hi) b5 fun h' tk acc hk hi' => ?_
    have len : (rgV lo hi).length ≤ sizeLine := by rw [rgV_length, sizeLine_eq]; omega
    have I1 : L2.Inv X pins σ H { s with heap := h', toks := tk } := I.kept (t' := tk) hk
    have I2 : L2.Inv X pins σ (upd H h'.objs.size (.tup (rgV lo hi))) { s with heap := h'.push { cls := .type "tuple", data := .seq acc }, toks := tk } :=
      I1.laid (t' := tk) (fun b o e => Heap.get?_push_of_some _ e) (Nat.le_refl _) (show ObjOk X.prog X.w _ _ _ (.tup (rgV lo hi)) from ⟨len, acc.toList, vals_rg hi', by rw [Array.toArray_toList]; exact PyProof.Rows.IsTup.new _ _⟩)
    exact ⟨.ref h'.objs.size, _, I2, rfl, q _ (I1.hok.fresh (Nat.le_refl _))⟩
end Z
end T_Y1
section T_Z7
namespace Z
open PySem L2
section
variable {c : Cn} {H0 Hs H H1 H2 H' : Hp} {Z : Addr → Prop} {σ σ1 σ2 σ' : L2.St} {ρ ρ1 ρ2 ρ' : Env} {v : V} {d : D} {k : Kd} {Ex : Xn → Prop} {EE : XK}
theorem one_of {vs : List V} {d : D} (h : vs.length = [d].length) : ∃ v, vs = [v] := by
  match vs, h with
  | [v], _ => exact ⟨v, rfl⟩
theorem two_of {vs : List V} {d e : D} (h : vs.length = [d, e].length) : ∃ v w, vs = [v, w] := by
  match vs, h with
  | [v, w], _ => exact ⟨v, w, rfl⟩
def rLenA (K : PySem.W.Frag) : List V → Hp → VK → Prop := fun xs H Q => (∃ p ys, xs = [.ref p] ∧ (SqL K H p ys ∨ SqT K H p ys) ∧ Q (.int ys.length) H) ∨ (∃ a kvs, xs = [.ref a] ∧ Rd H a (.dK kvs) ∧ Q (.int kvs.length) H)
theorem call_lenA {X : Cx} : CallR X (.builtin "len") (rLenA X.K) := CallR.or call_len_seq call_lenD'
theorem pr_len : PrOk c H0 .len (rLenA c.K) := by
  intro Z σ ρ Hs H ds vs P Q r hs hv hl hp q
  match ds, hp with
  | [.lst xs], hp =>
    obtain ⟨v, rfl⟩ := one_of hl
    obtain ⟨a, ys, rfl, h1, h2, h3⟩ := (hv 0 _ _ rfl rfl).lst r
    exact .inl ⟨a, ys, rfl, .inl (SqL.of h1), by rw [h3.len]; exact q _ _ _ _ hp r .refl (.int _)⟩
  | [.tup xs], hp =>
    obtain ⟨v, rfl⟩ := one_of hl
    obtain ⟨a, ys, rfl, h1, h2, h3⟩ := (hv 0 _ _ rfl rfl).tup r
    exact .inl ⟨a, ys, rfl, .inr h1, by rw [h3.len]; exact q _ _ _ _ hp r .refl (.int _)⟩
  | [.dct xs], hp =>
    obtain ⟨v, rfl⟩ := one_of hl
    obtain ⟨a, ys, rfl, h1, h2, h3⟩ := (hv 0 _ _ rfl rfl).dct r
    exact .inr ⟨a, ys, rfl, h1, by rw [h3.len]; exact q _ _ _ _ hp r .refl (.int _)⟩
def rTupA (K : PySem.W.Frag) : List V → Hp → VK → Prop := fun xs H Q => (∃ p ys, xs = [.ref p] ∧ ((SqL K H p ys ∧ ∀ l, H l = none → Q (.ref l) (upd H l (.tup ys))) ∨ (SqT K H p ys ∧ Q (.ref p) H))) ∨ rTupR xs H Q
theorem call_tupA {X : Cx} (hc : X.calm = true) : CallR X (.type "tuple") (rTupA X.K) := CallR.or call_tuple_of (call_tupR hc)
theorem pr_tuple : PrOk c H0 .tuple (rTupA c.K) := by
  intro Z σ ρ Hs H ds vs P Q r hs hv hl hp q
  match ds, hp with
  | [.lst xs], hp =>
    obtain ⟨v, rfl⟩ := one_of hl
    obtain ⟨a, ys, rfl, h1, h2, h3⟩ := (hv 0 _ _ rfl rfl).lst r
    refine .inl ⟨a, ys, rfl, .inl ⟨SqL.of h1, fun l hl => ?_⟩⟩
    obtain ⟨a1, a2, a3⟩ := VR.newT (Hs := Hs) r hl h2 h3
    exact q _ _ _ _ hp a1 a2 a3
  | [.tup xs], hp =>
    obtain ⟨v, rfl⟩ := one_of hl
    obtain ⟨a, ys, rfl, h1, h2, h3, h4⟩ := (hv 0 _ _ rfl rfl).seqT r
    exact .inl ⟨a, ys, rfl, .inr ⟨h1, q _ _ _ _ hp r .refl h4⟩⟩
  | [.rng lo hi], hp =>
    obtain ⟨v, rfl⟩ := one_of hl
    obtain ⟨a, rfl, h1⟩ := (hv 0 _ _ rfl rfl).rng r
    obtain ⟨hb, hp⟩ := hp
    have hbb : (big : Int) = 16777216 := rfl
    have sz : sizeLine = 16777216 := sizeLine_eq
    refine .inr ⟨a, lo, hi, rfl, h1, ⟨by omega, by omega, by omega, by omega, by omega⟩, fun l hl => ?_⟩
    have rep : RepL c (Rz H (full Z σ ρ)) (rgV lo hi) (rngD lo (hi - lo).toNat) := by
      unfold rgV rngD
      refine RepL.of (by simp) fun i v d e1 e2 => ?_
      rw [List.getElem?_map] at e1 e2
      obtain ⟨j, hj, rfl⟩ := Option.map_eq_some_iff.mp e1
      rw [hj] at e2
      cases e2
      exact .int _
    obtain ⟨a1, a2, a3⟩ := VR.newT (Hs := Hs) r hl (xs := rgV lo hi) (by rw [rgV_length]; omega) rep
    exact q _ _ _ _ hp a1 a2 a3
def rListA (K : PySem.W.Frag) : List V → Hp → VK → Prop := fun xs H Q => (∃ p ys, xs = [.ref p] ∧ (SqL K H p ys ∨ SqT K H p ys) ∧ ∀ l, H l = none → Q (.ref l) (upd H l (.lst ys))) ∨
  (∃ p kvs, xs = [.ref p] ∧ Rd H p (.dK kvs) ∧ ∀ q, H q = none → Q (.ref q) (upd H q (.lst (kvs.map fun kv => kV kv.1)))) ∨ rListR xs H Q
theorem call_listA {X : Cx} (hc : X.calm = true) : CallR X (.type "list") (rListA X.K) := CallR.or call_list_of (CallR.or (call_listD hc) (call_listR hc))
theorem RepK.keysL {R : Addr → HO → Prop} : ∀ {vs : List (Key × V)} {ds : List (Key × D)}, RepK c R vs ds → RepL c R (vs.map fun kv => kV kv.1) (ds.map fun kv => .ofKey kv.1)
  | _, _, .nil => .nil
  | _, _, .cons k a b => .cons (Rep.ofKey k) (RepK.keysL b)
theorem pr_list : PrOk c H0 .list (rListA c.K) := by
  intro Z σ ρ Hs H ds vs P Q r hs hv hl hp q
  match ds, hp with
  | [.lst xs], hp =>
    obtain ⟨v, rfl⟩ := one_of hl
    obtain ⟨a, ys, rfl, h1, h2, h3⟩ := (hv 0 _ _ rfl rfl).lst r
    refine .inl ⟨a, ys, rfl, .inl (SqL.of h1), fun l hl => ?_⟩
    obtain ⟨a1, a2, a3⟩ := VR.newL (Hs := Hs) r hl h2 h3 hs
    exact q _ _ _ _ hp a1 a2 a3
  | [.tup xs], hp =>
    obtain ⟨v, rfl⟩ := one_of hl
    obtain ⟨a, ys, rfl, h1, h2, h3⟩ := (hv 0 _ _ rfl rfl).tup r
    refine .inl ⟨a, ys, rfl, .inr h1, fun l hl => ?_⟩
    obtain ⟨a1, a2, a3⟩ := VR.newL (Hs := Hs) r hl h2 h3 hs
    exact q _ _ _ _ hp a1 a2 a3
  | [.dct xs], hp =>
    obtain ⟨v, rfl⟩ := one_of hl
    obtain ⟨a, ys, rfl, h1, h2, h3⟩ := (hv 0 _ _ rfl rfl).dct r
    refine .inr (.inl ⟨a, ys, rfl, h1, fun l hl => ?_⟩)
    obtain ⟨a1, a2, a3⟩ := VR.newL (Hs := Hs) r hl (xs := ys.map fun kv => kV kv.1) (by rw [List.length_map]; exact h2) h3.keysL hs
    exact q _ _ _ _ hp a1 a2 a3
  | [.rng lo hi], hp =>
    obtain ⟨v, rfl⟩ := one_of hl
    obtain ⟨a, rfl, h1⟩ := (hv 0 _ _ rfl rfl).rng r
    obtain ⟨hb, hp⟩ := hp
    have hbb : (big : Int) = 16777216 := rfl
    have sz : sizeLine = 16777216 := sizeLine_eq
    refine .inr (.inr ⟨a, lo, hi, rfl, h1, ⟨by omega, by omega, by omega, by omega, by omega⟩, fun l hl => ?_⟩)
    have rep : RepL c (Rz H (full Z σ ρ)) (rgV lo hi) (rngD lo (hi - lo).toNat) := by
      unfold rgV rngD
      refine RepL.of (by simp) fun i v d e1 e2 => ?_
      rw [List.getElem?_map] at e1 e2
      obtain ⟨j, hj, rfl⟩ := Option.map_eq_some_iff.mp e1
      rw [hj] at e2
      cases e2
      exact .int _
    obtain ⟨a1, a2, a3⟩ := VR.newL (Hs := Hs) r hl (xs := rgV lo hi) (by rw [rgV_length]; omega) rep hs
    exact q _ _ _ _ hp a1 a2 a3
def rDictA (K : PySem.W.Frag) : List V → Hp → VK → Prop := fun xs H Q => (∃ (a : Addr) (ps : List Addr) (kvs : List (Key × V)), xs = [.ref a] ∧ SqL K H a (ps.map V.ref) ∧ Paired (fun p kv => SqT K H p [kV kv.1, kv.2]) ps kvs ∧
    ∀ p, H p = none → Q (.ref p) (upd H p (.dK (mergeK [] kvs)))) ∨ (∃ (a : Addr) (kvs : List (Key × V)), xs = [.ref a] ∧ Rd H a (.dK kvs) ∧ ∀ p, H p = none → Q (.ref p) (upd H p (.dK kvs)))
theorem call_dictA {X : Cx} (hc : X.calm = true) : CallR X (.type "dict") (rDictA X.K) := CallR.or (call_dictP hc) call_dictD
theorem pairs_rep : ∀ {vs : List V} {kvs : List (Key × D)}, RepL c (Rz H (full Z σ ρ)) vs (kvs.map fun kv => .tup [.ofKey kv.1, kv.2]) →
    ∃ (ps : List Addr) (ks : List (Key × V)), vs = ps.map V.ref ∧ Paired (fun p kv => SqT c.K H p [kV kv.1, kv.2]) ps ks ∧ RepK c (Rz H (full Z σ ρ)) ks kvs ∧ ks.length = vs.length
  | [], [], _ => ⟨[], [], rfl, .nil, .nil, rfl⟩
  | v0 :: _, (k, d) :: kvs, .cons a b => by
    obtain ⟨ps, ks, rfl, h1, h2, h3⟩ := pairs_rep b
    have key : ∃ p w, v0 = V.ref p ∧ SqT c.K H p [kV k, w] ∧ Rep c (Rz H (full Z σ ρ)) w d := by
      cases a with
      | tup r z l =>
        cases l with
        | cons l1 l2 =>
          cases l2 with
          | cons l2 l3 =>
            cases l3
            have := l1.key (key_ofKey k)
            subst this
            exact ⟨_, _, rfl, SqT.of (Rz.get rfl r), l2⟩
      | ktup r z l =>
        cases l with
        | cons l1 l2 =>
          cases l2 with
          | cons l2 l3 =>
            cases l3
            have := l1.key (key_ofKey k)
            subst this
            exact ⟨_, _, rfl, .inr r, l2⟩
    obtain ⟨p, w, rfl, q1, q2⟩ := key
    exact ⟨p :: ps, (k, w) :: ks, rfl, .cons q1 h1, .cons k q2 h2, by simp [h3]⟩
  | [], _ :: _, h => by cases h
  | _ :: _, [], h => by cases h
theorem pr_dict : PrOk c H0 .dict (rDictA c.K) := by
  intro Z σ ρ Hs H ds vs P Q r hs hv hl hp q
  match ds, hp with
  | [.lst xs], hp =>
    obtain ⟨v, rfl⟩ := one_of hl
    obtain ⟨kvs, rfl, hp⟩ := hp
    obtain ⟨a, ys, rfl, h1, h2, h3⟩ := (hv 0 _ _ rfl rfl).lst r
    obtain ⟨ps, ks, rfl, g1, g2, g3⟩ := pairs_rep h3
    refine .inl ⟨a, ps, ks, rfl, SqL.of h1, g1, fun p hp' => ?_⟩
    obtain ⟨a1, a2, a3⟩ := VR.newK (Hs := Hs) r hp' (xs := mergeK [] ks) (Nat.le_trans (length_mergeK ks []) (by rw [List.length_nil, Nat.zero_add, g3]; exact h2)) (g2.mrg .nil) hs
    exact q _ _ _ _ hp a1 a2 a3
  | [.dct xs], hp =>
    obtain ⟨v, rfl⟩ := one_of hl
    obtain ⟨a, ys, rfl, h1, h2, h3⟩ := (hv 0 _ _ rfl rfl).dct r
    refine .inr ⟨a, ys, rfl, h1, fun p hp' => ?_⟩
    obtain ⟨a1, a2, a3⟩ := VR.newK (Hs := Hs) r hp' h2 h3 hs
    exact q _ _ _ _ hp a1 a2 a3
def rSortA (K : PySem.W.Frag) : List V → Hp → VK → Prop := fun xs H Q => rSortedI K xs H Q ∨ (∃ (a : Addr) (kvs : List (Key × V)) (ks : List Int), xs = [.ref a] ∧ Rd H a (.dK kvs) ∧ kvs.map (·.1) = ks.map Sum.inl ∧
    ∀ (ys : List Int) p, ys.Perm ks → ys.Pairwise (· ≤ ·) → H p = none → Q (.ref p) (upd H p (.lst (ys.map V.int))))
theorem call_sortA {X : Cx} (hc : X.calm = true) : CallR X (.builtin "sorted") (rSortA X.K) := CallR.or cr_sortedI (call_sortedK hc)
theorem pr_sorted : PrOk c H0 .sorted (rSortA c.K) := by
  intro Z σ ρ Hs H ds vs P Q r hs hv hl hp q
  match ds, hp with
  | [.lst xs], hp =>
    obtain ⟨v, rfl⟩ := one_of hl
    obtain ⟨ns, rfl, hp⟩ := hp
    obtain ⟨a, ys, rfl, h1, h2, h3⟩ := (hv 0 _ _ rfl rfl).lst r
    have := h3.ints
    subst this
    refine .inl ⟨a, ns, rfl, SqL.of h1, fun ms p h4 h5 hp' => ?_⟩
    obtain ⟨a1, a2, a3⟩ := VR.newL (Hs := Hs) r hp' (xs := ms.map V.int) (by rw [List.length_map, h4.length_eq]; rw [List.length_map] at h2; exact h2) (RepL.ofInts ms) hs
    exact q _ _ _ _ (hp ms h4 h5) a1 a2 a3
  | [.dct xs], hp =>
    obtain ⟨v, rfl⟩ := one_of hl
    obtain ⟨ns, e, hp⟩ := hp
    obtain ⟨a, ys, rfl, h1, h2, h3⟩ := (hv 0 _ _ rfl rfl).dct r
    refine .inr ⟨a, ys, ns, rfl, h1, h3.keys.trans e, fun ms p h4 h5 hp' => ?_⟩
    have hlen : ns.length = ys.length := by
      have e2 := congrArg List.length e
      rw [List.length_map, List.length_map] at e2
      rw [h3.len, e2]
    obtain ⟨a1, a2, a3⟩ := VR.newL (Hs := Hs) r hp' (xs := ms.map V.int) (by rw [List.length_map, h4.length_eq, hlen]; exact h2) (RepL.ofInts ms) hs
    exact q _ _ _ _ (hp ms h4 h5) a1 a2 a3
def rMinA (K : PySem.W.Frag) : List V → Hp → VK → Prop := fun xs H Q => rMin K xs H Q ∨ (∃ i j, xs = [.int i, .int j] ∧ Q (.int (if j < i then j else i)) H) ∨ (∃ (a : Addr) (kvs : List (Key × V)) (ks : List Int), xs = [.ref a] ∧ Rd H a (.dK kvs) ∧ kvs.map (·.1) = ks.map Sum.inl ∧ 0 < ks.length ∧
    ∀ m, m ∈ ks → (∀ y ∈ ks, m ≤ y) → Q (.int m) H)
theorem call_minA {X : Cx} (hc : X.calm = true) : CallR X (.builtin "min") (rMinA X.K) := CallR.or (cr_min hc) (CallR.or (call_min2 hc) (call_minK hc))
theorem pr_min : PrOk c H0 .min (rMinA c.K) := by
  intro Z σ ρ Hs H ds vs P Q r hs hv hl hp q
  match ds, hp with
  | [.lst xs], hp =>
    obtain ⟨v, rfl⟩ := one_of hl
    obtain ⟨ns, rfl, h0, hp⟩ := hp
    obtain ⟨a, ys, rfl, h1, h2, h3⟩ := (hv 0 _ _ rfl rfl).lst r
    have := h3.ints
    subst this
    exact .inl ⟨a, ns, rfl, SqL.of h1, h0, fun m hm hle => q _ _ _ _ (hp m hm hle) r .refl (.int _)⟩
  | [.int i, .int j], hp =>
    obtain ⟨v, w, rfl⟩ := two_of hl
    have e1 := (hv 0 _ _ rfl rfl).int r
    have e2 := (hv 1 _ _ rfl rfl).int r
    subst e1 e2
    exact .inr (.inl ⟨i, j, rfl, q _ _ _ _ hp r .refl (.int _)⟩)
  | [.dct xs], hp =>
    obtain ⟨v, rfl⟩ := one_of hl
    obtain ⟨ns, e, h0, hp⟩ := hp
    obtain ⟨a, ys, rfl, h1, h2, h3⟩ := (hv 0 _ _ rfl rfl).dct r
    exact .inr (.inr ⟨a, ys, ns, rfl, h1, h3.keys.trans e, h0, fun m hm hle => q _ _ _ _ (hp m hm hle) r .refl (.int _)⟩)
def rMaxA (K : PySem.W.Frag) : List V → Hp → VK → Prop := fun xs H Q => rMax K xs H Q ∨ (∃ i j, xs = [.int i, .int j] ∧ Q (.int (if j > i then j else i)) H)
theorem call_maxA {X : Cx} (hc : X.calm = true) : CallR X (.builtin "max") (rMaxA X.K) := CallR.or (cr_max hc) (call_max2 hc)
theorem pr_max : PrOk c H0 .max (rMaxA c.K) := by
  intro Z σ ρ Hs H ds vs P Q r hs hv hl hp q
  match ds, hp with
  | [.lst xs], hp =>
    obtain ⟨v, rfl⟩ := one_of hl
    obtain ⟨ns, rfl, h0, hp⟩ := hp
    obtain ⟨a, ys, rfl, h1, h2, h3⟩ := (hv 0 _ _ rfl rfl).lst r
    have := h3.ints
    subst this
    exact .inl ⟨a, ns, rfl, SqL.of h1, h0, fun m hm hle => q _ _ _ _ (hp m hm hle) r .refl (.int _)⟩
  | [.int i, .int j], hp =>
    obtain ⟨v, w, rfl⟩ := two_of hl
    have e1 := (hv 0 _ _ rfl rfl).int r
    have e2 := (hv 1 _ _ rfl rfl).int r
    subst e1 e2
    exact .inr ⟨i, j, rfl, q _ _ _ _ hp r .refl (.int _)⟩
theorem pr_sum : PrOk c H0 .sum (rSum c.K) := by
  intro Z σ ρ Hs H ds vs P Q r hs hv hl hp q
  match ds, hp with
  | [.lst xs], hp =>
    obtain ⟨v, rfl⟩ := one_of hl
    obtain ⟨ns, rfl, hp⟩ := hp
    obtain ⟨a, ys, rfl, h1, h2, h3⟩ := (hv 0 _ _ rfl rfl).lst r
    have := h3.ints
    subst this
    exact ⟨a, ns, rfl, SqL.of h1, q _ _ _ _ hp r .refl (.int _)⟩
theorem pr_all : PrOk c H0 .all (rAll c.K) := by
  intro Z σ ρ Hs H ds vs P Q r hs hv hl hp q
  match ds, hp with
  | [.lst xs], hp =>
    obtain ⟨v, rfl⟩ := one_of hl
    obtain ⟨ns, rfl, hp⟩ := hp
    obtain ⟨a, ys, rfl, h1, h2, h3⟩ := (hv 0 _ _ rfl rfl).lst r
    have := h3.bls
    subst this
    exact ⟨a, ns, rfl, SqL.of h1, q _ _ _ _ hp r .refl (.bl _)⟩
theorem pr_any : PrOk c H0 .any (rAny c.K) := by
  intro Z σ ρ Hs H ds vs P Q r hs hv hl hp q
  match ds, hp with
  | [.lst xs], hp =>
    obtain ⟨v, rfl⟩ := one_of hl
    obtain ⟨ns, rfl, hp⟩ := hp
    obtain ⟨a, ys, rfl, h1, h2, h3⟩ := (hv 0 _ _ rfl rfl).lst r
    have := h3.bls
    subst this
    exact ⟨a, ns, rfl, SqL.of h1, q _ _ _ _ hp r .refl (.bl _)⟩
theorem pr_range : PrOk c H0 .range rRange2 := by
  intro Z σ ρ Hs H ds vs P Q r hs hv hl hp q
  match ds, hp with
  | [.int i], hp =>
    obtain ⟨v, rfl⟩ := one_of hl
    have e1 := (hv 0 _ _ rfl rfl).int r
    subst e1
    refine .inl ⟨i, rfl, fun p hp' => ?_⟩
    obtain ⟨a1, a2, a3⟩ := VR.newR (Hs := Hs) (lo := 0) (hi := i) r hp'
    exact q _ _ _ _ hp.2 a1 a2 a3
  | [.int l, .int i], hp =>
    match vs, hl with
    | [v, v2], _ =>
    have e1 := (hv 0 _ _ rfl rfl).int r
    have e2 := (hv 1 _ _ rfl rfl).int r
    subst e1 e2
    refine .inr ⟨l, i, rfl, fun p hp' => ?_⟩
    obtain ⟨a1, a2, a3⟩ := VR.newR (Hs := Hs) (lo := l) (hi := i) r hp'
    exact q _ _ _ _ hp a1 a2 a3
theorem pr_abs : PrOk c H0 .abs (fun xs H Q => ∃ i, xs = [.int i] ∧ Q (.int (if i < 0 then -i else i)) H) := by
  intro Z σ ρ Hs H ds vs P Q r hs hv hl hp q
  match ds, hp with
  | [.int i], hp =>
    obtain ⟨v, rfl⟩ := one_of hl
    have e1 := (hv 0 _ _ rfl rfl).int r
    subst e1
    exact ⟨i, rfl, q _ _ _ _ hp r .refl (.int _)⟩
theorem pr_int : PrOk c H0 .int (fun xs H Q => (∃ i, xs = [.int i] ∧ Q (.int i) H) ∨ ∃ k, xs = [.bl k] ∧ Q (.int (if k then 1 else 0)) H) := by
  intro Z σ ρ Hs H ds vs P Q r hs hv hl hp q
  match ds, hp with
  | [.int i], hp =>
    obtain ⟨v, rfl⟩ := one_of hl
    have e1 := (hv 0 _ _ rfl rfl).int r
    subst e1
    exact .inl ⟨i, rfl, q _ _ _ _ hp r .refl (.int _)⟩
  | [.bl i], hp =>
    obtain ⟨v, rfl⟩ := one_of hl
    have e1 := (hv 0 _ _ rfl rfl).bl r
    subst e1
    exact .inr ⟨i, rfl, q _ _ _ _ hp r .refl (.int _)⟩
end
end Z
end T_Z7
section T_Z8
namespace Z
open PySem L2
section
variable {c : Cn} {H0 Hs H H1 H2 H' : Hp} {Z : Addr → Prop} {σ σ1 σ2 σ' : L2.St} {ρ ρ1 ρ2 ρ' : Env} {v : V} {d : D} {k : Kd} {Ex : Xn → Prop} {EE : XK}
variable {X : Cx} {a b e : Expr} {es : List Expr} {pos p p2 : Pos} {ca cb cc : CE} {cs : CL}
def tyD : D → Option String
  | .non => some "NoneType" | .bl _ => some "bool" | .int _ => some "int" | .str _ => some "str" | .lst _ => some "list" | .tup _ => some "tuple" | .dct _ => some "dict"
  | _ => none
theorem VW.tyx (r : RE c H0 Z σ H ρ) (h : VW c Z σ H ρ v d) {T : String} (e : tyD d = some T) : TyX c.K H v (.type T) := by
  cases d with
  | non => rw [h.non r]; cases e; exact .base .non
  | bl b => rw [h.bl r]; cases e; exact .base (.bl b)
  | int b => rw [h.int r]; cases e; exact .base (.int b)
  | str b => rw [h.str r]; cases e; exact .base (.str b)
  | lst ds => obtain ⟨a, xs, rfl, h1, _⟩ := h.lst r; cases e; exact .base (.lst h1)
  | tup ds =>
    obtain ⟨a, xs, rfl, h1, _⟩ := h.tup r
    cases e
    rcases h1 with (h1 | ⟨o, h1⟩) | ⟨o, its, n, h1, h2, _⟩
    · exact .base (.tup h1)
    · exact .fTuple h1
    · exact .kTuple h1 h2
  | dct ds =>
    obtain ⟨a, xs, rfl, h1, _⟩ := h.dct r
    cases e
    rcases h1 with h1 | ⟨o, h1⟩
    · exact .base (.dK h1)
    · exact .fDict h1
  | ins _ _ => cases e
  | drw => cases e
  | opq _ => cases e
  | rng _ _ => cases e
  | exc _ _ => cases e
  | clo _ => cases e
  | fnv _ => cases e
  | lamc _ _ => cases e
theorem isi_one {q : Pr} {T : String} (f : D → Option Bool) (hq : ∀ d P, pr q [d] P → ∃ b, f d = some b ∧ P (.bl b) .cln) (hf : ∀ d b, f d = some b → ∃ S, tyD d = some S ∧ kitB S T = some b)
    (O : XOk c X) (hgi : Gl X "isinstance") (hmi : X.mg "isinstance" = none) (ht : PE X b (tC (.ty T))) (hsb : starEach [b] X.env = [(false, eval b X.env)])
    (ha : PE X a (tr c H0 Ex ca)) (hst : starEach (a :: [b]) X.env = (false, eval a X.env) :: starEach [b] X.env) :
    PE X (.Call (.Name "isinstance" p) [a, b] [] pos) (tr c H0 Ex (.prim q (.cons ca .nil))) := by
  refine PE.imp (pe_callB call_isi hgi hmi PyProof.Rows.boot_isinstance (pa_cons ha (pa_cons ht pa_nil hsb) hst) (by decide) (by decide) hst (by rw [hsb]; rfl)) fun σ H Q h => ?_
  obtain ⟨Z, ρ, P, r, hev, hk⟩ := h
  rw [ev, evas] at hev
  refine ⟨Z, ρ, _, r, hev, fun x k ρ1 vx H1 hp r1 s1 v1 => ?_⟩
  rw [evas] at hp
  obtain ⟨⟨st, _⟩, hp⟩ := hp
  obtain ⟨t, e1, hp⟩ := hq _ _ hp
  obtain ⟨S, e2, e3⟩ := hf _ _ e1
  exact ⟨vx, .ty T, .type S, .type T, t, rfl, .ty T, by rw [O.K]; exact (v1.keep r1.wz .refl st).tyx r1 e2, kit_ty e3, hk _ _ _ _ _ hp r1 s1 (.bl _)⟩
theorem isI_ok (d : D) (b : Bool) (h : d.isI = some b) : ∃ S, tyD d = some S ∧ kitB S "int" = some b := by
  cases d <;> simp only [D.isI, reduceCtorEq] at h <;> cases h <;> exact ⟨_, rfl, by decide +kernel⟩
theorem isB_ok (d : D) (b : Bool) (h : d.isB = some b) : ∃ S, tyD d = some S ∧ kitB S "bool" = some b := by
  cases d <;> simp only [D.isB, reduceCtorEq] at h <;> cases h <;> exact ⟨_, rfl, by decide +kernel⟩
theorem isT_ok (d : D) (b : Bool) (h : d.isT = some b) : ∃ S, tyD d = some S ∧ kitB S "tuple" = some b := by
  cases d <;> simp only [D.isT, reduceCtorEq] at h <;> cases h <;> exact ⟨_, rfl, by decide +kernel⟩
theorem isL_ok (K : PySem.W.Frag) (d : D) (b : Bool) (h : d.isL = some b) : ∃ S, tyD d = some S ∧ PySem.W.kitAny K (.type S) [.type "list", .type "tuple"] = some b := by
  have mk : ∀ S (x y : Bool), kitB S "list" = some x → kitB S "tuple" = some y → (x || y) = b → PySem.W.kitAny K (.type S) [.type "list", .type "tuple"] = some b := fun S x y h1 h2 h3 => by
    refine kitAny_cons (kit_ty h1) (fun e => kitAny_cons (kit_ty h2) (fun e2 => ?_) fun e2 => ?_) fun e => ?_
    · subst e e2; subst h3; exact kitAny_nil
    · subst e e2; subst h3; rfl
    · subst e; subst h3; rfl
  cases d <;> simp only [D.isL, reduceCtorEq] at h <;> cases h <;> first | exact ⟨_, rfl, mk _ false false (by decide +kernel) (by decide +kernel) rfl⟩ | exact ⟨_, rfl, mk _ true false (by decide +kernel) (by decide +kernel) rfl⟩ | exact ⟨_, rfl, mk _ false true (by decide +kernel) (by decide +kernel) rfl⟩
theorem e_islist {kk : Nat} {p3 p4 : Pos} (O : XOk c X) (hgi : Gl X "isinstance") (hmi : X.mg "isinstance" = none) (hg1 : Gl X "list") (hm1 : X.mg "list" = none) (hg2 : Gl X "tuple") (hm2 : X.mg "tuple" = none)
    (ha : PE X a (tr c H0 Ex ca)) (hst : ∀ es, starEach (a :: es) X.env = (false, eval a X.env) :: starEach es X.env) :
    PE X (.Call (.Name "isinstance" p) [a, .Tuple [.Name "list" p2, .Name "tuple" p3] kk p4] [] pos) (tr c H0 Ex (.prim .islist (.cons ca .nil))) := by
  refine PE.imp (pe_callB call_isiT hgi hmi PyProof.Rows.boot_isinstance (pa_cons ha (pa_cons (pe_tup (pa_cons (pe_bltn (v := .ty "list") hg1 hm1 PyProof.Rows.boot_list rfl) (pa_cons (pe_bltn (v := .ty "tuple") hg2 hm2 PyProof.Rows.boot_tuple rfl) pa_nil rfl) rfl)) pa_nil rfl) (hst _)) (by decide) (by decide) (hst _) rfl) fun σ H Q h => ?_
  obtain ⟨Z, ρ, P, r, hev, hk⟩ := h
  rw [ev, evas] at hev
  refine ⟨Z, ρ, _, r, hev, fun x k ρ1 vx H1 hp r1 s1 v1 => ?_⟩
  rw [evas] at hp
  obtain ⟨⟨st, _⟩, hp⟩ := hp
  obtain ⟨t, e1, hp⟩ := hp
  obtain ⟨S, e2, e3⟩ := isL_ok X.K _ _ e1
  refine ⟨by show 2 ≤ sizeLine; decide, fun q hq => ?_⟩
  have r2 := r1.new (o := .tup [.ty "list", .ty "tuple"]) hq
  have s2 : Stp c.ws σ ρ1 H1 σ ρ1 (upd H1 q (.tup [.ty "list", .ty "tuple"])) := .new hq
  refine ⟨vx, q, [.ty "list", .ty "tuple"], .type S, [.type "list", .type "tuple"], t, rfl, upd_same, .cons (.ty _) (.cons (.ty _) .nil), by rw [O.K]; exact (v1.keep r1.wz s2 st).tyx r2 e2, e3, hk _ _ _ _ _ hp r2 (s1.trans s2) (.bl _)⟩
def trO (c : Cn) (H0 : Hp) (E : Xn → Prop) (e : CO) : TO := fun σ H Q => ∃ (Z : Addr → Prop) (ρ : Env) (P : Option Int → Env → Prop), RE c H0 Z σ H ρ ∧ evo E e ρ P ∧
  ∀ o ρ' H', P o ρ' → RE c H0 Z σ H' ρ' → Stp c.ws σ ρ H σ ρ' H' → Q o H'
theorem PO.imp {X : Cx} {e : Option Expr} {t t' : TO} (h : PO X e t) (i : ∀ σ H Q, t' σ H Q → t σ H Q) : PO X e t' := ⟨fun pins s σ H Q I q => h.run pins s σ H Q I (i σ H Q q)⟩
theorem o_no : PO X none (trO c H0 Ex .no) := by
  refine PO.imp po_none fun σ H Q h => ?_
  obtain ⟨Z, ρ, P, r, hev, hk⟩ := h
  rw [evo] at hev
  exact hk _ _ _ hev r .refl
theorem o_one (h : PE X e (tr c H0 Ex ca)) : PO X (some e) (trO c H0 Ex (.one ca)) := by
  refine PO.imp (po_some h) fun σ H Q h => ?_
  obtain ⟨Z, ρ, P, r, hev, hk⟩ := h
  rw [evo] at hev
  refine ⟨Z, ρ, _, r, hev, fun x k ρ1 vx H1 hp r1 s1 v1 => ?_⟩
  obtain ⟨i, rfl, hp⟩ := hp
  exact ⟨i, v1.weak.int r1, hk _ _ _ hp r1 s1⟩
theorem cutV_rep {R : Addr → HO → Prop} {vs : List V} {ds : List D} (l : RepL c R vs ds) (lo hi : Option Int) : RepL c R (cutV vs lo hi) (cutD ds lo hi) := by
  unfold cutV cutD
  rw [l.len]
  exact (RepL.drop _ l).take _
theorem e_cut {lo hi : Option Expr} {cl ch : CO} (O : XOk c X) (ha : PE X a (tr c H0 Ex ca)) (hl : PO X lo (trO c H0 Ex cl)) (hh : PO X hi (trO c H0 Ex ch)) : PE X (.Subscript a (.Slice lo hi none p2) pos) (tr c H0 Ex (.cut ca cl ch)) := by
  refine PE.imp (pe_slice (SlR.or sl_list sl_tupA) ha hl hh) fun σ H Q h => ?_
  obtain ⟨Z, ρ, P, r, hev, hk⟩ := h
  rw [ev] at hev
  refine ⟨Z, ρ, _, r, hev, fun x k ρ1 vx H1 hp r1 s1 v1 => ⟨Z, ρ1, _, r1, hp, fun l ρ2 H2 hp2 r2 s2 => ⟨Z, ρ2, _, r2, hp2, fun u ρ3 H3 hp3 r3 s3 => ?_⟩⟩⟩
  obtain ⟨st, hp3⟩ := hp3
  have hx := v1.keep r1.wz (s2.trans s3) st
  have al : ∀ b, H b ≠ none → H3 b ≠ none := fun b h => s3.al b (s2.al b (s1.al b h))
  cases x <;> try exact hp3.elim
  case lst xs =>
    obtain ⟨q, vs, rfl, h1, h2, h3⟩ := hx.lst r3
    refine .inl ⟨q, vs, rfl, SqL.of h1, fun t ht => ?_⟩
    obtain ⟨a1, a2, a3⟩ := VR.newL (Hs := H) r3 ht (xs := cutV vs l u) (Nat.le_trans (cutV_length _ _ _) h2) (cutV_rep h3 l u) al
    exact hk _ _ _ _ _ hp3 a1 (((s1.trans s2).trans s3).trans a2) a3
  case tup xs =>
    obtain ⟨q, vs, rfl, h1, h2, h3, h4⟩ := hx.seqT r3
    refine .inr ⟨q, vs, rfl, by rw [O.K]; exact h1, fun w => ?_, fun w t ht => ?_⟩
    · have e : cutD xs l u = xs := by
        unfold cutD
        rw [← h3.len, w.1, w.2, List.drop_zero, Nat.sub_zero, h3.len, List.take_length]
      have hp3 : P (.tup (cutD xs l u)) .cln _ := hp3
      rw [e] at hp3
      exact hk _ _ _ _ _ hp3 r3 ((s1.trans s2).trans s3) h4
    · obtain ⟨a1, a2, a3⟩ := VR.newT (Hs := H) r3 ht (xs := cutV vs l u) (Nat.le_trans (cutV_length _ _ _) h2) (cutV_rep h3 l u)
      exact hk _ _ _ _ _ hp3 a1 (((s1.trans s2).trans s3).trans a2) a3
theorem e_rev {kk : Nat} {p1 p3 : Pos} (O : XOk c X) (ha : PE X a (tr c H0 Ex ca)) : PE X (.Subscript a (.Slice none none (some (.UnaryOp .USub (.Constant (.int 1) kk p1) p2)) p3) pos) (tr c H0 Ex (.rev ca)) := by
  refine PE.imp (pe_revL ha) fun σ H Q h => ?_
  obtain ⟨Z, ρ, P, r, hev, hk⟩ := h
  rw [ev] at hev
  refine ⟨Z, ρ, _, r, hev, fun x k ρ1 vx H1 hp r1 s1 v1 => ?_⟩
  cases x <;> try exact hp.elim
  case lst xs =>
    obtain ⟨q, vs, rfl, h1, h2, h3⟩ := v1.weak.lst r1
    refine ⟨q, vs, rfl, SqL.of h1, fun t ht => ?_⟩
    obtain ⟨a1, a2, a3⟩ := VR.newL (Hs := H) r1 ht (xs := vs.reverse) (by rw [List.length_reverse]; exact h2) h3.rev s1.al
    exact hk _ _ _ _ _ hp a1 (s1.trans a2) a3
theorem e_get {f : Expr} {apos : Pos} (O : XOk c X) (ha : PE X a (tr c H0 Ex ca)) (he : PE X e (tr c H0 Ex cb)) (hf : PE X f (tr c H0 Ex cc)) (m : M2 X a "get" apos e f pos) : PE X (.Call (.Attribute a "get" apos) [e, f] [] pos) (tr c H0 Ex (.get ca cb cc)) := by
  refine PE.imp (pe_dget2 (by have := O.un; omega) ha he hf m) fun σ H Q h => ?_
  obtain ⟨Z, ρ, P, r, hev, hk⟩ := h
  rw [ev] at hev
  refine ⟨Z, ρ, _, r, hev, fun x k ρ1 vx H1 hp r1 s1 v1 => ?_⟩
  obtain ⟨kvs, rfl, hp⟩ := hp
  obtain ⟨q, ks, rfl, h1, _, h2⟩ := v1.weak.dct r1
  refine ⟨q, rfl, .inl ⟨ks, h1⟩, Z, ρ1, _, r1, hp, fun y ky ρ2 vy H2 hp2 r2 s2 v2 => ⟨Z, ρ2, _, r2, hp2, fun z kz ρ3 vz H3 hp3 r3 s3 v3 => ?_⟩⟩
  obtain ⟨st, hz, j, hj, hP⟩ := hp3
  obtain ⟨q', ks', e, g1, _, g2⟩ := (v1.keep r1.wz (s2.trans s3) st).dct r3
  cases e
  have e1 := v2.weak.key r2 hj
  subst e1
  refine ⟨valV ks' j, .inl ⟨ks', j, g1, rfl, rfl⟩, hk _ _ _ _ _ hP r3 ((s1.trans s2).trans s3) ?_⟩
  rcases g2.val j with ⟨w1, w2⟩ | ⟨w, d, w1, w2, w3⟩
  · rw [w1, w2]
    exact v3.weak.scal r3 hz
  · rw [w1, w2]
    exact w3
/-- a field: of an object, of an exception that was caught -/
def tFldX (K : PySem.W.Frag) (te : TE) (f : Str) : TE := fun σ H Q => te σ H fun x H1 =>
  (∃ a C dx fs v, x = .ref a ∧ H1 a = some (.ins C dx fs) ∧ Cls K C ∧ NoAttr K C f ∧ fs.lookup f = some v ∧ Q v H1) ∨
  (∃ a C dx fs v, x = .ref a ∧ H1 a = some (ExV a (.ref C) (some dx)) ∧ H1 dx = some (.xd fs) ∧ XfC K C ∧ PySem.W.findIn K (.ref C) f = some none ∧ fs.lookup f = some v ∧ Q v H1)
theorem pe_fldX {f : Str} {te : TE} (he : PE X a te) (hb : attributeBase a f X.env (eval a X.env) = eval a X.env) : PE X (.Attribute a f pos) (tFldX X.K te f) := by
  refine ⟨fun pins s σ H Q I h => ?_⟩
  refine attr_of hb (thn (he.run pins s σ H _ I h) fun u s1 ⟨x, H1, I1, rx, q⟩ => ?_)
  rcases q with ⟨a, C, dx, fs, v, ex, ea, c, n, l, q⟩ | ⟨a, C, dx, fs, v, ex, ea, ed, T, hno, l, q⟩
  · subst ex
    obtain rfl : u = Value.ref a := rx
    exact getattr_ok I1 ea c n l fun u' s2 I2 ru => ⟨v, H1, I2, ru, q⟩
  · subst ex
    obtain rfl : u = Value.ref a := rx
    obtain ⟨⟨oe, vs, ha, hz, hd⟩, _, _⟩ := I1.hok a _ ea
    obtain ⟨mA, hns, hr⟩ : ObjOk X.prog X.w H1 s1.heap dx (.xd fs) := I1.hok dx _ ed
    obtain ⟨od, ho, hl⟩ := lookIn_ns hns
    obtain ⟨u, hu, ru⟩ := RelO.some_of (v := v) (o := mA f) (by rw [← l]; exact hr f)
    have J : PySem.W.InstAt s1.heap a oe C (some od) := ⟨ha, hz.1, by unfold PySem.W.notCls; rw [hd] <;> rfl, by rw [hz.2]; exact ho⟩
    exact HandSPX.exc_get I1.kIn J T.ga T.gg T.exC (PySem.W.findObj_own T.hdC hno rfl (by rw [hl, hu])) (handed_of ru) ⟨v, H1, I1.tok _, ru, q⟩
/-- what is known of a class whose field is read -/
def FldC (K : PySem.W.Frag) (mg : Str → Option Value) (f C : Str) : Prop := ∃ Ca, mg C = some (.ref Ca) ∧ (isExc C = false → Cls K Ca ∧ NoAttr K Ca f) ∧ (isExc C = true → XfC K Ca ∧ PySem.W.findIn K (.ref Ca) f = some none)
theorem e_fld {f : Str} {Cs : List Str} (O : XOk c X) (hC : ∀ C ∈ Cs, FldC X.K c.mg f C) (ha : PE X a (tr c H0 Ex ca)) (hb : attributeBase a f X.env (eval a X.env) = eval a X.env) : PE X (.Attribute a f pos) (tr c H0 Ex (.fld Cs ca f)) := by
  refine PE.imp (pe_fldX ha hb) fun σ H Q h => ?_
  obtain ⟨Z, ρ, P, r, hev, hk⟩ := h
  rw [ev] at hev
  refine ⟨Z, ρ, _, r, hev, fun x k ρ1 vx H1 hp r1 s1 v1 => ?_⟩
  obtain ⟨C, fs, d, hCs, hx, hl, hP⟩ := hp
  obtain ⟨Ca, hC, h1, h2⟩ := hC C hCs
  rcases hx with ⟨hn, rfl⟩ | ⟨hn, rfl⟩
  · obtain ⟨hcl, hna⟩ := h1 hn
    have q := v1.weak.rep r1 (fun _ e => nomatch e) fun _ e => nomatch e
    cases q with
    | ins m q l =>
      rw [hC] at m
      cases m
      obtain ⟨w, g1, g2⟩ := l.look hl
      exact .inl ⟨_, _, _, _, w, rfl, Rz.get rfl q, hcl, hna, g1, hk _ _ _ _ _ hP r1 s1 g2⟩
  · obtain ⟨hx, hno⟩ := h2 hn
    have q := v1.weak.rep r1 (fun _ e => nomatch e) fun _ e => nomatch e
    cases q with
    | exc0 m i q => cases hl
    | exc1 m i q q2 l =>
      rw [hC] at m
      cases m
      obtain ⟨w, g1, g2⟩ := l.look hl
      exact .inr ⟨_, _, _, _, w, rfl, Rz.get rfl q, Rz.get rfl q2, hx, hno, g1, hk _ _ _ _ _ hP r1 s1 g2⟩
theorem ow_set {i : Nat} {d d' : D} (h : ρ[i]? = some (some (.own d))) {b : Addr} : Ow σ (ρ.set i (some (.own d'))) b ↔ Ow σ ρ b := by
  have hi : i < ρ.length := (List.getElem?_eq_some_iff.mp h).1
  constructor
  · rintro ⟨j, e, g, s⟩
    by_cases hj : i = j
    · subst hj; exact ⟨i, d, h, s⟩
    · rw [List.getElem?_set_ne hj] at g; exact ⟨j, e, g, s⟩
  · rintro ⟨j, e, g, s⟩
    by_cases hj : i = j
    · subst hj; exact ⟨i, d', list_set_same hi, s⟩
    · exact ⟨j, e, by rw [List.getElem?_set_ne hj]; exact g, s⟩
theorem RE.mut (r : RE c H0 Z σ H ρ) {i : Nat} {d d' : D} {a : Addr} {o : HO} (h : ρ[i]? = some (some (.own d))) (hs : σ[i]? = some (some (.ref a))) (t : TopAt c (upd H a o) (Rz H (full Z σ ρ)) a d') :
    RE c H0 Z σ (upd H a o) (ρ.set i (some (.own d'))) ∧ Stp c.ws σ ρ H σ (ρ.set i (some (.own d'))) (upd H a o) := by
  obtain ⟨a', e', na, h0, t0⟩ := r.own i d h
  rw [hs] at e'; cases e'
  have hi : i < ρ.length := (List.getElem?_eq_some_iff.mp h).1
  have ff : ∀ b, full Z σ (ρ.set i (some (.own d'))) b ↔ full Z σ ρ b := fun b => or_congr Iff.rfl (ow_set h)
  have fa : full Z σ ρ a := .inr ⟨i, d, h, hs⟩
  have hR : ∀ b u, Rz H (full Z σ ρ) b u → Rz (upd H a o) (full Z σ (ρ.set i (some (.own d')))) b u := fun b u q => by
    have ne : b ≠ a := fun e => q.1 (e ▸ fa)
    exact ⟨fun z => q.1 ((ff b).mp z), by rw [upd_ne ne]; exact q.2⟩
  refine ⟨⟨by rw [List.length_set]; exact r.len, fun j x hj => ?_, fun j x hj => ?_, fun j l x y w hjl hj hl => ?_, fun b u e n => ?_, fun b e => upd_al b (r.al b e), r.wupd (fun w => na (r.wz a w)) t0.ob.2, r.wz, fun b z => ob_upd (r.zal b z) t.ob⟩,
    ⟨fun b u e n => ?_, fun b z => .inl ((ow_set h).mp z), upd_al⟩⟩
  · by_cases hji : i = j
    · subst hji; rw [list_set_same hi] at hj; cases hj
    · rw [List.getElem?_set_ne hji] at hj
      obtain ⟨v, ev, q⟩ := r.frz j x hj
      exact ⟨v, ev, q.to hR⟩
  · by_cases hji : i = j
    · subst hji
      rw [list_set_same hi] at hj
      cases hj
      exact ⟨a, hs, na, h0, t.to hR rfl⟩
    · rw [List.getElem?_set_ne hji] at hj
      obtain ⟨b, eb, nb, hb, tb⟩ := r.own j x hj
      have ne : b ≠ a := fun e => r.one i j d x _ hji h hj hs (e ▸ eb)
      exact ⟨b, eb, nb, hb, tb.to hR (upd_ne ne)⟩
  · have back : ∀ {j : Nat} {x : D}, (ρ.set i (some (.own d')))[j]? = some (some (Sl.own x)) → ∃ y, ρ[j]? = some (some (Sl.own y)) := fun {j x} q => by
      by_cases hji : i = j
      · subst hji; exact ⟨d, h⟩
      · rw [List.getElem?_set_ne hji] at q; exact ⟨x, q⟩
    obtain ⟨x', hj'⟩ := back hj
    obtain ⟨y', hl'⟩ := back hl
    exact r.one j l x' y' w hjl hj' hl'
  · have ne : b ≠ a := fun z => by rw [z, h0] at e; cases e
    rw [upd_ne ne]
    exact r.ext b u e n
  · have ne : b ≠ a := fun z => n (.inr (z ▸ ⟨i, d, h, hs⟩))
    rw [upd_ne ne]
    exact e
theorem e_popd {f : Expr} {apos px : Pos} {i : Nat} {x : Str} (O : XOk c X) (hN : X.N[i]? = some x) (hv : Vis X.env.scope x) (hd : (x == ("__debug__" : Str)) = false) (hcd : (x == ("__classdict__" : Str)) = false)
    (he : PE X e (tr c H0 Ex cb)) (hf : PE X f (tr c H0 Ex cc)) (m : M2 X (.Name x px) "pop" apos e f pos) : PE X (.Call (.Attribute (.Name x px) "pop" apos) [e, f] [] pos) (tr c H0 Ex (.popd i cb cc)) := by
  refine PE.imp (pe_dpop2 (pe_var hN hv hd hcd) he hf m) fun σ H Q h => ?_
  obtain ⟨Z, ρ, P, r, hev, hk⟩ := h
  rw [ev] at hev
  obtain ⟨h0, hev⟩ := hev
  obtain ⟨kvs0, h0⟩ := isK_of h0
  obtain ⟨a, ea, na, _, t0⟩ := r.own i _ h0
  obtain ⟨ks0, g0, _⟩ := t0
  refine ⟨_, ea, a, rfl, .inl ⟨ks0, .inl g0⟩, Z, ρ, _, r, hev, fun y ky ρ1 vy H1 hp1 r1 s1 v1 => ⟨Z, ρ1, _, r1, hp1, fun z kz ρ2 vz H2 hp2 r2 s2 v2 => ?_⟩⟩
  obtain ⟨hz, kvs, j, h2, hj, hP⟩ := hp2
  obtain ⟨a', ea', na', _, ks, g1, g2, g3⟩ := r2.own i _ h2
  rw [ea] at ea'; cases ea'
  have e1 := v1.weak.key r1 hj
  subst e1
  refine ⟨ks, j, g1, rfl, fun v hv => ?_, fun hv => ?_⟩
  · rcases g3.val j with ⟨w1, w2⟩ | ⟨w, d, w1, w2, w3⟩
    · rw [w1] at hv; cases hv
    · rw [w1] at hv; cases hv
      simp only [w2] at hP
      obtain ⟨r3, s3⟩ := r2.mut (d' := .dct (delD kvs j)) (o := .dK (dropK ks j)) h2 ea ⟨_, upd_same, Nat.le_trans (dropK_le ks j) g2, g3.drop j⟩
      exact hk _ _ _ _ _ hP r3 ((s1.trans s2).trans s3) (Rep.to (s3.R r2.wz) w3)
  · rcases g3.val j with ⟨w1, w2⟩ | ⟨w, d, w1, w2, w3⟩
    · simp only [w2] at hP
      exact hk _ _ _ _ _ hP r2 (s1.trans s2) (v2.weak.scal r2 hz)
    · rw [w1] at hv; cases hv
structure Me (X : Cx) (o : Expr) (m : Str) (apos : Pos) (e : Expr) (cpos : Pos) : Prop where
  base : attributeBase o m X.env (eval o X.env) = eval o X.env
  few : ((backTo cpos (starEach [e] X.env)).all (fun x => !x.1) && (backToKw cpos (keywordEach [] X.env)).all (fun x => x.1.isSome)
    && decide (([e] : List Expr).length + ([] : List Keyword).length + (if ([] : List Keyword).isEmpty then 0 else 1) < 30)) = true
  line : (apos.endLine == cpos.line) = true
  st : starEach [e] X.env = (false, eval e X.env) :: starEach [] X.env
theorem own_tyV {i : Nat} {ds : List D} {a : Addr} (r : RE c H0 Z σ H ρ) (O : XOk c X) (h : ρ[i]? = some (some (.own (.lst ds)))) (hs : σ[i]? = some (some (.ref a))) : ∃ xs, H a = some (.lst xs) ∧ xs.length ≤ sizeLine ∧ RepL c (Rz H (full Z σ ρ)) xs ds ∧ tyV X.K "list" (.ref a) H := by
  obtain ⟨a', e', _, _, xs, g1, g2, g3⟩ := r.own i _ h
  rw [hs] at e'; cases e'
  exact ⟨xs, g1, g2, g3, .inl ⟨rfl, _, SqL.of g1⟩⟩
theorem e_popl {apos px : Pos} {i : Nat} {x : Str} (O : XOk c X) (hN : X.N[i]? = some x) (hv : Vis X.env.scope x) (hd : (x == ("__debug__" : Str)) = false) (hcd : (x == ("__classdict__" : Str)) = false)
    (he : PE X e (tr c H0 Ex cb)) (m : Me X (.Name x px) "pop" apos e pos) :
    PE X (.Call (.Attribute (.Name x px) "pop" apos) [e] [] pos) (tr c H0 Ex (.popl i cb)) := by
  refine PE.imp (pe_bm PySem.F.plainAttrs_list PySem.F.slot_list_pop PySem.F.type_list_pop mt_popAt (pe_var hN hv hd hcd) (pa_cons he pa_nil m.st) m.base m.few m.line m.st rfl) fun σ H Q h => ?_
  obtain ⟨Z, ρ, P, r, hev, hk⟩ := h
  rw [ev] at hev
  obtain ⟨h0, hev⟩ := hev
  obtain ⟨xs0, h0⟩ := isL_of h0
  obtain ⟨a, ea, _, _, _⟩ := r.own i _ h0
  obtain ⟨_, _, _, _, ty⟩ := own_tyV r O h0 ea
  refine ⟨_, ea, ty, Z, ρ, _, r, hev, fun y ky ρ1 vy H1 hp1 r1 s1 v1 => ?_⟩
  obtain ⟨xs, j, d, h1, rfl, hj, hP⟩ := hp1
  obtain ⟨vs, g1, g2, g3, _⟩ := own_tyV r1 O h1 ea
  obtain ⟨w, hw, q⟩ := g3.getD hj
  have hjl : j < vs.length := (List.getElem?_eq_some_iff.mp hw).1
  obtain ⟨r2, s2⟩ := r1.mut (d' := .lst (xs.eraseIdx j)) (o := .lst (vs.eraseIdx j)) h1 ea ⟨_, upd_same, Nat.le_trans (len_erase vs j) g2, g3.erase j⟩
  have e1 := v1.weak.int r1
  subst e1
  have h24 : vs.length ≤ 16777216 := g2
  exact ⟨a, vs, (j : Int), j, w, rfl, rfl, g1, by omega, by omega, seqIndex_of (by omega) (by omega), hw, hk _ _ _ _ _ hP r2 (s1.trans s2) (Rep.to (s2.R r1.wz) q)⟩
end
end Z
end T_Z8
section T_Z9
namespace Z
open PySem L2
/-- the standing sources of a walk -/
structure Sr where
  S : List (V × D)
  L : List (Addr × HO)
structure Sr.At (s : Sr) (c : Cn) (R : Addr → HO → Prop) (σ : L2.St) (ρ : Env) : Prop where
  src : ∀ p ∈ s.S, Rep c R p.1 p.2 ∨ ∃ i : Nat, σ[i]? = some (some p.1) ∧ ρ[i]? = some (some (.own p.2))
  lck : ∀ q ∈ s.L, R q.1 q.2
def Iter (c : Cn) (H0 : Hp) (J : It) (s : Sr) (items : List D) : Prop :=
  ∀ (Z : Addr → Prop) (σ : L2.St) (ρ : Env) (H : Hp) (i : Nat), RE c H0 Z σ H ρ → s.At c (Rz H (full Z σ ρ)) σ ρ →
    (i < items.length → J.go i H) ∧ (i = items.length → J.stop i H) ∧ (i < items.length → ∀ x H', J.yld i H x H' → ∃ it, items[i]? = some it ∧ RE c H0 Z σ H' ρ ∧ Stp c.ws σ ρ H σ ρ H' ∧ Rep c (Rz H' (full Z σ ρ)) x it)
def trI (c : Cn) (H0 : Hp) (E : Xn → Prop) (e : CI) : TI := fun σ H R => ∃ (Z : Addr → Prop) (ρ : Env) (P : List D → Kd → Env → Prop), RE c H0 Z σ H ρ ∧ evi E e ρ P ∧
  ∀ items k ρ' J H' s, P items k ρ' → RE c H0 Z σ H' ρ' → Stp c.ws σ ρ H σ ρ' H' → s.At c (Rz H' (full Z σ ρ')) σ ρ' → (k.no → ∀ p ∈ s.S, Rep c (Rz H' (full Z σ ρ')) p.1 p.2) → Iter c H0 J s items → R J H'
section
variable {c : Cn} {H0 Hs H H1 H2 H' : Hp} {Z : Addr → Prop} {σ σ1 σ2 σ' : L2.St} {ρ ρ1 ρ2 ρ' : Env} {v : V} {d : D} {k : Kd} {Ex : Xn → Prop} {EE : XK}
variable {X : Cx} {a b e : Expr} {es : List Expr} {pos p p2 : Pos} {ca cb cc : CE} {cs : CL}
theorem Sr.At.to {s : Sr} {R R' : Addr → HO → Prop} (h : s.At c R σ ρ) (k : ∀ a u, R a u → R' a u) : s.At c R' σ ρ :=
  ⟨fun p hp => (h.src p hp).imp (fun q => q.to k) id, fun q hq => k _ _ (h.lck q hq)⟩
theorem Sr.one {R : Addr → HO → Prop} (h : Rep c R v d ∨ ∃ i : Nat, σ[i]? = some (some v) ∧ ρ[i]? = some (some (.own d))) : (Sr.mk [(v, d)] []).At c R σ ρ :=
  ⟨fun p hp => by rw [List.mem_singleton] at hp; subst hp; exact h, fun _ h => nomatch h⟩
theorem VR.src (h : VR c H0 Z σ Hs H ρ v d k) : Rep c (Rz H (full Z σ ρ)) v d ∨ ∃ i : Nat, σ[i]? = some (some v) ∧ ρ[i]? = some (some (.own d)) := h.weak
theorem VR.nsrc (h : VR c H0 Z σ Hs H ρ v d k) (n : k.no) : Rep c (Rz H (full Z σ ρ)) v d := by
  cases k with
  | cln => exact h
  | own i => exact n.elim
  | new => exact h.clean
theorem iter_l {a : Addr} {ds : List D} : Iter c H0 (Itl c.K a) ⟨[(.ref a, .lst ds)], []⟩ ds := by
  intro Z σ ρ H i r t
  obtain ⟨a', xs, e, h1, h2, h3⟩ := VW.lst r (show VW c Z σ H ρ (.ref a) (.lst ds) from t.src _ (List.mem_singleton.mpr rfl))
  cases e
  have hs : SqL c.K H a xs := SqL.of h1
  refine ⟨fun hi => ?_, fun hi => ⟨xs, hs, by rw [h3.len]; exact Nat.le_of_eq hi.symm⟩, fun hi x H' hy => ?_⟩
  · have : i < xs.length := by rw [h3.len]; exact hi
    exact ⟨xs, xs[i], hs, List.getElem?_eq_getElem this⟩
  · obtain ⟨rfl, hx⟩ := hy
    obtain ⟨d, hd, q⟩ := h3.getV (hx xs hs)
    exact ⟨d, hd, r, .refl, q⟩
theorem iter_t {a : Addr} {ds : List D} : Iter c H0 (Itt c.K a) ⟨[(.ref a, .tup ds)], []⟩ ds := by
  intro Z σ ρ H i r t
  obtain ⟨a', xs, e, hs, h2, h3⟩ := VW.tup r (show VW c Z σ H ρ (.ref a) (.tup ds) from t.src _ (List.mem_singleton.mpr rfl))
  cases e
  refine ⟨fun hi => ?_, fun hi => ⟨xs, hs, by rw [h3.len]; exact Nat.le_of_eq hi.symm⟩, fun hi x H' hy => ?_⟩
  · have : i < xs.length := by rw [h3.len]; exact hi
    exact ⟨xs, xs[i], hs, List.getElem?_eq_getElem this⟩
  · obtain ⟨rfl, hx⟩ := hy
    obtain ⟨d, hd, q⟩ := h3.getV (hx xs hs)
    exact ⟨d, hd, r, .refl, q⟩
theorem enum_get : ∀ {ds : List D} {i : Nat} (n : Nat) {d : D}, ds[i]? = some d → (enumD n ds)[i]? = some (.tup [.int ((n + i : Nat) : Int), d])
  | d :: ds, 0, n, _, h => by simp at h; subst h; rfl
  | d :: ds, i + 1, n, e, h => by
    have := enum_get (n + 1) (ds := ds) (i := i) (d := e) (by simpa using h)
    rw [show n + 1 + i = n + (i + 1) by omega] at this
    exact this
  | [], _, _, _, h => by simp at h
theorem enum_len : ∀ (ds : List D) (n : Nat), (enumD n ds).length = ds.length
  | [], _ => rfl
  | _ :: ds, n => by simp [enumD, enum_len ds]
theorem pair_new (r : RE c H0 Z σ H ρ) {T : Addr} (hT : H T = none) {x y : V} {d e : D} (h1 : Rep c (Rz H (full Z σ ρ)) x d) (h2 : Rep c (Rz H (full Z σ ρ)) y e) :
    RE c H0 Z σ (upd H T (.tup [x, y])) ρ ∧ Stp c.ws σ ρ H σ ρ (upd H T (.tup [x, y])) ∧ Rep c (Rz (upd H T (.tup [x, y])) (full Z σ ρ)) (.ref T) (.tup [d, e]) :=
  VR.newT (Hs := H) r hT (by show 2 ≤ sizeLine; decide) (.cons h1 (.cons h2 .nil))
theorem iter_e {a : Addr} {ds : List D} : Iter c H0 (Ite c.K a) ⟨[(.ref a, .lst ds)], []⟩ (enumD 0 ds) := by
  intro Z σ ρ H i r t
  obtain ⟨a', xs, e, h1, h2, h3⟩ := VW.lst r (show VW c Z σ H ρ (.ref a) (.lst ds) from t.src _ (List.mem_singleton.mpr rfl))
  cases e
  have hs : SqL c.K H a xs := SqL.of h1
  rw [enum_len]
  refine ⟨fun hi => ?_, fun hi => ⟨xs, hs, by rw [h3.len]; exact Nat.le_of_eq hi.symm⟩, fun hi x H' hy => ?_⟩
  · have : i < xs.length := by rw [h3.len]; exact hi
    exact ⟨xs, xs[i], hs, List.getElem?_eq_getElem this⟩
  · obtain ⟨T, y, rfl, hT, rfl, hx⟩ := hy
    obtain ⟨d, hd, q⟩ := h3.getV (hx xs hs)
    obtain ⟨a1, a2, a3⟩ := pair_new r hT (.int (i : Nat)) q
    refine ⟨_, enum_get 0 hd, a1, a2, ?_⟩
    rw [Nat.zero_add]
    exact a3
theorem iter_eT {a : Addr} {ds : List D} : Iter c H0 (IteT c.K a) ⟨[(.ref a, .tup ds)], []⟩ (enumD 0 ds) := by
  intro Z σ ρ H i r t
  obtain ⟨a', xs, e, hs, h2, h3⟩ := VW.tup r (show VW c Z σ H ρ (.ref a) (.tup ds) from t.src _ (List.mem_singleton.mpr rfl))
  cases e
  rw [enum_len]
  refine ⟨fun hi => ?_, fun hi => ⟨xs, hs, by rw [h3.len]; exact hi.symm⟩, fun hi x H' hy => ?_⟩
  · have : i < xs.length := by rw [h3.len]; exact hi
    exact ⟨xs, xs[i], hs, List.getElem?_eq_getElem this⟩
  · obtain ⟨T, y, rfl, hT, rfl, hx⟩ := hy
    obtain ⟨d, hd, q⟩ := h3.getV (hx xs hs)
    obtain ⟨a1, a2, a3⟩ := pair_new r hT (.int (i : Nat)) q
    refine ⟨_, enum_get 0 hd, a1, a2, ?_⟩
    rw [Nat.zero_add]
    exact a3
theorem iter_r {lo : Int} {n : Nat} : Iter c H0 (Itr lo n) ⟨[], []⟩ (rngD lo n) := by
  intro Z σ ρ H i r t
  have hl : (rngD lo n).length = n := by simp [rngD]
  rw [hl]
  refine ⟨fun hi => hi, fun hi => Nat.le_of_eq hi.symm, fun hi x H' hy => ?_⟩
  obtain ⟨rfl, rfl⟩ := hy
  exact ⟨.int (lo + (i : Nat)), by simp [rngD, hi], r, .refl, .int _⟩
theorem zip_len : ∀ (xs ys : List D), (zipD xs ys).length = min xs.length ys.length
  | [], ys => by simp [zipD]
  | x :: xs, [] => by simp [zipD]
  | x :: xs, y :: ys => by simp [zipD, zip_len xs ys]
theorem zip_get : ∀ {xs ys : List D} {i : Nat} {x y : D}, xs[i]? = some x → ys[i]? = some y → (zipD xs ys)[i]? = some (.tup [x, y])
  | x :: xs, y :: ys, 0, _, _, h, k => by simp at h k; subst h k; rfl
  | x :: xs, y :: ys, i + 1, _, _, h, k => by
    have := zip_get (xs := xs) (ys := ys) (i := i) (by simpa using h) (by simpa using k)
    simpa [zipD] using this
  | [], _, _, _, _, h, _ => by simp at h
  | _ :: _, [], _, _, _, _, k => by simp at k
theorem Sr.two {R : Addr → HO → Prop} {w : V} {e : D} (h : Rep c R v d ∨ ∃ i : Nat, σ[i]? = some (some v) ∧ ρ[i]? = some (some (.own d))) (h2 : Rep c R w e ∨ ∃ i : Nat, σ[i]? = some (some w) ∧ ρ[i]? = some (some (.own e))) : (Sr.mk [(v, d), (w, e)] []).At c R σ ρ :=
  ⟨fun p hp => by
    rcases List.mem_cons.mp hp with q | q
    · subst q; exact h
    · rw [List.mem_singleton] at q; subst q; exact h2, fun _ h => nomatch h⟩
theorem iter_z {a b : Addr} {ds es : List D} : Iter c H0 (ItzM .l .l c.K a b) ⟨[(.ref a, .lst ds), (.ref b, .lst es)], []⟩ (zipD ds es) := by
  intro Z σ ρ H i r t
  obtain ⟨a', xs, e, h1, h2, h3⟩ := VW.lst r (show VW c Z σ H ρ (.ref a) (.lst ds) from t.src (_, _) (List.mem_cons_self))
  obtain ⟨b', ys, e', g1, g2, g3⟩ := VW.lst r (show VW c Z σ H ρ (.ref b) (.lst es) from t.src (_, _) (List.mem_cons_of_mem _ List.mem_cons_self))
  cases e; cases e'
  have hs : SqS .l c.K H a xs := SqL.of h1
  have gs : SqS .l c.K H b ys := SqL.of g1
  have l1 := h3.len
  have l2 := g3.len
  rw [zip_len]
  refine ⟨fun hi => ?_, fun hi => ⟨xs, ys, hs, gs, by omega⟩, fun hi x H' hy => ?_⟩
  · have a1 : i < xs.length := by omega
    have a2 : i < ys.length := by omega
    exact ⟨xs, ys, xs[i], ys[i], hs, gs, List.getElem?_eq_getElem a1, List.getElem?_eq_getElem a2⟩
  · obtain ⟨T, x, y, rfl, hT, rfl, hx, hy⟩ := hy
    obtain ⟨d, hd, q⟩ := h3.getV (hx xs hs)
    obtain ⟨f, hf, q2⟩ := g3.getV (hy ys gs)
    obtain ⟨a1, a2, a3⟩ := pair_new r hT q q2
    exact ⟨_, zip_get hd hf, a1, a2, a3⟩
theorem iter_zT {a b : Addr} {ds es : List D} : Iter c H0 (ItzM .t .t c.K a b) ⟨[(.ref a, .tup ds), (.ref b, .tup es)], []⟩ (zipD ds es) := by
  intro Z σ ρ H i r t
  obtain ⟨a', xs, e, hs, h2, h3⟩ := VW.tup r (show VW c Z σ H ρ (.ref a) (.tup ds) from t.src (_, _) (List.mem_cons_self))
  obtain ⟨b', ys, e', gs, g2, g3⟩ := VW.tup r (show VW c Z σ H ρ (.ref b) (.tup es) from t.src (_, _) (List.mem_cons_of_mem _ List.mem_cons_self))
  cases e; cases e'
  have hs : SqS .t c.K H a xs := hs
  have gs : SqS .t c.K H b ys := gs
  have l1 := h3.len
  have l2 := g3.len
  rw [zip_len]
  refine ⟨fun hi => ?_, fun hi => ⟨xs, ys, hs, gs, by omega⟩, fun hi x H' hy => ?_⟩
  · have a1 : i < xs.length := by omega
    have a2 : i < ys.length := by omega
    exact ⟨xs, ys, xs[i], ys[i], hs, gs, List.getElem?_eq_getElem a1, List.getElem?_eq_getElem a2⟩
  · obtain ⟨T, x, y, rfl, hT, rfl, hx, hy⟩ := hy
    obtain ⟨d, hd, q⟩ := h3.getV (hx xs hs)
    obtain ⟨f, hf, q2⟩ := g3.getV (hy ys gs)
    obtain ⟨a1, a2, a3⟩ := pair_new r hT q q2
    exact ⟨_, zip_get hd hf, a1, a2, a3⟩
theorem iter_lt {a b : Addr} {ds es : List D} : Iter c H0 (ItzM .l .t c.K a b) ⟨[(.ref a, .lst ds), (.ref b, .tup es)], []⟩ (zipD ds es) := by
  intro Z σ ρ H i r t
  obtain ⟨a', xs, e, h1, h2, h3⟩ := VW.lst r (show VW c Z σ H ρ (.ref a) (.lst ds) from t.src (_, _) (List.mem_cons_self))
  obtain ⟨b', ys, e', gs, g2, g3⟩ := VW.tup r (show VW c Z σ H ρ (.ref b) (.tup es) from t.src (_, _) (List.mem_cons_of_mem _ List.mem_cons_self))
  cases e; cases e'
  have hs : SqS .l c.K H a xs := SqL.of h1
  have gs : SqS .t c.K H b ys := gs
  have l1 := h3.len
  have l2 := g3.len
  rw [zip_len]
  refine ⟨fun hi => ?_, fun hi => ⟨xs, ys, hs, gs, by omega⟩, fun hi x H' hy => ?_⟩
  · have a1 : i < xs.length := by omega
    have a2 : i < ys.length := by omega
    exact ⟨xs, ys, xs[i], ys[i], hs, gs, List.getElem?_eq_getElem a1, List.getElem?_eq_getElem a2⟩
  · obtain ⟨T, x, y, rfl, hT, rfl, hx, hy⟩ := hy
    obtain ⟨d, hd, q⟩ := h3.getV (hx xs hs)
    obtain ⟨f, hf, q2⟩ := g3.getV (hy ys gs)
    obtain ⟨a1, a2, a3⟩ := pair_new r hT q q2
    exact ⟨_, zip_get hd hf, a1, a2, a3⟩
theorem iter_tl {a b : Addr} {ds es : List D} : Iter c H0 (ItzM .t .l c.K a b) ⟨[(.ref a, .tup ds), (.ref b, .lst es)], []⟩ (zipD ds es) := by
  intro Z σ ρ H i r t
  obtain ⟨a', xs, e, hs, h2, h3⟩ := VW.tup r (show VW c Z σ H ρ (.ref a) (.tup ds) from t.src (_, _) (List.mem_cons_self))
  obtain ⟨b', ys, e', g1, g2, g3⟩ := VW.lst r (show VW c Z σ H ρ (.ref b) (.lst es) from t.src (_, _) (List.mem_cons_of_mem _ List.mem_cons_self))
  cases e; cases e'
  have hs : SqS .t c.K H a xs := hs
  have gs : SqS .l c.K H b ys := SqL.of g1
  have l1 := h3.len
  have l2 := g3.len
  rw [zip_len]
  refine ⟨fun hi => ?_, fun hi => ⟨xs, ys, hs, gs, by omega⟩, fun hi x H' hy => ?_⟩
  · have a1 : i < xs.length := by omega
    have a2 : i < ys.length := by omega
    exact ⟨xs, ys, xs[i], ys[i], hs, gs, List.getElem?_eq_getElem a1, List.getElem?_eq_getElem a2⟩
  · obtain ⟨T, x, y, rfl, hT, rfl, hx, hy⟩ := hy
    obtain ⟨d, hd, q⟩ := h3.getV (hx xs hs)
    obtain ⟨f, hf, q2⟩ := g3.getV (hy ys gs)
    obtain ⟨a1, a2, a3⟩ := pair_new r hT q q2
    exact ⟨_, zip_get hd hf, a1, a2, a3⟩
theorem iter_k {a : Addr} {o : Obj} {ks : List (Key × V)} : Iter c H0 (Itk a o ks) ⟨[], [(a, .frz o (.dK ks))]⟩ (ks.map fun kv => .ofKey kv.1) := by
  intro Z σ ρ H i r t
  have hd : H a = some (.frz o (.dK ks)) := by
    obtain ⟨_, q | ⟨q, _⟩⟩ := t.lck _ (List.mem_singleton.mpr rfl)
    · exact q
    · cases q
  refine ⟨fun hi => ⟨hd, by simpa using hi⟩, fun hi => ⟨hd, by simp at hi; omega⟩, fun hi x H' hy => ?_⟩
  obtain ⟨rfl, k, v, hk, rfl⟩ := hy
  exact ⟨.ofKey k, by simp [hk], r, .refl, Rep.ofKey k⟩
/-- a dict that is walked is locked -/
def frzn : CI → L2.St → Hp → Prop
  | .key i, σ, H => ∃ (d : Addr) (o : Obj) (w : HO), σ[i]? = some (some (.ref d)) ∧ H d = some (.frz o w)
  | _, _, _ => True
theorem no_src {R : Addr → HO → Prop} : (Sr.mk [] []).At c R σ ρ := ⟨fun _ h => (nomatch h), fun _ h => nomatch h⟩
theorem no_srcn {R : Addr → HO → Prop} : ∀ p ∈ (Sr.mk [] []).S, Rep c R p.1 p.2 := fun _ h => nomatch h
theorem i_seq {tg : Expr} (O : XOk c X) (ha : PE X a (tr c H0 Ex ca)) : PI X tg a (trI c H0 Ex (.seq ca)) := by
  refine PI.imp (pi_seqA ha) fun σ H R h => ?_
  obtain ⟨Z, ρ, P, r, hev, hk⟩ := h
  rw [evi] at hev
  refine ⟨Z, ρ, _, r, hev, fun x k ρ1 vx H1 hp r1 s1 v1 => ?_⟩
  cases x <;> try exact hp.elim
  case lst xs =>
    obtain ⟨q, vs, rfl, h1, h2, h3⟩ := v1.weak.lst r1
    refine ⟨q, vs, rfl, .inl ⟨SqL.of h1, ?_⟩⟩
    rw [O.K]
    refine hk _ _ _ _ _ ⟨[(.ref q, .lst xs)], []⟩ hp r1 s1 (Sr.one v1.src) (fun n p hp => ?_) iter_l
    rw [List.mem_singleton] at hp; subst hp; exact v1.nsrc n
  case tup xs =>
    obtain ⟨q, vs, rfl, h1, h2, h3⟩ := v1.weak.tup r1
    refine ⟨q, vs, rfl, .inr (.inl ⟨by rw [O.K]; exact h1, ?_⟩)⟩
    rw [O.K]
    refine hk _ _ _ _ _ ⟨[(.ref q, .tup xs)], []⟩ hp r1 s1 (Sr.one v1.src) (fun n p hp => ?_) iter_t
    rw [List.mem_singleton] at hp; subst hp; exact v1.nsrc n
  case rng lo hi =>
    obtain ⟨q, rfl, h1⟩ := v1.weak.rng r1
    obtain ⟨hb, hP⟩ := hp
    have hbb : (big : Int) < 2 ^ 61 := by decide
    exact ⟨q, [], rfl, .inr (.inr ⟨lo, hi, h1, ⟨by omega, by omega, by omega, by omega⟩, hk _ _ _ _ _ _ hP r1 s1 no_src (fun _ => no_srcn) iter_r⟩)⟩
theorem i_rng1 {tg : Expr} (hg : Gl X "range") (hm : X.mg "range" = none) (ha : PE X a (tr c H0 Ex ca)) (hs : starEach [a] X.env = [(false, eval a X.env)]) : PI X tg (.Call (.Name "range" p) [a] [] pos) (trI c H0 Ex (.rng1 ca)) := by
  refine PI.imp (pi_range1 hg hm (pa_cons ha pa_nil hs) hs) fun σ H R h => ?_
  obtain ⟨Z, ρ, P, r, hev, hk⟩ := h
  rw [evi] at hev
  refine ⟨Z, ρ, _, r, hev, fun x k ρ1 v H1 hp r1 s1 v1 => ?_⟩
  obtain ⟨j, rfl, h1, h2, hP⟩ := hp
  have hb : (big : Int) < 2 ^ 62 := by decide
  exact ⟨j, by rw [v1.weak.int r1], h2, by omega, hk _ _ _ _ _ _ hP r1 s1 no_src (fun _ => no_srcn) iter_r⟩
theorem i_rng {tg : Expr} (hg : Gl X "range") (hm : X.mg "range" = none) (ha : PE X a (tr c H0 Ex ca)) (hb : PE X b (tr c H0 Ex cb)) (hs : starEach [a, b] X.env = [(false, eval a X.env), (false, eval b X.env)]) (hs2 : starEach [b] X.env = [(false, eval b X.env)]) :
    PI X tg (.Call (.Name "range" p) [a, b] [] pos) (trI c H0 Ex (.rng ca cb)) := by
  refine PI.imp (pi_range2 hg hm (pa_cons ha (pa_cons hb pa_nil hs2) (by rw [hs, hs2])) hs hs2) fun σ H R h => ?_
  obtain ⟨Z, ρ, P, r, hev, hk⟩ := h
  rw [evi] at hev
  refine ⟨Z, ρ, _, r, hev, fun x k ρ1 v H1 hp r1 s1 v1 => ⟨Z, ρ1, _, r1, hp, fun y k2 ρ2 w H2 hp2 r2 s2 v2 => ?_⟩⟩
  obtain ⟨i, j, rfl, rfl, h1, h2, h3, h4, hP⟩ := hp2
  have hb : (big : Int) < 2 ^ 61 := by decide
  exact ⟨i, j, by rw [v1.weak.int r1, v2.weak.int r2], ⟨by omega, by omega, by omega, by omega⟩, hk _ _ _ _ _ _ hP r2 (s1.trans s2) no_src (fun _ => no_srcn) iter_r⟩
theorem i_enum {elts : List Expr} {kk : Nat} {tpos : Pos} (O : XOk c X) (hg : Gl X "enumerate") (hm : X.mg "enumerate" = none) (ha : PE X a (tr c H0 Ex ca)) (hs : starEach [a] X.env = [(false, eval a X.env)]) :
    PI X (.Tuple elts kk tpos) (.Call (.Name "enumerate" p) [a] [] pos) (trI c H0 Ex (.enum ca)) := by
  refine PI.imp (pi_enumA hg hm (pa_cons ha pa_nil hs) hs) fun σ H R h => ?_
  obtain ⟨Z, ρ, P, r, hev, hk⟩ := h
  rw [evi] at hev
  refine ⟨Z, ρ, _, r, hev, fun x k ρ1 v H1 hp r1 s1 v1 => ?_⟩
  cases x <;> try exact hp.elim
  case lst xs =>
    obtain ⟨q, vs, rfl, h1, h2, h3⟩ := v1.weak.lst r1
    refine ⟨q, vs, rfl, .inl ⟨SqL.of h1, ?_⟩⟩
    rw [O.K]
    refine hk _ _ _ _ _ ⟨[(.ref q, .lst xs)], []⟩ hp r1 s1 (Sr.one v1.src) (fun n p hp => ?_) iter_e
    rw [List.mem_singleton] at hp; subst hp; exact v1.nsrc n
  case tup xs =>
    obtain ⟨q, vs, rfl, h1, h2, h3⟩ := v1.weak.tup r1
    refine ⟨q, vs, rfl, .inr ⟨by rw [O.K]; exact h1, ?_⟩⟩
    rw [O.K]
    refine hk _ _ _ _ _ ⟨[(.ref q, .tup xs)], []⟩ hp r1 s1 (Sr.one v1.src) (fun n p hp => ?_) iter_eT
    rw [List.mem_singleton] at hp; subst hp; exact v1.nsrc n
theorem VW.src (h : VW c Z σ H ρ v d) : Rep c (Rz H (full Z σ ρ)) v d ∨ ∃ i : Nat, σ[i]? = some (some v) ∧ ρ[i]? = some (some (.own d)) := h
theorem VR.knsrc (h : VR c H0 Z σ Hs H ρ v d k) (hw : ∀ a, c.ws a → Z a) (s : Stp c.ws σ ρ H σ ρ' H') (n : k.no) : Rep c (Rz H' (full Z σ ρ')) v d := (h.nsrc n).to (s.R hw)
theorem zk_no {k k2 : Kd} (h : (zk k k2).no) : k.no ∧ k2.no := by cases k <;> cases k2 <;> first | exact ⟨trivial, trivial⟩ | exact h.elim
theorem i_zip {elts : List Expr} {kk : Nat} {tpos : Pos} (O : XOk c X) (hg : Gl X "zip") (hm : X.mg "zip" = none) (ha : PE X a (tr c H0 Ex ca)) (hb : PE X b (tr c H0 Ex cb)) (hs : starEach [a, b] X.env = (false, eval a X.env) :: starEach [b] X.env) (hs2 : starEach [b] X.env = [(false, eval b X.env)]) :
    PI X (.Tuple elts kk tpos) (.Call (.Name "zip" p) [a, b] [] pos) (trI c H0 Ex (.zip ca cb)) := by
  refine PI.imp (pi_zipM hg hm (pa_cons ha (pa_cons hb pa_nil hs2) hs) hs (by rw [hs2]; rfl)) fun σ H R h => ?_
  obtain ⟨Z, ρ, P, r, hev, hk⟩ := h
  rw [evi] at hev
  refine ⟨Z, ρ, _, r, hev, fun x k ρ1 v H1 hp r1 s1 v1 => ⟨Z, ρ1, _, r1, hp, fun y k2 ρ2 w H2 hp2 r2 s2 v2 => ?_⟩⟩
  obtain ⟨st, hp2⟩ := hp2
  have w1 := v1.keep r1.wz s2 st
  have fin : ∀ {d e : D} (hn : (zk k k2).no), VR c H0 Z σ H H1 ρ1 v d k → VR c H0 Z σ H1 H2 ρ2 w e k2 → ∀ p ∈ (Sr.mk [(v, d), (w, e)] []).S, Rep c (Rz H2 (full Z σ ρ2)) p.1 p.2 := fun {d e} hn q1 q2 p hp => by
    obtain ⟨n1, n2⟩ := zk_no hn
    rcases List.mem_cons.mp hp with z | z
    · subst z; exact q1.knsrc r1.wz s2 n1
    · rw [List.mem_singleton] at z; subst z; exact q2.nsrc n2
  cases x <;> try exact hp2.elim
  case lst xs =>
    obtain ⟨q, vs, rfl, h1, h2, h3⟩ := w1.lst r2
    cases y <;> try exact hp2.elim
    case lst ys =>
      obtain ⟨q', us, rfl, g1, g2, g3⟩ := v2.weak.lst r2
      refine ⟨.l, .l, q, q', vs, us, rfl, SqL.of h1, SqL.of g1, ?_⟩
      rw [O.K]
      exact hk _ _ _ _ _ ⟨[(.ref q, .lst xs), (.ref q', .lst ys)], []⟩ hp2 r2 (s1.trans s2) (Sr.two w1.src v2.src) (fun n => fin n v1 v2) iter_z
    case tup ys =>
      obtain ⟨q', us, rfl, g1, g2, g3⟩ := v2.weak.tup r2
      refine ⟨.l, .t, q, q', vs, us, rfl, SqL.of h1, (show SqT _ _ _ _ by rw [O.K]; exact g1), ?_⟩
      rw [O.K]
      exact hk _ _ _ _ _ ⟨[(.ref q, .lst xs), (.ref q', .tup ys)], []⟩ hp2 r2 (s1.trans s2) (Sr.two w1.src v2.src) (fun n => fin n v1 v2) iter_lt
  case tup xs =>
    obtain ⟨q, vs, rfl, h1, h2, h3⟩ := w1.tup r2
    cases y <;> try exact hp2.elim
    case lst ys =>
      obtain ⟨q', us, rfl, g1, g2, g3⟩ := v2.weak.lst r2
      refine ⟨.t, .l, q, q', vs, us, rfl, (show SqT _ _ _ _ by rw [O.K]; exact h1), SqL.of g1, ?_⟩
      rw [O.K]
      exact hk _ _ _ _ _ ⟨[(.ref q, .tup xs), (.ref q', .lst ys)], []⟩ hp2 r2 (s1.trans s2) (Sr.two w1.src v2.src) (fun n => fin n v1 v2) iter_tl
    case tup ys =>
      obtain ⟨q', us, rfl, g1, g2, g3⟩ := v2.weak.tup r2
      refine ⟨.t, .t, q, q', vs, us, rfl, (show SqT _ _ _ _ by rw [O.K]; exact h1), (show SqT _ _ _ _ by rw [O.K]; exact g1), ?_⟩
      rw [O.K]
      exact hk _ _ _ _ _ ⟨[(.ref q, .tup xs), (.ref q', .tup ys)], []⟩ hp2 r2 (s1.trans s2) (Sr.two w1.src v2.src) (fun n => fin n v1 v2) iter_zT
end
end Z
end T_Z9
section T_ZA
namespace Z
open PySem L2
def isFz : HO → Bool
  | .frz _ _ => true
  | _ => false
section
variable {c : Cn} {R R' : Addr → HO → Prop}
theorem Rep.toN (h : ∀ a u, isFz u = false → R a u → R' a u) {v : V} {d : D} (r : Rep c R v d) : Rep c R' v d :=
  Rep.rec (motive_1 := fun v d _ => Rep c R' v d) (motive_2 := fun v d _ => RepL c R' v d) (motive_3 := fun v d _ => RepK c R' v d) (motive_4 := fun v d _ => RepF c R' v d)
    .non .bl .int .str (fun r z _ l => .lst (h _ _ rfl r) z l) (fun r z _ l => .tup (h _ _ rfl r) z l) (fun r z _ l => .ktup r z l) (fun r z _ l => .dct (h _ _ rfl r) z l) (fun m r _ l => .ins m (h _ _ rfl r) l) (fun e => .drw e) .opq (fun lo hi r => .rng lo hi (h _ _ rfl r)) (fun m i r => .exc0 m i (h _ _ rfl r)) (fun m i r r2 _ l => .exc1 m i (h _ _ rfl r) (h _ _ rfl r2) l) (fun e r r2 => .clo e (h _ _ rfl r) (h _ _ rfl r2)) (fun e => .fnv e) (fun r r2 => .lamc (h _ _ rfl r) (h _ _ rfl r2))
    .nil (fun _ _ a b => .cons a b) .nil (fun k _ _ _ _ _ _ a b => .cons k a b) .nil (fun k _ _ _ _ _ _ a b => .cons k a b) r
theorem RepL.toN (h : ∀ a u, isFz u = false → R a u → R' a u) : ∀ {vs : List V} {ds : List D}, RepL c R vs ds → RepL c R' vs ds
  | _, _, .nil => .nil
  | _, _, .cons a b => .cons (a.toN h) (RepL.toN h b)
theorem RepK.toN (h : ∀ a u, isFz u = false → R a u → R' a u) : ∀ {vs : List (Key × V)} {ds : List (Key × D)}, RepK c R vs ds → RepK c R' vs ds
  | _, _, .nil => .nil
  | _, _, .cons k a b => .cons k (a.toN h) (RepK.toN h b)
end
section
variable {c : Cn} {H0 Hs H H1 H2 H' : Hp} {Z : Addr → Prop} {σ σ1 σ2 σ' : L2.St} {ρ ρ1 ρ2 ρ' : Env} {v : V} {d : D} {k : Kd} {Ex : Xn → Prop} {EE : XK}
variable {X : Cx} {a b e : Expr} {es : List Expr} {pos p p2 : Pos} {ca cb cc : CE} {cs : CL} {od : Obj} {ks : List (Key × V)}
theorem TopAt.toN {R R' : Addr → HO → Prop} (h : ∀ a u, isFz u = false → R a u → R' a u) {a : Addr} {d : D} (e : H' a = H a) (t : TopAt c H R a d) : TopAt c H' R' a d := by
  cases d <;> try exact t
  · obtain ⟨xs, x, y, z⟩ := t; exact ⟨xs, by rw [e]; exact x, y, z.toN h⟩
  · obtain ⟨xs, x, y, z⟩ := t; exact ⟨xs, by rw [e]; exact x, y, z.toN h⟩
theorem TopAt.nfz {R : Addr → HO → Prop} {a q : Addr} {d : D} (t : TopAt c H R a d) {w : HO} (hq : H q = some w) (hw : isFz w = true) : a ≠ q := by
  intro e; subst e
  cases d <;> first | exact t.elim | (obtain ⟨xs, x, _⟩ := t; rw [hq] at x; cases x; cases hw)
/-- the entry's heap, the dict at q locked in it too -/
def lk (H0 : Hp) (q : Addr) (w : HO) : Hp := fun b => if b = q ∧ H0 q ≠ none then some w else H0 b
theorem lk_ne {q b : Addr} {w : HO} (h : b ≠ q) : lk H0 q w b = H0 b := by unfold lk; rw [if_neg fun z => h z.1]
theorem lk_none {q b : Addr} {w : HO} : lk H0 q w b = none ↔ H0 b = none := by
  unfold lk
  by_cases e : b = q ∧ H0 q ≠ none
  · rw [if_pos e]; obtain ⟨rfl, e⟩ := e; simp [e]
  · rw [if_neg e]
theorem RE.lock (r : RE c H0 Z σ H ρ) {q : Addr} (hq : H q = some (.dK ks)) (nf : ¬ full Z σ ρ q) : RE c (lk H0 q (.frz od (.dK ks))) Z σ (upd H q (.frz od (.dK ks))) ρ := by
  have hR : ∀ (Z' : Addr → Prop) a u, Rz H Z' a u → Rz (upd H q (.frz od (.dK ks))) Z' a u := fun Z' a u h => by
    refine ⟨h.1, ?_⟩
    by_cases e : a = q
    · subst e
      rw [upd_same]
      rcases h.2 with z | ⟨_, o, z⟩ <;> rw [hq] at z <;> cases z
      exact .inr ⟨rfl, od, rfl⟩
    · rw [upd_ne e]; exact h.2
  have ne : ∀ {a}, full Z σ ρ a → a ≠ q := fun h e => nf (e ▸ h)
  refine ⟨r.len, fun i d h => ?_, fun i d h => ?_, r.one, fun b o e n => ?_, fun b e => upd_al b (r.al b fun z => e (lk_none.mpr z)), r.wupd (fun w => nf (.inl (r.wz q w))) (fun φ e => by rw [hq] at e; cases e), r.wz, fun a z => ob_upd (r.zal a z) (ob_at upd_same fun _ z => nomatch z)⟩
  · obtain ⟨v, e, w⟩ := r.frz i d h
    exact ⟨v, e, w.to (hR _)⟩
  · obtain ⟨a, e, n, h0, t⟩ := r.own i d h
    exact ⟨a, e, n, lk_none.mpr h0, t.to (hR _) (upd_ne (ne (.inr ⟨i, d, h, e⟩)))⟩
  · by_cases z : b = q
    · subst z
      rw [upd_same]
      unfold lk at e
      by_cases hb : H0 b = none
      · rw [if_neg fun z => z.2 hb, hb] at e; cases e
      · rw [if_pos ⟨rfl, hb⟩] at e; exact e
    · rw [upd_ne z]
      rw [lk_ne z] at e
      exact r.ext b o e n
theorem RE.unlock {q : Addr} (r : RE c (lk H0 q (.frz od (.dK ks))) Z σ H ρ) (hq : H q = some (.frz od (.dK ks))) (h0 : ∀ o, H0 q = some o → ¬ c.ws q → o = .dK ks) (nw : ¬ c.ws q) : RE c H0 Z σ (upd H q (.dK ks)) ρ := by
  have hR : ∀ (Z' : Addr → Prop) a u, isFz u = false → Rz H Z' a u → Rz (upd H q (.dK ks)) Z' a u := fun Z' a u hu h => by
    refine ⟨h.1, ?_⟩
    by_cases e : a = q
    · subst e
      rw [upd_same]
      rcases h.2 with z | ⟨_, o, z⟩ <;> rw [hq] at z <;> cases z
      · cases hu
      · exact .inl rfl
    · rw [upd_ne e]; exact h.2
  refine ⟨r.len, fun i d h => ?_, fun i d h => ?_, r.one, fun b o e n => ?_, fun b e => upd_al b (r.al b fun z => e (lk_none.mp z)), r.wupd nw (fun φ e => by rw [hq] at e; cases e), r.wz, fun a z => ob_upd (r.zal a z) (ob_at upd_same fun _ z => nomatch z)⟩
  · obtain ⟨v, e, w⟩ := r.frz i d h
    exact ⟨v, e, w.toN (hR _)⟩
  · obtain ⟨a, e, n, g0, t⟩ := r.own i d h
    exact ⟨a, e, n, lk_none.mp g0, t.toN (hR _) (upd_ne (t.nfz hq rfl))⟩
  · by_cases z : b = q
    · subst z
      rw [upd_same, h0 o e n]
    · rw [upd_ne z]
      exact r.ext b o (by rw [lk_ne z]; exact e) n
theorem Rz.unlock {q : Addr} {Z' : Addr → Prop} (hq : H q = some (.frz od (.dK ks))) : ∀ a u, isFz u = false → Rz H Z' a u → Rz (upd H q (.dK ks)) Z' a u := fun a u hu h => by
  refine ⟨h.1, ?_⟩
  by_cases e : a = q
  · subst e
    rw [upd_same]
    rcases h.2 with z | ⟨_, o, z⟩ <;> rw [hq] at z <;> cases z
    · cases hu
    · exact .inl rfl
  · rw [upd_ne e]; exact h.2
theorem VR.unlock {q : Addr} (h : VR c (lk H0 q (.frz od (.dK ks))) Z σ (upd Hs q (.frz od (.dK ks))) H ρ v d k) (hs : Hs q = some (.dK ks)) (hq : H q = some (.frz od (.dK ks))) (h0 : ∀ o, H0 q = some o → ¬ c.ws q → o = .dK ks) (nw : ¬ c.ws q) :
    VR c H0 Z σ Hs (upd H q (.dK ks)) ρ v d k := by
  cases k with
  | cln => exact Rep.toN (Rz.unlock hq) h
  | own i => exact h
  | new =>
    obtain ⟨a, e1, e2, e3, e4, e5⟩ := h
    have ne : a ≠ q := e5.nfz hq rfl
    exact ⟨a, e1, by rw [upd_ne ne] at e2; exact e2, e3, e4.unlock hq h0 nw, e5.toN (Rz.unlock hq) (upd_ne ne)⟩
theorem Stp.unlock {q : Addr} (s : Stp c.ws σ ρ (upd H q (.frz od (.dK ks))) σ' ρ' H') (hq : H q = some (.dK ks)) : Stp c.ws σ ρ H σ' ρ' (upd H' q (.dK ks)) where
  keep b o e n := by
    by_cases z : b = q
    · subst z; rw [hq] at e; cases e; exact upd_same
    · rw [upd_ne z]; exact s.keep b o (by rw [upd_ne z]; exact e) n
  ow b e := (s.ow b e).imp id fun z => by
    by_cases w : b = q
    · subst w; rw [upd_same] at z; cases z
    · rw [upd_ne w] at z; exact z
  al b e := upd_al b (s.al b (upd_al b e))
/-- the dict in slot i is locked -/
def FzN (i : Nat) (σ : L2.St) (H : Hp) : Prop := ∃ (d : Addr) (o : Obj) (w : HO), σ[i]? = some (some (.ref d)) ∧ H d = some (.frz o w)
def IsDct (i : Nat) (ρ : Env) : Prop := ∃ kvs, ρ[i]? = some (some (.frz (.dct kvs)))
/-- an expression's reading, with the dicts in the slots ks locked -/
def trF (all ks : List Nat) (c : Cn) (H0 : Hp) (E : Xn → Prop) (e : CE) : TE := fun σ H Q => (∀ i ∈ ks, FzN i σ H) ∧ ∃ (Z : Addr → Prop) (ρ : Env) (P : Kt), RE c H0 Z σ H ρ ∧ (∀ i ∈ all, IsDct i ρ) ∧ ev E e ρ P ∧
  ∀ d k ρ' v H', P d k ρ' → RE c H0 Z σ H' ρ' → Stp c.ws σ ρ H σ ρ' H' → VR c H0 Z σ H H' ρ' v d k → Q v H'
theorem dct_at (r : RE c H0 Z σ H ρ) {i : Nat} (h : IsDct i ρ) : ∃ (q : Addr) (ks : List (Key × V)), σ[i]? = some (some (.ref q)) ∧ ¬ full Z σ ρ q ∧ (H q = some (.dK ks) ∨ ∃ o, H q = some (.frz o (.dK ks))) := by
  obtain ⟨kvs, h⟩ := h
  obtain ⟨v, e, w⟩ := r.frz i _ h
  cases w with
  | dct q _ _ => exact ⟨_, _, e, q.1, q.2.imp id fun z => z.2⟩
theorem PE.ex {α : Type} {t : α → TE} (h : ∀ x, PE X e (t x)) : PE X e (fun σ H Q => ∃ x, t x σ H Q) := ⟨fun pins s σ H Q I ⟨x, q⟩ => (h x).run pins s σ H Q I q⟩
theorem PS.ex {α : Type} {st : Stmt} {t : α → TS} (h : ∀ x, PS X st (t x)) : PS X st (fun D σ H => ∃ x, t x D σ H) := ⟨fun pins s σ H D I ⟨x, q⟩ => (h x).run pins s σ H D I q⟩
theorem PS.or {st : Stmt} {t t' : TS} (h : PS X st t) (h' : PS X st t') : PS X st (fun D σ H => t D σ H ∨ t' D σ H) := ⟨fun pins s σ H D I q => q.elim (h.run pins s σ H D I) (h'.run pins s σ H D I)⟩
theorem fz_keep {ks' : List Nat} {q : Addr} {o : Obj} (h : ∀ i ∈ ks', FzN i σ H) (hq : H q = some (.dK ks)) : ∀ i ∈ ks', FzN i σ (upd H q (.frz o (.dK ks))) := fun i hi => by
  obtain ⟨d, o', w, e, z⟩ := h i hi
  have ne : d ≠ q := fun z' => by rw [z', hq] at z; cases z
  exact ⟨d, o', w, e, by rw [upd_ne ne]; exact z⟩
theorem PE.lk1 {all ks : List Nat} {i : Nat} (hi : i ∈ all) (h : ∀ H0, PE X e (trF all (i :: ks) c H0 Ex ca)) : ∀ H0, PE X e (trF all ks c H0 Ex ca) := by
  intro H0
  refine PE.imp (PE.or (PE.ex h) (pe_lock (PE.ex h))) fun σ H Q ht => ?_
  obtain ⟨hf, Z, ρ, P, r, hd, hev, hk⟩ := ht
  obtain ⟨q, kv, e1, nf, e2 | ⟨o, e2⟩⟩ := dct_at r (hd i hi)
  · refine .inr ⟨q, _, e2, trivial, fun od => ⟨lk H0 q (.frz od (.dK kv)), ?_, Z, ρ, P, r.lock e2 nf, hd, hev, fun d k ρ' v H' hp r1 s1 v1 => ?_⟩⟩
    · intro j hj
      rcases List.mem_cons.mp hj with z | z
      · subst z; exact ⟨q, od, _, e1, upd_same⟩
      · exact fz_keep hf e2 j z
    · have hq : H' q = some (.frz od (.dK kv)) := s1.keep q _ upd_same fun z => nf (z.imp (r.wz q) id)
      have nw : ¬ c.ws q := fun w => nf (.inl (r.wz q w))
      have h0 : ∀ o, H0 q = some o → ¬ c.ws q → o = .dK kv := fun o e n => by
        have := r.ext q o e n
        rw [e2] at this; cases this; rfl
      exact ⟨hq, hk d k ρ' v _ hp (r1.unlock hq h0 nw) (s1.unlock e2) (v1.unlock e2 hq h0 nw)⟩
  · refine .inl ⟨H0, ?_, Z, ρ, P, r, hd, hev, hk⟩
    intro j hj
    rcases List.mem_cons.mp hj with z | z
    · subst z; exact ⟨q, o, _, e1, e2⟩
    · exact hf j z
/-- all the dicts locked, one after another -/
theorem PE.lks {all : List Nat} : ∀ (ks : List Nat), (∀ i ∈ ks, i ∈ all) → (∀ H0, PE X e (trF all ks c H0 Ex ca)) → ∀ H0, PE X e (trF all [] c H0 Ex ca)
  | [], _, h => h
  | i :: ks, hi, h => PE.lks ks (fun j hj => hi j (List.mem_cons_of_mem _ hj)) (PE.lk1 (hi i List.mem_cons_self) h)
end
end Z
end T_ZA
section T_ZB
namespace Z
open PySem L2
section
variable {c : Cn} {H0 Hs H H1 H2 H' : Hp} {Z ZZ W : Addr → Prop} {σ σ0 σ1 σ2 σ' : L2.St} {ρ ρ0 ρ1 ρ2 ρ' : Env} {v : V} {d : D} {k : Kd} {Ex : Xn → Prop} {EE : XK}
theorem ow_set_frz {i : Nat} {v : V} {d : D} {b : Addr} : Ow (σ.set i (some v)) (ρ.set i (some (.frz d))) b → Ow σ ρ b := by
  rintro ⟨j, e, h, g⟩
  by_cases hj : i = j
  · subst hj
    by_cases hl : i < ρ.length
    · rw [list_set_same hl] at h; cases h
    · rw [List.getElem?_eq_none (by simp; omega)] at h; cases h
  · rw [List.getElem?_set_ne hj] at h g; exact ⟨j, e, h, g⟩
theorem ow_set_own {i : Nat} {a : Addr} {d : D} {b : Addr} : Ow (σ.set i (some (.ref a))) (ρ.set i (some (.own d))) b → Ow σ ρ b ∨ b = a := by
  rintro ⟨j, e, h, g⟩
  by_cases hj : i = j
  · subst hj
    by_cases hl : i < σ.length
    · rw [list_set_same hl] at g; cases g; exact .inr rfl
    · rw [List.getElem?_eq_none (by simp; omega)] at g; cases g
  · rw [List.getElem?_set_ne hj] at h g; exact .inl ⟨j, e, h, g⟩
theorem set_get {α : Type} {l : List α} {i j : Nat} {x y : α} (h : (l.set i x)[j]? = some y) : (i = j ∧ y = x ∧ i < l.length) ∨ (i ≠ j ∧ l[j]? = some y) := by
  by_cases e : i = j
  · subst e
    by_cases hl : i < l.length
    · rw [list_set_same hl] at h; cases h; exact .inl ⟨rfl, rfl, hl⟩
    · rw [List.getElem?_eq_none (by simp; omega)] at h; cases h
  · rw [List.getElem?_set_ne e] at h; exact .inr ⟨e, h⟩
/-- a value is stored that nobody changes -/
theorem RE.setF (r : RE c H0 Z σ H ρ) (q : Rep c (Rz H (full Z σ ρ)) v d) (i : Nat) : RE c H0 Z (σ.set i (some v)) H (ρ.set i (some (.frz d))) := by
  have ff : ∀ b, full Z (σ.set i (some v)) (ρ.set i (some (.frz d))) b → full Z σ ρ b := fun b z => z.imp id ow_set_frz
  refine ⟨by rw [List.length_set, List.length_set]; exact r.len, fun j x hj => ?_, fun j x hj => ?_, fun j l x y w hjl hj hl hs => ?_, r.ext, r.al, r.wok, r.wz, r.zal⟩
  · rcases set_get hj with ⟨rfl, e, hl⟩ | ⟨ne, hj⟩
    · cases e
      exact ⟨v, list_set_same (by rw [← r.len]; exact hl), q.to (Rz.mono ff)⟩
    · obtain ⟨u, e, w⟩ := r.frz j x hj
      exact ⟨u, by rw [List.getElem?_set_ne ne]; exact e, w.to (Rz.mono ff)⟩
  · rcases set_get hj with ⟨rfl, e, hl⟩ | ⟨ne, hj⟩
    · cases e
    · obtain ⟨u, e, n, h0, t⟩ := r.own j x hj
      exact ⟨u, by rw [List.getElem?_set_ne ne]; exact e, n, h0, t.to (Rz.mono ff) rfl⟩
  · rcases set_get hj with ⟨rfl, e, hl'⟩ | ⟨ne, hj⟩
    · cases e
    · rcases set_get hl with ⟨rfl, e, hl'⟩ | ⟨ne', hl⟩
      · cases e
      · rw [List.getElem?_set_ne ne] at hs
        rw [List.getElem?_set_ne ne']
        exact r.one j l x y w hjl hj hl hs
theorem Stp.setF (s : Stp W σ0 ρ0 Hs σ ρ H) (i : Nat) : Stp W σ0 ρ0 Hs (σ.set i (some v)) (ρ.set i (some (.frz d))) H := ⟨s.keep, fun b z => s.ow b (ow_set_frz z), s.al⟩
theorem Stp.setO {a : Addr} (s : Stp W σ0 ρ0 Hs σ ρ H) (i : Nat) (h : Hs a = none) : Stp W σ0 ρ0 Hs (σ.set i (some (.ref a))) (ρ.set i (some (.own d))) H :=
  ⟨s.keep, fun b z => (ow_set_own z).elim (s.ow b) fun e => .inr (by rw [e]; exact h), s.al⟩
/-- the zone, one object less -/
def Zm (Z : Addr → Prop) (a : Addr) : Addr → Prop := fun b => Z b ∧ b ≠ a
theorem RE.zm (r : RE c H0 Z σ H ρ) {a : Addr} (nw : ¬ c.ws a) : RE c H0 (Zm Z a) σ H ρ :=
  r.grow (fun _ _ e _ => e) (fun _ h => h) r.wok (fun b z => .inl z.1) (fun b w => ⟨r.wz b w, fun e => nw (e ▸ w)⟩) fun b z n => absurd n (r.zal b z.1).1
/-- an object just made becomes a name's own -/
theorem RE.setO (r : RE c H0 Z σ H ρ) {a : Addr} (za : Z a) (nw : ¬ c.ws a) (no : ¬ Ow σ ρ a) (h0 : H0 a = none) (t : TopAt c H (Rz H (full Z σ ρ)) a d) (i : Nat) : RE c H0 (Zm Z a) (σ.set i (some (.ref a))) H (ρ.set i (some (.own d))) := by
  have ff : ∀ b, full (Zm Z a) (σ.set i (some (.ref a))) (ρ.set i (some (.own d))) b → full Z σ ρ b := fun b z => z.elim (fun z => .inl z.1) fun z => (ow_set_own z).elim .inr fun e => .inl (e ▸ za)
  refine ⟨by rw [List.length_set, List.length_set]; exact r.len, fun j x hj => ?_, fun j x hj => ?_, fun j l x y w hjl hj hl hs => ?_, r.ext, r.al, r.wok, fun b w => ⟨r.wz b w, fun e => nw (e ▸ w)⟩, fun b z => r.zal b z.1⟩
  · rcases set_get hj with ⟨rfl, e, hl⟩ | ⟨ne, hj⟩
    · cases e
    · obtain ⟨u, e, w⟩ := r.frz j x hj
      exact ⟨u, by rw [List.getElem?_set_ne ne]; exact e, w.to (Rz.mono ff)⟩
  · rcases set_get hj with ⟨rfl, e, hl⟩ | ⟨ne, hj⟩
    · cases e
      exact ⟨a, list_set_same (by rw [← r.len]; exact hl), fun z => z.2 rfl, h0, t.to (Rz.mono ff) rfl⟩
    · obtain ⟨u, e, n, h0, t⟩ := r.own j x hj
      exact ⟨u, by rw [List.getElem?_set_ne ne]; exact e, fun z => n z.1, h0, t.to (Rz.mono ff) rfl⟩
  · rcases set_get hj with ⟨rfl, e, hl'⟩ | ⟨ne, hj⟩
    · cases e
      rcases set_get hl with ⟨rfl, e, hl''⟩ | ⟨ne', hl⟩
      · exact absurd rfl hjl
      · rw [List.getElem?_set_ne ne']
        intro q
        rw [list_set_same (by rw [← r.len]; exact hl')] at hs
        cases hs
        exact no ⟨l, y, hl, q⟩
    · rw [List.getElem?_set_ne ne] at hs
      rcases set_get hl with ⟨rfl, e, hl'⟩ | ⟨ne', hl⟩
      · rw [list_set_same (by rw [← r.len]; exact hl')]
        intro q
        cases q
        exact no ⟨j, x, hj, hs⟩
      · rw [List.getElem?_set_ne ne']
        exact r.one j l x y w hjl hj hl hs
/-- values held together: each is data, or was just made and is nobody's -/
def VXe (c : Cn) (Z ZZ : Addr → Prop) (σ : L2.St) (Hs H : Hp) (ρ : Env) (v : V) (d : D) : Kd → Prop
  | .cln => Rep c (Rz H (full ZZ σ ρ)) v d
  | .own _ => False
  | .new => ∃ a, v = .ref a ∧ Hs a = none ∧ ¬ full Z σ ρ a ∧ ZZ a ∧ TopAt c H (Rz H (full ZZ σ ρ)) a d
abbrev VE := V × D × Kd
def newAt (e : VE) (a : Addr) : Prop := e.1 = .ref a ∧ e.2.2 = .new
structure VX (c : Cn) (H0 : Hp) (Z ZZ : Addr → Prop) (σ : L2.St) (Hs H : Hp) (ρ : Env) (es : List VE) : Prop where
  re : RE c H0 ZZ σ H ρ
  sub : ∀ b, Z b → ZZ b
  wz : ∀ b, c.ws b → Z b
  al : ∀ b, H0 b ≠ none → Hs b ≠ none
  zz : ∀ b, ZZ b → Z b ∨ ∃ e ∈ es, newAt e b
  en : ∀ e ∈ es, VXe c Z ZZ σ Hs H ρ e.1 e.2.1 e.2.2
  nd : es.Pairwise fun e f => ∀ a, newAt e a → ¬ newAt f a
theorem VX.nil (r : RE c H0 Z σ H ρ) (al : ∀ b, H0 b ≠ none → Hs b ≠ none) : VX c H0 Z Z σ Hs H ρ [] := ⟨r, fun _ z => z, r.wz, al, fun _ z => .inl z, fun _ z => (nomatch z), .nil⟩
theorem VX.end (x : VX c H0 Z ZZ σ Hs H ρ []) : RE c H0 Z σ H ρ :=
  x.re.grow (fun _ _ e _ => e) (fun _ h => h) x.re.wok (fun b z => .inl (x.sub b z)) x.wz fun b z n => absurd n (x.re.zal b (x.sub b z)).1
/-- one more value -/
theorem VX.snoc {es : List VE} {w : V} (x : VX c H0 Z ZZ σ Hs H1 ρ1 es) (al : ∀ b, Hs b ≠ none → H1 b ≠ none) (r2 : RE c H0 ZZ σ H2 ρ2) (s2 : Stp c.ws σ ρ1 H1 σ ρ2 H2) (v2 : VR c H0 ZZ σ H1 H2 ρ2 w d k) (no : k.no) :
    ∃ ZZ', VX c H0 Z ZZ' σ Hs H2 ρ2 (es ++ [(w, d, k)]) := by
  have old : ∀ {b}, ¬ full Z σ ρ1 b → H1 b ≠ none → H2 b = H1 b := fun {b} n h => by
    obtain ⟨o, ho⟩ := Option.ne_none_iff_exists'.mp h
    rw [ho]; exact s2.keep b o ho fun z => n (z.imp (x.wz b) id)
  cases k with
  | own i => exact no.elim
  | cln =>
    refine ⟨ZZ, r2, x.sub, x.wz, x.al, fun b z => (x.zz b z).imp id fun ⟨e, he, q⟩ => ⟨e, List.mem_append_left _ he, q⟩, fun e he => ?_, ?_⟩
    · rcases List.mem_append.mp he with he | he
      · have := x.en e he
        obtain ⟨v, d', k'⟩ := e
        cases k' with
        | cln => exact Rep.to (s2.R x.re.wz) this
        | own i => exact this
        | new =>
          obtain ⟨a, e1, e2, e3, e4, e5⟩ := this
          exact ⟨a, e1, e2, s2.nf e5.al e3, e4, e5.to (s2.R x.re.wz) (old e3 e5.al)⟩
      · rw [List.mem_singleton] at he; subst he; exact v2
    · exact List.pairwise_append.mpr ⟨x.nd, List.pairwise_singleton _ _, fun e he f hf a _ q => by rw [List.mem_singleton] at hf; subst hf; cases q.2⟩
  | new =>
    obtain ⟨b, rfl, hb, nb, rb, tb⟩ := v2
    have ob : ∀ {a}, H1 a ≠ none → a ≠ b := fun h e => h (e ▸ hb)
    have lift : ∀ a u, Rz H1 (full ZZ σ ρ1) a u → Rz H2 (full (Zp ZZ b) σ ρ2) a u := fun a u q => by
      have q2 := s2.R x.re.wz a u q
      exact ⟨fun z => z.elim (fun z => z.elim (fun z => q2.1 (.inl z)) (ob q.sm)) fun z => q2.1 (.inr z), q2.2⟩
    refine ⟨Zp ZZ b, rb, fun a z => .inl (x.sub a z), x.wz, x.al, fun a z => ?_, fun e he => ?_, ?_⟩
    · rcases z with z | z
      · exact (x.zz a z).imp id fun ⟨e, he, q⟩ => ⟨e, List.mem_append_left _ he, q⟩
      · exact .inr ⟨_, List.mem_append_right _ List.mem_cons_self, by rw [z]; exact ⟨rfl, rfl⟩⟩
    · rcases List.mem_append.mp he with he | he
      · have := x.en e he
        obtain ⟨v, d', k'⟩ := e
        cases k' with
        | cln => exact Rep.to lift this
        | own i => exact this
        | new =>
          obtain ⟨a, e1, e2, e3, e4, e5⟩ := this
          exact ⟨a, e1, e2, s2.nf e5.al e3, .inl e4, e5.to lift (old e3 e5.al)⟩
      · rw [List.mem_singleton] at he; subst he
        have hsb : Hs b = none := by
          cases e : Hs b with
          | none => rfl
          | some o => exact absurd hb (al b (some_ne e))
        exact ⟨b, rfl, hsb, fun z => nb (z.imp (x.sub b) id), .inr rfl, tb⟩
    · refine List.pairwise_append.mpr ⟨x.nd, List.pairwise_singleton _ _, fun e he f hf a q1 q2 => ?_⟩
      rw [List.mem_singleton] at hf; subst hf
      have e1 : a = b := by have := q2.1; cases this; rfl
      subst e1
      have := x.en e he
      obtain ⟨v, d', k'⟩ := e
      obtain ⟨q1, q1'⟩ := q1
      cases q1'
      obtain ⟨a', e1, e2, e3, e4, e5⟩ := this
      have e6 : (V.ref a') = .ref a := e1.symm.trans q1
      cases e6
      exact e5.al hb
/-- the first of them is stored -/
theorem VX.sto {es : List VE} {i : Nat} {o : Bool} {P : Env → Prop} (x : VX c H0 Z ZZ σ Hs H ρ ((v, d, k) :: es)) (q : sto i o d k ρ P) :
    ∃ ρ' ZZ', P ρ' ∧ VX c H0 Z ZZ' (σ.set i (some v)) Hs H ρ' es ∧ ∀ {σ0 ρ0}, Stp W σ0 ρ0 Hs σ ρ H → Stp W σ0 ρ0 Hs (σ.set i (some v)) ρ' H := by
  have hd := x.en _ List.mem_cons_self
  have tl : ∀ e ∈ es, VXe c Z ZZ σ Hs H ρ e.1 e.2.1 e.2.2 := fun e he => x.en e (List.mem_cons_of_mem _ he)
  have nd := List.pairwise_cons.mp x.nd
  -- stored as data
  have fz : ∀ {ZZ'}, RE c H0 ZZ' σ H ρ → (∀ b, ZZ' b → ZZ b) → (∀ b, Z b → ZZ' b) → (∀ b, ZZ b → (∃ e ∈ es, newAt e b) → ZZ' b) → (∀ b, ZZ' b → Z b ∨ ∃ e ∈ es, newAt e b) → Rep c (Rz H (full ZZ' σ ρ)) v d →
      VX c H0 Z ZZ' (σ.set i (some v)) Hs H (ρ.set i (some (.frz d))) es := fun {ZZ'} r z1 z2 z3 z4 q => by
    refine ⟨r.setF q i, z2, x.wz, x.al, z4, fun e he => ?_, nd.2⟩
    have ff : ∀ b, full ZZ' (σ.set i (some v)) (ρ.set i (some (.frz d))) b → full ZZ σ ρ b := fun b z => z.imp (z1 b) ow_set_frz
    have := tl e he
    obtain ⟨v', d', k'⟩ := e
    cases k' with
    | cln => exact Rep.to (Rz.mono ff) this
    | own i => exact this
    | new =>
      obtain ⟨a, e1, e2, e3, e4, e5⟩ := this
      exact ⟨a, e1, e2, fun z => e3 (z.imp id ow_set_frz), z3 a e4 ⟨_, he, e1, rfl⟩, e5.to (Rz.mono ff) rfl⟩
  cases k with
  | own j => exact hd.elim
  | cln =>
    have q' : P (ρ.set i (some (.frz d))) := by cases o <;> exact q
    refine ⟨_, ZZ, q', fz x.re (fun _ z => z) x.sub (fun _ z _ => z) (fun b z => ?_) hd, fun s => s.setF i⟩
    rcases x.zz b z with w | ⟨e, he, w⟩
    · exact .inl w
    · rcases List.mem_cons.mp he with z | z
      · subst z; cases w.2
      · exact .inr ⟨e, z, w⟩
  | new =>
    obtain ⟨a, rfl, h1, n1, za, t⟩ := hd
    have nw : ¬ c.ws a := fun w => n1 (.inl (x.wz a w))
    have ne : ∀ {e b}, e ∈ es → newAt e b → b ≠ a := fun {e b} he w z => nd.1 e he a ⟨rfl, rfl⟩ (z ▸ w)
    have zz' : ∀ b, Zm ZZ a b → Z b ∨ ∃ e ∈ es, newAt e b := fun b z => by
      rcases x.zz b z.1 with w | ⟨e, he, w⟩
      · exact .inl w
      · rcases List.mem_cons.mp he with y | y
        · subst y; have := w.1; cases this; exact absurd rfl z.2
        · exact .inr ⟨e, y, w⟩
    have sub' : ∀ b, Z b → Zm ZZ a b := fun b z => ⟨x.sub b z, fun e => n1 (.inl (e ▸ z))⟩
    have z3 : ∀ b, ZZ b → (∃ e ∈ es, newAt e b) → Zm ZZ a b := fun b z ⟨e, he, w⟩ => ⟨z, ne he w⟩
    cases o with
    | false =>
      have q' : P (ρ.set i (some (.frz d))) := q
      refine ⟨_, Zm ZZ a, q', fz (x.re.zm nw) (fun _ z => z.1) sub' z3 zz' ?_, fun s => s.setF i⟩
      exact t.rep (Rz.mono fun b z => z.imp (fun z => z.1) id) fun u hu => ⟨fun z => z.elim (fun z => z.2 rfl) fun z => n1 (.inr z), .inl hu⟩
    | true =>
      have q' : P (ρ.set i (some (.own d))) := q
      have h0 : H0 a = none := by
        cases e : H0 a with
        | none => rfl
        | some o => exact absurd h1 (x.al a (some_ne e))
      refine ⟨_, Zm ZZ a, q', ⟨x.re.setO za nw (fun z => n1 (.inr z)) h0 t i, sub', x.wz, x.al, zz', fun e he => ?_, nd.2⟩, fun s => s.setO i h1⟩
      have ff : ∀ b, full (Zm ZZ a) (σ.set i (some (.ref a))) (ρ.set i (some (.own d))) b → full ZZ σ ρ b := fun b z => z.elim (fun z => .inl z.1) fun z => (ow_set_own z).elim .inr fun e => .inl (e ▸ za)
      have := tl e he
      obtain ⟨v', d', k'⟩ := e
      cases k' with
      | cln => exact Rep.to (Rz.mono ff) this
      | own i => exact this
      | new =>
        obtain ⟨b, e1, e2, e3, e4, e5⟩ := this
        exact ⟨b, e1, e2, fun z => z.elim (fun z => e3 (.inl z)) fun z => (ow_set_own z).elim (fun z => e3 (.inr z)) (ne he ⟨e1, rfl⟩), ⟨e4, ne he ⟨e1, rfl⟩⟩, e5.to (Rz.mono ff) rfl⟩
end
end Z
end T_ZB
section T_ZC
namespace Z
open PySem L2
structure KO (c : Cn) (H0 : Hp) (Z : Addr → Prop) (σ : L2.St) (ρ : Env) (H : Hp) (K : Kn) (D : Ends) : Prop where
  nx : ∀ ρ' σ' H', K.nx ρ' → RE c H0 Z σ' H' ρ' → Stp c.ws σ ρ H σ' ρ' H' → D.nx σ' H'
  rt : ∀ d k ρ' v σ' H', K.rt d k ρ' → RE c H0 Z σ' H' ρ' → Stp c.ws σ ρ H σ' ρ' H' → VR c H0 Z σ' H H' ρ' v d k → D.rt v H'
  ct : ∀ ρ' σ' H', K.ct ρ' → RE c H0 Z σ' H' ρ' → Stp c.ws σ ρ H σ' ρ' H' → D.ct σ' H'
def trS (c : Cn) (H0 : Hp) (E : Xn → Prop) (s : CS) : TS := fun D σ H => ∃ (Z : Addr → Prop) (ρ : Env) (K : Kn), RE c H0 Z σ H ρ ∧ evS E s ρ K ∧ KO c H0 Z σ ρ H K D
def trBs (c : Cn) (H0 : Hp) (E : Xn → Prop) (s : CB) : TS := fun D σ H => ∃ (Z : Addr → Prop) (ρ : Env) (K : Kn), RE c H0 Z σ H ρ ∧ evB E s ρ K ∧ KO c H0 Z σ ρ H K D
section
variable {c : Cn} {H0 Hs H H1 H2 H' : Hp} {Z ZZ W : Addr → Prop} {σ σ0 σ1 σ2 σ' : L2.St} {ρ ρ0 ρ1 ρ2 ρ' : Env} {v : V} {d : D} {k : Kd} {Ex : Xn → Prop} {EE : XK}
variable {X : Cx} {a b e : Expr} {es : List Expr} {pos p p2 : Pos} {ca cb cc : CE} {cs : CL} {Dn : Ends} {K : Kn}
theorem VR.back2 (h : VR c H0 Z σ' H1 H ρ v d k) (s : Stp W σ ρ1 Hs σ1 ρ2 H1) : VR c H0 Z σ' Hs H ρ v d k := by
  cases k with
  | cln => exact h
  | own i => exact h
  | new => obtain ⟨p, e1, e2, e3, e4, e5⟩ := h; exact ⟨p, e1, by cases q : Hs p with | none => rfl | some o => exact absurd e2 (s.al p (some_ne q)), e3, e4, e5⟩
theorem KO.after (h : KO c H0 Z σ ρ H K Dn) (s : Stp c.ws σ ρ H σ1 ρ1 H1) : KO c H0 Z σ1 ρ1 H1 K Dn where
  nx := fun ρ' σ' H' k r t => h.nx ρ' σ' H' k r (s.trans t)
  rt := fun d k ρ' v σ' H' q r t w => h.rt d k ρ' v σ' H' q r (s.trans t) (w.back2 s)
  ct := fun ρ' σ' H' k r t => h.ct ρ' σ' H' k r (s.trans t)
/-- a statement's blocks -/
theorem b_nil : PSs X [] (trBs c H0 Ex .nil) := by
  refine PSs.imp pss_nil fun D σ H h => ?_
  obtain ⟨Z, ρ, K, r, hev, hk⟩ := h
  rw [evB] at hev
  exact hk.nx _ _ _ hev r .refl
theorem b_cons {st : Stmt} {sts : List Stmt} {cst : CS} {csts : CB} (h1 : PS X st (trS c H0 Ex cst)) (h2 : PSs X sts (trBs c H0 Ex csts)) : PSs X (st :: sts) (trBs c H0 Ex (.cons cst csts)) := by
  refine PSs.imp (pss_cons h1 h2) fun D σ H h => ?_
  obtain ⟨Z, ρ, K, r, hev, hk⟩ := h
  rw [evB] at hev
  exact ⟨Z, ρ, _, r, hev, ⟨fun ρ' σ' H' q r' s' => ⟨Z, ρ', K, r', q, hk.after s'⟩, hk.rt, hk.ct⟩⟩
theorem s_pass {st : Stmt} (h : PS X st tNext) : PS X st (trS c H0 Ex .pass) := by
  refine PS.imp h fun D σ H h => ?_
  obtain ⟨Z, ρ, K, r, hev, hk⟩ := h
  rw [evS] at hev
  exact hk.nx _ _ _ hev r .refl
theorem s_never {st : Stmt} : PS X st (trS c H0 Ex .never) := by
  refine PS.imp ps_never fun D σ H h => ?_
  obtain ⟨Z, ρ, K, r, hev, hk⟩ := h
  rw [evS] at hev
  exact hev.elim
theorem s_cont : PS X (.Continue pos) (trS c H0 Ex .cont) := by
  refine PS.imp ps_continue fun D σ H h => ?_
  obtain ⟨Z, ρ, K, r, hev, hk⟩ := h
  rw [evS] at hev
  exact hk.ct _ _ _ hev r .refl
theorem s_ret (h : PE X e (tr c H0 Ex ca)) : PS X (.Return (some e) pos) (trS c H0 Ex (.ret ca)) := by
  refine PS.imp (ps_ret h) fun D σ H h => ?_
  obtain ⟨Z, ρ, K, r, hev, hk⟩ := h
  rw [evS] at hev
  exact ⟨Z, ρ, _, r, hev, fun d k ρ' v H' q r' s' v' => hk.rt _ _ _ _ _ _ q r' s' v'⟩
theorem s_retn : PS X (.Return none pos) (trS c H0 Ex .retn) := by
  refine PS.imp ps_retN fun D σ H h => ?_
  obtain ⟨Z, ρ, K, r, hev, hk⟩ := h
  rw [evS] at hev
  exact hk.rt _ _ _ _ _ _ hev r .refl (show VR c H0 Z σ H H ρ .non .non .cln from .non)
theorem s_exp {st : Stmt} (h : PS X st (tDrop (tr c H0 Ex ca))) : PS X st (trS c H0 Ex (.exp ca)) := by
  refine PS.imp h fun D σ H h => ?_
  obtain ⟨Z, ρ, K, r, hev, hk⟩ := h
  rw [evS] at hev
  exact ⟨Z, ρ, _, r, hev, fun d k ρ' v H' q r' s' v' => hk.nx _ _ _ q r' s'⟩
theorem s_ite {sa sb : List Stmt} {cta ctb : CB} (hc : PT X e (trB c H0 Ex ca)) (h1 : PSs X sa (trBs c H0 Ex cta)) (h2 : PSs X sb (trBs c H0 Ex ctb)) : PS X (.If e sa sb pos) (trS c H0 Ex (.ite ca cta ctb)) := by
  refine PS.imp (ps_if hc h1 h2) fun D σ H h => ?_
  obtain ⟨Z, ρ, K, r, hev, hk⟩ := h
  rw [evS] at hev
  refine trB_of r hev fun b ρ' H' q r' s' => ?_
  cases b
  · exact ⟨Z, ρ', K, r', q, hk.after s'⟩
  · exact ⟨Z, ρ', K, r', q, hk.after s'⟩
theorem VX.one (r : RE c H0 Z σ H ρ) (al : ∀ b, H0 b ≠ none → Hs b ≠ none) (als : ∀ b, Hs b ≠ none → H b ≠ none) (h : VR c H0 Z σ Hs H ρ v d k) (no : k.no) : ∃ ZZ, VX c H0 Z ZZ σ Hs H ρ [(v, d, k)] := by
  cases k with
  | own i => exact no.elim
  | cln =>
    refine ⟨Z, r, fun _ z => z, r.wz, al, fun b z => .inl z, fun e he => ?_, List.pairwise_singleton _ _⟩
    rw [List.mem_singleton] at he; subst he; exact h
  | new =>
    obtain ⟨a, rfl, hs, na, ra, t⟩ := h
    refine ⟨Zp Z a, ra, fun _ z => .inl z, r.wz, al, fun b z => z.imp id fun z => ⟨_, List.mem_cons_self, by rw [z]; exact ⟨rfl, rfl⟩⟩, fun e he => ?_, List.pairwise_singleton _ _⟩
    rw [List.mem_singleton] at he; subst he
    exact ⟨a, rfl, hs, na, .inr rfl, t⟩
/-- x = e -/
theorem sto_ok {i : Nat} {o : Bool} {P : Env → Prop} (r : RE c H0 Z σ H ρ) (al : ∀ b, H0 b ≠ none → Hs b ≠ none) (als : ∀ b, Hs b ≠ none → H b ≠ none) (h : VR c H0 Z σ Hs H ρ v d k) (q : sto i o d k ρ P) :
    ∃ ρ', P ρ' ∧ RE c H0 Z (σ.set i (some v)) H ρ' ∧ ∀ {σ0 ρ0}, Stp c.ws σ0 ρ0 Hs σ ρ H → Stp c.ws σ0 ρ0 Hs (σ.set i (some v)) ρ' H := by
  by_cases no : k.no
  · obtain ⟨ZZ, x⟩ := VX.one r al als h no
    obtain ⟨ρ', ZZ', hp, x', st⟩ := x.sto q
    exact ⟨ρ', hp, x'.end, st⟩
  · cases k with
    | cln => exact (no trivial).elim
    | new => exact (no trivial).elim
    | own j =>
      have q' : clr d (.own j) ρ fun ρ1 => P (ρ1.set i (some (.frz d))) := by cases o <;> exact q
      obtain ⟨ρ1, hp, r1, s1, v1⟩ := clr_ok r h q'
      exact ⟨_, hp, r1.setF v1 i, fun s => (s.trans s1).setF i⟩
theorem s_asg {st : Stmt} {i : Nat} {o : Bool} (h : PS X st (tAsg (tr c H0 Ex ca) (gName i))) : PS X st (trS c H0 Ex (.asg i o ca)) := by
  refine PS.imp h fun D σ H h => ?_
  obtain ⟨Z, ρ, K, r, hev, hk⟩ := h
  rw [evS] at hev
  refine ⟨Z, ρ, _, r, hev, fun d k ρ' v H' q r' s' v' => ?_⟩
  obtain ⟨ρ2, hp, r2, st⟩ := sto_ok r' r.al s'.al v' q
  exact hk.nx _ _ _ hp r2 (st s')
/-- what a target does with data -/
def TgOk (c : Cn) (t : Tg) (g : TG) : Prop :=
  ∀ (H0 : Hp) (Z : Addr → Prop) (σ : L2.St) (ρ : Env) (H : Hp) (v : V) (d : D) (ρ' : Env) (Q : L2.St → Hp → Prop), RE c H0 Z σ H ρ → Rep c (Rz H (full Z σ ρ)) v d → bindT t d ρ = some ρ' →
    (∀ σ', RE c H0 Z σ' H ρ' → (∀ {W σ0 ρ0 Hs}, Stp W σ0 ρ0 Hs σ ρ H → Stp W σ0 ρ0 Hs σ' ρ' H) → (∀ is, (∀ i, i ∈ tgs t → i ∈ is) → wipe σ' is = wipe σ is) → (∀ i, i ∉ tgs t → σ'[i]? = σ[i]? ∧ ρ'[i]? = ρ[i]?) → Q σ' H) → g v σ H Q
where tgs : Tg → List Nat
  | .one i => [i]
  | .tup is => is
theorem wipe_set {i : Nat} {x : Option V} : ∀ {is : List Nat}, i ∈ is → wipe (σ.set i x) is = wipe σ is
  | j :: js, h => by
    unfold wipe
    by_cases hj : i ∈ js
    · rw [wipe_set hj]
    · have e : i = j := by
        rcases List.mem_cons.mp h with e | e
        · exact e
        · exact absurd e hj
      subst e
      have : ∀ (js : List Nat), i ∉ js → wipe (σ.set i x) js = (wipe σ js).set i x := by
        intro js
        induction js with
        | nil => intro _; rfl
        | cons l ls ih =>
          intro hn
          rw [List.mem_cons, not_or] at hn
          unfold wipe
          rw [ih hn.2, List.set_comm _ _ (fun e => hn.1 e)]
      rw [this js hj, List.set_set]
theorem tg_one {i : Nat} : TgOk c (.one i) (gName i) := by
  intro H0 Z σ ρ H v d ρ' Q r q e h
  have e' : some (ρ.set i (some (.frz d))) = some ρ' := e
  cases e'
  exact h _ (r.setF q i) (fun s => s.setF i) (fun is his => wipe_set (his i List.mem_cons_self)) fun j hj => by
    have ne : i ≠ j := fun e => hj (by rw [e]; exact List.mem_cons_self)
    exact ⟨List.getElem?_set_ne ne, List.getElem?_set_ne ne⟩
def gNames : List Nat → TGs
  | [] => gNil
  | i :: is => gCons (gName i) (gNames is)
theorem tg_names : ∀ (is : List Nat) {ds : List D} {vs : List V} {σ : L2.St} {ρ ρ' : Env} {Q : L2.St → Hp → Prop}, RE c H0 Z σ H ρ → RepL c (Rz H (full Z σ ρ)) vs ds → bindL is ds ρ = some ρ' →
    (∀ σ', RE c H0 Z σ' H ρ' → (∀ {W σ0 ρ0 Hs}, Stp W σ0 ρ0 Hs σ ρ H → Stp W σ0 ρ0 Hs σ' ρ' H) → (∀ js, (∀ i, i ∈ is → i ∈ js) → wipe σ' js = wipe σ js) → (∀ i, i ∉ is → σ'[i]? = σ[i]? ∧ ρ'[i]? = ρ[i]?) → Q σ' H) → gNames is vs σ H Q
  | [], ds, vs, σ, ρ, ρ', Q, r, l, e, h => by
    cases ds with
    | cons _ _ => cases e
    | nil =>
      cases e
      cases l
      exact ⟨rfl, h σ r (fun s => s) (fun _ _ => rfl) fun _ _ => ⟨rfl, rfl⟩⟩
  | i :: is, ds, vs, σ, ρ, ρ', Q, r, l, e, h => by
    cases ds with
    | nil => cases e
    | cons d ds =>
      cases l with
      | cons q l =>
        refine ⟨_, _, rfl, ?_⟩
        have e' : bindL is ds (ρ.set i (some (.frz d))) = some ρ' := e
        refine tg_names is (r.setF q i) (l.to (Rz.mono fun b z => z.imp id ow_set_frz)) e' fun σ' r' s' w' u' => h σ' r' (fun s => s' (s.setF i)) (fun js hjs => ?_) fun j hj => ?_
        · rw [w' js fun j hj => hjs j (List.mem_cons_of_mem _ hj), wipe_set (hjs i List.mem_cons_self)]
        · rw [List.mem_cons, not_or] at hj
          have ne : i ≠ j := fun e => hj.1 e.symm
          obtain ⟨a1, a2⟩ := u' j hj.2
          exact ⟨a1.trans (List.getElem?_set_ne ne), a2.trans (List.getElem?_set_ne ne)⟩
theorem tg_tup (is : List Nat) : TgOk c (.tup is) (gTup c.K is.length (gNames is)) := by
  intro H0 Z σ ρ H v d ρ' Q r q e h
  cases d with
  | tup ds =>
    obtain ⟨p, xs, rfl, h1, h2, h3⟩ := VW.tup r (.inl q)
    have e' : bindL is ds ρ = some ρ' := e
    have hl : ∀ (is : List Nat) (ds : List D) (ρ : Env), bindL is ds ρ = some ρ' → ds.length = is.length := by
      intro is
      induction is with
      | nil => intro ds ρ e; cases ds with | nil => rfl | cons _ _ => cases e
      | cons i is ih => intro ds ρ e; cases ds with | nil => cases e | cons d ds => simp [ih ds _ e]
    exact ⟨p, xs, rfl, h1, by rw [h3.len, hl _ _ _ e'], tg_names is r h3 e' fun σ' r' s' w' u' => h σ' r' s' w' u'⟩
  | _ => cases e
theorem s_unp {tg : Expr} {is : List Nat} (O : XOk c X) (he : PE X e (tr c H0 Ex ca)) (hg : PG X tg (gTup X.K is.length (gNames is))) (hs : swapsWithSole [tg] e pos.line X.env = pure false) (hw : swappedStores [tg] e X.env = pure none)
    (h1 : (assignEach [tg] X.env).map (·.2) = [assign tg X.env]) : PS X (.Assign [tg] e pos) (trS c H0 Ex (.unp (.tup is) ca)) := by
  refine PS.imp (ps_asg he hg hs hw h1) fun D σ H h => ?_
  obtain ⟨Z, ρ, K, r, hev, hk⟩ := h
  rw [evS] at hev
  refine ⟨Z, ρ, _, r, hev, fun d k ρ' v H' q r' s' v' => ?_⟩
  obtain ⟨ρ2, hb, hp⟩ := q
  have hd : ∃ ds, d = .tup ds := by
    cases d <;> first | exact ⟨_, rfl⟩ | cases hb
  obtain ⟨ds, rfl⟩ := hd
  have q := v'.weak.rep r' (fun _ e => nomatch e) fun _ e => nomatch e
  rw [O.K]
  exact tg_tup is H0 Z σ ρ' H' v _ ρ2 _ r' q hb fun σ' r'' s'' _ _ => hk.nx _ _ _ hp r'' (s'' s')
end
end Z
end T_ZC
section T_ZD
namespace Z
open PySem L2
section
variable {c : Cn} {H0 Hs H H1 H2 H' : Hp} {Z ZZ W : Addr → Prop} {σ σ0 σ1 σ2 σ' : L2.St} {ρ ρ0 ρ1 ρ2 ρ' : Env} {v : V} {d : D} {k : Kd} {Ex : Xn → Prop} {EE : XK}
variable {X : Cx} {a b e f g : Expr} {es : List Expr} {pos p p2 : Pos} {ca cb cc : CE} {cs : CL} {Dn : Ends} {K : Kn}
theorem PSet.or {t t' : TSet} (h : PSet X t) (h' : PSet X t') : PSet X (fun o i v H Q => t o i v H Q ∨ t' o i v H Q) := by
  intro pins s σ H o i v ov iv u Q I ro ri rv q
  exact q.elim (h pins s σ H o i v ov iv u Q I ro ri rv) (h' pins s σ H o i v ov iv u Q I ro ri rv)
theorem s_par {i j : Nat} {o q : Bool} {st : Stmt} (h : PS X st (tPar i j (tCons (tr c H0 Ex ca) (tCons (tr c H0 Ex cb) tNil)))) : PS X st (trS c H0 Ex (.par [(i, o), (j, q)] (.cons ca (.cons cb .nil)))) := by
  refine PS.imp h fun Dn σ H h => ?_
  obtain ⟨Z, ρ, K, r, hev, hk⟩ := h
  rw [evS] at hev
  refine ⟨Z, ρ, _, r, hev, fun d k ρ1 v H1 hp r1 s1 v1 => ?_⟩
  obtain ⟨n1, hp⟩ := hp
  obtain ⟨Z1, x1⟩ := VX.one r1 r.al s1.al v1 n1
  refine ⟨Z1, ρ1, _, x1.re, hp, fun d2 k2 ρ2 w H2 hp2 r2 s2 v2 => ?_⟩
  obtain ⟨n2, hp2⟩ := hp2
  obtain ⟨Z2, x2⟩ := x1.snoc s1.al r2 s2 v2 n2
  obtain ⟨ρ3, Z3, hp3, x3, t3⟩ := x2.sto hp2
  obtain ⟨ρ4, Z4, hp4, x4, t4⟩ := x3.sto hp3
  exact ⟨v, w, rfl, hk.nx _ _ _ hp4 x4.end (t4 (t3 (s1.trans s2)))⟩
theorem s_par3 {i j l : Nat} {o q q3 : Bool} {st : Stmt} (h : PS X st (tPar3 i j l (tCons (tr c H0 Ex ca) (tCons (tr c H0 Ex cb) (tCons (tr c H0 Ex cc) tNil))))) : PS X st (trS c H0 Ex (.par [(i, o), (j, q), (l, q3)] (.cons ca (.cons cb (.cons cc .nil))))) := by
  refine PS.imp h fun Dn σ H h => ?_
  obtain ⟨Z, ρ, K, r, hev, hk⟩ := h
  rw [evS] at hev
  refine ⟨Z, ρ, _, r, hev, fun d k ρ1 v H1 hp r1 s1 v1 => ?_⟩
  obtain ⟨n1, hp⟩ := hp
  obtain ⟨Z1, x1⟩ := VX.one r1 r.al s1.al v1 n1
  refine ⟨Z1, ρ1, _, x1.re, hp, fun d2 k2 ρ2 w H2 hp2 r2 s2 v2 => ?_⟩
  obtain ⟨n2, hp2⟩ := hp2
  obtain ⟨Z2, x2⟩ := x1.snoc s1.al r2 s2 v2 n2
  refine ⟨Z2, ρ2, _, x2.re, hp2, fun d3 k3 ρ3 u H3 hp3 r3 s3 v3 => ?_⟩
  obtain ⟨n3, hp3⟩ := hp3
  obtain ⟨Z3, x3⟩ := x2.snoc (s1.trans s2).al r3 s3 v3 n3
  obtain ⟨ρ4, Z4, hp4, x4, t4⟩ := x3.sto hp3
  obtain ⟨ρ5, Z5, hp5, x5, t5⟩ := x4.sto hp4
  obtain ⟨ρ6, Z6, hp6, x6, t6⟩ := x5.sto hp5
  exact ⟨v, w, u, rfl, hk.nx _ _ _ hp6 x6.end (t6 (t5 (t4 ((s1.trans s2).trans s3))))⟩
def IpOk (c : Cn) (o : O2) (r : R2) : Prop :=
  ∀ (H0 : Hp) (Z : Addr → Prop) (σ : L2.St) (ρ : Env) (H : Hp) (x y : D) (vx vy : V) (z : D × Kd) (Q : VK), RE c H0 Z σ H ρ → x.scal = true → VW c Z σ H ρ vx x → VW c Z σ H ρ vy y → op2 o x y = some z →
    (∀ v, (∀ R, Rep c R v z.1) → Q v H) → r vx vy H Q
def rIpAdd : R2 := fun x y H Q => rI0 (fun i j => .int (i + j)) x y H Q ∨ ∃ i j, x = .str i ∧ y = .str j ∧ i.length + j.length ≤ sizeLine ∧ Q (.str (i ++ j)) H
theorem ip_add' : PIp X .Add rIpAdd := by
  intro pins s σ H x y v u Q I rx ry h
  exact h.elim (iop_add pins s σ H x y v u Q I rx ry) (iop_add_str pins s σ H x y v u Q I rx ry)
theorem ipok_add : IpOk c .add rIpAdd := by
  intro H0 Z σ ρ H x y vx vy z Q r hs hx hy e q
  unfold op2 at e
  cases x <;> cases y <;> simp only [reduceCtorEq] at e
  case int i j => cases e; exact .inl ⟨i, j, hx.int r, hy.int r, q _ fun _ => .int _⟩
  case lst a b => cases hs
  case tup a b => cases hs
  case str a b =>
    split at e
    · cases e
      exact .inr ⟨a, b, hx.str r, hy.str r, by assumption, q _ fun _ => .str _⟩
    · cases e
theorem ipok_sub : IpOk c .sub (rI0 fun i j => .int (i - j)) := by
  intro H0 Z σ ρ H x y vx vy z Q r hs hx hy e q
  unfold op2 at e
  cases x <;> cases y <;> simp only [reduceCtorEq] at e
  cases e; exact ⟨_, _, hx.int r, hy.int r, q _ fun _ => .int _⟩
theorem ipok_mul : IpOk c .mul (rI CMul fun i j => .int (i * j)) := by
  intro H0 Z σ ρ H x y vx vy z Q r hs hx hy e q
  unfold op2 at e
  cases x <;> cases y <;> simp only [reduceCtorEq] at e
  case int i j =>
    split at e <;> cases e
    exact ⟨i, j, hx.int r, hy.int r, by assumption, q _ fun _ => .int _⟩
  case lst a j => cases hs
theorem ipok_mod : IpOk c .mod (rI (fun _ j => 0 < j) fun i j => .int (i % j)) := by
  intro H0 Z σ ρ H x y vx vy z Q r hs hx hy e q
  unfold op2 at e
  cases x <;> cases y <;> simp only [reduceCtorEq] at e
  split at e <;> cases e
  exact ⟨_, _, hx.int r, hy.int r, by assumption, q _ fun _ => .int _⟩
theorem ipok_fdiv : IpOk c .fdiv (rI CDiv fun i j => .int (i / j)) := by
  intro H0 Z σ ρ H x y vx vy z Q r hs hx hy e q
  unfold op2 at e
  cases x <;> cases y <;> simp only [reduceCtorEq] at e
  split at e <;> cases e
  exact ⟨_, _, hx.int r, hy.int r, by assumption, q _ fun _ => .int _⟩
theorem s_aug {i : Nat} {x : Str} {o : O2} {op : Operator} {ti : TIp} {pos' : Pos} (hN : X.N.Nodup) (hi : X.N[i]? = some x) (hx : Loc X.env.scope x) (he : PE X e (tr c H0 Ex ca)) (ho : PIp X op ti) (hok : IpOk c o ti) (hf : X.fn x = true ∨ X.env.scope.names.lookup x = some .local) :
    PS X (.AugAssign (.Name x pos') op e pos) (trS c H0 Ex (.aug i o ca)) := by
  refine PS.imp (ps_aug hN hi hx he ho hf) fun Dn σ H h => ?_
  obtain ⟨Z, ρ, K, r, hev, hk⟩ := h
  rw [evS] at hev
  obtain ⟨x, h1, hs, hev⟩ := hev
  obtain ⟨vx, e1, q1⟩ := r.frz i x h1
  refine ⟨vx, e1, Z, ρ, _, r, hev, fun d k ρ1 v H1 hp r1 s1 v1 => ?_⟩
  obtain ⟨z, hz, hp⟩ := hp
  exact hok H0 Z σ ρ1 H1 x d vx v z _ r1 hs (.inl (q1.scal hs)) v1.weak hz fun w hw => hk.nx _ _ _ hp (r1.setF (hw _) i) (s1.setF i)
theorem e_appT {i : Nat} {x : Str} {apos px : Pos} (O : XOk c X) (hN : X.N[i]? = some x) (hv : Vis X.env.scope x) (hd : (x == ("__debug__" : Str)) = false) (hcd : (x == ("__classdict__" : Str)) = false)
    (he : PE X e (tr c H0 Ex ca)) (m : Me X (.Name x px) "append" apos e pos) : PE X (.Call (.Attribute (.Name x px) "append" apos) [e] [] pos) (tBM X.K "list" rAppend (tVar i) (tCons (tr c H0 Ex ca) tNil)) :=
  pe_bm PySem.F.plainAttrs_list PySem.F.slot_list_append PySem.F.type_list_append (fun pins s σ H x xs v us Q I rx rs q => mt_append pins s σ H x xs v us Q I rx rs q) (pe_var hN hv hd hcd) (pa_cons he pa_nil m.st) m.base m.few m.line m.st rfl
theorem s_app {i : Nat} {st : Stmt} (O : XOk c X) (h : PS X st (tDrop (tBM X.K "list" rAppend (tVar i) (tCons (tr c H0 Ex ca) tNil)))) : PS X st (trS c H0 Ex (.app i ca)) := by
  refine PS.imp h fun Dn σ H h => ?_
  obtain ⟨Z, ρ, K, r, hev, hk⟩ := h
  rw [evS] at hev
  obtain ⟨h0, hev⟩ := hev
  obtain ⟨xs0, h0⟩ := isL_of h0
  obtain ⟨q, ea, _, _, _⟩ := r.own i _ h0
  obtain ⟨_, _, _, _, ty⟩ := own_tyV r O h0 ea
  refine ⟨_, ea, ty, Z, ρ, _, r, hev, fun d k ρ1 v H1 hp r1 s1 v1 => ?_⟩
  obtain ⟨ρ2, hp2, r2, s2, q2⟩ := clr_ok r1 v1 hp
  obtain ⟨xs, h2, hb, hK⟩ := hp2
  obtain ⟨vs, g1, g2, g3, _⟩ := own_tyV r2 O h2 ea
  have hl := g3.len
  have hz : vs.length < sizeLine := by rw [hl]; exact hb
  obtain ⟨r3, s3⟩ := r2.mut (d' := .lst (xs ++ [d])) (o := .lst (vs ++ [v])) h2 ea ⟨_, upd_same, by rw [List.length_append]; exact hz, g3.app (.cons q2 .nil)⟩
  exact ⟨q, vs, v, rfl, rfl, g1, hz, hk.nx _ _ _ hK r3 ((s1.trans s2).trans s3)⟩
theorem e_extT {i : Nat} {x : Str} {apos px : Pos} (O : XOk c X) (hN : X.N[i]? = some x) (hv : Vis X.env.scope x) (hd : (x == ("__debug__" : Str)) = false) (hcd : (x == ("__classdict__" : Str)) = false)
    (he : PE X e (tr c H0 Ex ca)) (m : Me X (.Name x px) "extend" apos e pos) : PE X (.Call (.Attribute (.Name x px) "extend" apos) [e] [] pos) (tBM X.K "list" rExtend (tVar i) (tCons (tr c H0 Ex ca) tNil)) :=
  pe_bm PySem.F.plainAttrs_list PySem.F.slot_list_extend PySem.F.type_list_extend (fun pins s σ H x xs v us Q I rx rs q => mt_extend pins s σ H x xs v us Q I rx rs q) (pe_var hN hv hd hcd) (pa_cons he pa_nil m.st) m.base m.few m.line m.st rfl
theorem s_ext {i : Nat} {st : Stmt} (O : XOk c X) (h : PS X st (tDrop (tBM X.K "list" rExtend (tVar i) (tCons (tr c H0 Ex ca) tNil)))) : PS X st (trS c H0 Ex (.ext i ca)) := by
  refine PS.imp h fun Dn σ H h => ?_
  obtain ⟨Z, ρ, K, r, hev, hk⟩ := h
  rw [evS] at hev
  obtain ⟨h0, hev⟩ := hev
  obtain ⟨xs0, h0⟩ := isL_of h0
  obtain ⟨q, ea, _, _, _⟩ := r.own i _ h0
  obtain ⟨_, _, _, _, ty⟩ := own_tyV r O h0 ea
  refine ⟨_, ea, ty, Z, ρ, _, r, hev, fun d k ρ1 v H1 hp r1 s1 v1 => ?_⟩
  obtain ⟨ρ2, hp2, r2, s2, q2⟩ := clr_ok r1 v1 hp
  obtain ⟨xs, ys, h2, rfl, hb, hK⟩ := hp2
  obtain ⟨vs, g1, g2, g3, _⟩ := own_tyV r2 O h2 ea
  cases q2 with
  | @lst b zs _ rz hzl rl =>
  have hl := g3.len
  have hl2 := rl.len
  have hz : vs.length + zs.length ≤ sizeLine := by rw [hl, hl2]; exact hb
  obtain ⟨r3, s3⟩ := r2.mut (d' := .lst (xs ++ ys)) (o := .lst (vs ++ zs)) h2 ea ⟨_, upd_same, by rw [List.length_append]; exact hz, g3.app rl⟩
  exact ⟨q, b, vs, zs, rfl, rfl, g1, Rz.get rfl rz, hz, hk.nx _ _ _ hK r3 ((s1.trans s2).trans s3)⟩
theorem e_clrT {i : Nat} {x : Str} {apos px pos : Pos} (O : XOk c X) (hN : X.N[i]? = some x) (hv : Vis X.env.scope x) (hd : (x == ("__debug__" : Str)) = false) (hcd : (x == ("__classdict__" : Str)) = false)
    (hb : attributeBase (.Name x px) "clear" X.env (eval (.Name x px) X.env) = eval (.Name x px) X.env) (hl : (apos.endLine == pos.line) = true) : PE X (.Call (.Attribute (.Name x px) "clear" apos) [] [] pos) (tBM0 X.K "list" rClear (tVar i)) :=
  pe_bm0 PySem.F.plainAttrs_list PySem.F.slot_list_clear PySem.F.type_list_clear (fun pins s σ H x xs v us Q I rx rs q => mt_clear pins s σ H x xs v us Q I rx rs q) (pe_var hN hv hd hcd) hb hl
theorem s_clr {i : Nat} {st : Stmt} (O : XOk c X) (h : PS X st (tDrop (tBM0 X.K "list" rClear (tVar i)))) : PS X st (trS c H0 Ex (.clr i)) := by
  refine PS.imp h fun Dn σ H h => ?_
  obtain ⟨Z, ρ, K, r, hev, hk⟩ := h
  rw [evS] at hev
  obtain ⟨h0, hK⟩ := hev
  obtain ⟨xs0, h0⟩ := isL_of h0
  obtain ⟨q, ea, _, _, _⟩ := r.own i _ h0
  obtain ⟨vs, g1, g2, g3, ty⟩ := own_tyV r O h0 ea
  obtain ⟨r3, s3⟩ := r.mut (d' := .lst []) (o := .lst []) h0 ea ⟨_, upd_same, by simp, .nil⟩
  exact ⟨_, ea, ty, q, vs, rfl, rfl, g1, hk.nx _ _ _ hK r3 s3⟩
def rSetX : TSet := fun o i v H Q => rSetL o i v H Q ∨ rSetD o i v H Q
theorem set_X (hu : X.A.units + 1 < cLine) : PSet X rSetX := PSet.or set_list (set_dict hu)
theorem setD_ok {i : Nat} {z y z' : D} {vy w : V} {Q : Hp → Prop} (r : RE c H0 Z σ H ρ) (h : ρ[i]? = some (some (.own z))) (hs : σ[i]? = some (some v)) (hy : VW c Z σ H ρ vy y) (hw : Rep c (Rz H (full Z σ ρ)) w d) (e : setD z y d = some z')
    (q : ∀ H', RE c H0 Z σ H' (ρ.set i (some (.own z'))) → Stp c.ws σ ρ H σ (ρ.set i (some (.own z'))) H' → Q H') : rSetX v vy w H Q := by
  obtain ⟨a, ea, na, h0, t⟩ := r.own i _ h
  rw [hs] at ea; cases ea
  unfold setD at e
  split at e
  · rename_i xs n
    obtain ⟨j, hj, rfl⟩ := Option.map_eq_some_iff.mp e
    obtain ⟨vs, g1, g2, g3⟩ := t
    obtain ⟨r3, s3⟩ := r.mut (d' := .lst (xs.set j d)) (o := .lst (vs.set j w)) h hs ⟨_, upd_same, by rw [List.length_set]; exact g2, g3.set j hw⟩
    exact .inl ⟨a, vs, n, j, rfl, hy.int r, g1, by rw [g3.len]; exact hj, q _ r3 s3⟩
  · split at e
    · rename_i kvs hb
      obtain ⟨j, hj, rfl⟩ := Option.map_eq_some_iff.mp e
      obtain ⟨ks, g1, g2, g3⟩ := t
      have e1 := hy.key r hj
      subst e1
      have hz : ks.length < sizeLine := by rw [g3.len]; exact hb
      obtain ⟨r3, s3⟩ := r.mut (d' := .dct (putD kvs j d)) (o := .dK (putK ks j w)) h hs ⟨_, upd_same, by have := length_putK ks j w; omega, g3.put j hw⟩
      exact .inr ⟨a, _, rfl, .k g1 hz, q _ r3 s3⟩
    · cases e
  · cases e
theorem own_slot (r : RE c H0 Z σ H ρ) {i : Nat} (h : Sl.isOwn ρ[i]? = true) : ∃ v, σ[i]? = some (some v) := by
  cases e : ρ[i]? with
  | none => rw [e] at h; cases h
  | some s =>
    cases s with
    | none => rw [e] at h; cases h
    | some s =>
      cases s with
      | frz d => rw [e] at h; cases h
      | own d => obtain ⟨a, ea, _⟩ := r.own i d e; exact ⟨_, ea⟩
theorem key_scal {y : D} {j : Key} (h : y.key = some j) : y.scal = true := by cases y <;> first | rfl | cases h
theorem getD_scal {z y x : D} (h : getD z y = some x) : y.scal = true := by
  unfold getD at h
  split at h
  · rfl
  · obtain ⟨j, hj, _⟩ := Option.bind_eq_some_iff.mp h
    exact key_scal hj
  · cases h
theorem s_seti {i : Nat} {st : Stmt} (h : PS X st (tAsg (tr c H0 Ex ca) (gSub (tVar i) (tr c H0 Ex cb) rSetX))) : PS X st (trS c H0 Ex (.seti i cb ca)) := by
  refine PS.imp h fun Dn σ H h => ?_
  obtain ⟨Z, ρ, K, r, hev, hk⟩ := h
  rw [evS] at hev
  obtain ⟨ho, hev⟩ := hev
  obtain ⟨v, hv⟩ := own_slot r ho
  refine ⟨Z, ρ, _, r, hev, fun d k ρ1 w H1 hp r1 s1 v1 => ?_⟩
  obtain ⟨ρ2, hp2, r2, s2, q2⟩ := clr_ok r1 v1 hp
  refine ⟨v, hv, Z, ρ2, _, r2, hp2, fun y ky ρ3 vy H3 hp3 r3 s3 v3 => ?_⟩
  obtain ⟨z, z', h3, e, hK⟩ := hp3
  exact setD_ok r3 h3 hv v3.weak (q2.to (s3.R r2.wz)) e fun H' r4 s4 => hk.nx _ _ _ hK r4 (((s1.trans s2).trans s3).trans s4)
/-- o[i] -/
def rGetX (K : PySem.W.Frag) : V → V → Hp → VK → Prop := fun x y H Q => rIxL K x y H Q ∨ rIxD x y H Q
theorem get_X (hu : X.A.units + 1 < cLine) : PGet X (rGetX X.K) := by
  intro pins s σ H x y v u Q I rx ry h
  rcases h with h | h
  · obtain ⟨p, xs, i, z, rfl, rfl, hq, he, q⟩ := h
    cases rx
    obtain ⟨t, rfl⟩ := ry
    obtain ⟨its, r, pl, hz⟩ := I.list hq
    obtain ⟨j, h1, h2, h3, h4, h5⟩ := atI_get he
    obtain ⟨w, ew, rw'⟩ := r.get h2
    have hl := r.length
    have hn := line63
    have fin : EP X pins σ Q w s := ⟨z, H, I, rw', q⟩
    by_cases h0 : 0 ≤ i
    · have hj : i.toNat = j := by
        rw [seqIndex_of h0 h5] at h1
        exact Option.some.inj h1
      exact wpAny_getItem_list pl.isList h0 (by omega) (by rw [hj]; simpa using ew) fin
    · have hj : (i + (its.toArray.size : Int)).toNat = j := by
        rw [seqIndex_neg (by omega) h4] at h1
        rw [List.size_toArray, ← hl]
        exact Option.some.inj h1
      exact wpAny_getItem_list_neg pl.isList (by omega) (by rw [List.size_toArray] <;> omega) (by omega) (by rw [hj]; simpa using ew) fin
  · obtain ⟨a, w, rfl, g, q⟩ := h
    obtain rfl : v = Value.ref a := rx
    exact d_getItem hu I g ry fun w' s' I' rw' => ⟨w, H, I', rw', q⟩
theorem getD_ok {i : Nat} {z y x : D} {vy : V} {Q : VK} (r : RE c H0 Z σ H ρ) (hK : X.K = c.K) (h : ρ[i]? = some (some (.own z))) (hs : σ[i]? = some (some v)) (hy : VW c Z σ H ρ vy y) (e : getD z y = some x)
    (q : ∀ w, Rep c (Rz H (full Z σ ρ)) w x → Q w H) : rGetX X.K v vy H Q := by
  obtain ⟨a, ea, na, h0, t⟩ := r.own i _ h
  rw [hs] at ea; cases ea
  unfold getD at e
  split at e
  · obtain ⟨vs, g1, g2, g3⟩ := t
    obtain ⟨w, g, q'⟩ := atD_rep g3 e
    exact .inl ⟨a, vs, _, w, rfl, hy.int r, SqL.of g1, g, q w q'⟩
  · rename_i kvs y _
    obtain ⟨j, hj, e⟩ := Option.bind_eq_some_iff.mp e
    obtain ⟨ks, g1, g2, g3⟩ := t
    have e1 := hy.key r hj
    subst e1
    rcases g3.val j with ⟨w1, w2⟩ | ⟨w, d', w1, w2, q'⟩
    · rw [w2] at e; cases e
    · rw [w2] at e; cases e
      exact .inr ⟨a, w, rfl, .inl ⟨ks, j, .inl g1, rfl, w1.symm⟩, q w q'⟩
  · cases e
theorem s_augi {i : Nat} {o : O2} {ti : TIp} {st : Stmt} (O : XOk c X) (hok : IpOk c o ti) (h : PS X st (tAugS (tVar i) (tr c H0 Ex cb) (tr c H0 Ex ca) (rGetX X.K) ti rSetX)) : PS X st (trS c H0 Ex (.augi i cb o ca)) := by
  refine PS.imp h fun Dn σ H h => ?_
  obtain ⟨Z, ρ, K, r, hev, hk⟩ := h
  rw [evS] at hev
  obtain ⟨ho, hev⟩ := hev
  obtain ⟨v, hv⟩ := own_slot r ho
  refine ⟨v, hv, Z, ρ, _, r, hev, fun y ky ρ1 vy H1 hp1 r1 s1 v1 => ?_⟩
  obtain ⟨x, z, h1, e1, hs, hp1⟩ := hp1
  refine getD_ok r1 O.K h1 hv v1.weak e1 fun vx qx => ⟨Z, ρ1, _, r1, hp1, fun d k ρ2 w H2 hp2 r2 s2 v2 => ?_⟩
  obtain ⟨rr, z', z'', h2, e2, hs2, e3, hK⟩ := hp2
  refine hok H0 Z σ ρ2 H2 x d vx w rr _ r2 hs (.inl (qx.scal hs)) v2.weak e2 fun u hu => ?_
  have hy : VW c Z σ H2 ρ2 vy y := .inl ((v1.weak.scal r1 (getD_scal e1)).scal (getD_scal e1))
  exact setD_ok r2 h2 hv hy (hu _) e3 fun H' r3 s3 => hk.nx _ _ _ hK r3 ((s1.trans s2).trans s3)
end
end Z
end T_ZD
section T_ZE
namespace Z
open PySem L2
def trJ (c : Cn) (H0 : Hp) (E : Xn → Prop) (e : CI) : TI := fun σ H R => frzn e σ H ∧ trI c H0 E e σ H R
section
variable {c : Cn} {H0 Hs H H1 H2 H' : Hp} {Z ZZ W : Addr → Prop} {σ σ0 σ1 σ2 σ' : L2.St} {ρ ρ0 ρ1 ρ2 ρ' : Env} {v : V} {d : D} {k : Kd} {Ex : Xn → Prop} {EE : XK}
variable {X : Cx} {a b e f g : Expr} {es : List Expr} {pos p p2 : Pos} {ca cb cc : CE} {cs : CL} {Dn : Ends} {K : Kn}
/-- the sources stay -/
theorem Sr.stay {s : Sr} (hs : ∀ p ∈ s.S, Rep c (Rz H (full Z σ ρ)) p.1 p.2) (hl : ∀ q ∈ s.L, Rz H (full Z σ ρ) q.1 q.2) (hw : ∀ a, c.ws a → Z a) (t : Stp c.ws σ ρ H σ' ρ' H') : s.At c (Rz H' (full Z σ' ρ')) σ' ρ' :=
  ⟨fun p hp => .inl ((hs p hp).to (t.R hw)), fun q hq => t.R hw _ _ (hl q hq)⟩
theorem s_forF {tg iter : Expr} {body : List Stmt} {t : Tg} {it : CI} {gg : TG} {cbd : CB} (hp : PassesOwn (model X.prog X.w) X.A X.env X.xe) (hc : X.calm = true) (hi : PI X tg iter (trJ c H0 Ex it)) (hg : PG X tg gg) (ok : TgOk c t gg)
    (hb : PSs X body (trBs c H0 (itX it Ex) cbd)) (hs : ∀ x, foldedSetIterable iter X.env x = pure x) : PS X (.For tg iter body [] pos) (fun D σ H => frzn it σ H ∧ trS c H0 Ex (.for_ t it cbd) D σ H) := by
  refine PS.imp (ps_for hp hc hi hg hb hs) fun Dn σ H h => ?_
  obtain ⟨hf, Z, ρ, K, r, hev, hk⟩ := h
  rw [evS] at hev
  refine ⟨hf, Z, ρ, _, r, hev, fun items k ρ1 J H1 s hp r1 s1 sA sN IT => ?_⟩
  obtain ⟨no, hp⟩ := hp
  have sN := sN no
  refine ⟨fun i m σ' H' => ∃ ρ', m = items.length - i ∧ i ≤ items.length ∧ RE c H0 Z σ' H' ρ' ∧ Stp c.ws σ ρ1 H1 σ' ρ' H' ∧ forL (evB (itX it Ex) cbd) t (items.drop i) ρ' K, ⟨items.length, ρ1, by simp, Nat.zero_le _, r1, .refl, by simpa using hp⟩, fun i m σ' H' w => ?_⟩
  obtain ⟨ρ', em, hle, r2, s2, hL⟩ := w
  obtain ⟨g1, g2, g3⟩ := IT Z σ' ρ' H' i r2 (Sr.stay sN sA.lck r.wz s2)
  by_cases hlt : i < items.length
  · refine .inr ⟨g1 hlt, fun σ3 H3 => ∃ ρ3, RE c H0 Z σ3 H3 ρ3 ∧ Stp c.ws σ ρ1 H1 σ3 ρ3 H3 ∧ forL (evB (itX it Ex) cbd) t (items.drop (i + 1)) ρ3 K, fun σ3 H3 n => ?_, fun x H3 hy => ?_⟩
    · obtain ⟨ρ3, a1, a2, a3⟩ := n
      exact ⟨items.length - (i + 1), by omega, ρ3, rfl, hlt, a1, a2, a3⟩
    · obtain ⟨d, hd, r3, s3, q3⟩ := g3 hlt x H3 hy
      have ed : items.drop i = d :: items.drop (i + 1) := by
        have hd' : items[i] = d := by
          have := List.getElem?_eq_getElem hlt
          rw [this] at hd; exact Option.some.inj hd
        rw [List.drop_eq_getElem_cons hlt, hd']
      rw [ed] at hL
      obtain ⟨ρ4, e4, hL⟩ := hL
      refine ok H0 Z σ' ρ' H3 x d ρ4 _ r3 q3 e4 fun σ4 r4 s4 _ _ => ?_
      have s5 : Stp c.ws σ ρ1 H1 σ4 ρ4 H3 := s4 (s2.trans s3)
      exact ⟨Z, ρ4, _, r4, hL, ⟨fun ρ5 σ5 H5 q r5 s6 => ⟨ρ5, r5, s5.trans s6, q⟩, fun d k ρ5 v σ5 H5 q r5 s6 v5 => hk.rt _ _ _ _ _ _ q r5 ((s1.trans s5).trans s6) (v5.back2 (s1.trans s5)), fun ρ5 σ5 H5 q r5 s6 => ⟨ρ5, r5, s5.trans s6, q⟩⟩⟩
  · have ei : i = items.length := by omega
    refine .inl ⟨g2 ei, ?_⟩
    rw [ei, List.drop_length] at hL
    exact hk.nx _ _ _ hL r2 (s1.trans s2)
theorem s_while {body : List Stmt} {cbd : CB} (hp : PassesOwn (model X.prog X.w) X.A X.env X.xe) (hc : PT X e (trB c H0 Ex ca)) (hb : PSs X body (trBs c H0 Ex cbd)) : PS X (.While e body [] pos) (trS c H0 Ex (.whl ca cbd)) := by
  refine PS.imp (ps_while hp hc hb) fun Dn σ H h => ?_
  obtain ⟨Z, ρ, K, r, hev, hk⟩ := h
  rw [evS] at hev
  obtain ⟨n, hev⟩ := hev
  refine ⟨fun m σ' H' => ∃ ρ', RE c H0 Z σ' H' ρ' ∧ Stp c.ws σ ρ H σ' ρ' H' ∧ whlN (tst (ev Ex ca)) (evB Ex cbd) m ρ' K, ⟨n, ρ, r, .refl, hev⟩, fun m σ' H' w => ?_⟩
  obtain ⟨ρ', r1, s1, hw⟩ := w
  cases m with
  | zero => exact hw.elim
  | succ m =>
    refine ⟨Z, ρ', _, r1, hw, fun t ρ2 H2 hp r2 s2 => ?_⟩
    cases t with
    | false => exact hk.nx _ _ _ hp r2 (s1.trans s2)
    | true =>
      refine ⟨fun σ3 H3 => ∃ ρ3, RE c H0 Z σ3 H3 ρ3 ∧ Stp c.ws σ ρ H σ3 ρ3 H3 ∧ whlN (tst (ev Ex ca)) (evB Ex cbd) m ρ3 K, fun σ3 H3 n => ⟨m, Nat.lt_succ_self _, n⟩, ?_⟩
      exact ⟨Z, ρ2, _, r2, hp, ⟨fun ρ5 σ5 H5 q r5 s6 => ⟨ρ5, r5, (s1.trans s2).trans s6, q⟩, fun d k ρ5 v σ5 H5 q r5 s6 v5 => hk.rt _ _ _ _ _ _ q r5 ((s1.trans s2).trans s6) (v5.back2 (s1.trans s2)), fun ρ5 σ5 H5 q r5 s6 => ⟨ρ5, r5, (s1.trans s2).trans s6, q⟩⟩⟩
/-- the slots wiped -/
theorem wipe_get (σ : L2.St) : ∀ (vs : List Nat) (i : Nat), (wipe σ vs)[i]? = if i ∈ vs ∧ i < σ.length then some none else σ[i]?
  | [], i => by simp [wipe]
  | v :: vs, i => by
    unfold wipe
    by_cases hv : v = i
    · subst hv
      by_cases hl : v < σ.length
      · rw [if_pos ⟨List.mem_cons_self, hl⟩, list_set_same (by rw [wipe_length]; exact hl)]
      · rw [if_neg fun z => hl z.2, List.getElem?_eq_none (by rw [List.length_set, wipe_length]; omega), List.getElem?_eq_none (by omega)]
    · rw [List.getElem?_set_ne hv, wipe_get σ vs i]
      have : (i ∈ v :: vs) ↔ i ∈ vs := by rw [List.mem_cons]; exact ⟨fun z => z.elim (fun e => absurd e.symm hv) id, .inr⟩
      simp only [this]
theorem wipeD_len (ρ : Env) : ∀ vs, (wipeD ρ vs).length = ρ.length
  | [] => rfl
  | v :: vs => by unfold wipeD; rw [List.length_set, wipeD_len ρ vs]
theorem wipeD_get (ρ : Env) : ∀ (vs : List Nat) (i : Nat), (wipeD ρ vs)[i]? = if i ∈ vs ∧ i < ρ.length then some none else ρ[i]?
  | [], i => by simp [wipeD]
  | v :: vs, i => by
    unfold wipeD
    by_cases hv : v = i
    · subst hv
      by_cases hl : v < ρ.length
      · rw [if_pos ⟨List.mem_cons_self, hl⟩, list_set_same (by rw [wipeD_len]; exact hl)]
      · rw [if_neg fun z => hl z.2, List.getElem?_eq_none (by rw [List.length_set, wipeD_len]; omega), List.getElem?_eq_none (by omega)]
    · rw [List.getElem?_set_ne hv, wipeD_get ρ vs i]
      have : (i ∈ v :: vs) ↔ i ∈ vs := by rw [List.mem_cons]; exact ⟨fun z => z.elim (fun e => absurd e.symm hv) id, .inr⟩
      simp only [this]
theorem noOwn_at {vs : List Nat} (h : noOwn ρ vs = true) {i : Nat} (hi : i ∈ vs) {d : D} : ρ[i]? ≠ some (some (.own d)) := fun e => by
  have := List.all_eq_true.mp h i hi
  rw [e] at this; cases this
theorem wipeD_sl {vs : List Nat} {i : Nat} {x : Sl} (h : (wipeD ρ vs)[i]? = some (some x)) : ρ[i]? = some (some x) ∧ ¬ (i ∈ vs ∧ i < ρ.length) := by
  rw [wipeD_get] at h
  by_cases e : i ∈ vs ∧ i < ρ.length
  · rw [if_pos e] at h; cases h
  · rw [if_neg e] at h; exact ⟨h, e⟩
theorem ow_wipe {vs : List Nat} (hl : ρ.length = σ.length) (ho : noOwn ρ vs = true) {b : Addr} : Ow (wipe σ vs) (wipeD ρ vs) b ↔ Ow σ ρ b := by
  constructor
  · rintro ⟨i, d, h, g⟩
    obtain ⟨h1, h2⟩ := wipeD_sl h
    rw [wipe_get, if_neg (by rw [← hl]; exact h2)] at g
    exact ⟨i, d, h1, g⟩
  · rintro ⟨i, d, h, g⟩
    have n : ¬ (i ∈ vs ∧ i < ρ.length) := fun z => noOwn_at ho z.1 h
    exact ⟨i, d, by rw [wipeD_get, if_neg n]; exact h, by rw [wipe_get, if_neg (by rw [← hl]; exact n)]; exact g⟩
theorem full_wipe {vs : List Nat} (hl : ρ.length = σ.length) (ho : noOwn ρ vs = true) : full Z (wipe σ vs) (wipeD ρ vs) = full Z σ ρ := by
  funext b
  exact propext (or_congr Iff.rfl (ow_wipe hl ho))
theorem RE.wiped {vs : List Nat} (r : RE c H0 Z σ H ρ) (ho : noOwn ρ vs = true) : RE c H0 Z (wipe σ vs) H (wipeD ρ vs) := by
  have fe := full_wipe (Z := Z) r.len ho
  refine ⟨by rw [wipeD_len, wipe_length]; exact r.len, fun i d h => ?_, fun i d h => ?_, fun i j d e v hij hi hj hs => ?_, r.ext, r.al, r.wok, r.wz, r.zal⟩
  · obtain ⟨h1, h2⟩ := wipeD_sl h
    obtain ⟨v, e, q⟩ := r.frz i d h1
    exact ⟨v, by rw [wipe_get, if_neg (by rw [← r.len]; exact h2)]; exact e, by rw [fe]; exact q⟩
  · obtain ⟨h1, h2⟩ := wipeD_sl h
    obtain ⟨a, e, n, h0, t⟩ := r.own i d h1
    exact ⟨a, by rw [wipe_get, if_neg (by rw [← r.len]; exact h2)]; exact e, n, h0, by rw [fe]; exact t⟩
  · obtain ⟨h1, h2⟩ := wipeD_sl hi
    obtain ⟨g1, g2⟩ := wipeD_sl hj
    rw [wipe_get, if_neg (by rw [← r.len]; exact h2)] at hs
    rw [wipe_get, if_neg (by rw [← r.len]; exact g2)]
    exact r.one i j d e v hij h1 g1 hs
/-- the zone's object is changed -/
theorem RE.zset (r : RE c H0 Z σ H ρ) {q : Addr} {o : HO} (hz : Z q) (nw : ¬ c.ws q) (h0 : H0 q = none) (hx : ∀ φ, H q ≠ some (.ext φ)) (ho : ∀ φ, o ≠ .ext φ) : RE c H0 Z σ (upd H q o) ρ := by
  have ne : ∀ {b}, ¬ full Z σ ρ b → b ≠ q := fun n e => n (.inl (e ▸ hz))
  have hR : ∀ b u, Rz H (full Z σ ρ) b u → Rz (upd H q o) (full Z σ ρ) b u := fun b u h => ⟨h.1, by rw [upd_ne (ne h.1)]; exact h.2⟩
  refine ⟨r.len, fun i d h => ?_, fun i d h => ?_, r.one, fun b u e n => ?_, fun b e => upd_al b (r.al b e), r.wupd nw hx, r.wz, fun b z => ob_upd (r.zal b z) (ob_at upd_same ho)⟩
  · obtain ⟨v, e, w⟩ := r.frz i d h
    exact ⟨v, e, w.to hR⟩
  · obtain ⟨a, e, n, g0, t⟩ := r.own i d h
    exact ⟨a, e, n, g0, t.to hR (upd_ne fun z => n (z ▸ hz))⟩
  · rw [upd_ne fun z => by rw [z, h0] at e; cases e]
    exact r.ext b u e n
theorem Rz.zset {q : Addr} {o : HO} (hz : Z q) : ∀ b u, Rz H (full Z σ ρ) b u → Rz (upd H q o) (full Z σ ρ) b u := fun b u h => ⟨h.1, by rw [upd_ne fun e => h.1 (.inl (by rw [e]; exact hz))]; exact h.2⟩
/-- back from a block -/
theorem RE.unwipe {vs : List Nat} {H4 : Hp} (r : RE c H0 Z σ H ρ) (ho : noOwn ρ vs = true) (ag : ∀ i, i ∉ vs → σ2[i]? = σ[i]? ∧ ρ2[i]? = ρ[i]?) (oe : ∀ b, Ow σ2 ρ2 b ↔ Ow σ ρ b) (r2 : RE c H0 Z σ2 H4 ρ2) (s2 : Stp c.ws σ2 ρ2 H σ2 ρ2 H4) :
    RE c H0 Z σ H4 ρ ∧ Stp c.ws σ ρ H σ ρ H4 := by
  have fe : ∀ Z, full Z σ2 ρ2 = full Z σ ρ := fun Z => by funext b; exact propext (or_congr Iff.rfl (oe b))
  have st : Stp c.ws σ ρ H σ ρ H4 := ⟨fun b o e n => s2.keep b o e (by rw [fe]; exact n), fun b z => .inl z, s2.al⟩
  refine ⟨⟨r.len, fun i d h => ?_, fun i d h => ?_, r.one, r2.ext, r2.al, r2.wok, r.wz, r2.zal⟩, st⟩
  · obtain ⟨v, e, q⟩ := r.frz i d h
    exact ⟨v, e, q.to (st.R r.wz)⟩
  · have hi : i ∉ vs := fun z => noOwn_at ho z h
    obtain ⟨a1, a2⟩ := ag i hi
    obtain ⟨a, e, n, g0, t⟩ := r2.own i d (by rw [a2]; exact h)
    exact ⟨a, by rw [← a1]; exact e, n, g0, by rw [← fe]; exact t⟩
/-- a clause's tests -/
def trC (c : Cn) (H0 : Hp) (E : Xn → Prop) (e : CO) : TT := fun σ H Q => ∃ (Z : Addr → Prop) (ρ : Env) (P : Bool → Env → Prop), RE c H0 Z σ H ρ ∧ evc E e ρ P ∧
  ∀ b ρ' H', P b ρ' → RE c H0 Z σ H' ρ' → Stp c.ws σ ρ H σ ρ' H' → Q b H'
theorem PTs.imp {X : Cx} {e : List Expr} {t t' : TT} (h : PTs X e t) (i : ∀ σ H Q, t' σ H Q → t σ H Q) : PTs X e t' := ⟨fun pins s σ H Q I q => h.run pins s σ H Q I (i σ H Q q)⟩
theorem c_no : PTs X [] (trC c H0 Ex .no) := by
  refine PTs.imp pts_nil fun σ H Q h => ?_
  obtain ⟨Z, ρ, P, r, hev, hk⟩ := h
  rw [evc] at hev
  exact hk _ _ _ hev r .refl
theorem c_one (h : PT X e (trB c H0 Ex ca)) : PTs X [e] (trC c H0 Ex (.one ca)) := by
  refine PTs.imp (pts_one h) fun σ H Q h => ?_
  obtain ⟨Z, ρ, P, r, hev, hk⟩ := h
  rw [evc] at hev
  exact ⟨Z, ρ, P, r, hev, hk⟩
/-- into a turn: the target bound -/
theorem turn_in {t : Tg} {gg : TG} {vs : List Nat} (ok : TgOk c t gg) (htv : ∀ i, i ∈ TgOk.tgs t → i ∈ vs) (r : RE c H0 Z σ H ρ) (ho : noOwn ρ vs = true) (q : Rep c (Rz H (full Z σ ρ)) v d) (hb : bindT t d (wipeD ρ vs) = some ρ2) {Q : L2.St → Hp → Prop}
    (h : ∀ σ2, RE c H0 Z σ2 H ρ2 → wipe σ2 vs = wipe σ vs → (∀ i, i ∉ vs → σ2[i]? = σ[i]? ∧ ρ2[i]? = ρ[i]?) → (∀ b, Ow σ2 ρ2 b ↔ Ow σ ρ b) → Q σ2 H) : gg v (wipe σ vs) H Q := by
  have rw_ := r.wiped ho
  have fe := full_wipe (Z := Z) r.len ho
  refine ok H0 Z _ _ H v d ρ2 Q rw_ (by rw [fe]; exact q) hb fun σ2 r2 s2 w2 u2 => ?_
  have ww : ∀ (vs us : List Nat), (∀ i, i ∈ us → i ∈ vs) → wipe (wipe σ vs) us = wipe σ vs := fun vs us hs => by
    apply List.ext_getElem?
    intro i
    rw [wipe_get]
    by_cases hi : i ∈ us ∧ i < (wipe σ vs).length
    · rw [if_pos hi, wipe_get, if_pos ⟨hs i hi.1, by rw [wipe_length] at hi; exact hi.2⟩]
    · rw [if_neg hi]
  have ag : ∀ i, i ∉ vs → σ2[i]? = σ[i]? ∧ ρ2[i]? = ρ[i]? := fun i hi => by
    obtain ⟨a1, a2⟩ := u2 i fun z => hi (htv i z)
    rw [a1, a2, wipe_get, wipeD_get, if_neg fun z => hi z.1, if_neg fun z => hi z.1]
    exact ⟨rfl, rfl⟩
  refine h σ2 r2 (by rw [w2 vs htv, ww vs vs fun _ z => z]) ag fun b => ⟨fun z => ?_, fun z => ?_⟩
  · have st : Stp c.ws (wipe σ vs) (wipeD ρ vs) H σ2 ρ2 H := s2 .refl
    rcases st.ow b z with y | y
    · exact (ow_wipe r.len ho).mp y
    · obtain ⟨i, e, h1, h2⟩ := z
      obtain ⟨a, e', _, _, t⟩ := r2.own i e h1
      rw [h2] at e'; cases e'
      exact absurd y t.al
  · obtain ⟨i, e, h1, h2⟩ := z
    have hi : i ∉ vs := fun z => noOwn_at ho z h1
    obtain ⟨a1, a2⟩ := ag i hi
    exact ⟨i, e, by rw [a2]; exact h1, by rw [a1]; exact h2⟩
/-- what a comprehension's turn does -/
abbrev turnC (t : Tg) (vs : List Nat) (co : CO) (ce : CE) (ρ1 : Env) (x : D) (K : Option D → Prop) : Prop := trn t vs (evc noX co) (ev noX ce) ρ1 x K
/-- a new list that a comprehension fills: acc so far -/
structure Fill (c : Cn) (H0 : Hp) (Z : Addr → Prop) (σ : L2.St) (ρ1 : Env) (H1 : Hp) (q : Addr) (H : Hp) (ds : List D) : Prop where
  re : RE c H0 (Zp Z q) σ H ρ1
  st : Stp c.ws σ ρ1 H1 σ ρ1 H
  ac : ∃ acc, H q = some (.lst acc) ∧ acc.length ≤ sizeLine ∧ RepL c (Rz H (full (Zp Z q) σ ρ1)) acc ds
theorem Fill.start {q : Addr} (r1 : RE c H0 Z σ H1 ρ1) (hq : H1 q = none) : Fill c H0 Z σ ρ1 H1 q (upd H1 q (.lst [])) [] :=
  ⟨r1.newZ hq (fun _ z => nomatch z), .new hq, [], upd_same, Nat.zero_le _, .nil⟩
theorem Fill.grow {q : Addr} {ds : List D} (f : Fill c H0 Z σ ρ1 H1 q H ds) (nw : ¬ c.ws q) (nf : ¬ Ow σ ρ1 q) (r : RE c H0 (Zp Z q) σ H' ρ1) (s : Stp c.ws σ ρ1 H σ ρ1 H') : Fill c H0 Z σ ρ1 H1 q H' ds := by
  obtain ⟨acc, h1, h2, h3⟩ := f.ac
  exact ⟨r, f.st.trans s, acc, s.keep q _ h1 fun z => z.elim nw nf, h2, h3.to (s.R f.re.wz)⟩
theorem Fill.snoc {q : Addr} {ds : List D} {acc : List V} (f : Fill c H0 Z σ ρ1 H1 q H ds) (nw : ¬ c.ws q) (h0 : H0 q = none) (hq : H1 q = none) (h1 : H q = some (.lst acc)) (v1 : Rep c (Rz H (full (Zp Z q) σ ρ1)) v d) (hl : ds.length < big) :
    acc.length < sizeLine ∧ Fill c H0 Z σ ρ1 H1 q (upd H q (.lst (acc ++ [v]))) (ds ++ [d]) := by
  obtain ⟨acc', h1', h2, h3⟩ := f.ac
  rw [h1] at h1'; cases h1'
  have hz : acc.length < sizeLine := by rw [h3.len]; exact hl
  refine ⟨hz, f.re.zset (.inr rfl) nw h0 (fun φ e => by rw [h1] at e; cases e) (fun _ z => nomatch z), ⟨fun b o e n => ?_, f.st.ow, fun b e => upd_al b (f.st.al b e)⟩, acc ++ [v], upd_same, by rw [List.length_append]; exact hz, (h3.to (Rz.zset (.inr rfl))).app (.cons (v1.to (Rz.zset (.inr rfl))) .nil)⟩
  rw [upd_ne fun z => by rw [z, hq] at e; cases e]
  exact f.st.keep b o e n
theorem Fill.lift {q : Addr} {ds : List D} (f : Fill c H0 Z σ ρ1 H1 q H ds) (hq : H1 q = none) (hw : ∀ a, c.ws a → Z a) : ∀ a u, Rz H1 (full Z σ ρ1) a u → Rz H (full (Zp Z q) σ ρ1) a u := fun a u h => by
  have q2 := f.st.R hw a u h
  have ne : a ≠ q := fun e => h.sm (e ▸ hq)
  exact ⟨fun z => z.elim (fun z => z.elim (fun z => q2.1 (.inl z)) ne) fun z => q2.1 (.inr z), q2.2⟩
theorem Fill.src {q : Addr} {ds : List D} {s : Sr} (f : Fill c H0 Z σ ρ1 H1 q H ds) (hq : H1 q = none) (hw : ∀ a, c.ws a → Z a) (h : s.At c (Rz H1 (full Z σ ρ1)) σ ρ1) : s.At c (Rz H (full (Zp Z q) σ ρ1)) σ ρ1 :=
  h.to (f.lift hq hw)
theorem Fill.done {q : Addr} {ds : List D} (f : Fill c H0 Z σ ρ1 H1 q H ds) (hs : Hs q = none) (nf : ¬ full Z σ ρ1 q) (hw : ∀ a, c.ws a → Z a) : RE c H0 Z σ H ρ1 ∧ VR c H0 Z σ Hs H ρ1 (.ref q) (.lst ds) .new := by
  obtain ⟨acc, h1, h2, h3⟩ := f.ac
  exact ⟨f.re.grow (fun _ _ e _ => e) (fun _ h => h) f.re.wok (fun b z => .inl (.inl z)) hw fun b z n => absurd n (f.re.zal b (.inl z)).1, q, rfl, hs, nf, f.re, acc, h1, h2, h3⟩
/-- [e for t in it if c]: from the core to the reading -/
theorem lc_imp {t : Tg} {gg : TG} {vs : List Nat} {it : CI} {co : CO} (ok : TgOk c t gg) (htv : ∀ i, i ∈ TgOk.tgs t → i ∈ vs) :
    ∀ σ H Q, (frzn it σ H ∧ tr c H0 Ex (.comp vs ca t it co) σ H Q) → tLc (trJ c H0 Ex it) gg (trC c H0 noX co) (tr c H0 noX ca) vs σ H Q := by
  rintro σ H Q ⟨hf, Z, ρ, P, r, hev, hk⟩
  rw [ev] at hev
  refine ⟨hf, Z, ρ, _, r, hev, fun items k ρ1 J H1 s hp r1 s1 sA sN IT q hq => ?_⟩
  obtain ⟨ho, hp⟩ := hp
  have hp : cmpL (turnC t vs co ca ρ1) items [] (fun ds => P (.lst ds) .new ρ1) := hp
  have nw : ¬ c.ws q := r1.nws hq
  have nf : ¬ full Z σ ρ1 q := r1.nfull hq
  have h0 : H0 q = none := by
    cases e : H0 q with
    | none => rfl
    | some o => exact absurd hq (r1.al q (some_ne e))
  have hHq : H q = none := by
    cases e : H q with
    | none => rfl
    | some o => exact absurd hq (s1.al q (some_ne e))
  refine ⟨fun i m H' => m = items.length - i ∧ i ≤ items.length ∧ ∃ ds, Fill c H0 Z σ ρ1 H1 q H' ds ∧ cmpL (turnC t vs co ca ρ1) (items.drop i) ds (fun ds => P (.lst ds) .new ρ1), ⟨_, rfl, Nat.zero_le _, [], .start r1 hq, by simpa using hp⟩, fun i m H' w => ?_⟩
  obtain ⟨em, hle, ds, F, hL⟩ := w
  obtain ⟨g1, g2, g3⟩ := IT (Zp Z q) σ ρ1 H' i F.re (F.src hq r1.wz sA)
  by_cases hlt : i < items.length
  · refine .inr ⟨g1 hlt, fun H3 => ∃ ds, Fill c H0 Z σ ρ1 H1 q H3 ds ∧ cmpL (turnC t vs co ca ρ1) (items.drop (i + 1)) ds (fun ds => P (.lst ds) .new ρ1), fun H3 n => ⟨items.length - (i + 1), by omega, rfl, hlt, n⟩, fun x H3 hy => ?_⟩
    obtain ⟨d, hd, r3, s3, q3⟩ := g3 hlt x H3 hy
    have F3 := F.grow nw (fun z => nf (.inr z)) r3 s3
    have ed : items.drop i = d :: items.drop (i + 1) := by
      have hd' : items[i] = d := by
        have := List.getElem?_eq_getElem hlt
        rw [this] at hd; exact Option.some.inj hd
      rw [List.drop_eq_getElem_cons hlt, hd']
    rw [ed] at hL
    obtain ⟨ρ2, hb, hL⟩ := hL
    refine turn_in ok htv r3 ho q3 hb fun σ2 r4 w4 ag oe => ⟨w4, Zp Z q, ρ2, _, r4, hL, fun b ρ3 H4 hp4 r5 s5 => ?_⟩
    obtain ⟨e3, hp4⟩ := hp4
    subst e3
    obtain ⟨r6, s6⟩ := r3.unwipe ho ag oe r5 s5
    have F4 := F3.grow nw (fun z => nf (.inr z)) r6 s6
    cases b with
    | false => exact ⟨ds, F4, hp4⟩
    | true =>
      refine ⟨Zp Z q, _, _, r5, hp4, fun d' k' ρ4 y H5 hp5 r7 s7 v7 => ?_⟩
      obtain ⟨e4, no, hlen, hp5⟩ := hp5
      subst e4
      obtain ⟨r8, s8⟩ := r6.unwipe ho ag oe r7 s7
      have F5 := F4.grow nw (fun z => nf (.inr z)) r8 s8
      have rep : Rep c (Rz H5 (full (Zp Z q) σ ρ1)) y d' := by
        have := v7.nsrc no
        rw [show full (Zp Z q) σ2 ρ4 = full (Zp Z q) σ ρ1 by funext b; exact propext (or_congr Iff.rfl (oe b))] at this
        exact this
      obtain ⟨acc, h1, _, _⟩ := F5.ac
      obtain ⟨hz, F6⟩ := F5.snoc nw h0 hq h1 rep hlen
      exact ⟨acc, h1, hz, _, F6, hp5⟩
  · have ei : i = items.length := by omega
    refine .inl ⟨g2 ei, ?_⟩
    rw [ei, List.drop_length] at hL
    obtain ⟨rf, vf⟩ := F.done (Hs := H) hHq nf r1.wz
    exact hk _ _ _ _ _ hL rf (s1.trans F.st) vf
end
end Z
end T_ZE
section T_ZF
namespace Z
open PySem L2
section
variable {c : Cn} {H0 Hs H H1 H2 H3 H' : Hp} {Z ZZ W W' : Addr → Prop} {σ σ0 σ1 σ2 σ' : L2.St} {ρ ρ0 ρ1 ρ2 ρ' : Env} {v : V} {d : D} {k : Kd} {Ex : Xn → Prop} {EE : XK}
variable {X : Cx} {a b e f g : Expr} {es : List Expr} {pos p p2 : Pos} {ca cb cc : CE} {cs : CL} {Dn : Ends} {K : Kn}
theorem Stp.wk (s : Stp W σ ρ H σ' ρ' H') (h : ∀ a, W a → W' a) : Stp W' σ ρ H σ' ρ' H' := ⟨fun b o e n => s.keep b o e fun z => n (z.imp (h b) id), s.ow, s.al⟩
theorem Stp.updZ {q : Addr} {o : HO} (s : Stp (Zp W q) σ ρ H σ ρ H') : Stp (Zp W q) σ ρ H σ ρ (upd H' q o) :=
  ⟨fun b u e n => by rw [upd_ne fun z => n (.inl (.inr z))]; exact s.keep b u e n, s.ow, fun b e => upd_al b (s.al b e)⟩
theorem frzn_in {it2 : CI} {vs : List Nat} (r : RE c H0 Z σ H ρ) (hf : frzn it2 σ H) (r1 : RE c H0 Z σ H1 ρ1) (s1 : Stp c.ws σ ρ H σ ρ1 H1) (kk : kOk it2 (wipeD ρ1 vs)) (ag : ∀ i, i ∉ vs → σ2[i]? = σ[i]?) (s3 : Stp c.ws σ ρ1 H1 σ ρ1 H3) : frzn it2 σ2 H3 := by
  cases it2 <;> try exact trivial
  rename_i j
  obtain ⟨q, o, w, e1, e2⟩ := hf
  obtain ⟨kvs, hk⟩ := kk
  obtain ⟨h1, h2⟩ := wipeD_sl hk
  have hj : j ∉ vs := fun z => h2 ⟨z, (List.getElem?_eq_some_iff.mp h1).1⟩
  obtain ⟨v, e3, w3⟩ := r1.frz j _ h1
  rw [e1] at e3; cases e3
  have nf : ¬ full Z σ ρ1 q := by
    cases w3 with
    | dct z _ _ => exact z.1
  have nws : ¬ c.ws q := fun z => nf (.inl (r1.wz q z))
  have now : ¬ Ow σ ρ q := by
    rintro ⟨i, d, g1, g2⟩
    obtain ⟨a, g3, _, _, t⟩ := r.own i d g1
    rw [g2] at g3; cases g3
    exact t.nfz e2 rfl rfl
  have e4 := s1.keep q _ e2 fun z => z.elim nws now
  have e5 := s3.keep q _ e4 fun z => z.elim nws fun z => nf (.inr z)
  exact ⟨q, o, w, by rw [ag j hj]; exact e1, e5⟩
theorem lc2_imp {t t2 : Tg} {gg gg2 : TG} {vs vs2 : List Nat} {it it2 : CI} {co co2 : CO} (ok : TgOk c t gg) (htv : ∀ i, i ∈ TgOk.tgs t → i ∈ vs) (ok2 : TgOk c t2 gg2) (htv2 : ∀ i, i ∈ TgOk.tgs t2 → i ∈ vs2) :
    ∀ σ H Q, (frzn it σ H ∧ frzn it2 σ H ∧ tr c H0 Ex (.comp2 vs vs2 ca t it co t2 it2 co2) σ H Q) → tLc2 (trJ c H0 Ex it) gg (trC c H0 noX co) (trJ c H0 noX it2) gg2 (trC c H0 noX co2) (tr c H0 noX ca) vs vs2 σ H Q := by
  rintro σ H Q ⟨hf, hf2, Z, ρ, P, r, hev, hk⟩
  rw [ev] at hev
  refine ⟨hf, Z, ρ, _, r, hev.2, fun items k ρ1 J H1 s hp r1 s1 sA sN IT q hq => ?_⟩
  obtain ⟨ho, kk, hp⟩ := hp
  obtain ⟨step, hstep⟩ : ∃ step : D → List D → (List D → Prop) → Prop, step = fun x acc K => ∃ ρ2, bindT t x (wipeD ρ1 vs) = some ρ2 ∧ evc noX co ρ2 fun b ρ3 => ρ3 = ρ2 ∧
      if b = true then evi noX it2 ρ2 fun items2 k2 ρ4 => ρ4 = ρ2 ∧ noOwn ρ2 vs2 = true ∧ cmpL (turnC t2 vs2 co2 ca ρ2) items2 acc K
      else K acc := ⟨_, rfl⟩
  have hp : cmpLs step items [] (fun ds => P (.lst ds) .new ρ1) := by rw [hstep]; exact hp
  have nw : ¬ c.ws q := r1.nws hq
  have nf : ¬ full Z σ ρ1 q := r1.nfull hq
  have no_ : ¬ Ow σ ρ1 q := fun z => nf (.inr z)
  have h0 : H0 q = none := by
    cases e : H0 q with
    | none => rfl
    | some o => exact absurd hq (r1.al q (some_ne e))
  have hHq : H q = none := by
    cases e : H q with
    | none => rfl
    | some o => exact absurd hq (s1.al q (some_ne e))
  refine ⟨fun i m H' => m = items.length - i ∧ i ≤ items.length ∧ ∃ ds, Fill c H0 Z σ ρ1 H1 q H' ds ∧ cmpLs step (items.drop i) ds (fun ds => P (.lst ds) .new ρ1), ⟨_, rfl, Nat.zero_le _, [], .start r1 hq, by simpa using hp⟩, fun i m H' w => ?_⟩
  obtain ⟨em, hle, ds, F, hL⟩ := w
  obtain ⟨g1, g2, g3⟩ := IT (Zp Z q) σ ρ1 H' i F.re (F.src hq r1.wz sA)
  by_cases hlt : i < items.length
  · refine .inr ⟨g1 hlt, fun H3 => ∃ ds, Fill c H0 Z σ ρ1 H1 q H3 ds ∧ cmpLs step (items.drop (i + 1)) ds (fun ds => P (.lst ds) .new ρ1), fun H3 n => ⟨items.length - (i + 1), by omega, rfl, hlt, n⟩, fun x H3 hy => ?_⟩
    obtain ⟨d, hd, r3, s3, q3⟩ := g3 hlt x H3 hy
    have F3 := F.grow nw no_ r3 s3
    have ed : items.drop i = d :: items.drop (i + 1) := by
      have hd' : items[i] = d := by
        have := List.getElem?_eq_getElem hlt
        rw [this] at hd; exact Option.some.inj hd
      rw [List.drop_eq_getElem_cons hlt, hd']
    rw [ed] at hL
    have hL : step d ds fun acc' => cmpLs step (items.drop (i + 1)) acc' (fun ds => P (.lst ds) .new ρ1) := hL
    rw [hstep] at hL
    rw [← hstep] at hL
    obtain ⟨ρ2, hb, hL⟩ := hL
    refine turn_in ok htv r3 ho q3 hb fun σ2 r4 w4 ag oe => ⟨w4, Zp Z q, ρ2, _, r4, hL, fun b ρ3 H4 hp4 r5 s5 => ?_⟩
    have fe : full (Zp Z q) σ2 ρ2 = full (Zp Z q) σ ρ1 := by funext b; exact propext (or_congr Iff.rfl (oe b))
    obtain ⟨e3, hp4⟩ := hp4
    subst e3
    obtain ⟨r6, s6⟩ := r3.unwipe ho ag oe r5 s5
    have F4 := F3.grow nw no_ r6 s6
    cases b with
    | false => exact ⟨ds, F4, hp4⟩
    | true =>
      have hp4 : evi noX it2 ρ3 fun items2 k2 ρ4 => ρ4 = ρ3 ∧ noOwn ρ3 vs2 = true ∧ cmpL (turnC t2 vs2 co2 ca ρ3) items2 ds fun acc' => cmpLs step (items.drop (i + 1)) acc' (fun ds => P (.lst ds) .new ρ1) := hp4
      refine ⟨frzn_in (vs := vs) r hf2 r1 s1 kk (fun i hi => (ag i hi).1) F4.st, Zp Z q, _, _, r5, hp4, fun items2 k2 ρ4 J2 H5 s2 hp5 r7 s7 sA2 sN2 IT2 => ?_⟩
      obtain ⟨e4, ho2, hp5⟩ := hp5
      subst e4
      obtain ⟨r8, s8⟩ := r6.unwipe ho ag oe r7 s7
      have F5 := F4.grow nw no_ r8 s8
      refine ⟨fun j m H' => m = items2.length - j ∧ j ≤ items2.length ∧ ∃ ds, Fill c H0 Z σ ρ1 H1 q H' ds ∧ RE c H0 (Zp Z q) σ2 H' ρ4 ∧ Stp (Zp c.ws q) σ2 ρ4 H5 σ2 ρ4 H' ∧ cmpL (turnC t2 vs2 co2 ca ρ4) (items2.drop j) ds fun acc' => cmpLs step (items.drop (i + 1)) acc' (fun ds => P (.lst ds) .new ρ1),
        ⟨_, rfl, Nat.zero_le _, ds, F5, r7, .refl, by simpa using hp5⟩, fun j m2 H6 w => ?_⟩
      obtain ⟨em2, hle2, ds2, F6, r9, t9, hL2⟩ := w
      have wz : ∀ a, Zp c.ws q a → Zp Z q a := fun a z => z.imp (r1.wz a) id
      obtain ⟨k1, k2, k3⟩ := IT2 (Zp Z q) σ2 ρ4 H6 j r9 (by
        refine ⟨fun p hp => ?_, fun p hp => t9.R wz _ _ (sA2.lck p hp)⟩
        exact (sA2.src p hp).imp (fun z => z.to (t9.R wz)) id)
      by_cases hlt2 : j < items2.length
      · refine .inr ⟨k1 hlt2, fun H3 => ∃ ds, Fill c H0 Z σ ρ1 H1 q H3 ds ∧ RE c H0 (Zp Z q) σ2 H3 ρ4 ∧ Stp (Zp c.ws q) σ2 ρ4 H5 σ2 ρ4 H3 ∧ cmpL (turnC t2 vs2 co2 ca ρ4) (items2.drop (j + 1)) ds fun acc' => cmpLs step (items.drop (i + 1)) acc' (fun ds => P (.lst ds) .new ρ1), fun H3 n => ⟨items2.length - (j + 1), by omega, rfl, hlt2, n⟩, fun x2 H7 hy2 => ?_⟩
        obtain ⟨d2, hd2, r10, s10, q10⟩ := k3 hlt2 x2 H7 hy2
        obtain ⟨r11, s11⟩ := F6.re.unwipe ho ag oe r10 s10
        have F7 := F6.grow nw no_ r11 s11
        have t10 := t9.trans (s10.wk (Zp_le _ _))
        have ed2 : items2.drop j = d2 :: items2.drop (j + 1) := by
          have hd' : items2[j] = d2 := by
            have := List.getElem?_eq_getElem hlt2
            rw [this] at hd2; exact Option.some.inj hd2
          rw [List.drop_eq_getElem_cons hlt2, hd']
        rw [ed2] at hL2
        obtain ⟨ρ5, hb2, hL2⟩ := hL2
        refine turn_in ok2 htv2 r10 ho2 q10 hb2 fun σ3 r12 w12 ag2 oe2 => ⟨w12, Zp Z q, ρ5, _, r12, hL2, fun b2 ρ6 H8 hp8 r13 s13 => ?_⟩
        obtain ⟨e6, hp8⟩ := hp8
        subst e6
        obtain ⟨r14, s14⟩ := r10.unwipe ho2 ag2 oe2 r13 s13
        obtain ⟨r15, s15⟩ := r11.unwipe ho ag oe r14 s14
        have F8 := F7.grow nw no_ r15 s15
        have t14 := t10.trans (s14.wk (Zp_le _ _))
        cases b2 with
        | false => exact ⟨ds2, F8, r14, t14, hp8⟩
        | true =>
          refine ⟨Zp Z q, _, _, r13, hp8, fun d' k' ρ7 y H9 hp9 r16 s16 v16 => ?_⟩
          obtain ⟨e7, no2, hlen, hp9⟩ := hp9
          subst e7
          obtain ⟨r17, s17⟩ := r14.unwipe ho2 ag2 oe2 r16 s16
          obtain ⟨r18, s18⟩ := r15.unwipe ho ag oe r17 s17
          have F9 := F8.grow nw no_ r18 s18
          have t17 := t14.trans (s17.wk (Zp_le _ _))
          have rep : Rep c (Rz H9 (full (Zp Z q) σ ρ1)) y d' := by
            have := v16.nsrc no2
            rw [show full (Zp Z q) σ3 ρ7 = full (Zp Z q) σ2 ρ4 by funext b; exact propext (or_congr Iff.rfl (oe2 b)), fe] at this
            exact this
          obtain ⟨acc, h1, _, _⟩ := F9.ac
          obtain ⟨hz, F10⟩ := F9.snoc nw h0 hq h1 rep hlen
          exact ⟨acc, h1, hz, _, F10, r17.zset (.inr rfl) nw h0 (fun φ e => by rw [h1] at e; cases e) (fun _ z => nomatch z), t17.updZ, hp9⟩
      · have ej : j = items2.length := by omega
        rw [ej, List.drop_length] at hL2
        exact .inl ⟨k2 ej, _, F6, hL2⟩
  · have ei : i = items.length := by omega
    refine .inl ⟨g2 ei, ?_⟩
    rw [ei, List.drop_length] at hL
    obtain ⟨rf, vf⟩ := F.done (Hs := H) hHq nf r1.wz
    exact hk _ _ _ _ _ hL rf (s1.trans F.st) vf
def ksOf : CI → List Nat
  | .key i => [i]
  | _ => []
theorem frzn_of {it : CI} (h : ∀ i ∈ ksOf it, FzN i σ H) : frzn it σ H := by
  cases it <;> first | trivial | exact h _ List.mem_cons_self
theorem key_norm {it : CI} {P : List D → Kd → Env → Prop} (r : RE c H0 Z σ H ρ) (h : evi Ex it ρ P) : ∃ ρ', RE c H0 Z σ H ρ' ∧ Stp c.ws σ ρ H σ ρ' H ∧ (∀ i ∈ ksOf it, IsDct i ρ') ∧ evi Ex it ρ' P ∧ ∀ i, IsDct i ρ → IsDct i ρ' := by
  by_cases hk : ksOf it = []
  · exact ⟨ρ, r, .refl, (fun _ z => by rw [hk] at z; exact nomatch z), h, fun _ z => z⟩
  obtain ⟨i, rfl⟩ : ∃ i, it = .key i := by cases it <;> first | exact ⟨_, rfl⟩ | exact absurd rfl hk
  rw [evi] at h
  rcases keyR_of h with ⟨kvs, e, h⟩ | ⟨kvs, e, h⟩
  · refine ⟨ρ, r, .refl, fun j hj => ?_, by rw [evi, e]; exact h, fun _ h => h⟩
    rw [show j = i from List.mem_singleton.mp hj]
    exact ⟨kvs, e⟩
  · obtain ⟨a, b, _⟩ := r.freeze e
    have hi : i < ρ.length := (List.getElem?_eq_some_iff.mp e).1
    have e2 : (frzAt ρ i (.dct kvs))[i]? = some (some (.frz (.dct kvs))) := list_set_same hi
    refine ⟨_, a, b, fun j hj => ?_, by rw [evi, e2]; exact h, fun j ⟨kv, hj⟩ => ?_⟩
    · rw [show j = i from List.mem_singleton.mp hj]
      exact ⟨kvs, e2⟩
    · by_cases z : i = j
      · subst z; exact ⟨_, e2⟩
      · exact ⟨kv, by unfold frzAt; rw [List.getElem?_set_ne z]; exact hj⟩
theorem e_compLk {t : Tg} {vs : List Nat} {it : CI} {co : CO} (h : ∀ H0, PE X e (fun σ H Q => frzn it σ H ∧ tr c H0 Ex (.comp vs ca t it co) σ H Q)) : ∀ H0, PE X e (tr c H0 Ex (.comp vs ca t it co)) := by
  intro H0
  have base : ∀ H0, PE X e (trF (ksOf it) (ksOf it) c H0 Ex (.comp vs ca t it co)) := fun H0 => PE.imp (h H0) fun σ H Q q => by
    obtain ⟨hf, Z, ρ, P, r, _, hev, hk⟩ := q
    exact ⟨frzn_of hf, Z, ρ, P, r, hev, hk⟩
  refine PE.imp (PE.lks (all := ksOf it) (ksOf it) (fun _ h => h) base H0) fun σ H Q q => ?_
  · obtain ⟨Z, ρ, P, r, hev, hk⟩ := q
    rw [ev] at hev
    obtain ⟨ρ', r', s', hd, hev, _⟩ := key_norm r hev
    exact ⟨fun _ h => (nomatch h), Z, ρ', P, r', hd, by rw [ev]; exact hev, fun d k ρ2 v H' q r2 s2 v2 => hk d k ρ2 v H' q r2 (s'.trans s2) v2⟩
theorem e_comp2Lk {t t2 : Tg} {vs vs2 : List Nat} {it it2 : CI} {co co2 : CO} (h : ∀ H0, PE X e (fun σ H Q => frzn it σ H ∧ frzn it2 σ H ∧ tr c H0 Ex (.comp2 vs vs2 ca t it co t2 it2 co2) σ H Q)) : ∀ H0, PE X e (tr c H0 Ex (.comp2 vs vs2 ca t it co t2 it2 co2)) := by
  intro H0
  have base : ∀ H0, PE X e (trF (ksOf it ++ ksOf it2) (ksOf it ++ ksOf it2) c H0 Ex (.comp2 vs vs2 ca t it co t2 it2 co2)) := fun H0 => PE.imp (h H0) fun σ H Q q => by
    obtain ⟨hf, Z, ρ, P, r, _, hev, hk⟩ := q
    exact ⟨frzn_of fun i hi => hf i (List.mem_append_left _ hi), frzn_of fun i hi => hf i (List.mem_append_right _ hi), Z, ρ, P, r, hev, hk⟩
  refine PE.imp (PE.lks (all := ksOf it ++ ksOf it2) (ksOf it ++ ksOf it2) (fun _ h => h) base H0) fun σ H Q q => ?_
  · obtain ⟨Z, ρ, P, r, hev, hk⟩ := q
    rw [ev] at hev
    obtain ⟨k2, hev⟩ := hev
    obtain ⟨ρ', r', s', hd, hev, hd2⟩ := key_norm r hev
    have k2' : ∀ i ∈ ksOf it2, IsDct i ρ' := fun i hi => by
      cases it2 <;> try (cases hi; done)
      rw [show i = _ from List.mem_singleton.mp hi]
      exact hd2 _ k2
    refine ⟨fun _ h => (nomatch h), Z, ρ', P, r', fun i hi => (List.mem_append.mp hi).elim (hd i) (k2' i), ?_, fun d k ρ2 v H' q r2 s2 v2 => hk d k ρ2 v H' q r2 (s'.trans s2) v2⟩
    rw [ev]
    refine ⟨?_, hev⟩
    cases it2 <;> first | trivial | exact k2' _ List.mem_cons_self
def trSF (all ks : List Nat) (c : Cn) (H0 : Hp) (E : Xn → Prop) (s : CS) : TS := fun D σ H => (∀ i ∈ ks, FzN i σ H) ∧ ∃ (Z : Addr → Prop) (ρ : Env) (K : Kn), RE c H0 Z σ H ρ ∧ (∀ i ∈ all, IsDct i ρ) ∧ evS E s ρ K ∧ KO c H0 Z σ ρ H K D
theorem PS.lk1 {st : Stmt} {cst : CS} {all ks : List Nat} {i : Nat} (hi : i ∈ all) (h : ∀ H0, PS X st (trSF all (i :: ks) c H0 Ex cst)) : ∀ H0, PS X st (trSF all ks c H0 Ex cst) := by
  intro H0
  refine PS.imp (PS.or (PS.ex h) (ps_lock (PS.ex h))) fun D σ H ht => ?_
  obtain ⟨hf, Z, ρ, K, r, hd, hev, hk⟩ := ht
  obtain ⟨q, kv, e1, nf, e2 | ⟨o, e2⟩⟩ := dct_at r (hd i hi)
  · refine .inr ⟨q, _, e2, trivial, fun od => ⟨lk H0 q (.frz od (.dK kv)), ?_, Z, ρ, K, r.lock e2 nf, hd, hev, ?_⟩⟩
    · intro j hj
      rcases List.mem_cons.mp hj with z | z
      · subst z; exact ⟨q, od, _, e1, upd_same⟩
      · exact fz_keep hf e2 j z
    · have nw : ¬ c.ws q := fun w => nf (.inl (r.wz q w))
      have h0 : ∀ o, H0 q = some o → ¬ c.ws q → o = .dK kv := fun o e n => by
        have := r.ext q o e n
        rw [e2] at this; cases this; rfl
      have hq : ∀ {σ' ρ' H'}, Stp c.ws σ ρ (upd H q (.frz od (.dK kv))) σ' ρ' H' → H' q = some (.frz od (.dK kv)) := fun s => s.keep q _ upd_same fun z => nf (z.imp (r.wz q) id)
      exact ⟨fun ρ' σ' H' hp r1 s1 => ⟨hq s1, hk.nx _ _ _ hp (r1.unlock (hq s1) h0 nw) (s1.unlock e2)⟩, fun d k ρ' v σ' H' hp r1 s1 v1 => ⟨hq s1, hk.rt _ _ _ _ _ _ hp (r1.unlock (hq s1) h0 nw) (s1.unlock e2) (v1.unlock e2 (hq s1) h0 nw)⟩,
        fun ρ' σ' H' hp r1 s1 => ⟨hq s1, hk.ct _ _ _ hp (r1.unlock (hq s1) h0 nw) (s1.unlock e2)⟩⟩
  · refine .inl ⟨H0, ?_, Z, ρ, K, r, hd, hev, hk⟩
    intro j hj
    rcases List.mem_cons.mp hj with z | z
    · subst z; exact ⟨q, o, _, e1, e2⟩
    · exact hf j z
theorem PS.lks {st : Stmt} {cst : CS} {all : List Nat} : ∀ (ks : List Nat), (∀ i ∈ ks, i ∈ all) → (∀ H0, PS X st (trSF all ks c H0 Ex cst)) → ∀ H0, PS X st (trSF all [] c H0 Ex cst)
  | [], _, h => h
  | i :: ks, hi, h => PS.lks ks (fun j hj => hi j (List.mem_cons_of_mem _ hj)) (PS.lk1 (hi i List.mem_cons_self) h)
theorem s_forLk {st : Stmt} {t : Tg} {it : CI} {cbd : CB} (h : ∀ H0, PS X st (fun D σ H => frzn it σ H ∧ trS c H0 Ex (.for_ t it cbd) D σ H)) : ∀ H0, PS X st (trS c H0 Ex (.for_ t it cbd)) := by
  intro H0
  have base : ∀ H0, PS X st (trSF (ksOf it) (ksOf it) c H0 Ex (.for_ t it cbd)) := fun H0 => PS.imp (h H0) fun D σ H q => by
    obtain ⟨hf, Z, ρ, P, r, _, hev, hk⟩ := q
    exact ⟨frzn_of hf, Z, ρ, P, r, hev, hk⟩
  refine PS.imp (PS.lks (all := ksOf it) (ksOf it) (fun _ h => h) base H0) fun D σ H q => ?_
  · obtain ⟨Z, ρ, P, r, hev, hk⟩ := q
    rw [evS] at hev
    obtain ⟨ρ', r', s', hd, hev, _⟩ := key_norm r hev
    exact ⟨fun _ h => (nomatch h), Z, ρ', P, r', hd, by rw [evS]; exact hev, hk.after s'⟩
theorem s_asgLc {st : Stmt} {t : Tg} {gg : TG} {vs : List Nat} {it : CI} {co : CO} {i : Nat} {o : Bool} (ok : TgOk c t gg) (htv : ∀ i, i ∈ TgOk.tgs t → i ∈ vs)
    (h : ∀ H0, PS X st (tAsg (tLc (trJ c H0 Ex it) gg (trC c H0 noX co) (tr c H0 noX ca) vs) (gName i))) : ∀ H0, PS X st (trS c H0 Ex (.asg i o (.comp vs ca t it co))) := by
  intro H0
  have base : ∀ H0, PS X st (trSF (ksOf it) (ksOf it) c H0 Ex (.asg i o (.comp vs ca t it co))) := fun H0 => PS.imp (h H0) fun D σ H q => ?_
  refine PS.imp (PS.lks (all := ksOf it) (ksOf it) (fun _ h => h) base H0) fun D σ H q => ?_
  rotate_left
  · obtain ⟨hf, Z, ρ, K, r, _, hev, hk⟩ := q
    rw [evS] at hev
    refine lc_imp ok htv σ H _ ⟨frzn_of hf, Z, ρ, _, r, hev, fun d k ρ' v H' q r' s' v' => ?_⟩
    obtain ⟨ρ2, hp, r2, st⟩ := sto_ok r' r.al s'.al v' q
    exact hk.nx _ _ _ hp r2 (st s')
  · obtain ⟨Z, ρ, K, r, hev, hk⟩ := q
    rw [evS, ev] at hev
    obtain ⟨ρ', r', s', hd, hev, _⟩ := key_norm r hev
    exact ⟨fun _ h => (nomatch h), Z, ρ', K, r', hd, by rw [evS, ev]; exact hev, hk.after s'⟩
theorem s_asgLc2 {st : Stmt} {t t2 : Tg} {gg gg2 : TG} {vs vs2 : List Nat} {it it2 : CI} {co co2 : CO} {i : Nat} {o : Bool} (ok : TgOk c t gg) (htv : ∀ i, i ∈ TgOk.tgs t → i ∈ vs) (ok2 : TgOk c t2 gg2) (htv2 : ∀ i, i ∈ TgOk.tgs t2 → i ∈ vs2)
    (h : ∀ H0, PS X st (tAsg (tLc2 (trJ c H0 Ex it) gg (trC c H0 noX co) (trJ c H0 noX it2) gg2 (trC c H0 noX co2) (tr c H0 noX ca) vs vs2) (gName i))) : ∀ H0, PS X st (trS c H0 Ex (.asg i o (.comp2 vs vs2 ca t it co t2 it2 co2))) := by
  intro H0
  have base : ∀ H0, PS X st (trSF (ksOf it ++ ksOf it2) (ksOf it ++ ksOf it2) c H0 Ex (.asg i o (.comp2 vs vs2 ca t it co t2 it2 co2))) := fun H0 => PS.imp (h H0) fun D σ H q => ?_
  refine PS.imp (PS.lks (all := ksOf it ++ ksOf it2) (ksOf it ++ ksOf it2) (fun _ h => h) base H0) fun D σ H q => ?_
  rotate_left
  · obtain ⟨hf, Z, ρ, K, r, _, hev, hk⟩ := q
    rw [evS] at hev
    refine lc2_imp ok htv ok2 htv2 σ H _ ⟨frzn_of fun i hi => hf i (List.mem_append_left _ hi), frzn_of fun i hi => hf i (List.mem_append_right _ hi), Z, ρ, _, r, hev, fun d k ρ' v H' q r' s' v' => ?_⟩
    obtain ⟨ρ2, hp, r2, st⟩ := sto_ok r' r.al s'.al v' q
    exact hk.nx _ _ _ hp r2 (st s')
  · obtain ⟨Z, ρ, K, r, hev, hk⟩ := q
    rw [evS, ev] at hev
    obtain ⟨k2, hev⟩ := hev
    obtain ⟨ρ', r', s', hd, hev, hd2⟩ := key_norm r hev
    have k2' : ∀ i ∈ ksOf it2, IsDct i ρ' := fun i hi => by
      cases it2 <;> try (cases hi; done)
      rw [show i = _ from List.mem_singleton.mp hi]
      exact hd2 _ k2
    refine ⟨fun _ h => (nomatch h), Z, ρ', K, r', fun i hi => (List.mem_append.mp hi).elim (hd i) (k2' i), ?_, hk.after s'⟩
    rw [evS, ev]
    refine ⟨?_, hev⟩
    cases it2 <;> first | trivial | exact k2' _ List.mem_cons_self
end
end Z
end T_ZF
section T_ZG
namespace Z
open PySem L2
section
variable {c : Cn} {H0 Hs H H1 H2 H3 H' : Hp} {Z ZZ W W' : Addr → Prop} {σ σ0 σ1 σ2 σ' : L2.St} {ρ ρ0 ρ1 ρ2 ρ' : Env} {v : V} {d : D} {k : Kd} {Ex : Xn → Prop} {EE : XK}
variable {X : Cx} {a b e f g : Expr} {es : List Expr} {pos p p2 : Pos} {ca cb cc : CE} {cs : CL} {Dn : Ends} {K : Kn}
theorem chain_imp {o o' : O2} {r r' : R2} (h1 : R2ok c H0 (op2 o) r) (h2 : R2ok c H0 (op2 o') r') : ∀ σ H Q, tr c H0 Ex (.chain o o' ca cb cc) σ H Q → tChain r r' (tr c H0 Ex ca) (tr c H0 Ex cb) (tr c H0 Ex cc) σ H Q := by
  rintro σ H Q ⟨Z, ρ, P, r0, hev, hk⟩
  rw [ev] at hev
  refine ⟨Z, ρ, _, r0, hev, fun x k ρ1 vx H1 hp r1 s1 v1 => ⟨Z, ρ1, _, r1, hp, fun y k2 ρ2 vy H2 hp2 r2 s2 v2 => ?_⟩⟩
  obtain ⟨st, t, e, hP⟩ := hp2
  refine h1 Z σ ρ2 H H2 x y vx vy _ _ _ r2 (fun b hb => s2.al b (s1.al b hb)) (v1.keep r1.wz s2 st) v2.weak e fun w H3 r3 s3 v3 => ?_
  refine ⟨t, v3.weak.bl r3, ?_⟩
  cases t with
  | false => exact hk _ _ _ _ _ hP r3 ((s1.trans s2).trans s3) (show VR c H0 Z σ H H3 ρ2 (.bl false) (.bl false) .cln from .bl _)
  | true =>
    refine ⟨Z, ρ2, _, r3, hP, fun z k4 ρ4 vz H4 hp4 r4 s4 v4 => ?_⟩
    obtain ⟨st4, s, e4, hP4⟩ := hp4
    have al : ∀ b, H b ≠ none → H4 b ≠ none := fun b hb => s4.al b (s3.al b (s2.al b (s1.al b hb)))
    exact h2 Z σ ρ4 H H4 y z vy vz _ _ _ r4 al (v2.keep r2.wz (s3.trans s4) st4) v4.weak e4 fun u H5 r5 s5 v5 => hk _ _ _ _ _ hP4 r5 (((s1.trans s2).trans s3).trans (s4.trans s5)) v5
theorem e_chain {op op' : CmpOp} {o o' : O2} {r r' : R2} (ho : OpR X (compareOp op) r) (ho' : OpR X (compareOp op') r') (h1 : R2ok c H0 (op2 o) r) (h2 : R2ok c H0 (op2 o') r') (ha : PE X a (tr c H0 Ex ca)) (hb : PE X b (tr c H0 Ex cb)) (hc : PE X e (tr c H0 Ex cc)) (hm : lastMarks [op, op'] [b, e] = false) :
    PE X (.Compare a [op, op'] [b, e] pos) (tr c H0 Ex (.chain o o' ca cb cc)) := PE.imp (pe_chain ho ho' ha hb hc hm) (chain_imp h1 h2)
theorem t_chain {op op' : CmpOp} {o o' : O2} {r r' : R2} (ho : OpR X (compareOp op) r) (ho' : OpR X (compareOp op') r') (h1 : R2ok c H0 (op2 o) r) (h2 : R2ok c H0 (op2 o') r') (ha : PE X a (tr c H0 Ex ca)) (hb : PE X b (tr c H0 Ex cb)) (hc : PE X e (tr c H0 Ex cc)) (hm : lastMarks [op, op'] [b, e] = false) :
    PT X (.Compare a [op, op'] [b, e] pos) (trB c H0 Ex (.chain o o' ca cb cc)) := PT.imp (pt_chain ho ho' ha hb hc hm) fun σ H Q h => chain_imp h1 h2 _ _ _ h.tr
theorem e_dnew : PE X (.Dict [] [] pos) (tr c H0 Ex (.dsp [] .nil)) := by
  refine PE.imp pe_dnewK fun σ H Q h => ?_
  obtain ⟨Z, ρ, P, r, hev, hk⟩ := h
  rw [ev, evs] at hev
  intro q hq
  obtain ⟨a1, a2, a3⟩ := VR.newK (Hs := H) r hq (xs := []) (ds := []) (Nat.zero_le _) .nil fun _ h => h
  exact hk _ _ _ _ _ hev.2.2 a1 a2 a3
theorem RE.unhide {Z Z' : Addr → Prop} {σ : L2.St} {H : Hp} {ρ : Env} (wz : ∀ a, c.ws a → Z a) (h : ∀ a, Z a → Z' a) (r : RE c H0 Z' σ H ρ) : RE c H0 Z σ H ρ where
  len := r.len
  frz := fun i d e => let ⟨v, a, q⟩ := r.frz i d e; ⟨v, a, q.to (Rz.mono (full_mono h))⟩
  own := fun i d e => let ⟨a, b, n, m, t⟩ := r.own i d e; ⟨a, b, fun z => n (h a z), m, t.to (Rz.mono (full_mono h)) rfl⟩
  one := r.one
  ext := r.ext
  al := r.al
  wok := r.wok
  wz := wz
  zal := fun a z => r.zal a (h a z)
def unp : List (V × V) → List V
  | [] => []
  | (a, b) :: r => a :: b :: unp r
def trPs (c : Cn) (H0 : Hp) (E : Xn → Prop) (es : CL) : L2.St → Hp → (List (V × V) → Hp → Prop) → Prop := fun σ H Q => ∃ (Z : Addr → Prop) (ρ : Env) (P : List D → Env → Prop), RE c H0 Z σ H ρ ∧ evs E es ρ P ∧
  ∀ ds ρ' ps H', P ds ρ' → RE c H0 Z σ H' ρ' → Stp c.ws σ ρ H σ ρ' H' → RepL c (Rz H' (full Z σ ρ')) (unp ps) ds → Q ps H'
theorem ps_nil : ∀ σ H Q, trPs c H0 Ex .nil σ H Q → tPairs [] σ H Q := by
  rintro σ H Q ⟨Z, ρ, P, r, hev, hk⟩
  rw [evs] at hev
  exact hk _ _ [] _ hev r .refl .nil
theorem ps_cons {cs : CL} {trs : List (TE × TE)} (h : ∀ σ H Q, trPs c H0 Ex cs σ H Q → tPairs trs σ H Q) : ∀ σ H Q, trPs c H0 Ex (.cons ca (.cons cb cs)) σ H Q → tPairs ((tr c H0 Ex ca, tr c H0 Ex cb) :: trs) σ H Q := by
  rintro σ H Q ⟨Z, ρ, P, r, hev, hk⟩
  rw [evs] at hev
  refine ⟨Z, ρ, _, r, hev, fun x k ρ1 v H1 hp r1 s1 v1 => ?_⟩
  obtain ⟨ρ2, hp2, r2, s2, q2⟩ := clr_ok r1 v1 hp
  rw [evs] at hp2
  refine ⟨Z, ρ2, _, r2, hp2, fun y k' ρ3 w H3 hp3 r3 s3 v3 => ?_⟩
  obtain ⟨ρ4, hp4, r4, s4, q4⟩ := clr_ok r3 v3 hp3
  refine h _ _ _ ⟨Z, ρ4, _, r4, hp4, fun ds ρ5 ps H5 hp5 r5 s5 l5 => ?_⟩
  have s35 := (s3.trans s4).trans s5
  exact hk _ _ _ _ hp5 r5 ((s1.trans s2).trans s35) (.cons (q2.to (s35.R r2.wz)) (.cons (q4.to (s5.R r4.wz)) l5))
theorem prs_rep {R : Addr → HO → Prop} : ∀ {ps : List (V × V)} {ds : List D} {kvs : List (Key × D)}, RepL c R (unp ps) ds → prsD ds = some kvs → ∃ ks : List (Key × V), ps = ks.map (fun kv => (kV kv.1, kv.2)) ∧ RepK c R ks kvs
  | [], _, _, l, e => by
    cases l
    cases e
    exact ⟨[], rfl, .nil⟩
  | (a, b) :: r, _, _, l, e => by
    cases l with
    | cons q1 l => cases l with
      | @cons _ _ d2 ds q2 l =>
        rename_i d1
        unfold prsD at e
        cases h1 : d1.key with
        | none => rw [h1] at e; cases e
        | some j =>
          cases h2 : prsD ds with
          | none => rw [h1, h2] at e; cases e
          | some l2 =>
            rw [h1, h2] at e
            cases e
            obtain ⟨ks, rfl, k2⟩ := prs_rep l h2
            exact ⟨(j, b) :: ks, by rw [List.map_cons, q1.key h1], .cons j q2 k2⟩
theorem e_dspe {keys : List (Option Expr)} {values : List Expr} {cs : CL} {trs : List (TE × TE)} (h : PPs X pos keys values trs) (hi : ∀ σ H Q, trPs c H0 Ex cs σ H Q → tPairs trs σ H Q) (hall : keys.all (·.isSome) = true) (hl : keys.length = values.length) (h0 : keys ≠ [])
    (h15 : keys.length ≤ 15) : PE X (.Dict keys values pos) (tr c H0 Ex (.dspe cs)) := by
  refine PE.imp (pe_disp h hall hl h0 h15) fun σ H Q h => ?_
  obtain ⟨Z, ρ, P, r, hev, hk⟩ := h
  rw [ev] at hev
  intro p hp
  refine hi _ _ _ ⟨Zp Z p, ρ, _, r.newZ hp (fun _ z => nomatch z), hev, fun ds ρ' ps H' hP r' s' l' => ?_⟩
  obtain ⟨kvs, e, hlen, hP⟩ := hP
  obtain ⟨ks, rfl, k2⟩ := prs_rep l' e
  have nf := r.nfull hp
  have nw : ¬ c.ws p := r.nws hp
  have hp0 : H0 p = none := by
    cases q : H0 p with
    | none => rfl
    | some o => exact absurd hp (r.al p (some_ne q))
  have hp' : H' p = some (.dK []) := s'.keep p _ upd_same fun z => z.elim nw fun z => nf (.inr z)
  have nO : ¬ Ow σ ρ' p := fun z => (s'.ow p z).elim (fun z => nf (.inr z)) fun z => by rw [upd_same] at z; cases z
  have hkl : ks.length = kvs.length := k2.len
  refine ⟨hp', ks, rfl, by rw [hkl]; exact hlen, ?_⟩
  have r3 : RE c H0 (Zp Z p) σ (upd H' p (.dK (mergeK [] ks))) ρ' := r'.zset (.inr rfl) nw hp0 (fun φ e => by rw [hp'] at e; cases e) fun _ z => nomatch z
  refine hk _ _ _ _ _ hP (RE.unhide r.wz (fun _ z => .inl z) r3) ⟨fun b o eb nb => ?_, fun b z => ?_, fun b z => ?_⟩ ⟨p, rfl, hp, fun z => z.elim (fun z => nf (.inl z)) nO, r3, mergeK [] ks, upd_same, ?_, ?_⟩
  · have : b ≠ p := fun q => by rw [q, hp] at eb; cases eb
    rw [upd_ne this]
    exact s'.keep b o (by rw [upd_ne this]; exact eb) nb
  · rcases s'.ow b z with q | q
    · exact .inl q
    · by_cases hb : b = p
      · rw [hb]; exact .inr hp
      · rw [upd_ne hb] at q; exact .inr q
  · by_cases hb : b = p
    · rw [hb, upd_same]; simp
    · rw [upd_ne hb]
      exact s'.al b (by rw [upd_ne hb]; exact z)
  · have h1 := length_mergeK ks []
    rw [List.length_nil] at h1
    rw [sizeLine_eq]; omega
  · refine RepK.mrg (k2.to fun a u q => ?_) .nil
    have ne : a ≠ p := fun q2 => q.1 (.inl (.inr q2))
    exact ⟨q.1, by rw [upd_ne ne]; exact q.2⟩
theorem call0_ok (O : XOk c X) (hX : XS c H0 Ex EE) {x : Str} {F : Fn} (T : FTc c X EE x 0 F) (hg : Gl X x) (hdb : (x == ("__debug__" : Str)) = false) : PE X (.Call (.Name x p) [] [] pos) (tr c H0 Ex (.call { F with fl := false } .nil)) := by
  refine PE.imp (T.call0 hg hdb) fun σ H Q h => ?_
  obtain ⟨Z, ρ, P, r, hev, hk⟩ := h
  rw [ev] at hev
  simp only [Bool.false_eq_true, if_false] at hev
  rw [evs] at hev
  show spC c 0 F ([] ++ []) H Q EE
  refine ⟨full Z σ ρ, [], _, Ex, rfl, r.wok, fun a w => .inl (r.wz a w), full_ob r, .nil, hev, fun d v H' hP k1 k2 wk q => ?_, fun x cls od H' hx k1 k2 wk q => ?_⟩
  · obtain ⟨r2, s2⟩ := after_call r k1 k2 wk
    unfold Ret at q
    by_cases hf : F.fr = true
    · rw [if_pos hf] at hP q
      obtain ⟨a, rfl, ha, t⟩ := q
      exact hk _ _ _ _ _ hP r2 s2 (ret_new r k1 k2 wk (fun _ h => h) ha (t.to (Rz.mono fun b z => z.elim (fun z => z.elim (fun z => .inl (.inl z)) .inr) fun z => .inl (.inr z)) rfl))
    · rw [if_neg hf] at hP q
      exact hk _ _ _ _ _ hP r2 s2 q
  · exact hX x cls od H' hx (fun b o e n => k1 b o (r.ext b o e n) n) (fun b h => k2 b (r.al b h)) wk (q.back r.al)
end
end Z
end T_ZG
section T_ZH
namespace Z
open PySem L2
/-- classes that isinstance asks for, errors that are raised, calls by keywords (names, their places), the frame's lambdas, the def that catches -/
structure CtX where
  clss : List Str
  excs : List Str
  kfns : List (Str × List Str × List Nat × Nat × Fn)
  lams : List LamT
  cau : Str
  eqs : Bool
  fvs : List (Str × Nat × Fn)
  lls : List (LamT × Str × Nat × Fn)
  mks : List LamT
  mkq : Str
  eqq : Bool
def CtX.no : CtX := ⟨[], [], [], [], "", false, [], [], [], "", false⟩
def eqEs (f : Expr → Expr → Bool) : List Expr → List Expr → Bool
  | [], [] => true
  | a :: as, b :: bs => f a b && eqEs f as bs
  | _, _ => false
theorem eqEs_sound {f : Expr → Expr → Bool} (h : ∀ a b, f a b = true → a = b) : ∀ {as bs : List Expr}, eqEs f as bs = true → as = bs
  | [], [], _ => rfl
  | a :: as, b :: bs, q => by
    unfold eqEs at q
    rw [Bool.and_eq_true] at q
    rw [h a b q.1, eqEs_sound h q.2]
  | [], _ :: _, q => by cases q
  | _ :: _, [], q => by cases q
def eqC : Const → Const → Bool
  | .none, .none => true
  | .bool a, .bool b => decide (a = b)
  | .int a, .int b => decide (a = b)
  | .str a, .str b => decide (a = b)
  | _, _ => false
theorem eqC_sound {a b : Const} (h : eqC a b = true) : a = b := by
  cases a <;> cases b <;> first | rfl | (have := of_decide_eq_true h; rw [this]) | cases h
def eqE : Nat → Expr → Expr → Bool
  | 0, _, _ => false
  | n + 1, a, b => match a, b with
    | .Name x p, .Name y q => decide (x = y) && decide (p = q)
    | .Constant x k p, .Constant y l q => eqC x y && decide (k = l) && decide (p = q)
    | .Call f as [] p, .Call g bs [] q => eqE n f g && eqEs (eqE n) as bs && decide (p = q)
    | .List as p, .List bs q => eqEs (eqE n) as bs && decide (p = q)
    | .Tuple as k p, .Tuple bs l q => eqEs (eqE n) as bs && decide (k = l) && decide (p = q)
    | .Dict [] [] p, .Dict [] [] q => decide (p = q)
    | .BinOp a o b p, .BinOp c r d q => eqE n a c && decide (o = r) && eqE n b d && decide (p = q)
    | .UnaryOp o a p, .UnaryOp r b q => decide (o = r) && eqE n a b && decide (p = q)
    | .Subscript a b p, .Subscript c d q => eqE n a c && eqE n b d && decide (p = q)
    | .Attribute a x p, .Attribute b y q => eqE n a b && decide (x = y) && decide (p = q)
    | .IfExp a b c p, .IfExp d e f q => eqE n a d && eqE n b e && eqE n c f && decide (p = q)
    | .Compare a os as p, .Compare b rs bs q => eqE n a b && decide (os = rs) && eqEs (eqE n) as bs && decide (p = q)
    | _, _ => false
theorem eqE_sound : ∀ (n : Nat) {a b : Expr}, eqE n a b = true → a = b
  | 0, _, _, h => by cases h
  | n + 1, a, b, h => by
    have ih := fun {a b : Expr} => eqE_sound n (a := a) (b := b)
    have il := fun {as bs : List Expr} => eqEs_sound (f := eqE n) (fun a b => ih) (as := as) (bs := bs)
    unfold eqE at h
    split at h <;> first | (cases h; done) | skip
    all_goals simp only [Bool.and_eq_true, decide_eq_true_eq] at h
    · rw [h.1, h.2]
    · rw [eqC_sound h.1.1, h.1.2, h.2]
    · rw [ih h.1.1, il h.1.2, h.2]
    · rw [il h.1, h.2]
    · rw [il h.1.1, h.1.2, h.2]
    · rw [h]
    · rw [ih h.1.1.1, h.1.1.2, ih h.1.2, h.2]
    · rw [h.1.1, ih h.1.2, h.2]
    · rw [ih h.1.1, ih h.1.2, h.2]
    · rw [ih h.1.1, h.1.2, h.2]
    · rw [ih h.1.1.1, ih h.1.1.2, ih h.1.2, h.2]
    · rw [ih h.1.1.1, h.1.1.2, il h.1.2, h.2]
/-- no parameters -/
def noPar : Arguments → Bool
  | ⟨[], [], none, [], [], none, []⟩ => true
  | _ => false
theorem noPar_eq {a b : Arguments} (h : noPar a = true) (k : noPar b = true) : a = b := by
  unfold noPar at h k
  split at h
  · split at k
    · rfl
    · cases k
  · cases h
def lamIx : List LamT → Arguments → Expr → Scope → Option Nat
  | [], _, _, _ => none
  | l :: ls, ps, b, sc => if noPar l.params && eqE 40 l.body b && decide (l.scope = sc) then some 0 else (lamIx ls ps b sc).map (· + 1)
theorem lamIx_get : ∀ {ls : List LamT} {ps : Arguments} {b : Expr} {sc : Scope} {j : Nat}, noPar ps = true → lamIx ls ps b sc = some j → ls[j]? = some ⟨ps, b, sc⟩
  | l :: ls, ps, b, sc, j, hp, h => by
    unfold lamIx at h
    split at h
    · rename_i hc
      simp only [Bool.and_eq_true, decide_eq_true_eq] at hc
      cases h
      obtain ⟨lp, lb, lsc⟩ := l
      simp only at hc
      rw [noPar_eq hc.1.1 hp, eqE_sound 40 hc.1.2, hc.2]
      rfl
    · obtain ⟨i, h1, rfl⟩ := Option.map_eq_some_iff.mp h
      simpa using lamIx_get hp h1
/-- plain parameters -/
def eqAs : List Arg → List Arg → Bool
  | [], [] => true
  | ⟨x, none, p⟩ :: as, ⟨y, none, q⟩ :: bs => decide (x = y) && decide (p = q) && eqAs as bs
  | _, _ => false
theorem eqAs_sound : ∀ {as bs : List Arg}, eqAs as bs = true → as = bs
  | [], [], _ => rfl
  | a :: as, b :: bs, h => by
    unfold eqAs at h
    split at h
    · rename_i heq _
      cases heq
    · rename_i h1 h2
      simp only [Bool.and_eq_true, decide_eq_true_eq] at h
      cases h1
      cases h2
      rw [h.1.1, h.1.2, eqAs_sound h.2]
    · cases h
  | [], _ :: _, h => by simp [eqAs] at h
  | _ :: _, [], h => by simp [eqAs] at h
def plPar : Arguments → Option (List Arg)
  | ⟨[], as, none, [], [], none, []⟩ => some as
  | _ => none
theorem plPar_eq {a b : Arguments} {as : List Arg} (h : plPar a = some as) (k : plPar b = some as) : a = b := by
  unfold plPar at h k
  split at h
  · cases h
    split at k
    · cases k
      rfl
    · cases k
  · cases h
def lamEq (l : LamT) (ps : Arguments) (b : Expr) (sc : Scope) : Bool := match plPar l.params, plPar ps with
  | some as, some bs => eqAs as bs && eqE 40 l.body b && decide (l.scope = sc)
  | _, _ => false
theorem lamEq_sound {l : LamT} {ps : Arguments} {b : Expr} {sc : Scope} (h : lamEq l ps b sc = true) : l = ⟨ps, b, sc⟩ ∧ ∃ as, plPar ps = some as := by
  unfold lamEq at h
  split at h
  · rename_i as bs h1 h2
    simp only [Bool.and_eq_true, decide_eq_true_eq] at h
    obtain ⟨lp, lb, lsc⟩ := l
    have e := eqAs_sound h.1.1
    subst e
    refine ⟨?_, _, h2⟩
    rw [show lp = ps from plPar_eq h1 h2, show lb = b from eqE_sound 40 h.1.2, show lsc = sc from h.2]
  · cases h
/-- what is known of the names: their slots, the block's scope, may a name be bound here, the slots that are changed in place, what may be called, constants, fields -/
structure Ct where
  N : List Str
  sc : Scope
  osc : Scope
  own : List Nat
  fns : List (Str × Nat × Fn)
  cons : List (Str × D)
  flds : List (Str × List Str)
  dk : List Str
  xt : CtX
def Ct.kd (Γ : Ct) (x : Str) : Option NameKind := Γ.sc.names.lookup x
def strIx : List Str → Str → Option Nat
  | [], _ => none
  | y :: ys, x => if decide (y = x) then some 0 else (strIx ys x).map (· + 1)
/-- a slot that is seen -/
def Ct.var (Γ : Ct) (x : Str) : Option Nat :=
  if (decide (Γ.kd x = some .local) || decide (Γ.kd x = some .cell) || decide (Γ.kd x = some .free)) && !(x == ("__debug__" : Str)) && !(x == ("__classdict__" : Str)) then strIx Γ.N x else none
/-- a slot that may be bound -/
def Ct.slot (Γ : Ct) (x : Str) : Option Nat :=
  if decide (Γ.osc.names.lookup x = some .local) || decide (Γ.osc.names.lookup x = some .cell) then strIx Γ.N x else none
def Ct.gl (Γ : Ct) (x : Str) : Bool := decide (Γ.kd x = some .globalImplicit) && !(x == ("__debug__" : Str))
def isStar : Expr → Bool
  | .Starred _ _ => true
  | _ => false
def opB : Operator → Option O2
  | .Add => some .add
  | .Sub => some .sub
  | .Mult => some .mul
  | .Mod => some .mod
  | .FloorDiv => some .fdiv
  | .Pow => some .pow
  | _ => none
/-- a text or a tuple that stands there -/
def isTT : Expr → Bool
  | .Constant (.str _) _ _ => true
  | .Tuple _ _ _ => true
  | _ => false
def opM (e : Expr) (op : Operator) : Option O2 := match op, isTT e with
  | .Mult, true => some .rep
  | op, _ => opB op
def opC : CmpOp → Option O2
  | .Eq => some .eq
  | .NotEq => some .ne
  | .Lt => some .lt
  | .LtE => some .le
  | .Gt => some .gt
  | .GtE => some .ge
  | .In => some .isin
  | .NotIn => some .notin
  | .Is => some .is_
  | .IsNot => some .isnot
/-- != of rule books, too -/
def Ct.opC (Γ : Ct) (op : CmpOp) : Option O2 := match op with
  | .NotEq => if Γ.xt.eqs then some .neX else some .ne
  | .Eq => if Γ.xt.eqq then some .eqX else some .eq
  | op => Z.opC op
def cC : Const → Option D
  | .none => some .non
  | .bool b => some (.bl b)
  | .int i => some (.int i)
  | .str s => some (.str s)
  | _ => none
def cEs (f : Expr → Option CE) : List Expr → Option CL
  | [] => some .nil
  | e :: es => match f e, cEs f es with
    | some a, some b => some (.cons a b)
    | _, _ => none
/-- the pairs of a display -/
def cPs (f : Expr → Option CE) : List (Option Expr) → List Expr → Option CL
  | [], [] => some .nil
  | some k :: ks, v :: vs => match f k, f v, cPs f ks vs with
    | some a, some b, some r => some (.cons a (.cons b r))
    | _, _, _ => none
  | _, _ => none
/-- and, or: at least one value -/
def cBo (f : Expr → Option CE) (g : CE → CE → CE) : List Expr → Option CE
  | [] => none
  | [e] => f e
  | e :: es => match f e, cBo f g es with
    | some a, some b => some (g a b)
    | _, _ => none
def cOp (f : Expr → Option CE) : Option Expr → Option CO
  | none => some .no
  | some e => (f e).map .one
def cNm (Γ : Ct) (f : Str → Option Nat) : List Expr → Option (List Nat)
  | [] => some []
  | .Name x _ :: es => match f x, cNm Γ f es with
    | some i, some is => some (i :: is)
    | _, _ => none
  | _ => none
/-- a target: a name, a tuple of names -/
def cTg (Γ : Ct) : Expr → Option Tg
  | .Name x _ => (Γ.slot x).map .one
  | .Tuple es _ _ => (cNm Γ Γ.slot es).map .tup
  | _ => none
def isTup : Expr → Bool
  | .Tuple _ _ _ => true
  | _ => false
def isSet : Expr → Bool
  | .Set _ _ _ => true
  | _ => false
def noCall0 : Expr → Bool
  | .Call (.Name _ _) [] [] _ => false
  | _ => true
/-- what is walked -/
def cIt (f : Expr → Option CE) (Γ : Ct) (tg : Expr) (e : Expr) : Option CI :=
  match e with
  | .Call (.Name x _) [a] [] _ =>
    if decide (x = "range") && Γ.gl x then (f a).map .rng1
    else if decide (x = "enumerate") && Γ.gl x && isTup tg then (f a).map .enum
    else (f e).map .seq
  | .Call (.Name x _) [a, b] [] _ =>
    if decide (x = "range") && Γ.gl x then match f a, f b with
      | some a, some b => some (.rng a b)
      | _, _ => none
    else if decide (x = "zip") && Γ.gl x && isTup tg then match f a, f b with
      | some a, some b => some (.zip a b)
      | _, _ => none
    else (f e).map .seq
  | .Name x _ => match Γ.var x with
    | some i => if Γ.dk.contains x then some (.key i) else (f e).map .seq
    | none => (f e).map .seq
  | _ => (f e).map .seq
def ownV (N : List Str) : List (Str × NameKind) → List (Str × Nat)
  | [] => []
  | (x, k) :: r => match k with
    | .local | .cell => match strIx N x with
      | some i => (x, i) :: ownV N r
      | none => ownV N r
    | _ => ownV N r
/-- a comprehension's block -/
def blkC (N : List Str) (sc scope : Scope) : Bool :=
  decide (scope.kind = .function) && scope.names.all (fun y => decide (scope.names.lookup y.1 = some y.2)) && scope.names.all (fun y => !decide (y.2 = .free) || decide (sc.names.lookup y.1 = some .cell) || decide (sc.names.lookup y.1 = some .free))
def Ct.inner (Γ : Ct) (scope : Scope) : Ct := { Γ with sc := relS scope Γ.sc, osc := scope, xt := { Γ.xt with excs := [], lams := [], eqs := false, mks := [], eqq := false } }
/-- within a lambda -/
def Ct.lam (Γ : Ct) (scope : Scope) : Ct := { Γ with sc := scope, osc := scope, own := [], xt := { Γ.xt with excs := [], lams := [], eqs := false, mks := [], eqq := false } }
def cLs (f : LamT → Option CE) : List LamT → Option CL
  | [] => some .nil
  | l :: ls => match f l, cLs f ls with
    | some a, some b => some (.cons a b)
    | _, _ => none
def cKs (f : Expr → Option CE) : List Keyword → Option (List Str × CL)
  | [] => some ([], .nil)
  | ⟨some x, e, _⟩ :: ks => match f e, cKs f ks with
    | some a, some (xs, b) => some (x :: xs, .cons a b)
    | _, _ => none
  | _ => none
def kLook : List (Str × List Str × List Nat × Nat × Fn) → Str → List Str → Option (List Nat × Nat × Fn)
  | [], _, _ => none
  | (y, ks, r) :: q, x, xs => if decide (y = x) && decide (ks = xs) then some r else kLook q x xs
def tgIn (t : Tg) (vs : List Nat) : Bool := match t with
  | .one i => vs.contains i
  | .tup is => is.all vs.contains
def onl : List Expr → Option (Option Expr)
  | [] => some none
  | [e] => some (some e)
  | _ => none
def tgl : Tg → List Nat
  | .one i => [i]
  | .tup is => is
/-- built-ins of one value and more -/
def prT : List (Str × Pr) := [("len", .len), ("tuple", .tuple), ("list", .list), ("dict", .dict), ("sorted", .sorted), ("min", .min), ("max", .max), ("sum", .sum), ("all", .all), ("any", .any), ("abs", .abs), ("int", .int), ("range", .range)]
def prB (x : Str) : Option Pr := prT.lookup x
def lineOk (apos pos : Pos) : Bool := apos.endLine == pos.line
def ownVs (Γ : Ct) (scope : Scope) : List Nat := (ownV Γ.N scope.names).map (·.2)
/-- isinstance's second argument -/
def isiT (Γ : Ct) : List Expr → Option Pr
  | [.Name y _] => if decide (y = "int") && Γ.gl y then some .isint else if decide (y = "bool") && Γ.gl y then some .isbool else if decide (y = "tuple") && Γ.gl y then some .istup else none
  | [.Tuple [.Name y _, .Name z _] _ _] => if decide (y = "list") && Γ.gl y && decide (z = "tuple") && Γ.gl z then some .islist else none
  | _ => none
def isiC (Γ : Ct) : List Expr → Option Str
  | [.Name y _] => if Γ.xt.clss.contains y && Γ.gl y then some y else none
  | _ => none
def cE : Nat → Ct → Expr → Option CE
  | 0, _, _ => none
  | n + 1, Γ, e => match e with
    | .Constant k _ _ => (cC k).map .lit
    | .Name x _ => match Γ.var x with
      | some i => some (.var i)
      | none => if Γ.gl x then (Γ.cons.lookup x).map .lit else none
    | .BinOp a op b _ => match opM a op, cE n Γ a, cE n Γ b with
      | some o, some a, some b => some (.op o a b)
      | _, _, _ => none
    | .UnaryOp .USub a _ => (cE n Γ a).map .neg
    | .UnaryOp .Not a _ => (cE n Γ a).map .not
    | .Compare a [op] [b] _ => if behindInMarks op b then none else match Γ.opC op, cE n Γ a, cE n Γ b with
      | some o, some a, some b => some (.op o a b)
      | _, _, _ => none
    | .Compare a [op, op'] [b, c] _ => if lastMarks [op, op'] [b, c] then none else match opC op, opC op', cE n Γ a, cE n Γ b, cE n Γ c with
      | some o, some o', some a, some b, some c => some (.chain o o' a b c)
      | _, _, _, _, _ => none
    | .BoolOp .And es _ => cBo (cE n Γ) .and es
    | .BoolOp .Or es _ => cBo (cE n Γ) .or es
    | .IfExp c a b _ => match cE n Γ c, cE n Γ a, cE n Γ b with
      | some c, some a, some b => some (.ife c a b)
      | _, _, _ => none
    | .List es _ => if decide (es.length ≤ 1000) then (cEs (cE n Γ) es).map .lst else none
    | .Tuple es _ _ => if decide (es.length ≤ 1000) then (cEs (cE n Γ) es).map .tup else none
    | .Dict [] [] _ => some (.dsp [] .nil)
    | .Dict (k :: ks) vs _ => if decide (ks.length < 15) then (cPs (cE n Γ) (k :: ks) vs).map .dspe else none
    | .Subscript a (.Slice none none (some (.UnaryOp .USub (.Constant (.int 1) _ _) _)) _) _ => (cE n Γ a).map .rev
    | .Subscript a (.Slice lo hi none _) _ => match cE n Γ a, cOp (cE n Γ) lo, cOp (cE n Γ) hi with
      | some a, some l, some h => some (.cut a l h)
      | _, _, _ => none
    | .Subscript a b _ => match cE n Γ a, cE n Γ b with
      | some a, some b => some (.idx a b)
      | _, _ => none
    | .Attribute a f _ => if noCall0 a then match cE n Γ a, Γ.flds.lookup f with
      | some a, some Cs => some (.fld Cs a f)
      | _, _ => none
      else none
    | .Call (.Name x _) [] [] _ => if Γ.gl x then match Γ.fns.lookup x with
      | some (0, F) => some (.call { F with fl := false } .nil)
      | _ => none
      else none
    | .Call (.Name x _) (a :: es) [] _ => if Γ.gl x then
        if decide (x = "isinstance") then match isiT Γ es, cE n Γ a with
          | some p, some a => some (.prim p (.cons a .nil))
          | none, some a => (isiC Γ es).map (.isa a)
          | _, _ => none
        else if decide (x = Γ.xt.cau) && !Γ.xt.lams.isEmpty then match es with
          | [] => match cE n Γ a, cLs (fun l => cE n (Γ.lam l.scope) l.body) Γ.xt.lams with
            | some a, some bs => some (.caught bs a)
            | _, _ => none
          | _ => none
        else match cEs (cE n Γ) (a :: es), Γ.fns.lookup x with
          | some cs, some (m, F) => if decide (m = es.length + 1) then some (.call F cs) else none
          | some cs, none => (prB x).map fun p => .prim p cs
          | none, _ => none
      else if Γ.xt.fvs.isEmpty && Γ.xt.lls.isEmpty then none else match Γ.var x, cEs (cE n Γ) (a :: es) with
        | some i, some cs => if Γ.xt.lls.isEmpty then some (.callv i Γ.xt.fvs cs) else some (.callw i Γ.xt.fvs Γ.xt.lls cs)
        | _, _ => none
    | .Call (.Name x _) [] (k :: ks) _ => if Γ.gl x then match cKs (cE n Γ) (k :: ks) with
        | some (xs, cs) => match kLook Γ.xt.kfns x xs with
          | some (pm, _, F) => some (.callk F pm cs)
          | none => none
        | none => none
      else none
    | .Lambda ps b sc _ => if noPar ps && LamX.lamSB Γ.sc sc then (lamIx Γ.xt.lams ps b sc).map .lam
      else match Γ.xt.mks.find? fun l => lamEq l ps b sc with
        | some l => if clsd sc then some (.lit (.lamc l Γ.xt.mkq)) else none
        | none => none
    | .Call (.Attribute o m apos) [a, b] [] pos =>
      if decide (m = "get") && noCall0 o && lineOk apos pos then match cE n Γ o, cE n Γ a, cE n Γ b with
        | some o, some a, some b => some (.get o a b)
        | _, _, _ => none
      else if decide (m = "pop") && lineOk apos pos then match o with
        | .Name x _ => match Γ.var x, cE n Γ a, cE n Γ b with
          | some i, some a, some b => some (.popd i a b)
          | _, _, _ => none
        | _ => none
      else none
    | .Call (.Attribute (.Name x _) m apos) [a] [] pos => if decide (m = "pop") && lineOk apos pos then match Γ.var x, cE n Γ a with
        | some i, some a => some (.popl i a)
        | _, _ => none
      else none
    | .ListComp elt [⟨tg, it, ifs, 0⟩] scope _ =>
      if blkC Γ.N Γ.sc scope && !isSet it then match cTg (Γ.inner scope) tg, cIt (cE n Γ) Γ tg it, onl ifs with
        | some t, some i, some c => match cE n (Γ.inner scope) elt, cOp (cE n (Γ.inner scope)) c with
          | some e, some c => if tgIn t (ownVs Γ scope) then some (.comp (ownVs Γ scope) e t i c) else none
          | _, _ => none
        | _, _, _ => none
      else none
    | .ListComp elt [⟨tg, it, ifs, 0⟩, ⟨tg2, it2, ifs2, 0⟩] scope _ =>
      if blkC Γ.N Γ.sc scope && !isSet it && !isSet it2 then match cTg (Γ.inner scope) tg, cIt (cE n Γ) Γ tg it, onl ifs, cTg (Γ.inner scope) tg2, cIt (cE n (Γ.inner scope)) (Γ.inner scope) tg2 it2, onl ifs2 with
        | some t, some i, some c, some t2, some i2, some c2 => match cE n (Γ.inner scope) elt, cOp (cE n (Γ.inner scope)) c, cOp (cE n (Γ.inner scope)) c2 with
          | some e, some c, some c2 => if tgIn t (ownVs Γ scope) && tgIn t2 (ownVs Γ scope) && (ksOf i2 == [] || !(ksOf i == [])) then some (.comp2 (ownVs Γ scope) (tgl t2) e t i c t2 i2 c2) else none
          | _, _, _ => none
        | _, _, _, _, _, _ => none
      else none
    | _ => none
def isComp : Expr → Bool
  | .ListComp _ _ _ _ | .SetComp _ _ _ _ | .DictComp _ _ _ _ _ => true
  | _ => false
def isSlice : Expr → Bool
  | .Slice _ _ _ _ => true
  | _ => false
/-- parallel stores: the slots, different ones -/
def parN (Γ : Ct) : List Expr → Option (List (Nat × Bool))
  | [] => some []
  | .Name x p :: es => match Γ.slot x, parN Γ es with
      | some i, some is => if (is.map (·.1)).contains i then none else some ((i, Γ.own.contains i) :: is)
      | _, _ => none
  | _ => none
/-- all are local names of one line: they are stored from the right -/
def swLoc (Γ : Ct) (ts : List Expr) : Bool := ts.all fun
  | .Name x p => decide (Γ.kd x = some .local) && (p.line == (ts.head?.map (·.pos.line)).getD 0)
  | _ => false
def opA : Operator → Option O2
  | .Add => some .add
  | .Sub => some .sub
  | .Mult => some .mul
  | .Mod => some .mod
  | .FloorDiv => some .fdiv
  | _ => none
def cBs (f : Stmt → Option CS) : List Stmt → Option CB
  | [] => some .nil
  | s :: r => match f s, cBs f r with
    | some a, some b => some (.cons a b)
    | _, _ => none
def cS : Nat → Ct → Stmt → Option CS
  | 0, _, _ => none
  | n + 1, Γ, s => match s with
    | .Expr (.Constant (.str _) _ _) _ => some .pass
    | .Pass _ => some .pass
    | .Continue _ => some .cont
    | .Raise (some (.Call (.Name C _) [e] [] _)) none _ => if Γ.xt.excs.contains C && Γ.gl C then (cE n Γ e).map fun e => .raise_ C (.one e) else some .never
    | .Raise _ _ _ => some .never
    | .Try _ _ _ _ _ => some .never
    | .Expr (.Call (.Attribute (.Name x p) m apos) [e] [] q) pos =>
      if decide (m = "append") && lineOk apos q then match Γ.var x, cE n Γ e with
        | some i, some e => some (.app i e)
        | _, _ => none
      else if decide (m = "extend") && lineOk apos q then match Γ.var x, cE n Γ e with
        | some i, some e => some (.ext i e)
        | _, _ => none
      else (cE n Γ (.Call (.Attribute (.Name x p) m apos) [e] [] q)).map .exp
    | .Expr (.Call (.Attribute (.Name x p) m apos) [] [] q) pos =>
      if decide (m = "clear") && lineOk apos q then (Γ.var x).map .clr
      else (cE n Γ (.Call (.Attribute (.Name x p) m apos) [] [] q)).map .exp
    | .Expr e _ => if isComp e then none else (cE n Γ e).map .exp
    | .Return none _ => some .retn
    | .Return (some e) _ => (cE n Γ e).map .ret
    | .If c a b _ => match cE n Γ c, cBs (cS n Γ) a, cBs (cS n Γ) b with
      | some c, some a, some b => some (.ite c a b)
      | _, _, _ => none
    | .While c b [] _ => match cE n Γ c, cBs (cS n Γ) b with
      | some c, some b => some (.whl c b)
      | _, _ => none
    | .For tg it b [] _ => if isSet it then none else match cTg Γ tg, cIt (cE n Γ) Γ tg it, cBs (cS n Γ) b with
      | some t, some i, some b => some (.for_ t i b)
      | _, _, _ => none
    | .Assign [.Name x _] e _ => match Γ.slot x, cE n Γ e with
      | some i, some e => some (.asg i (Γ.own.contains i) e)
      | _, _ => none
    | .Assign [.Tuple ts k p] (.Tuple vs _ _) _ => match cEs (cE n Γ) vs with
      | some es => if decide (vs.length ≤ 1000) && vs.all (fun e => !isStar e) then
          if ts.length == 2 || ts.length == 3 then
            if vs.length == ts.length then
              if swLoc Γ ts then
                if !vs.all (foldedForSure 8) then
                  if !vs.all (constantsAlone 8) then (parN Γ ts).map fun is => .par is es else none
                else (cNm Γ Γ.slot ts).map fun is => .unp (.tup is) (.tup es)
              else (parN Γ ts).map fun is => .par is es
            else none
          else (cNm Γ Γ.slot ts).map fun is => .unp (.tup is) (.tup es)
        else none
      | none => none
    | .Assign [.Tuple ts _ _] e _ => match cNm Γ Γ.slot ts, cE n Γ e with
      | some is, some e => some (.unp (.tup is) e)
      | _, _ => none
    | .Assign [.Subscript (.Name x _) k _] e _ => if isSlice k then none else match Γ.var x, cE n Γ k, cE n Γ e with
      | some i, some k, some e => some (.seti i k e)
      | _, _, _ => none
    | .AugAssign (.Name x _) op e _ => match Γ.slot x, opA op, cE n Γ e with
      | some i, some o, some e => some (.aug i o e)
      | _, _, _ => none
    | .AugAssign (.Subscript (.Name x _) k _) op e _ => if isSlice k then none else match Γ.var x, opA op, cE n Γ k, cE n Γ e with
      | some i, some o, some k, some e => some (.augi i k o e)
      | _, _, _, _ => none
    | _ => none
end Z
end T_ZH
section T_EA
namespace Z
open PySem L2
section
variable {X : Cx} {pins : List (Addr × Obj)} {σ : L2.St} {H : Hp} {s : Shared}
/-- an object that came since the entry is known from now on -/
theorem inv_track {a : Addr} {oe : Obj} {vs : Array Value} {φ : Heap → Prop} (I : L2.Inv X pins σ H s) (ha : s.heap.get? a = some oe) (hd : oe.data = .fields vs) (n0 : X.s_0.heap.get? a = none) (hn : H a = none) (nL : a ≠ X.env.locals)
    (np : ∀ p ∈ X.pn ++ pins, p.1 ≠ a) (hφ : ObjOk X.prog X.w H s.heap a (.ext φ)) : L2.Inv X pins σ (upd H a (.ext φ)) s := by
  have n1 : ∀ b o, X.s_0.heap.get? b = some o → b ≠ a := fun b o e z => by rw [z, n0] at e; cases e
  have n2 : ∀ {b u}, H b = some u → b ≠ a := fun e z => by rw [z, hn] at e; cases e
  refine ⟨I.ok, I.os, I.bare, ⟨I.base.keep, I.base.slot, fun b o e n hx => ?_, I.base.there, fun b xs e => ?_, fun b o u e => ?_, fun b ps e => ?_⟩, I.loc, I.cell, ?_, fun x c e => ?_, fun p hp => ?_, fun b u e => ?_, I.len⟩
  · rw [upd_ne (n1 b o e)]; exact I.base.free b o e n hx
  · have := I.base.tups b xs e; rw [upd_ne (n2 this)]; exact this
  · have := I.base.frzs b o u e; rw [upd_ne (n2 this)]; exact this
  · obtain ⟨m, this⟩ := I.base.tbls b ps e; exact ⟨m, by rw [upd_ne (n2 this)]; exact this⟩
  · rw [upd_ne nL.symm]; exact I.free
  · rw [upd_ne]
    · exact I.freeC x c e
    · rintro rfl
      obtain ⟨v, o, ho, hc⟩ := I.cell x c e
      rw [ha] at ho; cases ho
      rw [hd] at hc; cases hc
  · obtain ⟨h1, h2, h3, h4, h5⟩ := I.pin p hp
    exact ⟨h1, by rw [upd_ne (np p hp)]; exact h2, h3, h4, h5⟩
  · by_cases hb : b = a
    · subst hb
      rw [upd_same] at e
      cases e
      exact hφ
    · rw [upd_ne hb] at e
      exact (I.hok b u e).stay (fun c w _ q => q) (fun c q => by rw [upd_ne (n2 q)]; exact q) fun c xs q => by rw [upd_ne (n2 q)]; exact q
theorem exV_ok {P : Program} {w : World} {h : Heap} {a : Addr} {cls : Value} {d : Option Addr} {oe : Obj} {vs : Array Value} (e : h.get? a = some oe) (z : Zc cls d oe) (hd : oe.data = .fields vs) : ObjOk P w H h a (ExV a cls d) :=
  ⟨⟨oe, vs, e, z, hd⟩, ⟨oe, e⟩, fun _ _ ⟨o, v, q, r⟩ k => ⟨o, v, k o q, r⟩⟩
/-- what the clause 'except x as n: m = n' wishes of an exception of the body -/
def wAsV (K : PySem.W.Frag) (c : Value) (i j : Nat) (Wout : WX) (D : Ends) : WX := fun cls d σ H =>
  ∃ b, PySem.W.exmOne K cls c = some b ∧ (b = true → ∀ a, H a = none → j < σ.length → D.nx ((((σ.set i (some (.ref a))).set j (some (.ref a)))).set i none) (upd H a (ExV a cls d))) ∧ (b = false → Wout cls d σ H)
theorem ps_try_asV {x n m : Str} {c : Value} {i j : Nat} {body : List Stmt} {np pos pos' p1 p2 p3 : Pos} {tb : WX → TS} {Wout : WX} (hs : X.stack = X.env :: X.outer) (hf : X.env.frame = some X.env.locals) (hex : X.ex = []) (hN : X.N.Nodup) (hi : X.N[i]? = some n) (hj : X.N[j]? = some m) (hln : X.env.kindOf n = some .local)
    (hlm : X.env.scope.names.lookup m = some .local) (hdn : (n == ("__debug__" : Str)) = false) (hcn : (n == ("__classdict__" : Str)) = false) (hc : Names X x c) (tk : Takes X Wout)
    (hb : ∀ (W : WX) (pn : List (Addr × Obj)) (xe : Value → Shared → Prop), Takes (X.tr pn xe) W → PassesOwn (model X.prog X.w) X.A X.env xe → PSs (X.tr pn xe) body (tb W)) :
    PS X (.Try body [.ExceptHandler (some (.Name x np)) (some n) [.Assign [.Name m p1] (.Name n p2) p3] pos'] [] [] pos) (fun D σ H => tb (wAsV X.K c i j Wout D) D σ H) := by
  refine ⟨fun pins s σ H D I h => ?_⟩
  have ok := I.ok
  have hfr : X.A.frames = some (X.env :: X.outer) := by rw [ok.frames, hs]
  have hloc : Loc X.env.scope n := .inl hln
  refine wpAny_Try_except ?_
  refine wpAny_mono ((hb (wAsV X.K c i j Wout D) (X.pn ++ pins) (fun e s₁ => wpAny (model X.prog X.w) X.A (noteFrame e X.env) (fun _ s₂ => wpAny (model X.prog X.w) X.A (setFlight e none) (fun _ s₃ =>
    wpAny (model X.prog X.w) X.A (handleBy e X.env [.ExceptHandler (some (.Name x np)) (some n) [.Assign [.Name m p1] (.Name n p2) p3] pos']) (SP X pins D) X.xe s₃) X.xe s₂) X.xe s₁) (fun u s' xx => ?_) PassesOwn.looking).run [] s σ H D (I.toTry _) h) (fun f s1 hsp => ?_) (fun e s1 he => he)
  · obtain ⟨a, B, sI, pins', σ', H', cls, d, rfl, J', nb, up, sky, na, os, ag, b, hb1, hyes, hno⟩ := xx
    have J : L2.Inv X pins σ' H' sI := J'.ofTry ok
    have sky' : Sky B (X.env :: X.outer) a (Zc cls d) X.env.locals s'.heap := by rw [← hs]; exact sky
    show wpAny (model X.prog X.w) X.A (noteFrame (.ref a) X.env) _ _ _
    refine Sky.land Zc.steady hfr hf sky' fun h3 fl3 up3 => ?_
    have J3 : L2.Inv X pins σ' H' { s' with heap := h3 } := J.landed nb fl3.1 (up.trans up3) os ag
    obtain ⟨oe3, vs3, he3, hz3, hd3⟩ := fl3.there
    have notFr : ∀ {h : Heap} {o : Obj} {vs : Array Value}, h.FunFrames B (X.env :: X.outer) → h.get? a = some o → o.data = .fields vs → a ∉ frs (X.env :: X.outer) := fun {h o vs} ff e dd hm => by
      obtain ⟨_, o', e', hnf⟩ := ff.mem hm
      rw [e] at e'; cases e'
      exact hnf _ dd
    have nfr := notFr fl3.2.2.1 he3 hd3
    have nL : a ≠ X.env.locals := fun z => nfr (List.mem_filterMap.mpr ⟨X.env, List.mem_cons_self, by rw [hf, z]⟩)
    have nF : a ∉ X.fs := fun hm => by
      obtain ⟨e, he, q⟩ := List.mem_filterMap.mp hm
      exact nfr (List.mem_filterMap.mpr ⟨e, List.mem_cons_of_mem _ he, q⟩)
    have sIa : sI.heap.get? a = none := by
      cases e : sI.heap.get? a with
      | none => rfl
      | some o =>
        have := nb a o e (by rw [hs]; exact nfr)
        rw [fl3.2.1] at this; cases this
    have n0 : X.s_0.heap.get? a = none := by
      cases e : X.s_0.heap.get? a with
      | none => rfl
      | some o =>
        obtain ⟨o', q⟩ := J.base.there a o e (by rw [hex]; exact fun z => nomatch z)
        rw [sIa] at q; cases q
    have npa : ∀ p ∈ X.pn ++ pins, p.1 ≠ a := fun p hp z => by
      have := (J.pin p hp).1
      rw [z, sIa] at this; cases this
    have S3 := J3.suite he3 hd3 na nL nF
    refine wpAny_handleBy_cons (codeAny_handlers_test ?_) (by intro q; cases q)
    have LT : PySem.W.Looks (model X.prog X.w) h3 (typeOf (.ref a)) cls := fun A Q E s k q => wpAny_typeOf_ref (k _ _ he3) (by rw [hz3.1]; exact q)
    have LM := PySem.W.exm_one (M := model X.prog X.w) (J3.kIn) LT hb1
    have test : ∀ {Q : Value → Shared → Prop} {E : Value → Shared → Prop}, Q c { s' with heap := h3 } → wpAny (model X.prog X.w) (X.A.mark (some (.ref a))) (eval (.Name x np) X.env) Q E { s' with heap := h3 } := fun {Q E} q => by
      obtain ⟨hg, hdbg, hm | ⟨hm, hv, hnn⟩⟩ := hc
      · exact ld_glob (X := X.suite a ((a, oe3) :: (X.pn ++ pins))) S3 hg hm q hdbg
      · exact ld_blt (X := X.suite a ((a, oe3) :: (X.pn ++ pins))) S3 hg hm hv q hnn hdbg
    refine test (LM.here ?_)
    cases b with
    | true =>
      refine codeAny_handlers_suite_as ?_
      refine HandSPX.lands_againZ fl3 fun h4 fl4 up4 => ?_
      have J4 : L2.Inv X pins σ' H' { s' with heap := h4 } := J.landed nb fl4.1 ((up.trans up3).trans up4) os ag
      obtain ⟨oe4, vs4, he4, hz4, hd4⟩ := fl4.there
      have S4 := J4.suite he4 hd4 na nL nF
      refine store_ok (X := X.suite a ((a, oe4) :: (X.pn ++ pins))) (v := .ref a) S4 hN hi hloc rfl (fun s5 S5 => ?_) (.inr hln)
      have su : PSs (X.suite a ((a, oe4) :: (X.pn ++ pins))) [.Assign [.Name m p1] (.Name n p2) p3] _ := pss_one (ps_set (i := j) (hf := .inr hlm) hN hj (.inl hlm) (pe_var (i := i) hi (.inl hln) hdn hcn))
      have hil : i < σ'.length := by rw [J.len]; exact (List.getElem?_eq_some_iff.mp hi).1
      refine wpAny_mono (su.run [] s5 _ H' { nx := fun σ6 H6 => σ6 = (σ'.set i (some (.ref a))).set j (some (.ref a)) ∧ H6 = H', rt := fun _ _ => False, bk := fun _ _ => False, ct := fun _ _ => False } S5 ?_) (fun f s6 hsp => ?_) (fun _ _ z => False.elim z)
      · exact ⟨.ref a, by simp [hil], rfl, rfl⟩
      cases f with
      | next =>
        obtain ⟨σ6, H6, S6, rfl, rfl⟩ := hsp
        have I6 : L2.Inv X ((a, oe4) :: pins) ((σ'.set i (some (.ref a))).set j (some (.ref a))) H6 s6 :=
          ⟨ok, S6.os, S6.bare, S6.base, S6.loc, S6.cell, S6.free, S6.freeC, fun p hp => S6.pin p (by
            show p ∈ ((a, oe4) :: (X.pn ++ pins)) ++ []
            rw [List.append_nil]
            rcases List.mem_append.mp hp with z | z
            · exact List.mem_cons_of_mem _ (List.mem_append_left _ z)
            · rcases List.mem_cons.mp z with rfl | z
              · exact List.mem_cons_self
              · exact List.mem_cons_of_mem _ (List.mem_append_right _ z)), S6.hok, S6.len⟩
        refine gone_ok I6 hN hi hln fun s7 J7 => ?_
        obtain ⟨ha7, hn7, hl7, _, _⟩ := J7.pin (a, oe4) (List.mem_append_right _ List.mem_cons_self)
        have K7 : L2.Inv X pins (((σ'.set i (some (.ref a))).set j (some (.ref a))).set i none) H6 s7 :=
          ⟨ok, J7.os, J7.bare, J7.base, J7.loc, J7.cell, J7.free, J7.freeC, fun p hp => J7.pin p (by
            rcases List.mem_append.mp hp with z | z
            · exact List.mem_append_left _ z
            · exact List.mem_append_right _ (List.mem_cons_of_mem _ z)), J7.hok, J7.len⟩
        exact ⟨_, _, inv_track K7 ha7 hd4 n0 hn7 hl7 npa (exV_ok ha7 hz4 hd4), hyes rfl a na (by rw [J.len]; exact (List.getElem?_eq_some_iff.mp hj).1)⟩
      | brk => obtain ⟨_, _, _, q⟩ := hsp; exact q.elim
      | cont => obtain ⟨_, _, _, q⟩ := hsp; exact q.elim
      | ret u => obtain ⟨_, _, _, _, _, q⟩ := hsp; exact q.elim
    | false =>
      show wpAny _ X.A (handleBy (.ref a) X.env []) _ _ _
      refine wpAny_handleBy_nil ?_
      obtain ⟨k1, k2, k3, oe, vs, T, oT, ts', he, hz, hd, h1, hr⟩ := id fl3
      unfold PySem.passOn
      refine wpAny_bind (wpAny_field he hd h1 ?_)
      rw [if_neg (show ¬ ((Value.ref T == Value.none) = true) from by simp)]
      have fin : wpAny (model X.prog X.w) X.A (setFlight (.ref a) X.env.frame) (fun _ s4 => wpAny (model X.prog X.w) X.A (throw (.ref a) : Sem Flow) (SP X pins D) X.xe s4) X.xe { s' with heap := h3 } := by
        rw [hf]
        refine HandSPX.setFlight_upZ fl3 fun h4 hh4 up4 => wpAny_throw (tk _ _ ?_)
        exact ⟨a, B, sI, pins, σ', H', cls, d, rfl, J, nb, (up.trans up3).trans up4, .inr (.inr (by rw [hs]; exact hh4)), na, os, ag, hno rfl⟩
      first
        | exact wpAny_bind (wpAny_pure (wpAny_bind fin))
        | exact wpAny_bind fin
  · cases f with
    | next =>
      obtain ⟨σ', H', J', q⟩ := hsp
      exact wpAny_execs_nil ⟨σ', H', J'.ofTry ok, q⟩
    | brk =>
      obtain ⟨σ', H', J', q⟩ := hsp
      exact ⟨σ', H', J'.ofTry ok, q⟩
    | cont =>
      obtain ⟨σ', H', J', q⟩ := hsp
      exact ⟨σ', H', J'.ofTry ok, q⟩
    | ret u =>
      obtain ⟨v, σ', H', J', r, q⟩ := hsp
      exact ⟨v, σ', H', J'.ofTry ok, r, q⟩
end
end Z
end T_EA
section T_EB
namespace Z
open PySem PySem.Spec PyProof.Rows L2
section
variable {X : Cx} {pins : List (Addr × Obj)} {σ : L2.St} {H HZ : Hp} {s s1 : Shared}
theorem pe_actV {CXg : CXT} {Eg : XK} {Ng : List Str} {qg : Str} {sg : Scope} {g f c' : Addr} {cdg : Value} {l : LamT} {k i : Nat} {a : Str} {pn : List (Addr × Obj)} {xe : Value → Shared → Prop} {W : WX} {E : XK} {tb : TE} {p1 p2 : Pos} {x : CnX}
    (I : L2.Inv X pins σ H s) (L : LamX.LamS X.env.scope l.scope) (hcl : x.cl = X.env.cells) (hlq : x.lq = X.env.qual ++ "<lambda>")
    (hbind : ∀ (q : Str) (cl : List (Str × Addr)) (pm cv ctv : Value), bindArgs (PySem.W.kla_fn "<lambda>" q l.params l.body l.scope cl pm cv ctv) ⟨[], []⟩ = pure [])
    (tk : Takes ((cxOf CXg X.prog X.w X.K X.mg X.base Ng qg sg g cdg X.A X.stack s H Eg).tr pn xe) W) (hW : ∀ cls d σ' H', E cls d H' → W cls d σ' H') (hr : Room (k + 1) (X.A.deeper (envOfC qg sg s.heap.objs.size g cdg)))
    (hbody : ∀ (A : Around) (outer : List PySem.Env) (s : Shared) (H : Hp), Room k (A.deeper (LamX.lamEnv X l.scope s.heap.objs.size f c')) → A.guards = X.A.guards → PE (LamX.lamCx X A outer s H E l.scope f c') l.body tb)
    (hN : Ng[i]? = some a) (hv : Vis sg a) (hd : (a == ("__debug__" : Str)) = false := by decide) (hcd : (a == ("__classdict__" : Str)) = false := by decide) :
    PE ((cxOf CXg X.prog X.w X.K X.mg X.base Ng qg sg g cdg X.A X.stack s H Eg).tr pn xe) (.Call (.Name a p1) [] [] p2)
      (fun σZ HZ Q => σZ[i]? = some (some (.ref f)) ∧ HZ f = some (CloO x l f c') ∧ HZ c' = some (LamX.CodeO c' x.lq) ∧ tb σ HZ Q) := by
  refine ⟨fun pinsZ sZ σZ HZ Q IZ h => ?_⟩
  obtain ⟨hs, hfo, hc, ht⟩ := h
  refine wpAny_Call_Name_kw (thn ((pe_var (pos := p1) (i := i) hN hv hd hcd).run pinsZ sZ σZ HZ (fun v H1 => v = .ref f ∧ H1 = HZ) IZ ⟨.ref f, hs, rfl, rfl⟩) fun u s1 ⟨v, H1, I1, r1, q1⟩ => ?_)
  obtain ⟨ev, eH⟩ := q1
  subst ev
  rw [eH] at I1
  obtain rfl : u = Value.ref f := r1
  obtain ⟨⟨pm, ctv, of1⟩, _, _⟩ := I1.hok f _ hfo
  rw [hlq, hcl] at of1
  refine PySem.W.callWith_F0 ⟨_, _, _, _, of1⟩ ?_
  have un : Un (frs X.stack) [] H HZ s.heap s1.heap := I1.base
  obtain ⟨⟨oc, vs, t, hoc, hdc, hvc⟩, _, _⟩ := I1.hok c' _ hc
  rw [hlq] at hvc
  have rc : codeAny (model X.prog X.w) (X.A.deeper (envOfC qg sg s.heap.objs.size g cdg)) (.call (.ref f) ⟨[], []⟩) (CR (L2.CX X.prog X.w) (envOfC qg sg s.heap.objs.size g cdg :: X.stack) X.prog X.w HZ s1 Q E) s1 := by
    refine PySem.W.kla_callFunE hr.depth of1 rfl L.co L.gen rfl ⟨c', oc, vs, t, rfl, hoc, hdc, hvc⟩ ?_
    rw [hbind]
    refine wpAny_pure (wpAny_newFunctionEnv (fun y hy => (L.own y hy).2) (fun y hy => absurd hy (by simp)) (fun h₁ hns hsb => ⟨I1.nolimit.fresh _ hsb, ?_⟩) L.kind)
    show codeAny _ _ (.expr l.body (LamX.lamEnv X l.scope s1.heap.objs.size f c')) _ _
    have kp : ∀ b o, s1.heap.get? b = some o → h₁.get? b = some o := fun b o e => hsb.extBut b o (Nat.ne_of_lt (Heap.lt_size e)) (Heap.get?_push_of_some _ e)
    have J : L2.Inv (LamX.lamCx X (X.A.deeper (envOfC qg sg s.heap.objs.size g cdg)) (envOfC qg sg s.heap.objs.size g cdg :: X.stack) s1 HZ E l.scope f c') [] σ HZ { s1 with heap := h₁, toks := s1.toks + ([] : List (Str × Value)).length } :=
      LamX.lam_start2 I L I1.env0 hr.hd un hns kp
    refine PySem.W.kla_codeExpr (wpAny_mono ((hbody _ _ s1 HZ (hr.deeper _) rfl).run [] _ _ HZ Q J ht) (fun v s' hq => ?_) fun e s' hq => hq)
    obtain ⟨w', H', J', rv, q⟩ := hq
    exact ⟨w', H', J'.os, J'.bare, J'.base, J'.hok, rv, q⟩
  have hx : Passes (L2.CX X.prog X.w) ((cxOf CXg X.prog X.w X.K X.mg X.base Ng qg sg g cdg X.A X.stack s H Eg).tr pn xe) E := passes_call tk hW
  refine wpAny_call (codeAny_mono rc fun r s' hq => ?_)
  cases r with
  | error e => exact hx pinsZ σZ HZ s1 e s' I1 hq
  | ok fl =>
    cases fl with
    | ret u => exact I1.after hq
    | next => exact False.elim hq
    | brk => exact False.elim hq
    | cont => exact False.elim hq
/-- the text of the def that catches -/
abbrev cauB (w hv er : Str) (q1 q2 q3 q4 q5 q6 q7 q8 q9 q10 q11 q12 q13 q14 : Pos) (k0 : Nat) : List Stmt :=
  [.Assign [.Name hv q1] (.Constant .none k0 q2) q3,
   .Try [.Expr (.Call (.Name w q4) [] [] q5) q6] [.ExceptHandler (some (.Name "RuleError" q7)) (some er) [.Assign [.Name hv q8] (.Name er q9) q10] q11] [] [] q12,
   .Return (some (.Name hv q13)) q14]
/-- the def that catches, as it stands -/
structure CauD (K : PySem.W.Frag) (mg : Str → Option Value) (x : Str) (CR : Addr) : Prop where
  ex : ∃ (g : Addr) (fd : FuncData) (pg : Arguments) (bg : List Stmt) (sg : Scope) (w hv er : Str), FunD K x x pg bg sg [] [] g fd ∧ Binds K fd [w] [] ∧ FnScope [w, hv, er] [w] sg ∧
    (∃ q1 q2 q3 q4 q5 q6 q7 q8 q9 q10 q11 q12 q13 q14 k0, bg = cauB w hv er q1 q2 q3 q4 q5 q6 q7 q8 q9 q10 q11 q12 q13 q14 k0) ∧ sg.names.lookup w = some .local ∧ sg.names.lookup hv = some .local ∧ sg.names.lookup er = some .local ∧ sg.names.lookup ("RuleError" : Str) = some .globalImplicit ∧
    (w == ("__debug__" : Str)) = false ∧ (w == ("__classdict__" : Str)) = false ∧ (hv == ("__debug__" : Str)) = false ∧ (hv == ("__classdict__" : Str)) = false ∧ (er == ("__debug__" : Str)) = false ∧ (er == ("__classdict__" : Str)) = false ∧ mg x = some (.ref g)
  mR : mg "RuleError" = some (.ref CR)
/-- what the def that catches makes of the lambda's reading -/
def TTcau (K : PySem.W.Frag) (CR : Addr) (σ : L2.St) : (XK → L2.St → Hp → VK → Prop) → Hp → VK → Prop := fun tl H Q =>
  tl (fun cls d H' => PySem.W.exmOne K cls (.ref CR) = some true ∧ ∀ a, H' a = none → Q (.ref a) (upd H' a (ExV a cls d))) σ H (fun _ H' => Q .non H')
/-- x(e): e a lambda's object -/
theorem cau_call {x : Str} {CR : Addr} (G : CauD X.K X.mg x CR) {k : Nat} (hr : Room (k + 2) X.A) {f c' : Addr} {l : LamT} {y : CnX} {Q : VK} {tl : XK → L2.St → Hp → VK → Prop} (I : L2.Inv X pins σ H s) (L : LamX.LamS X.env.scope l.scope) (hcl : y.cl = X.env.cells) (hlq : y.lq = X.env.qual ++ "<lambda>")
    (hbind : ∀ (q : Str) (cl : List (Str × Addr)) (pm cv ctv : Value), bindArgs (PySem.W.kla_fn "<lambda>" q l.params l.body l.scope cl pm cv ctv) ⟨[], []⟩ = pure []) (hf : H f = some (CloO y l f c')) (hc : H c' = some (LamX.CodeO c' y.lq))
    (hbody : ∀ (E : XK) (A : Around) (outer : List PySem.Env) (s : Shared) (H : Hp), Room k (A.deeper (LamX.lamEnv X l.scope s.heap.objs.size f c')) → A.guards = X.A.guards → PE (LamX.lamCx X A outer s H E l.scope f c') l.body (tl E))
    (mono : ∀ E σ H (Q Q' : VK), (∀ v H, Q v H → Q' v H) → tl E σ H Q → tl E σ H Q') (h : TTcau X.K CR σ tl H Q) : ∃ g, X.mg x = some (.ref g) ∧ PySem.W.keepIn X.K (.ref g) = true ∧ codeAny (model X.prog X.w) X.A (.call (.ref g) ⟨[.ref f], []⟩) (L2.CR L2.CX0 X.stack X.prog X.w H s Q C8.E0) s := by
  obtain ⟨g, fd, pg, bg, sg, w, hv, er, Fd, hb, Sg, ⟨q1, q2, q3, q4, q5, q6, q7, q8, q9, q10, q11, q12, q13, q14, k0, rfl⟩, lw, lh, le, lR, d1, d2, d3, d4, d5, d6, hm⟩ := G.ex
  refine ⟨g, hm, Fd.kp, ?_⟩
  obtain ⟨oc, od, dV, kV, doc, pm, an, cdv, ct, osl, rfl, lk, hcd, _, _⟩ := Fd.ex
  refine LamX.run_ofS (N := [w, hv, er]) (ps := [w]) (us := [.ref f]) (vs := [.ref f]) lk hcd Sg hr I.env0 (by have := hb s [.ref f] I.kIn rfl; rwa [List.append_nil] at this) (.cons rfl .nil) rfl fun hr' => ?_
  have nd : [w, hv, er].Nodup := Sg.nd
  have hgl : Gl (cxOf L2.CX0 X.prog X.w X.K X.mg X.base [w, hv, er] x sg g cdv X.A X.stack s H C8.E0).nox "RuleError" := lR
  refine ⟨_, PSs.nox (pss_cons (ps_set (i := 1) (hf := .inr lh) nd rfl (.inl lh) pe_non) (pss_cons (ps_try_asV (X := (cxOf L2.CX0 X.prog X.w X.K X.mg X.base [w, hv, er] x sg g cdv X.A X.stack s H C8.E0).nox) (i := 2) (j := 1) (c := .ref CR)
      (tb := fun W D σ' H' => ∃ Ech : XK, (∀ cls d σ2 H2, Ech cls d H2 → W cls d σ2 H2) ∧ σ'[0]? = some (some (.ref f)) ∧ H' f = some (CloO y l f c') ∧ H' c' = some (LamX.CodeO c' y.lq) ∧ tl Ech σ H' fun _ H2 => D.nx σ' H2)
      rfl rfl rfl nd rfl rfl le lh d5 d6 ⟨hgl, by decide, .inl G.mR⟩ LamX.takes0 (fun W pn xe tk _ => ?_)) (pss_one (ps_ret (pe_var (i := 1) rfl (.inl lh) d3 d4))))), ?_⟩
  · refine ⟨fun pins s' σ' H' D I' h' => ?_⟩
    obtain ⟨Ech, hW, h1, h2, h3, h4⟩ := h'
    have hp := pe_actV (X := X) (CXg := L2.CX0) (Eg := C8.E0) (Ng := [w, hv, er]) (i := 0) (p1 := q4) (p2 := q5) (tb := tl Ech) I L hcl hlq hbind tk hW hr' (fun A outer s H hr2 hg => hbody Ech A outer s H hr2 hg) rfl (.inl lw) d1 d2
    have hq := pss_one (ps_expr (pos := q6) hp rfl)
    exact hq.run pins s' σ' H' D I' ⟨h1, h2, h3, h4⟩
  · refine ⟨fun cls d H2 => PySem.W.exmOne X.K cls (.ref CR) = some true ∧ ∀ a, H2 a = none → Q (.ref a) (upd H2 a (ExV a cls d)), fun cls d σ2 H2 ⟨e1, e2⟩ => ⟨true, e1, fun _ a na hl1 => ?_, fun z => nomatch z⟩, rfl, hf, hc, mono _ _ _ _ _ (fun _ H2 q => ⟨.non, rfl, q⟩) h⟩
    exact ⟨.ref a, by simp [hl1], e2 a na⟩
end
end Z
end T_EB
section T_EC
namespace Z
open PySem PySem.Spec PyProof.Rows L2
section
variable {X : Cx} {pins : List (Addr × Obj)} {σ : L2.St} {H : Hp} {s : Shared}
theorem cloO_ok {P : Program} {w : World} {h : Heap} {f e : Addr} {x : CnX} {l : LamT} {pm ctv : Value} (g : h.get? f = some (PySem.W.kla_obj "<lambda>" x.lq l.params l.body l.scope (cloFrom x.cl l.scope.names []) pm e ctv)) : ObjOk P w H h f (CloO x l f e) :=
  ⟨⟨pm, ctv, g⟩, ⟨_, g⟩, fun _ _ ⟨a, b, z⟩ k => ⟨a, b, k _ z⟩⟩
/-- behind the making of a lambda: it stands at f, its code object at e -/
structure LamMade (x : CnX) (l : LamT) (T : List (Addr × Str)) (P : Addr) (H H2 : Hp) (f e : Addr) : Prop where
  old : ∀ b o, H b = some o → b ≠ P → H2 b = some o
  al : ∀ b, H b ≠ none → H2 b ≠ none
  tabs : LamX.Tabs T H2
  new : H f = none
  clo : H2 f = some (CloO x l f e)
  code : H2 e = some (LamX.CodeO e x.lq)
theorem lam_held {T : List (Addr × Str)} {c P : Addr} {l : LamT} {x : CnX} {pos : Pos} {W : Value → Shared → Prop} {Q : Value → Shared → Prop} (I : L2.Inv X pins σ H s) (TB : LamX.TabB X.base X.mg c P) (hcode : X.env.code = .ref c) (hcl : x.cl = X.env.cells) (hlq : x.lq = X.env.qual ++ "<lambda>")
    (hm : (P, x.lq) ∈ T) (hu : ∀ p ∈ T, p.1 = P → p.2 = x.lq) (hT : LamX.Tabs T H) (hdef : defaultsOf l.params X.env = ([], [])) (hfree : ∀ y ∈ l.scope.names, y.2 = .free → ∃ c, X.env.cells.lookup y.1 = some c)
    (h : ∀ (f e : Addr) (H2 : Hp) (s2 : Shared), L2.Inv X pins σ H2 s2 → LamMade x l T P H H2 f e → Q (.ref f) s2) : wpAny (model X.prog X.w) X.A (eval (.Lambda l.params l.body l.scope pos) X.env) Q W s := by
  obtain ⟨ps, tabP, three, told⟩ := hT _ hm
  have bP : s.heap.BuiltinsAt X.mg P := TB.bm.keeps I.bk
  have at0 : s.heap.get? P = some { cls := .none, data := .fields ps } := I.hok P _ tabP
  refine PySem.W.kla_eval hdef ?_
  cases known : codeAmong pos ps.toList with
  | some cv =>
    obtain ⟨e, rfl, hco⟩ := told pos cv known
    refine PySem.W.kla_makeFunctionHit (mg := X.mg) (c := c) (P := P) (ps := ps) (closure_ok hfree) I.ok.glob (I.mod.glob.keeps I.bk) hcode (TB.code.keeps I.bk) at0 three known bP fun ctv g tk up big => ?_
    rw [← hlq, ← hcl]
    have fresh : H g.objs.size = none := I.hok.fresh big
    have put : (g.push (PySem.W.kla_obj "<lambda>" x.lq l.params l.body l.scope (cloFrom x.cl l.scope.names []) ((X.mg "__name__").getD .none) e ctv)).get? g.objs.size = _ := Heap.get?_push_size _ rfl
    have J := I.laid (t' := tk) (a := g.objs.size) (o := CloO x l g.objs.size e) (fun b u z => Heap.get?_push_of_some _ (up b u z)) big (cloO_ok put)
    refine h _ e _ _ J ⟨fun b o z _ => upd_keep fresh b o z, upd_al, fun p hp => (hT p hp).ext fun b o z => upd_keep fresh b o z, fresh, upd_same, upd_keep fresh _ _ hco⟩
  | none =>
    refine PySem.W.kla_makeFunction (mg := X.mg) (c := c) (P := P) (ps := ps) (closure_ok hfree) I.ok.glob (I.mod.glob.keeps I.bk) hcode (TB.code.keeps I.bk) at0 three known TB.gP bP fun e ctv g tk up big small rec_ tab_ => ?_
    rw [← hlq, ← hcl]
    obtain ⟨e2, oc, us, t, z, g1, g2, g3⟩ := rec_
    cases z
    rw [← hlq] at g3
    have freshE : H e = none := I.hok.fresh big
    have nP : P ≠ e := fun z => by rw [z, freshE] at tabP; cases tabP
    have J := LamX.inv_table (t' := tk) (q := x.lq) (more := #[rawInt pos.line, rawInt pos.col, .ref e]) (h' := g) I tabP (fun b o hb z => up b o hb z) tab_ big ⟨oc, us, t, g1, g2, g3⟩
    have put : (g.push (PySem.W.kla_obj "<lambda>" x.lq l.params l.body l.scope (cloFrom x.cl l.scope.names []) ((X.mg "__name__").getD .none) e ctv)).get? g.objs.size = _ := Heap.get?_push_size _ rfl
    have J2 := J.laid (t' := tk) (a := g.objs.size) (o := CloO x l g.objs.size e) (h' := g.push (PySem.W.kla_obj "<lambda>" x.lq l.params l.body l.scope (cloFrom x.cl l.scope.names []) ((X.mg "__name__").getD .none) e ctv)) (fun b u z => Heap.get?_push_of_some _ z) (Nat.le_refl _) (cloO_ok put)
    have fresh1 := J.hok.fresh (Nat.le_refl g.objs.size)
    have fresh : H g.objs.size = none := I.hok.fresh (Nat.le_trans big (Nat.le_of_lt small))
    have keep1 : ∀ b o, H b = some o → b ≠ P → upd (upd H P (.tbl (ps ++ #[rawInt pos.line, rawInt pos.col, .ref e]))) e (LamX.CodeO e x.lq) b = some o := fun b o z n => by
      rw [upd_ne (fun q => by rw [q, freshE] at z; cases z), upd_ne n]
      exact z
    refine h _ e _ _ J2 ⟨fun b o z n => upd_keep fresh1 b o (keep1 b o z n), fun b z => upd_al b (upd_al b (upd_al b z)), fun p hp => ?_, fresh, upd_same, upd_keep fresh1 _ _ upd_same⟩
    refine LamX.TabS.ext ?_ fun b o z => upd_keep fresh1 b o z
    by_cases hb : p.1 = P
    · rw [hu p hp hb, hb]
      have l3 : (ps ++ #[rawInt pos.line, rawInt pos.col, .ref e]).toList = ps.toList ++ [rawInt pos.line, rawInt pos.col, .ref e] := by simp
      refine ⟨_, by rw [upd_ne nP, upd_same], by rw [l3]; exact PySem.TriplesOk_snoc _ _ _ _ three, fun pos2 cv got => ?_⟩
      rw [l3] at got
      rcases LamX.among_app _ three got with z | z
      · obtain ⟨a, z1, z2⟩ := told pos2 cv z
        exact ⟨a, z1, keep1 _ _ z2 fun q => by rw [q, tabP] at z2; exact LamX.codeO_ne _ (Option.some.inj z2).symm⟩
      · exact ⟨e, z, upd_same⟩
    · obtain ⟨qs, b1, b2, b3⟩ := hT p hp
      refine ⟨qs, by rw [upd_ne (fun q => by rw [q, freshE] at b1; cases b1), upd_ne hb]; exact b1, b2, fun pos2 cv got => ?_⟩
      obtain ⟨a, z1, z2⟩ := b3 pos2 cv got
      exact ⟨a, z1, keep1 _ _ z2 fun q => by rw [q, tabP] at z2; exact LamX.codeO_ne _ (Option.some.inj z2).symm⟩
end
end Z
end T_EC
section T_ED
namespace Z
open PySem L2
/-- what isinstance asks of an exception's class -/
structure ExI (K : PySem.W.Frag) (C : Addr) : Prop where
  cl : (PySem.W.clsIn K C).isSome = true
  ga : PySem.W.findIn K (.ref C) "__getattribute__" = some (some (.builtin "BaseException.__getattribute__"))
  gt : PySem.W.findIn K (.ref C) "__getattr__" = some none
  sub : PySem.W.subIn K (.ref C) (.type "BaseException") = some true
  ha : PySem.W.findIn K (.ref C) "__class__" = some (some (.builtin "object.__class__"))
  hn : PySem.W.specialIn K (.builtin "object.__class__") "__get__" = some (some (.builtin "getset_descriptor.__get__"))
  htk : PySem.W.takesIn K (.builtin "object.__class__") = some true
  hm : PySem.W.mroIn K C (.type "object") = some true
/-- what isinstance asks of an object's class -/
structure InI (K : PySem.W.Frag) (C : Addr) : Prop where
  cl : Cls K C
  ha : PySem.W.findIn K (.ref C) "__class__" = some (some (.builtin "object.__class__"))
  hn : PySem.W.specialIn K (.builtin "object.__class__") "__get__" = some (some (.builtin "getset_descriptor.__get__"))
  htk : PySem.W.takesIn K (.builtin "object.__class__") = some true
  hm : PySem.W.mroIn K C (.type "object") = some true
/-- what is known of a class that isinstance asks for: a class of the package, or ValueError -/
structure IsaC (K : PySem.W.Frag) (mg : Str → Option Value) (C : Str) : Prop where
  ex : ∃ (cv : V) (cu : Value), ((∃ Cj, cv = .ref Cj ∧ cu = .ref Cj ∧ mg C = some (.ref Cj)) ∨ (C = "ValueError" ∧ cv = .ty "ValueError" ∧ cu = .type "ValueError" ∧ mg C = none)) ∧ (∀ T ∈ ["NoneType", "bool", "int", "str", "list", "tuple", "dict"], PySem.W.kitOne K (.type T) cu = some false) ∧
    (∀ C' Ci, insN.contains C' = true → mg C' = some (.ref Ci) → InI K Ci ∧ PySem.W.kitOne K (.ref Ci) cu = some (decide (C' = C))) ∧
    (∀ C' Ci, isExc C' = true → mg C' = some (.ref Ci) → ExI K Ci ∧ PySem.W.kitOne K (.ref Ci) cu = some (decide (C' = C) || (decide (C = "RuleError") || decide (C = "ValueError"))))
def rIsX (K : PySem.W.Frag) (cv : V) (cu : Value) : List V → Hp → VK → Prop := fun xs H Q => (∃ (x : V) (t : Value) (b : Bool), xs = [x, cv] ∧ TyX K H x t ∧ PySem.W.kitOne K t cu = some b ∧ Q (.bl b) H) ∨
  (∃ (a C : Addr) (d : Option Addr) (b : Bool), xs = [.ref a, cv] ∧ H a = some (ExV a (.ref C) d) ∧ (∀ dd, d = some dd → ∃ fs, H dd = some (.xd fs)) ∧ ExI K C ∧ PySem.W.kitOne K (.ref C) cu = some b ∧ Q (.bl b) H)
theorem call_isX {X : Cx} {cv : V} {cu : Value} (hc : ClsV cv cu) : CallR X (.builtin "isinstance") (rIsX X.K cv cu) := by
  intro pins s σ H xs us Q I r h
  rcases h with ⟨x, t, b, rfl, ty, e, q⟩ | ⟨a, C, d, b, rfl, ea, ed, T, e, q⟩
  · exact call_isi pins s σ H _ us Q I r ⟨x, cv, t, cu, b, rfl, hc, ty, e, q⟩
  · obtain ⟨u1, u2, rfl, r1, r2⟩ := vals2 r
    obtain rfl : u1 = Value.ref a := r1
    obtain rfl := hc.eq r2
    obtain ⟨⟨oe, vs, ha, hz, hd⟩, _, _⟩ := I.hok a _ ea
    have nc : PySem.W.notCls oe = true := by unfold PySem.W.notCls; rw [hd] <;> rfl
    cases d with
    | none =>
      exact PySem.W.kia_one (PySem.W.kitx_exc T.cl T.ga T.gt T.sub T.ha T.hn T.htk T.hm) I.kIn (show PySem.W.InstAt s.heap a oe C none from ⟨ha, hz.1, nc, by rw [hz.2]; trivial⟩) e (fun z => nomatch z) fun tk => ⟨.bl b, H, I.tok tk, rfl, q⟩
    | some dd =>
      obtain ⟨fs, e2⟩ := ed dd rfl
      obtain ⟨mA, hns, _⟩ : ObjOk X.prog X.w H s.heap dd (.xd fs) := I.hok dd _ e2
      obtain ⟨od, ho, _⟩ := lookIn_ns hns
      exact PySem.W.kia_one (PySem.W.kitx_exc T.cl T.ga T.gt T.sub T.ha T.hn T.htk T.hm) I.kIn (show PySem.W.InstAt s.heap a oe C (some od) from ⟨ha, hz.1, nc, by rw [hz.2]; exact ho⟩) e (fun z => nomatch z) fun tk => ⟨.bl b, H, I.tok tk, rfl, q⟩
section
variable {c : Cn} {H0 Hs H H1 H2 H' : Hp} {Z : Addr → Prop} {σ σ1 σ2 σ' : L2.St} {ρ ρ1 ρ2 ρ' : Env} {v : V} {d : D} {k : Kd} {Ex : Xn → Prop} {EE : XK}
variable {X : Cx} {a b e : Expr} {es : List Expr} {pos p p2 : Pos} {ca cb cc : CE} {cs : CL}
theorem isa_rule {C : Str} {cv : V} {cu : Value} {bo : Bool} {Q : VK} (hb : ∀ T ∈ ["NoneType", "bool", "int", "str", "list", "tuple", "dict"], PySem.W.kitOne c.K (.type T) cu = some false)
    (hi : ∀ C' Ci, insN.contains C' = true → c.mg C' = some (.ref Ci) → InI c.K Ci ∧ PySem.W.kitOne c.K (.ref Ci) cu = some (decide (C' = C)))
    (hx : ∀ C' Ci, isExc C' = true → c.mg C' = some (.ref Ci) → ExI c.K Ci ∧ PySem.W.kitOne c.K (.ref Ci) cu = some (decide (C' = C) || (decide (C = "RuleError") || decide (C = "ValueError"))))
    (r : RE c H0 Z σ H ρ) (h : VW c Z σ H ρ v d) (e : isaD C d = some bo) (q : Q (.bl bo) H) : rIsX c.K cv cu [v, cv] H Q := by
  have blt : ∀ T, tyD d = some T → T ∈ ["NoneType", "bool", "int", "str", "list", "tuple", "dict"] → bo = false → rIsX c.K cv cu [v, cv] H Q := fun T hT hin hbo => by
    subst hbo
    exact .inl ⟨v, _, false, rfl, h.tyx r hT, hb T hin, q⟩
  cases d with
  | non => cases e; exact blt _ rfl (by simp) rfl
  | bl _ => cases e; exact blt _ rfl (by simp) rfl
  | int _ => cases e; exact blt _ rfl (by simp) rfl
  | str _ => cases e; exact blt _ rfl (by simp) rfl
  | lst _ => cases e; exact blt _ rfl (by simp) rfl
  | tup _ => cases e; exact blt _ rfl (by simp) rfl
  | dct _ => cases e; exact blt _ rfl (by simp) rfl
  | ins C' fs =>
    simp only [isaD] at e
    split at e
    · rename_i hin
      cases e
      have w := h.rep r (fun _ e => nomatch e) fun _ e => nomatch e
      cases w with
      | ins m rz l =>
        obtain ⟨T, k⟩ := hi _ _ hin m
        exact .inl ⟨_, _, _, rfl, .base (.ins (Rz.get rfl rz) T.cl T.ha T.hn T.htk T.hm), k, q⟩
    · cases e
  | exc C' fs =>
    cases e
    have w := h.rep r (fun _ e => nomatch e) fun _ e => nomatch e
    cases w with
    | exc0 m ix rz =>
      obtain ⟨T, k⟩ := hx _ _ ix m
      exact .inr ⟨_, _, none, _, rfl, Rz.get rfl rz, (fun _ z => nomatch z), T, k, q⟩
    | exc1 m ix rz rz2 l =>
      obtain ⟨T, k⟩ := hx _ _ ix m
      exact .inr ⟨_, _, some _, _, rfl, Rz.get rfl rz, (fun _ z => by cases z; exact ⟨_, Rz.get rfl rz2⟩), T, k, q⟩
  | drw => cases e
  | opq _ => cases e
  | rng _ _ => cases e
  | clo _ => cases e
  | fnv _ => cases e
  | lamc _ _ => cases e
theorem e_isa {C y : Str} (O : XOk c X) (hgi : Gl X "isinstance") (hmi : X.mg "isinstance" = none) (hgC : Gl X C) (hdC : (C == ("__debug__" : Str)) = false) (G : IsaC c.K c.mg C) (ha : PE X a (tr c H0 Ex ca)) (hst : ∀ es, starEach (a :: es) X.env = (false, eval a X.env) :: starEach es X.env) :
    PE X (.Call (.Name "isinstance" p) [a, .Name C p2] [] pos) (tr c H0 Ex (.isa ca C)) := by
  obtain ⟨cv, cu, hcc, hb, hi, hx⟩ := G.ex
  have hcl : ClsV cv cu := by
    rcases hcc with ⟨Cj, rfl, rfl, _⟩ | ⟨_, rfl, rfl, _⟩
    · exact .own _
    · exact .ty _
  have ht : PE X (.Name C p2) (tC cv) := by
    rcases hcc with ⟨Cj, rfl, rfl, hm⟩ | ⟨rfl, rfl, rfl, hm⟩
    · exact pe_glob hgC (by rw [O.mg]; exact hm) rfl hdC
    · exact pe_bltn hgC (by rw [O.mg]; exact hm) (by decide +kernel : bootBuiltins "ValueError" = some (.type "ValueError")) rfl
  refine PE.imp (pe_callB (call_isX hcl) hgi hmi PyProof.Rows.boot_isinstance (pa_cons ha (pa_cons ht pa_nil rfl) (hst _)) (by decide) (by decide) (hst _) rfl) fun σ H Q h => ?_
  obtain ⟨Z, ρ, P, r, hev, hk⟩ := h
  rw [ev] at hev
  refine ⟨Z, ρ, _, r, hev, fun x k ρ1 vx H1 hp r1 s1 v1 => ?_⟩
  obtain ⟨bo, hb2, hP⟩ := hp
  rw [O.K]
  exact isa_rule hb hi hx r1 v1.weak hb2 (hk _ _ _ _ _ hP r1 s1 (.bl _))
end
end Z
end T_ED
section T_EE
namespace Z
/-- names, as the core knows them -/
abbrev KEnv := Env
end Z
namespace Z
open PySem PySem.Spec PyProof.Rows L2
def CL.at : CL → Nat → Option CE
  | .nil, _ => none
  | .cons b _, 0 => some b
  | .cons _ bs, j + 1 => bs.at j
theorem evj_at {P : Prop} {E : Xn → Prop} {ρ : KEnv} : ∀ {bs : CL} {j : Nat}, evj bs j ρ E P → ∃ cb, bs.at j = some cb ∧ ev E cb ρ fun _ _ _ => P
  | .nil, _, h => by rw [evj] at h; exact h.elim
  | .cons b bs, 0, h => by rw [evj] at h; exact ⟨b, rfl, h⟩
  | .cons b bs, j + 1, h => by rw [evj] at h; exact evj_at (bs := bs) h
section
variable {c : Cn} {H0 Hs H H1 H2 H' : Hp} {Z : Addr → Prop} {σ σ1 σ2 σ' : L2.St} {ρ ρ1 ρ2 ρ' : KEnv} {v : V} {d : D} {k : Kd} {Ex : Xn → Prop} {EE : XK}
variable {X : Cx} {a b e : Expr} {es : List Expr} {pos p p2 : Pos} {ca cb cc : CE} {cs bs : CL}
theorem shut_frz {i : Nat} {d : D} (h : (shut ρ)[i]? = some (some (.frz d))) : ρ[i]? = some (some (.frz d)) := by
  unfold shut at h
  rw [List.getElem?_map] at h
  cases e : ρ[i]? with
  | none => rw [e] at h; cases h
  | some o =>
    rw [e] at h
    cases o with
    | none => cases h
    | some s => cases s <;> simp at h <;> rw [h]
theorem shut_own {i : Nat} {d : D} : (shut ρ)[i]? ≠ some (some (.own d)) := by
  unfold shut
  rw [List.getElem?_map]
  cases e : ρ[i]? with
  | none => simp
  | some o =>
    cases o with
    | none => simp
    | some s => cases s <;> simp
/-- a lambda's names -/
theorem re_shut (r : RE c H0 Z σ H ρ) : RE c H (full Z σ ρ) σ H (shut ρ) := by
  have no : ∀ b, ¬ Ow σ (shut ρ) b := fun b ⟨i, d, h, _⟩ => shut_own h
  refine ⟨?_, fun i d h => ?_, fun i d h => (shut_own h).elim, fun i j d e v _ h => (shut_own h).elim, fun b o e _ => e, fun b h => h, r.wok, fun a w => .inl (r.wz a w), full_ob r⟩
  · rw [← r.len]; unfold shut; simp
  · obtain ⟨v, e, q⟩ := r.frz i d (shut_frz h)
    exact ⟨v, e, q.to (Rz.mono fun a z => z.elim id fun z => (no a z).elim)⟩
/-- an exception that is held from now on -/
theorem caught_rep (r : RE c H0 Z σ H ρ) (k1 : ∀ b o, H b = some o → ¬ c.ws b → H' b = some o) (k2 : ∀ b, H b ≠ none → H' b ≠ none) (wk : c.wok H') {y : Xn} {cls : Value} {od : Option Addr} (q : RepX c H H' y cls od) {x : Addr} (na : H' x = none) :
    RE c H0 Z σ (upd H' x (ExV x cls od)) ρ ∧ Stp c.ws σ ρ H σ ρ (upd H' x (ExV x cls od)) ∧ Rep c (Rz (upd H' x (ExV x cls od)) (full Z σ ρ)) (.ref x) (excD y) := by
  obtain ⟨r2, s2⟩ := after_call r k1 k2 wk
  have r3 := r2.new (o := ExV x cls od) na
  have s3 : Stp c.ws σ ρ H' σ ρ (upd H' x (ExV x cls od)) := .new na
  refine ⟨r3, s2.trans s3, ?_⟩
  obtain ⟨i, m, ⟨Ca, rfl⟩, q⟩ := q
  obtain ⟨C, at_⟩ := y
  have hx : Rz (upd H' x (ExV x (.ref Ca) od)) (full Z σ ρ) x (ExV x (.ref Ca) od) := ⟨r2.nfull na, .inl upd_same⟩
  cases at_ with
  | none =>
    obtain rfl : od = none := q
    exact .exc0 m i hx
  | some d =>
    obtain ⟨dd, v, rfl, n0, e, rv, sc⟩ := q
    have ne : dd ≠ x := fun z => by rw [z, na] at e; cases e
    exact .exc1 m i hx ⟨r.nfull n0, .inl (by rw [upd_ne ne]; exact e)⟩ (.cons _ (rv.scal sc) .nil)
/-- a lambda -/
theorem e_lam {j : Nat} {l : LamT} {cd P : Addr} (hl : c.xs.lm[j]? = some l) (TB : LamX.TabB X.base X.mg cd P) (hcode : X.env.code = .ref cd) (hcl : c.xs.cl = X.env.cells) (hlq : c.xs.lq = X.env.qual ++ "<lambda>") (hm : (P, c.xs.lq) ∈ c.xs.tb) (hu : ∀ p ∈ c.xs.tb, p.1 = P → p.2 = c.xs.lq)
    (hdef : defaultsOf l.params X.env = ([], [])) (L : LamX.LamS X.env.scope l.scope) : PE X (.Lambda l.params l.body l.scope pos) (tr c H0 Ex (.lam j)) := by
  refine ⟨fun pins s σ H Q I h => ?_⟩
  obtain ⟨Z, ρ, P', r, hev, hk⟩ := h
  rw [ev] at hev
  refine lam_held I TB hcode hcl hlq hm hu r.wok.2 hdef (L.has I.ok) fun f e H2 s2 J M => ⟨.ref f, H2, J, rfl, ?_⟩
  have wP : c.ws P := .inr ⟨_, hm⟩
  have k1 : ∀ b o, H b = some o → ¬ c.ws b → H2 b = some o := fun b o z n => M.old b o z fun q => n (q ▸ wP)
  have dr : ∀ x y z, c.dr = some (x, y, z) → DrawOk x y z H2 := fun x y z hd => by
    obtain ⟨r0, t, ls, cs, h1, h2, h3, h4⟩ := r.wok.1 x y z hd
    obtain ⟨ps, tp, _⟩ := r.wok.2 _ hm
    have ne : ∀ {b o}, H b = some o → (∀ ps, o ≠ .tbl ps) → b ≠ P := fun e n q => by rw [q, tp] at e; cases e; exact n _ rfl
    exact ⟨r0, t, ls, cs, M.old _ _ h1 (ne h1 fun _ z => nomatch z), M.old _ _ h2 (ne h2 fun _ z => nomatch z), M.old _ _ h3 (ne h3 fun _ z => nomatch z), h4⟩
  obtain ⟨r2, st2⟩ := after_call r k1 M.al ⟨dr, M.tabs⟩
  have nf : ¬ full Z σ ρ f := r.nfull M.new
  have ne : ¬ full Z σ ρ e := fun z => (full_ob r2 e z).2 _ M.code
  exact hk _ _ _ _ _ hev r2 st2 (.clo hl ⟨nf, .inl M.clo⟩ ⟨ne, .inl M.code⟩)
theorem cloFrom_no : ∀ (cl : List (Str × Addr)) (ns : List (Str × NameKind)) (acc : List (Str × Addr)), (ns.all fun y => !decide (y.2 = .free)) = true → cloFrom cl ns acc = acc
  | _, [], _, _ => rfl
  | cl, (y1, y2) :: ns, acc, h => by
    rw [List.all_cons, Bool.and_eq_true] at h
    have hy : y2 ≠ .free := by simpa using h.1
    unfold cloFrom
    cases y2 <;> first | exact cloFrom_no _ _ _ h.2 | exact absurd rfl hy
/-- a lambda with parameters that stands alone -/
theorem e_lamc {l : LamT} {cd P : Addr} (TB : LamX.TabB X.base X.mg cd P) (hcode : X.env.code = .ref cd) (hcl : c.xs.cl = X.env.cells) (hlq : c.xs.lq = X.env.qual ++ "<lambda>") (hm : (P, c.xs.lq) ∈ c.xs.tb) (hu : ∀ p ∈ c.xs.tb, p.1 = P → p.2 = c.xs.lq)
    (hdef : defaultsOf l.params X.env = ([], [])) (hno : clsd l.scope = true) : PE X (.Lambda l.params l.body l.scope pos) (tr c H0 Ex (.lit (.lamc l c.xs.lq))) := by
  refine ⟨fun pins s σ H Q I h => ?_⟩
  obtain ⟨Z, ρ, P', r, hev, hk⟩ := h
  rw [ev] at hev
  have nof : ∀ y ∈ l.scope.names, y.2 = .free → ∃ c, X.env.cells.lookup y.1 = some c := fun y hy e => by
    have := List.all_eq_true.mp hno y hy
    rw [e] at this
    simp at this
  refine lam_held I TB hcode hcl hlq hm hu r.wok.2 hdef nof fun f e H2 s2 J M => ⟨.ref f, H2, J, rfl, ?_⟩
  have wP : c.ws P := .inr ⟨_, hm⟩
  have k1 : ∀ b o, H b = some o → ¬ c.ws b → H2 b = some o := fun b o z n => M.old b o z fun q => n (q ▸ wP)
  have dr : ∀ x y z, c.dr = some (x, y, z) → DrawOk x y z H2 := fun x y z hd => by
    obtain ⟨r0, t, ls, cs, h1, h2, h3, h4⟩ := r.wok.1 x y z hd
    obtain ⟨ps, tp, _⟩ := r.wok.2 _ hm
    have ne : ∀ {b o}, H b = some o → (∀ ps, o ≠ .tbl ps) → b ≠ P := fun e n q => by rw [q, tp] at e; cases e; exact n _ rfl
    exact ⟨r0, t, ls, cs, M.old _ _ h1 (ne h1 fun _ z => nomatch z), M.old _ _ h2 (ne h2 fun _ z => nomatch z), M.old _ _ h3 (ne h3 fun _ z => nomatch z), h4⟩
  obtain ⟨r2, st2⟩ := after_call r k1 M.al ⟨dr, M.tabs⟩
  have nf : ¬ full Z σ ρ f := r.nfull M.new
  have ne : ¬ full Z σ ρ e := fun z => (full_ob r2 e z).2 _ M.code
  have eC : CloO c.xs l f e = CloO ⟨[], [], [], c.xs.lq⟩ l f e := by
    unfold CloO
    rw [cloFrom_no c.xs.cl _ _ hno, cloFrom_no [] _ _ hno]
  exact hk _ _ _ _ _ hev r2 st2 (.lamc ⟨nf, .inl (eC ▸ M.clo)⟩ ⟨ne, .inl M.code⟩)
/-- x(e), x the def that catches, e a lambda -/
theorem e_caught {x : Str} {Ca : Addr} {n : Nat} (O : XOk c X) (G : CauD X.K X.mg x Ca) (hr : Room (n + 2) X.A) (hg : Gl X x) (hdb : (x == ("__debug__" : Str)) = false) (hex : ∀ C Ci, isExc C = true → c.mg C = some (.ref Ci) → PySem.W.exmOne X.K (.ref Ci) (.ref Ca) = some true)
    (hcl : c.xs.cl = X.env.cells) (hlq : c.xs.lq = X.env.qual ++ "<lambda>") (lam : ∀ j l, c.xs.lm[j]? = some l → ∀ cb, bs.at j = some cb → LamX.LamS X.env.scope l.scope ∧
      (∀ (q : Str) (cl : List (Str × Addr)) (pm cv ctv : Value), bindArgs (PySem.W.kla_fn "<lambda>" q l.params l.body l.scope cl pm cv ctv) ⟨[], []⟩ = pure []) ∧
      ∀ (E : XK) (A : Around) (outer : List PySem.Env) (s : Shared) (H : Hp) (f e : Addr) (L : Addr), Room n (A.deeper (LamX.lamEnv X l.scope L f e)) → A.guards = X.A.guards → ∀ (H0 : Hp) (Ex : Xn → Prop), XS c H0 Ex E → PE (LamX.lamCx X A outer s H E l.scope f e) l.body (tr c H0 Ex cb))
    (pe : PE X a (tr c H0 Ex ca)) (hst : starEach [a] X.env = [(false, eval a X.env)]) : PE X (.Call (.Name x p) [a] [] pos) (tr c H0 Ex (.caught bs ca)) := by
  obtain ⟨g0, _, _, _, _, _, _, _, Fd0, _, _, _, _, _, _, _, _, _, _, _, _, _, hm0⟩ := G.ex
  refine ⟨fun pins s σ H Q I h => ?_⟩
  obtain ⟨Z, ρ, P', r, hev, hk⟩ := h
  rw [ev] at hev
  refine wpAny_Call_Name_kw (ld_glob I hg hm0 ?_ hdb)
  refine PySem.W.callWith_K (h₀ := X.base) I.ok.mod.kin Fd0.kp (thn ((pa_cons pe pa_nil hst).run pos pins s σ H (fun vs H1 => ∃ d kd ρ1, vs.length = 1 ∧ (∀ v, vs = [v] → RE c H0 Z σ H1 ρ1 ∧ Stp c.ws σ ρ H σ ρ1 H1 ∧ VR c H0 Z σ H H1 ρ1 v d kd) ∧ ∃ j, d = .clo j ∧ evj bs j (shut ρ1) (fun y => P' (excD y) .cln ρ1) (P' .non .cln ρ1)) I ?_) fun us s1 got => ?_) hst rfl
  · refine ⟨Z, ρ, _, r, hev, fun x k ρ1 vx H1 hp r1 s1 v1 => ?_⟩
    exact ⟨x, k, ρ1, rfl, fun v e => by cases e; exact ⟨r1, s1, v1⟩, hp⟩
  obtain ⟨vs, H1, I1, rv, d, kd, ρ1, lv, hv, j, rfl, hj⟩ := got
  obtain ⟨v, rfl⟩ : ∃ v, vs = [v] := by
    match vs, lv with
    | [v], _ => exact ⟨v, rfl⟩
  obtain ⟨r1, s1', v1⟩ := hv v rfl
  have w := v1.weak.rep r1 (fun _ e => nomatch e) fun _ e => nomatch e
  obtain ⟨cb, hcb, hevb⟩ := evj_at hj
  cases w with
  | @clo f e _ l hl rf re =>
    obtain ⟨u, rfl, ru⟩ := vals1 rv
    obtain rfl : u = Value.ref f := ru
    refine ⟨I1.kIn, ?_⟩
    obtain ⟨L, hb, hpe⟩ := lam j l hl cb hcb
    have tt : TTcau X.K Ca σ (fun E σ' H' Q' => ∃ (H0 : Hp) (Ex : Xn → Prop) (_ : XS c H0 Ex E), tr c H0 Ex cb σ' H' Q') H1 Q := by
      refine (⟨H1, fun y => P' (excD y) .cln ρ1, fun y cls od H' hy k1 k2 wk q => ?_, full Z σ ρ1, shut ρ1, fun _ _ _ => P' .non .cln ρ1, re_shut r1, hevb, fun d k ρ' v H' hp r' s' v' => ?_⟩ : ∃ (H0 : Hp) (Ex : Xn → Prop) (_ : XS c H0 Ex _), tr c H0 Ex cb σ H1 _)
      · obtain ⟨hi, hm1, ⟨Ci, rfl⟩, _⟩ := id q
        refine ⟨hex _ _ hi hm1, fun x na => ?_⟩
        obtain ⟨r3, s3, rep⟩ := caught_rep r1 k1 k2 wk q na
        exact hk _ _ _ _ _ hy r3 (s1'.trans s3) rep
      · obtain ⟨r3, s3⟩ := after_call r1 (fun b o e n => r'.ext b o e n) (fun b z => r'.al b z) r'.wok
        exact hk _ _ _ _ _ hp r3 (s1'.trans s3) .non
    obtain ⟨g, hm, hkp, run⟩ := cau_call (k := n) (Q := Q) (tl := fun E σ' H' Q' => ∃ (H0 : Hp) (Ex : Xn → Prop) (_ : XS c H0 Ex E), tr c H0 Ex cb σ' H' Q') G hr I1 L hcl hlq hb (Rz.get rfl rf) (Rz.get rfl re)
      (fun E A outer s H hr2 hg2 => PE.ex fun H0 => PE.ex fun Ex => ⟨fun pins s σ H Q I ⟨hx, q⟩ => (hpe E A outer _ _ f e _ hr2 hg2 H0 Ex hx).run pins s σ H Q I q⟩)
      (fun E σ' H' Q1 Q2 hq ⟨H0, Ex, hx, Z', ρ', P2, q1, q2, q3⟩ => ⟨H0, Ex, hx, Z', ρ', P2, q1, q2, fun d k ρ'' v H'' a b c d => hq _ _ (q3 _ _ _ _ _ a b c d)⟩) tt
    rw [hm0] at hm
    cases hm
    refine wpAny_call (codeAny_mono run fun way s2 got => ?_)
    match way, got with
    | .error _, got => exact (show False from got).elim
    | .ok .next, got => exact got.elim
    | .ok .brk, got => exact got.elim
    | .ok .cont, got => exact got.elim
    | .ok (.ret u), got => exact I1.after got
end
end Z
end T_EE
section T_EF
namespace Z
open PySem PySem.Spec PyProof.Rows L2
/-- the text of such an __init__ -/
abbrev supB (attr arg : Str) (txt : Str) (q1 q2 q3 q4 q5 q6 q7 q8 q9 q10 : Pos) (k0 : Nat) : List Stmt :=
  [.Expr (.Call (.Attribute (.Call (.Name "super" q1) [] [] q2) "__init__" q3) [.Constant (.str txt) k0 q4] [] q5) q6,
   .Assign [.Attribute (.Name "self" q7) attr q8] (.Name arg q9) q10]
/-- what the written part says of such a class -/
structure SupC (P : Program) (K : PySem.W.Frag) (mg : Str → Option Value) (C : Addr) (attr : Str) : Prop where
  cls : ∃ nm q N bs bm sn sub ab col dd k0 k1 k2 k3 k5, K.lookup C = some (excClassObj nm q C N bs bm true sn sub ab col dd k0 k1 k2 k3 k5 "ValueError.__new__") ∧ PySem.HandSPX.refsVE bm = true
  sa : PySem.W.findIn K (.ref C) "__setattr__" = some (some (.builtin "object.__setattr__"))
  noN : PySem.W.findIn K (.ref C) attr = some none
  kC : PySem.W.keepIn K (.ref C) = true
  exC : PySem.W.subIn K (.ref C) (.type "BaseException") = some true
  veC : PySem.W.subIn K (.ref C) (.type "ValueError") = some true
  tyC : PySem.W.typeIn K (.ref C) = some (.type "type")
  mro : PySem.W.mroIn K C (.ref C) = some true
  opq : PySem.W.nsIn K cStatics "thirdparty.any" = some none
  sup : PySem.W.ks_superIn K C C "__init__" = some (some (.builtin "ValueError.__init__"))
  ini : PySem.W.excInitIn K C PySem.HandSPX.veTail "ValueError.__new__" = true
  noS : mg "super" = none
  top : (P.main.scope.names.lookup ("super" : Str)).isSome = false
  fn : ∃ (fI cda cc : Addr) (oc : Value) (od : Option Addr) (qual : Str) (params : Arguments) (body : List Stmt) (scope : Scope) (dV kV doc pm : Value) (an : Option Addr) (ct : Value) (osl : Array (Option Value)) (arg txt : Str),
    PySem.W.findIn K (.ref C) "__init__" = some (some (.ref fI)) ∧ PySem.W.typeIn K (.ref fI) = some (.type "function") ∧
    K.lookup fI = some ⟨oc, od, .func (PySem.W.ksFn "__init__" qual params body scope dV kV doc pm an (.ref cda) ct cc), osl⟩ ∧ PySem.W.codeIn K (.ref cda) qual = true ∧
    (∃ (ccl : Value) (cdd : Option Addr) (vs : Array Value) (ccs : Array (Option Value)) (file : Str) (tf : Tok), K.lookup cda = some ⟨ccl, cdd, .fields vs, ccs⟩ ∧ vs[2]? = some (.str file tf) ∧ ((P.main.file : Str) == file) = true) ∧
    (∃ cl cld csl, K.lookup cc = some ⟨cl, cld, .cell (some (.ref C)), csl⟩) ∧
    (∀ (qn : Str) (doc pm : Value) (an : Option Addr) (x v : Value), bindArgs (PySem.W.ksFn "__init__" qn params body scope dV kV doc pm an (.ref cda) ct cc) ⟨[x, v], []⟩ = pure [(("self" : Str), x), (arg, v)] ∧ bindArgs (PySem.W.ksFn "__init__" qn params body scope dV kV doc pm an (.ref cda) ct cc) ⟨[x], [(attr, v)]⟩ = pure [(("self" : Str), x), (arg, v)]) ∧
    (∃ ar, (params.posonlyargs ++ params.args).head? = some ar ∧ ar.arg = "self") ∧ (∃ q1 q2 q3 q4 q5 q6 q7 q8 q9 q10 k0, body = supB attr arg txt q1 q2 q3 q4 q5 q6 q7 q8 q9 q10 k0 ∧ (q3.endLine == q5.line) = true) ∧
    scope.kind = .function ∧ scope.isCoroutine = false ∧ scope.isGenerator = false ∧ (∀ y ∈ scope.names, y.2 ≠ .cell) ∧ scope.names.lookup ("self" : Str) = some .local ∧ scope.names.lookup arg = some .local ∧
    scope.names.lookup ("super" : Str) = some .globalImplicit ∧ scope.names.lookup ("__class__" : Str) = some .free ∧ (arg == ("__debug__" : Str)) = false ∧ (arg == ("self" : Str)) = false
/-- what such an __init__ leaves of a fresh error at x -/
structure InitBy (h h' : Heap) (x C dx t1 : Addr) (attr : Str) (v : Value) : Prop where
  keep : ∀ b o, b ≠ x → h.get? b = some o → h'.get? b = some o
  obj : h'.get? x = some { cls := .ref C, dict := some dx, data := .fields #[.ref t1, .none, .none, .none, .bool false, .none] }
  big : h.objs.size ≤ dx
  ne : dx ≠ x
  ns : h'.Ns1 dx (fun y => if y = attr then some v else none)
section
variable {P : Program} {w : World} {A : Around} {R : Result → Shared → Prop} {s : Shared} {K : PySem.W.Frag} {mg : Str → Option Value} {base : Heap} {C : Addr} {attr : Str}
theorem sup_init (T : SupC P K mg C attr) (M : L2.Mod K mg base) {x t0 : Addr} {v : Value} {us : List Value} {kws : List (Str × Value)} (hA : (us = [.ref x, v] ∧ kws = []) ∨ (us = [.ref x] ∧ kws = [(attr, v)])) (kb : ∀ b o, base.get? b = some o → s.heap.get? b = some o) (bz : base.objs.size ≤ s.heap.objs.size) (hx : s.heap.get? x = some (PySem.HandSPX.excO C t0)) (hnb : base.get? x = none) (room : A.depth < recursionLimit)
    (done : ∀ h' tk dx t1, InitBy s.heap h' x C dx t1 attr v → R (.ok (.ret .none)) { s with heap := h', toks := tk }) :
    ∃ fI, PySem.W.findIn K (.ref C) "__init__" = some (some (.ref fI)) ∧ PySem.W.typeIn K (.ref fI) = some (.type "function") ∧ codeAny (model P w) A (.call (.ref fI) ⟨us, kws⟩) R s := by
  obtain ⟨fI, cda, cc, oc, od, qual, params, body, scope, dV, kV, doc, pm, an, ct, osl, arg, txt, hfI, tfI, lfI, hcd, ⟨ccl, cdd, vs, ccs, file, tf, lcd, hvs, hfile⟩, ⟨cl, cld, csl, lcc⟩, hbind, ⟨ar, hp, har⟩, ⟨q1, q2, q3, q4, q5, q6, q7, q8, q9, q10, k0, rfl, line⟩, sk, sco, sgen, scell, ls, la, lsup, lcls, da, nas⟩ := T.fn
  obtain ⟨nm, q, N, bs, bm, sn, sub, ab, col, dd, k0', k1, k2, k3, k5, hC, hbm⟩ := T.cls
  have hcl : PySem.W.clsIn K C = some { name := nm, bases := bs, mro := .ref C :: bm, ns := N, qualname := q, hasDict := true, slotNames := sn, subclasses := sub, abstract := ab, collection := col, hasDel := false } := by unfold PySem.W.clsIn; rw [hC] <;> rfl
  obtain ⟨kind, names, gen, cor, more⟩ := scope
  dsimp only at sk sco sgen scell ls la lsup lcls
  subst sk sco sgen
  have X0 : K.In base := M.kin
  obtain ⟨G, hG⟩ : ∃ G, G = PySem.W.hideAll s.heap [x] := ⟨_, rfl⟩
  have gx : G.get? x = none := by rw [hG]; exact PySem.W.hideAll_none _ List.mem_cons_self
  have gs : ∀ b o, G.get? b = some o → s.heap.get? b = some o := fun b o e => by rw [hG] at e; exact PySem.W.of_hideAll _ e
  have sg : ∀ b o, b ≠ x → s.heap.get? b = some o → G.get? b = some o := fun b o n e => by rw [hG]; exact PySem.W.hideAll_get _ e fun z => n (List.mem_singleton.mp z)
  have bg : ∀ b o, base.get? b = some o → G.get? b = some o := fun b o e => sg b o (fun z => by rw [z, hnb] at e; cases e) (kb b o e)
  have gz : G.objs.size ≤ s.heap.objs.size := by rw [hG]; exact Nat.le_of_eq (PySem.W.hideAll_size _ _)
  have XG : K.In G := fun b o e => bg b o (X0 b o e)
  have X : K.In s.heap := X0.keeps kb
  refine ⟨fI, hfI, tfI, ?_⟩
  refine PySem.ks_codeAny_call_defAt (fd := PySem.W.ksFn "__init__" qual params _ ⟨.function, names, false, false, more⟩ dV kV doc pm an (.ref cda) ct cc) (binds := [("self", .ref x), (arg, v)]) room (X _ _ lfI) rfl (M.nolimit.keeps kb) (PySem.W.codeRec_of X hcd) rfl (BindsTo.of_eq (by rcases hA with ⟨rfl, rfl⟩ | ⟨rfl, rfl⟩; exact (hbind _ _ _ _ _ _).1; exact (hbind _ _ _ _ _ _).2)) scell
    (fun y hy => ?_) (fun h₁ hns up => ?_)
  · simp only [List.mem_cons, List.not_mem_nil, or_false] at hy
    rcases hy with rfl | rfl
    · exact ls
    · exact la
  have k1' : ∀ b o, base.get? b = some o → h₁.get? b = some o := fun b o e => up b o (kb b o e)
  have X1 : K.In h₁ := X0.keeps k1'
  have gk1 : ∀ b o, G.get? b = some o → h₁.get? b = some o := fun b o e => up b o (gs b o e)
  have hx1 := up _ _ hx
  have nLx : x ≠ s.heap.objs.size := Nat.ne_of_lt (Heap.lt_size hx)
  have hself : (fun y => [(("self" : Str), (Value.ref x : Value)), (arg, v)].reverse.lookup y) "self" = some (.ref x) := by
    have : (("self" : Str) == arg) = false := by
      cases e : (("self" : Str) == arg) with
      | false => rfl
      | true => rw [eq_of_beq e] at nas; simp at nas
    simp [List.lookup, this]
  have hargv : (fun y => [(("self" : Str), (Value.ref x : Value)), (arg, v)].reverse.lookup y) arg = some v := by simp [List.lookup]
  obtain ⟨mb, hb1, hb2⟩ := M.blt
  have he : ∀ env : PySem.Env, eval (.Call (.Attribute (.Call (.Name "super" q1) [] [] q2) "__init__" q3) [.Constant (.str txt) k0 q4] [] q5) env = (do
      let ov ← attributeBase (.Call (.Name "super" q1) [] [] q2) "__init__" env (eval (.Call (.Name "super" q1) [] [] q2) env)
      standAt q3.atName
      let (f, first) ← holding [ov] (getMethod ov "__init__" (plainOf (.Call (.Name "super" q1) [] [] q2) env))
      callWith q5 f first (backTo q5 (starEach [.Constant (.str txt) k0 q4] env)) []) := fun env => by
    have := fun ov => L2.mcall_line (o := .Call (.Name "super" q1) [] [] q2) (m := "__init__") (apos := q3) (pos := q5) (env := env) (ov := ov) (n := 1) (args := backTo q5 (starEach [.Constant (.str txt) k0 q4] env)) (kws := []) rfl line
    show (do
      let ov ← attributeBase (.Call (.Name "super" q1) [] [] q2) "__init__" env (eval (.Call (.Name "super" q1) [] [] q2) env)
      standAt q3.atName
      methodCall (.Call (.Name "super" q1) [] [] q2) "__init__" q3 q5 env ov 1 (backTo q5 (starEach [.Constant (.str txt) k0 q4] env)) []) = _
    simp only [this]
  refine PySem.ks_wpAt_execs_cons (PySem.ks_wpAt_Expr_any (PySem.ks_wpAt_MethodCall (pl := _) (PySem.ks_wpAt_super_base (env := PySem.W.ksEnv qual _ s.heap.objs.size fI (.ref cda) cc) lsup lcls (by decide) rfl (X1 _ _ lfI) rfl hp rfl (X1 _ _ lcd) rfl hvs hfile T.top ?_) (he _)))
  refine PySem.W.ks_loadName_global rfl lsup (Calls.loadGlobal_builtin (env := PySem.W.ksEnv qual _ s.heap.objs.size fI (.ref cda) cc) (M.glob.keeps k1') T.noS (hb1.keeps k1') ((hb2 _ (by decide +kernel)).trans (show bootBuiltins "super" = some (.type "super") by decide +kernel)) ⟨rfl, ?_⟩)
  refine wpAny_loadName_free rfl lcls rfl ⟨_, X1 _ _ lcc, rfl⟩ ?_
  refine wpAny_loadName_local rfl (by rw [har]; exact ls) hns (v := .ref x) (by rw [har]; exact hself) ?_
  refine PySem.ks_wpAny_isType_cls (X1 _ _ hC) rfl ⟨rfl, ?_⟩
  refine PySem.ks_wpAny_call_super (X1 _ _ hC) rfl hx1 rfl (fun c e => nomatch e) (PySem.W.looks_mroIn X1 T.mro) (fun h2 e2 k2 => ?_)
  have nb : ∀ {a : Addr}, h₁.objs.size ≤ a → G.get? a = none := fun {a} z => by
    cases e : G.get? a with
    | none => rfl
    | some o => exact absurd (Nat.lt_of_lt_of_le (Heap.lt_size (gk1 _ _ e)) z) (Nat.lt_irrefl _)
  have F2 : Fr G s.heap.objs.size h2 (fun y => [(("self" : Str), (Value.ref x : Value)), (arg, v)].reverse.lookup y) := ⟨hns.keeps k2, fun b o e => k2 b o (gk1 b o e), gz⟩
  have N2 : News G s.heap.objs.size h2 [(h₁.objs.size, PySem.W.ks_superObj C x C), (x, PySem.HandSPX.excO C t0)] := fun p hp => by
    rcases List.mem_cons.mp hp with rfl | hp
    · exact ⟨e2, fun z => absurd hns.lt (by rw [← z]; exact Nat.lt_irrefl _), nb (Nat.le_refl _)⟩
    · obtain rfl := List.mem_singleton.mp hp
      exact ⟨k2 _ _ hx1, nLx, gx⟩
  refine PySem.W.kxs_method PySem.W.kxs_ValueError F2 XG N2 List.mem_cons_self (C := C) (ox := PySem.HandSPX.excO C t0) (odx := none) ⟨k2 _ _ hx1, rfl, rfl, trivial⟩ T.opq T.sup T.veC rfl (fun q h3 F3 N3 lt3 => ?_)
  have lx : x < h₁.objs.size := Heap.lt_size hx1
  have ne1 : h₁.objs.size ≠ x := Nat.ne_of_gt lx
  have ne2 : q ≠ x := Nat.ne_of_gt (lt3 (x, PySem.HandSPX.excO C t0) (.tail _ (.head _)))
  refine PySem.W.kxs_callWith1 N3 List.mem_cons_self ?_
  show wpAny _ _ (spliced ((false, eval (.Constant (.str txt) k0 q4) _) :: backTo q5 (starEach [] _))) _ _ _
  refine Calls.spliced_cons (Calls.Constant_str (Calls.spliced_nil ⟨PySem.W.kxs_at N3 List.mem_cons_self, ?_⟩))
  refine PySem.W.kxs_call (dv := none) (c2 := .none) F3 XG N3 F.excBase_ValueError T.ini List.mem_cons_self (.tail ne2 (.tail ne1 (.head fun _ h => nomatch h))) (by rw [sizeLine_eq]; exact (by decide : 1 ≤ 16777216)) (fun t' h4 F4 N4 lt4 => ?_)
  have hx4 : h4.get? x = some (PySem.HandSPX.excO C t') := (N4 (x, PySem.HandSPX.excO C t') (.tail _ (.tail _ (.tail _ (.head _))))).1
  have X4 : K.In h4 := XG.keeps F4.keep
  refine PySem.wpAt_of_wpAny (wpAny_execs_cons (plainObj_wpAny_Assign_Attribute ?_))
  refine wpAny_Name (wpAny_loadName_local rfl la F4.ns hargv ?_) da
  refine wpAny_Name (wpAny_loadName_local rfl ls F4.ns hself ?_) (by decide)
  refine PySem.W.set_plain X4 (ox := PySem.HandSPX.excO C t') (od := none) ⟨hx4, rfl, rfl, trivial⟩ T.sa ?_
  refine PySem.HandSPX.exc_osa X4 hx4 hcl (show PySem.HandSPX.refsVE (.ref C :: bm) = true from hbm) rfl T.noN (fun h5 tk5 dx k5 dn dne hx5 hn5 => ?_)
  show wpAny _ _ (execs [] _) _ _ _
  have z : s.heap.objs.size ≤ h4.objs.size := Nat.le_of_lt F4.ns.lt
  exact wpAny_execs_nil (done h5 tk5 dx t' ⟨fun b o hb e => k5 b o hb (F4.keep b o (sg b o hb e)), hx5, Nat.le_trans z dn, dne, hn5⟩)
theorem relO_one {f g : Str} {y : V} {u : Value} (r : RelV y u) : RelO (([(f, y)] : List (Str × V)).lookup g) (if g = f then some u else none) := by
  by_cases h : g = f
  · subst h
    rw [if_pos rfl]
    simp only [List.lookup_cons, beq_self_eq_true]
    exact r
  · rw [if_neg h]
    have : (g == f) = false := by simpa using h
    simp only [List.lookup_cons, this, List.lookup_nil]
    exact True.intro
/-- C(e), an error with an attribute -/
theorem pmk_sup {X : Cx} {x : Str} {e : Expr} {te : TE} {p pos : Pos} {k : Nat} (T : SupC X.prog X.K X.mg C attr) (hr : Room (k + 1) X.A) (hg : Gl X x) (hm : X.mg x = some (.ref C)) (hdb : (x == ("__debug__" : Str)) = false) (he : PE X e te) (hs : starEach [e] X.env = (false, eval e X.env) :: starEach [] X.env) :
    PMk X (.Call (.Name x p) [e] [] pos) (fun σ H Q => te σ H fun v H1 => ∀ dx, H1 dx = none → Q (.ref C) (some dx) (upd H1 dx (.xd [(attr, v)]))) := by
  intro pins s σ H Q I h
  obtain ⟨nm, q, N, bs, bm, sn, sub, ab, col, dd, k0, k1, k2, k3, k5, hC, hbm⟩ := T.cls
  refine wpAny_Call_Name_kw (ld_glob I hg hm ?_ hdb)
  refine PySem.W.callWith_K (h₀ := X.base) I.ok.mod.kin T.kC ?_ hs (by rfl)
  rw [hs]
  show wpAny _ _ (spliced ((false, eval e X.env) :: backTo pos (starEach [] X.env))) _ _ s
  refine Calls.spliced_cons (thn (he.run pins s σ H _ I h) fun u s1 ⟨v, H1, I1, ru, q1⟩ => ?_)
  refine Calls.spliced_nil ⟨I1.kIn, ?_⟩
  show wpAny _ _ (call (.ref C) [u]) _ _ _
  obtain ⟨hp, g, dr, tk, os⟩ := s1
  have up : ∀ b o, hp.get? b = some o → ((hp.push (PySem.W.kdv_tup [u])).push (PySem.HandSPX.excO C hp.objs.size)).get? b = some o := fun b o e => Heap.get?_push_of_some _ (Heap.get?_push_of_some _ e)
  have hget : ((hp.push (PySem.W.kdv_tup [u])).push (PySem.HandSPX.excO C hp.objs.size)).get? (hp.objs.size + 1) = some (PySem.HandSPX.excO C hp.objs.size) := by heap_get
  have noB : X.base.get? (hp.objs.size + 1) = none := by
    cases e : X.base.get? (hp.objs.size + 1) with
    | none => rfl
    | some o => exact absurd (Nat.lt_of_succ_lt (Heap.lt_size (I1.bk _ _ e))) (Nat.lt_irrefl _)
  have hz : X.base.objs.size ≤ ((hp.push (PySem.W.kdv_tup [u])).push (PySem.HandSPX.excO C hp.objs.size)).objs.size := by
    rw [Heap.size_push, Heap.size_push]
    have := Nat.le_trans I1.ok.bsz I1.sz
    have : X.base.objs.size ≤ hp.objs.size := this
    omega
  obtain ⟨fI, hfI, tfI, _⟩ := sup_init (P := X.prog) (w := X.w) (A := X.A) (R := fun _ _ => True) (s := ⟨(hp.push (PySem.W.kdv_tup [u])).push (PySem.HandSPX.excO C hp.objs.size), g, dr, tk, os⟩) T I1.mod (v := u) (.inl ⟨rfl, rfl⟩) (fun b o e => up b o (I1.bk b o e)) hz hget noB hr.depth fun _ _ _ _ _ => True.intro
  refine wpAny_call (PySem.HandSPX.call_own F.excBase_ValueError (fun Y => PySem.HandSPX.refsVE_contains Y bm hbm) (I1.kIn _ _ hC) (PySem.W.looks_findIn I1.kIn hfI) (fun self => PySem.W.bind_fn I1.kIn self tfI) (by rw [sizeLine_eq]; exact (by decide : 1 ≤ 16777216)) ?_)
  obtain ⟨fI2, hfI2, _, run⟩ := sup_init (P := X.prog) (w := X.w) (A := X.A.under (.builtin "type.__call__" ⟨.ref C :: [u], []⟩)) (R := fun r s' => (r = .ok (.ret .none)) ∧ ∃ h' tk' dx t1, s' = ⟨h', g, dr, tk', os⟩ ∧ InitBy ((hp.push (PySem.W.kdv_tup [u])).push (PySem.HandSPX.excO C hp.objs.size)) h' (hp.objs.size + 1) C dx t1 attr u) (s := ⟨(hp.push (PySem.W.kdv_tup [u])).push (PySem.HandSPX.excO C hp.objs.size), g, dr, tk, os⟩) T I1.mod (v := u) (.inl ⟨rfl, rfl⟩)
    (fun b o e => up b o (I1.bk b o e)) hz hget noB (hr.make C [u] []).depth fun h' tk' dx t1 ib => ⟨rfl, h', tk', dx, t1, rfl, ib⟩
  rw [hfI] at hfI2
  cases hfI2
  refine codeAny_mono run fun r s' got => ?_
  obtain ⟨rfl, h', tk', dx, t1, rfl, ib⟩ := got
  have hdx : dx ≠ hp.objs.size + 1 := ib.ne
  have hbig : hp.objs.size ≤ dx := by
    have q1 := ib.big
    rw [Heap.size_push, Heap.size_push] at q1
    have q2 : hp.objs.size + 1 + 1 ≤ dx := q1
    exact Nat.le_trans (Nat.le_add_right hp.objs.size 2) q2
  have gk : ∀ b, b ≠ hp.objs.size + 1 → ∀ o, h'.get? b = some o → (PySem.W.hideAll h' [hp.objs.size + 1]).get? b = some o := fun b hb o e => PySem.W.hideAll_get _ e (by simpa using hb)
  have kk : ∀ b o, hp.get? b = some o → (PySem.W.hideAll h' [hp.objs.size + 1]).get? b = some o := fun b o e => by
    have hb : b ≠ hp.objs.size + 1 := Nat.ne_of_lt (Nat.lt_of_lt_of_le (Heap.lt_size e) (Nat.le_succ _))
    exact gk b hb o (ib.keep b o hb (up b o e))
  have ns : (PySem.W.hideAll h' [hp.objs.size + 1]).Ns1 dx (fun y => if y = attr then some u else none) := by
    obtain ⟨o, es, ep, e1, e2⟩ := ib.ns
    exact ⟨o, es, ep, gk dx hdx o e1, e2⟩
  have I2 := I1.laid (t' := tk') (a := dx) (o := .xd [(attr, v)]) (h' := PySem.W.hideAll h' [hp.objs.size + 1]) kk hbig ⟨_, ns, fun f => relO_one ru⟩
  have na : upd H1 dx (.xd [(attr, v)]) (hp.objs.size + 1) = none := by
    rw [upd_ne (Ne.symm hdx)]
    exact I1.hok.fresh (Nat.le_succ _)
  refine ⟨rfl, hp.objs.size + 1, _, _, ⟨PySem.W.hideAll h' [hp.objs.size + 1], g, dr, tk', os⟩, _, .ref C, some dx, rfl, I2, fun b o e => PySem.W.of_hideAll _ e, PySem.W.hideAll_none _ (by simp), ib.obj, ⟨rfl, rfl⟩, rfl, rfl, na, rfl, I1.bare, raises_own T.exC T.tyC, q1 dx (I1.hok.fresh hbig)⟩
end
end Z
end T_EF
section T_EG
namespace Z
open PySem PySem.Spec PyProof.Rows L2
/-- what a class that is raised is known by -/
structure RaiC (P : Program) (K : PySem.W.Frag) (mg : Str → Option Value) (C : Str) : Prop where
  ex : ∃ Ca, mg C = some (.ref Ca) ∧ isExc C = true ∧ (C == ("__debug__" : Str)) = false ∧
    (hasAt C = false → PySem.W.excIn K Ca [.type "ValueError", .type "Exception", .type "BaseException", .type "object"] "ValueError.__new__" = true ∧ PySem.W.keepIn K (.ref Ca) = true ∧
      PySem.W.subIn K (.ref Ca) (.type "BaseException") = some true ∧ PySem.W.typeIn K (.ref Ca) = some (.type "type")) ∧
    (hasAt C = true → SupC P K mg Ca (attrOf C))
section
variable {c : Cn} {H0 Hs H H1 H2 H' : Hp} {Z : Addr → Prop} {σ σ1 σ2 σ' : L2.St} {ρ ρ1 ρ2 ρ' : Env} {v : V} {d : D} {k : Kd} {Ex : Xn → Prop} {EE : XK}
variable {X : Cx} {a b e : Expr} {es : List Expr} {pos p p2 : Pos} {ca cb cc ce : CE} {cs : CL}
theorem s_raise {C : Str} {n : Nat} (O : XOk c X) (tk : Takes X fun cls d _ H' => EE cls d H') (hX : XS c H0 Ex EE) (hg : Gl X C) (G : RaiC X.prog c.K c.mg C) (hr : Room (n + 1) X.A) (he : PE X e (tr c H0 Ex ce)) (hs : starEach [e] X.env = (false, eval e X.env) :: starEach [] X.env) :
    PS X (.Raise (some (.Call (.Name C p) [e] [] pos)) none p2) (trS c H0 Ex (.raise_ C (.one ce))) := by
  obtain ⟨Ca, hm, ix, hdb, g1, g2⟩ := G.ex
  have hm' : X.mg C = some (.ref Ca) := by rw [O.mg]; exact hm
  cases q : hasAt C with
  | false =>
    obtain ⟨q1, q2, q3, q4⟩ := g1 q
    refine PS.imp (ps_raise O.calm tk (SkE.pmk_own1 F.excBase_ValueError (by rw [O.K]; exact q1) hm' (by rw [O.K]; exact q2) (raises_own (by rw [O.K]; exact q3) (by rw [O.K]; exact q4)) hg he hs hdb)) fun D σ H h => ?_
    obtain ⟨Z, ρ, K, r, hev, hk⟩ := h
    simp only [evS] at hev
    refine ⟨Z, ρ, _, r, hev, fun x k ρ1 vx H1 hp r1 s1 v1 => ?_⟩
    obtain ⟨hsc, hx⟩ := hp
    rw [q] at hx
    exact hX (C, none) (.ref Ca) none H1 hx r1.ext r1.al r1.wok ⟨ix, hm, ⟨_, rfl⟩, rfl⟩
  | true =>
    have T := g2 q
    have T' : SupC X.prog X.K X.mg Ca (attrOf C) := by rw [O.K, O.mg]; exact T
    refine PS.imp (ps_raise O.calm tk (pmk_sup T' hr hg hm' hdb he hs)) fun D σ H h => ?_
    obtain ⟨Z, ρ, K, r, hev, hk⟩ := h
    simp only [evS] at hev
    refine ⟨Z, ρ, _, r, hev, fun x k ρ1 vx H1 hp r1 s1 v1 dx hdx => ?_⟩
    obtain ⟨hsc, hx⟩ := hp
    rw [q] at hx
    have ne : ∀ b o, H1 b = some o → b ≠ dx := fun b o e z => by rw [z, hdx] at e; cases e
    refine hX (C, some x) (.ref Ca) (some dx) _ hx (fun b o e w => ?_) (fun b e => ?_) ?_ ⟨ix, hm, ⟨_, rfl⟩, dx, vx, rfl, ?_, upd_same, ?_, hsc⟩
    · have := r1.ext b o e w
      rw [upd_ne (ne b o this)]
      exact this
    · obtain ⟨o, eo⟩ := Option.ne_none_iff_exists'.mp (r1.al b e)
      rw [upd_ne (ne b o eo), eo]
      simp
    · refine c.wdep H1 _ (fun b w => ?_) (exk_new hdx) r1.wok
      obtain ⟨o, eo⟩ := Option.ne_none_iff_exists'.mp (c.wal H1 b r1.wok w)
      rw [upd_ne (ne b o eo)]
    · exact Classical.byContradiction fun z => r1.al dx z hdx
    · exact (v1.weak.scal r1 hsc).scal hsc
end
end Z
end T_EG
section T_EH
namespace Z
open PySem L2
def permV (pm : List Nat) (vs : List V) : Option (List V) := pm.mapM fun i => vs[i]?
/-- what may be called by the name x and these keywords -/
structure FTK (X : Cx) (EE : XK) (x : Str) (ks : List Str) (pm : List Nat) (n : Nat) (F : Fn) : Prop where
  call : ∀ {kws : List Keyword} {tk : TA} {p pos : Pos}, Gl X x → (x == ("__debug__" : Str)) = false → PK X kws tk → (backToKw pos (keywordEach kws X.env)).all (·.1.isSome) = true → (backToKw pos (keywordEach kws X.env)).filterMap (·.1) = ks →
    ((backTo pos (starEach [] X.env)).any (·.1) || (backToKw pos (keywordEach kws X.env)).any (·.1.isNone)) = false →
    PE X (.Call (.Name x p) [] kws pos) (fun σ H Q => tk σ H fun zs H2 => zs.length = ks.length ∧ ∃ vs, permV pm zs = some vs ∧ spF X.K X.mg n F vs H2 Q EE)
def CalW (CX : CXT) (P : Program) (w : World) (K : PySem.W.Frag) (mg : Str → Option Value) (base : Heap) (A : Around) (x : Str) (ks : List Str) (pm : List Nat) (n : Nat) (F : Fn) : Prop :=
  ∀ (X : Cx) (EE : XK), X.prog = P → X.w = w → X.K = K → X.mg = mg → X.base = base → X.A = A → Passes CX X EE → FTK X EE x ks pm n F
section
variable {c : Cn} {H0 Hs H H1 H2 H' : Hp} {Z : Addr → Prop} {σ σ1 σ2 σ' : L2.St} {ρ ρ1 ρ2 ρ' : Env} {v : V} {d : D} {k : Kd} {Ex : Xn → Prop} {EE : XK}
variable {X : Cx} {a b e : Expr} {es : List Expr} {pos p kp : Pos} {ca cb cc : CE} {cs : CL}
theorem k_nil : PK X [] (trL c H0 Ex .nil) := by
  refine ⟨fun pos pins s σ H Q I h => ?_⟩
  obtain ⟨Z, ρ, P, r, hev, hk⟩ := h
  rw [evs] at hev
  exact pk_nil.run pos pins s σ H Q I (hk _ _ _ _ hev r .refl .nil rfl)
theorem k_cons {nm : Option Str} {kws : List Keyword} (ha : PE X e (tr c H0 Ex ca)) (hr : PK X kws (trL c H0 Ex cs)) : PK X (⟨nm, e, kp⟩ :: kws) (trL c H0 Ex (.cons ca cs)) := by
  refine ⟨fun pos pins s σ H Q I h => (pk_cons ha hr).run pos pins s σ H Q I ?_⟩
  obtain ⟨Z, ρ, P, r, hev, hk⟩ := h
  rw [evs] at hev
  refine ⟨Z, ρ, _, r, hev, fun x k ρ1 v H1 hp r1 s1 v1 => ?_⟩
  obtain ⟨ρ2, hp2, r2, s2, q2⟩ := clr_ok r1 v1 hp
  refine ⟨Z, ρ2, _, r2, hp2, fun ds ρ3 vs H3 hp3 r3 s3 l3 hl => ?_⟩
  exact hk _ _ _ _ hp3 r3 ((s1.trans s2).trans s3) (.cons (q2.to (s3.R r2.wz)) l3) (by simp [CL.len, hl])
theorem permV_rep {R : Addr → HO → Prop} {zs : List V} {ds : List D} (r : RepL c R zs ds) : ∀ {pm : List Nat} {ds' : List D}, permD pm ds = some ds' → ∃ vs, permV pm zs = some vs ∧ RepL c R vs ds' ∧ vs.length = pm.length := by
  intro pm
  unfold permD permV
  induction pm with
  | nil => intro ds' h; simp at h; subst h; exact ⟨[], rfl, .nil, rfl⟩
  | cons i pm ih =>
    intro ds' h
    rw [List.mapM_cons] at h ⊢
    cases hd : ds[i]? with
    | none => rw [hd] at h; cases h
    | some d =>
      rw [hd] at h
      cases hm : List.mapM (fun i => ds[i]?) pm with
      | none => rw [hm] at h; cases h
      | some dr =>
        rw [hm] at h
        cases h
        obtain ⟨v, h1, q1⟩ := r.getD hd
        obtain ⟨vs, h2, q2, h3⟩ := ih hm
        rw [h1, h2]
        exact ⟨v :: vs, rfl, .cons q1 q2, by simp [h3]⟩
theorem e_callk (O : XOk c X) (hX : XS c H0 Ex EE) {x : Str} {ks : List Str} {pm : List Nat} {F : Fn} {n : Nat} {kws : List Keyword} (T : FTK X EE x ks pm n F) (hn : pm.length = n) (hl : cs.len = ks.length) (hg : Gl X x) (hdb : (x == ("__debug__" : Str)) = false)
    (ha : PK X kws (trL c H0 Ex cs)) (h1 : (backToKw pos (keywordEach kws X.env)).all (·.1.isSome) = true) (h2 : (backToKw pos (keywordEach kws X.env)).filterMap (·.1) = ks)
    (h3 : ((backTo pos (starEach [] X.env)).any (·.1) || (backToKw pos (keywordEach kws X.env)).any (·.1.isNone)) = false) :
    PE X (.Call (.Name x p) [] kws pos) (tr c H0 Ex (.callk F pm cs)) := by
  refine PE.imp (T.call hg hdb ha h1 h2 h3) fun σ H Q h => ?_
  obtain ⟨Z, ρ, P, r, hev, hk⟩ := h
  rw [ev] at hev
  refine ⟨Z, ρ, _, r, hev, fun ds ρ1 vs H1 hp r1 s1 l1 hl' => ?_⟩
  obtain ⟨ds', hpm, hp⟩ := hp
  obtain ⟨vs', e1, e2, e3⟩ := permV_rep l1 hpm
  refine ⟨hl'.trans hl, vs', e1, ?_⟩
  refine ⟨c, full Z σ ρ1, ds', _, Ex, O.K.symm, O.mg.symm, e3.trans hn, r1.wok, fun a w => .inl (r1.wz a w), full_ob r1, e2, hp, fun d v H' hP k1 k2 wk q => ?_, fun x cls od H' hx k1 k2 wk q => ?_⟩
  · obtain ⟨r2, s2⟩ := after_call r1 k1 k2 wk
    unfold Ret at q
    by_cases hf : F.fr = true
    · rw [if_pos hf] at hP q
      obtain ⟨a, rfl, ha, t⟩ := q
      exact hk _ _ _ _ _ hP r2 (s1.trans s2) (ret_new r1 k1 k2 wk s1.al ha (t.to (Rz.mono fun b z => z.elim (fun z => z.elim (fun z => .inl (.inl z)) .inr) fun z => .inl (.inr z)) rfl))
    · rw [if_neg hf] at hP q
      exact hk _ _ _ _ _ hP r2 (s1.trans s2) q
  · exact hX x cls od H' hx (fun b o e n => k1 b o (r1.ext b o e n) n) (fun b h => k2 b (r1.al b h)) wk (q.back r1.al)
end
end Z
end T_EH
section T_ZI
namespace Z
open PySem L2
def blts : List Str := ["len", "tuple", "list", "dict", "sorted", "min", "max", "sum", "all", "any", "abs", "int", "bool", "isinstance", "range", "enumerate", "zip"]
/-- what a frame with lambdas asks for -/
structure LamOk (lv : Nat) (Γ : Ct) (CX : CXT) (c : Cn) (X : Cx) : Prop where
  cx : CX = L2.CX X.prog X.w
  room : Room (lv + 2) X.A
  lm : c.xs.lm = Γ.xt.lams
  cl : c.xs.cl = X.env.cells
  lq : c.xs.lq = X.env.qual ++ "<lambda>"
  tab : ∃ cd P, LamX.TabB X.base X.mg cd P ∧ X.env.code = .ref cd ∧ (P, c.xs.lq) ∈ c.xs.tb ∧ ∀ p ∈ c.xs.tb, p.1 = P → p.2 = c.xs.lq
  cau : ∃ Ca, CauD X.K X.mg Γ.xt.cau Ca ∧ ∀ C Ci, isExc C = true → c.mg C = some (.ref Ci) → PySem.W.exmOne X.K (.ref Ci) (.ref Ca) = some true
  ok : ∀ l ∈ Γ.xt.lams, noPar l.params = true ∧ LamX.LamS X.env.scope l.scope
  fns : ∀ x m F, Γ.fns.lookup x = some (m, F) → ∀ A, Room lv A → A.guards = X.A.guards → CalC c CX X.prog X.w X.K X.mg X.base A x m F
  kfns : ∀ x xs pm n F, kLook Γ.xt.kfns x xs = some (pm, n, F) → ∀ A, Room lv A → A.guards = X.A.guards → CalW CX X.prog X.w X.K X.mg X.base A x xs pm n F
  fvs : ∀ x m F, Γ.xt.fvs.lookup x = some (m, F) → ∀ A, Room lv A → A.guards = X.A.guards → CalV c CX X.prog X.w X.K X.mg X.base A x m F
  lls : ∀ l q m F, (l, q, m, F) ∈ Γ.xt.lls → ∀ A, Room lv A → A.guards = X.A.guards → CalL c CX X.prog X.w X.K X.mg X.base A l q m F
  mkq : Γ.xt.mks = [] ∨ c.xs.lq = Γ.xt.mkq
structure Sat (lv : Nat) (Γ : Ct) (CX : CXT) (c : Cn) (X : Cx) (EE : XK) : Prop where
  O : XOk c X
  N : X.N = Γ.N
  sc : X.env.scope = Γ.sc
  bind : ∀ x, Γ.osc.names.lookup x = some .local ∨ Γ.osc.names.lookup x = some .cell → Loc X.env.scope x ∧ (X.fn x = true ∨ X.env.scope.names.lookup x = some .local)
  kindf : X.env.scope.kind = .function
  fns : ∀ x m F, Γ.fns.lookup x = some (m, F) → CalC c CX X.prog X.w X.K X.mg X.base X.A x m F
  kfns : ∀ x xs pm n F, kLook Γ.xt.kfns x xs = some (pm, n, F) → pm.length = n ∧ CalW CX X.prog X.w X.K X.mg X.base X.A x xs pm n F
  fvs : ∀ x m F, Γ.xt.fvs.lookup x = some (m, F) → CalV c CX X.prog X.w X.K X.mg X.base X.A x m F
  lls : ∀ l q m F, (l, q, m, F) ∈ Γ.xt.lls → CalL c CX X.prog X.w X.K X.mg X.base X.A l q m F
  pass : Passes CX X EE
  nc : ∀ l H s e s', ¬ CX l H s (fun _ _ _ => False) e s'
  blt : ∀ x ∈ blts, X.mg x = none
  cons : ∀ x d, Γ.cons.lookup x = some d → ∃ u v, X.mg x = some u ∧ RelV v u ∧ ∀ R, Rep c R v d
  flds : ∀ f Cs, Γ.flds.lookup f = some Cs → ∀ C ∈ Cs, FldC X.K c.mg f C
  isa : ∀ C ∈ Γ.xt.clss, IsaC c.K c.mg C ∧ (C == ("__debug__" : Str)) = false
  rai : Γ.xt.excs = [] ∨ (Room 1 X.A ∧ Takes X (fun cls d _ H' => EE cls d H') ∧ ∀ C ∈ Γ.xt.excs, RaiC X.prog c.K c.mg C)
  lam : (Γ.xt.lams = [] ∧ Γ.xt.mks = []) ∨ LamOk lv Γ CX c X
  neq : Γ.xt.eqs = false ∨ ∃ r, OpR X (compareOp .NotEq) r ∧ ∀ H0, R2ok c H0 (op2 .neI) r
  eqq : Γ.xt.eqq = false ∨ ∃ r, OpR X (compareOp .Eq) r ∧ ∀ H0, R2ok c H0 (op2 .eqI) r
def E0 : XK := fun _ _ _ => False
theorem strIx_get : ∀ {N : List Str} {x : Str} {i : Nat}, strIx N x = some i → N[i]? = some x
  | y :: ys, x, i, h => by
    unfold strIx at h
    by_cases e : y = x
    · simp only [e, decide_true, if_true] at h; cases h; simp [e]
    · simp only [e, decide_false, Bool.false_eq_true, if_false] at h
      obtain ⟨j, hj, rfl⟩ := Option.map_eq_some_iff.mp h
      simpa using strIx_get hj
  | [], _, _, h => by cases h
section
variable {lv : Nat} {Γ : Ct} {CX : CXT} {c : Cn} {X : Cx} {EE : XK} {Ex : Xn → Prop} {H0 : Hp}
variable {a b e : Expr} {es : List Expr} {pos p : Pos} {ca cb cc ce : CE} {cs : CL}
theorem Sat.un (S : Sat lv Γ CX c X EE) : X.A.units + 100 < cLine := S.O.un
theorem gl_ok (S : Sat lv Γ CX c X EE) {x : Str} (h : Γ.gl x = true) : Gl X x ∧ (x == ("__debug__" : Str)) = false := by
  unfold Ct.gl at h
  rw [Bool.and_eq_true, decide_eq_true_eq, Bool.not_eq_true'] at h
  refine ⟨?_, h.2⟩
  show X.env.scope.names.lookup x = _
  rw [S.sc]; exact h.1
theorem var_ok (S : Sat lv Γ CX c X EE) {x : Str} {i : Nat} (h : Γ.var x = some i) : X.N[i]? = some x ∧ Vis X.env.scope x ∧ (x == ("__debug__" : Str)) = false ∧ (x == ("__classdict__" : Str)) = false := by
  unfold Ct.var at h
  split at h
  · rename_i hc
    simp only [Bool.and_eq_true, Bool.or_eq_true, decide_eq_true_eq, Bool.not_eq_true'] at hc
    obtain ⟨⟨h1, h2⟩, h3⟩ := hc
    refine ⟨by rw [S.N]; exact strIx_get h, ?_, h2, h3⟩
    show _ ∨ _ ∨ _
    rw [S.sc]
    rcases h1 with (h1 | h1) | h1
    · exact .inl h1
    · exact .inr (.inl h1)
    · exact .inr (.inr h1)
  · cases h
theorem slot_ok (S : Sat lv Γ CX c X EE) {x : Str} {i : Nat} (h : Γ.slot x = some i) : X.N[i]? = some x ∧ Loc X.env.scope x ∧ (X.fn x = true ∨ X.env.scope.names.lookup x = some .local) := by
  unfold Ct.slot at h
  split at h
  · rename_i hc
    simp only [Bool.or_eq_true, decide_eq_true_eq] at hc
    exact ⟨by rw [S.N]; exact strIx_get h, S.bind x hc⟩
  · cases h
theorem star_cons {env : PySem.Env} (h : isStar a = false) : starEach (a :: es) env = (false, eval a env) :: starEach es env := by
  cases a <;> first | rfl | cases h
theorem star_none {env : PySem.Env} : ∀ {es : List Expr}, (∀ e ∈ es, isStar e = false) → (backTo pos (starEach es env)).any (·.1) = false
  | [], _ => rfl
  | e :: es, h => by
    rw [star_cons (h e List.mem_cons_self)]
    have := star_none (env := env) (es := es) fun e he => h e (List.mem_cons_of_mem _ he)
    unfold backTo at this ⊢
    simpa using this
theorem cE_star {n : Nat} (h : cE n Γ e = some ce) : isStar e = false := by
  cases n with
  | zero => cases h
  | succ n => cases e <;> first | rfl | cases h
theorem cEs_star {f : Expr → Option CE} (hf : ∀ e ce, f e = some ce → isStar e = false) : ∀ {es : List Expr} {cs : CL}, cEs f es = some cs → ∀ e ∈ es, isStar e = false
  | [], _, _, e, he => nomatch he
  | a :: es, cs, h, e, he => by
    unfold cEs at h
    split at h
    · rename_i ca cb h1 h2
      rcases List.mem_cons.mp he with z | z
      · subst z; exact hf _ _ h1
      · exact cEs_star hf h2 e z
    · cases h
theorem cEs_len {f : Expr → Option CE} : ∀ {es : List Expr} {cs : CL}, cEs f es = some cs → cs.len = es.length
  | [], _, h => by cases h; rfl
  | a :: es, cs, h => by
    unfold cEs at h
    split at h
    · rename_i ca cb h1 h2
      cases h
      show cb.len + 1 = _
      rw [cEs_len h2]; rfl
    · cases h
theorem base_ok {o : Expr} {m : Str} {env : PySem.Env} (h : noCall0 o = true) : attributeBase o m env (eval o env) = eval o env := by
  unfold attributeBase
  split
  · rename_i h'
    cases h
  · rfl
theorem plainIx {n : Nat} (h : cE n Γ b = some cb) : PlainIx b := by
  cases n with
  | zero => cases h
  | succ n =>
    intro o i
    cases b <;> first | rfl | cases h
theorem set_ok {env : PySem.Env} (h : isSet e = false) : ∀ x, foldedSetIterable e env x = pure x := by
  intro x
  cases e <;> first | rfl | cases h
theorem swaps_no {env : PySem.Env} {t : Option Expr} {l : Nat} (h : isComp e = false) : swapsWith e t l env = pure false := by
  cases e <;> first | rfl | cases h
theorem opB_ok (O : XOk c X) {op : Operator} {o : O2} (h : opB op = some o) : ∃ r, OpR X (binaryOp op) r ∧ R2ok c H0 (op2 o) r := by
  have hK := O.K
  cases op <;> cases h
  · exact ⟨_, op_addA, by rw [hK]; exact ok_add⟩
  · exact ⟨_, op_sub, ok_sub⟩
  · exact ⟨_, op_mulA, ok_mul⟩
  · exact ⟨_, op_mod, ok_mod⟩
  · exact ⟨_, op_pow, ok_pow⟩
  · exact ⟨_, op_fdiv, ok_fdiv⟩
theorem opM_ok (O : XOk c X) {e : Expr} {op : Operator} {o : O2} (h : opM e op = some o) : ∃ r, OpR X (binaryOp op) r ∧ R2ok c H0 (op2 o) r := by
  unfold opM at h
  split at h
  · cases h
    have hK := O.K
    exact ⟨_, op_repA, by rw [hK]; exact ok_rep⟩
  · exact opB_ok O h
theorem opC_ok (O : XOk c X) {op : CmpOp} {o : O2} (h : opC op = some o) : ∃ r, OpR X (compareOp op) r ∧ R2ok c H0 (op2 o) r := by
  have hK := O.K
  have hu := O.un
  cases op <;> cases h
  · exact ⟨_, op_eqA (by omega), by rw [hK]; exact ok_eq⟩
  · exact ⟨_, op_neA (by omega), by rw [hK]; exact ok_ne⟩
  · exact ⟨_, op_lt, ok_lt⟩
  · exact ⟨_, op_le, ok_le⟩
  · exact ⟨_, op_gt, ok_gt⟩
  · exact ⟨_, op_ge, ok_ge⟩
  · exact ⟨_, op_isA, ok_is⟩
  · exact ⟨_, op_isnotA, ok_isnot⟩
  · exact ⟨_, op_inA (by omega), by rw [hK]; exact ok_in⟩
  · exact ⟨_, op_notinA (by omega), by rw [hK]; exact ok_notin⟩
theorem OpR.or {f : Value → Value → Sem Value} {r r' : R2} (h : OpR X f r) (k : OpR X f r') : OpR X f (fun x y H Q => r x y H Q ∨ r' x y H Q) := fun pins s σ H x y v u Q I a b q => q.elim (h pins s σ H x y v u Q I a b) (k pins s σ H x y v u Q I a b)
theorem opG_ok (S : Sat lv Γ CX c X EE) {op : CmpOp} {o : O2} (h : Γ.opC op = some o) : ∃ r, OpR X (compareOp op) r ∧ R2ok c H0 (op2 o) r := by
  unfold Ct.opC at h
  split at h
  · obtain ⟨r, a1, a2⟩ := opC_ok (H0 := H0) S.O (op := .NotEq) (o := .ne) rfl
    split at h
    · rename_i he
      cases h
      rcases S.neq with q | ⟨r', b1, b2⟩
      · rw [q] at he; cases he
      · refine ⟨_, OpR.or a1 b1, fun Z σ ρ Hs H x y vx vy d k Q r hs hx hy e q => ?_⟩
        cases z : insCmp x y with
        | none => exact .inl (a2 Z σ ρ Hs H x y vx vy d k Q r hs hx hy (by rw [← neX_ne z]; exact e) q)
        | some b => exact .inr (b2 H0 Z σ ρ Hs H x y vx vy d k Q r hs hx hy (by rw [← neX_I z]; exact e) q)
    · cases h
      exact ⟨r, a1, a2⟩
  · obtain ⟨r, a1, a2⟩ := opC_ok (H0 := H0) S.O (op := .Eq) (o := .eq) rfl
    split at h
    · rename_i he
      cases h
      rcases S.eqq with q | ⟨r', b1, b2⟩
      · rw [q] at he; cases he
      · refine ⟨_, OpR.or a1 b1, fun Z σ ρ Hs H x y vx vy d k Q r hs hx hy e q => ?_⟩
        cases z : insEq x y with
        | none => exact .inl (a2 Z σ ρ Hs H x y vx vy d k Q r hs hx hy (by rw [← eqX_eq z]; exact e) q)
        | some b => exact .inr (b2 H0 Z σ ρ Hs H x y vx vy d k Q r hs hx hy (by rw [← eqX_I z]; exact e) q)
    · cases h
      exact ⟨r, a1, a2⟩
  · exact opC_ok S.O h
theorem bt_range : bootBuiltins "range" = some (.type "range") := by decide +kernel
theorem bt_len : bootBuiltins "len" = some (.builtin "len") := by decide +kernel
theorem prB_ok (S : Sat lv Γ CX c X EE) {x : Str} {q : Pr} (h : prB x = some q) : ∃ rr, PrOk c H0 q rr ∧ X.mg x = none ∧ x ≠ "__name__" ∧ ((∃ id, CallR X (.builtin id) rr ∧ bootBuiltins x = some (.builtin id)) ∨ (∃ T, CallR X (.type T) rr ∧ bootBuiltins x = some (.type T))) := by
  have hK := S.O.K
  have hc := S.O.calm
  have bl : ∀ y : Str, y ∈ blts → X.mg y = none := S.blt
  have hm : (x, q) ∈ prT := PySem.mem_of_lookup h
  unfold prT at hm
  rcases List.mem_cons.mp hm with e | hm
  · cases e
    exact ⟨_, pr_len, bl _ (by decide +kernel), by decide +kernel, .inl ⟨_, by rw [← hK]; exact call_lenA, bt_len⟩⟩
  rcases List.mem_cons.mp hm with e | hm
  · cases e
    exact ⟨_, pr_tuple, bl _ (by decide +kernel), by decide +kernel, .inr ⟨_, by rw [← hK]; exact call_tupA S.O.calm, PyProof.Rows.boot_tuple⟩⟩
  rcases List.mem_cons.mp hm with e | hm
  · cases e
    exact ⟨_, pr_list, bl _ (by decide +kernel), by decide +kernel, .inr ⟨_, by rw [← hK]; exact call_listA hc, PyProof.Rows.boot_list⟩⟩
  rcases List.mem_cons.mp hm with e | hm
  · cases e
    exact ⟨_, pr_dict, bl _ (by decide +kernel), by decide +kernel, .inr ⟨_, by rw [← hK]; exact call_dictA hc, PyProof.Rows.boot_dict⟩⟩
  rcases List.mem_cons.mp hm with e | hm
  · cases e
    exact ⟨_, pr_sorted, bl _ (by decide +kernel), by decide +kernel, .inl ⟨_, by rw [← hK]; exact call_sortA hc, PyProof.Rows.boot_sorted⟩⟩
  rcases List.mem_cons.mp hm with e | hm
  · cases e
    exact ⟨_, pr_min, bl _ (by decide +kernel), by decide +kernel, .inl ⟨_, by rw [← hK]; exact call_minA hc, PyProof.Rows.boot_min⟩⟩
  rcases List.mem_cons.mp hm with e | hm
  · cases e
    exact ⟨_, pr_max, bl _ (by decide +kernel), by decide +kernel, .inl ⟨_, by rw [← hK]; exact call_maxA hc, PyProof.Rows.boot_max⟩⟩
  rcases List.mem_cons.mp hm with e | hm
  · cases e
    exact ⟨_, pr_sum, bl _ (by decide +kernel), by decide +kernel, .inl ⟨_, by rw [← hK]; exact cr_sum hc, PyProof.Rows.boot_sum⟩⟩
  rcases List.mem_cons.mp hm with e | hm
  · cases e
    exact ⟨_, pr_all, bl _ (by decide +kernel), by decide +kernel, .inl ⟨_, by rw [← hK]; exact cr_all hc, PyProof.Rows.boot_all⟩⟩
  rcases List.mem_cons.mp hm with e | hm
  · cases e
    exact ⟨_, pr_any, bl _ (by decide +kernel), by decide +kernel, .inl ⟨_, by rw [← hK]; exact cr_any hc, PyProof.Rows.boot_any⟩⟩
  rcases List.mem_cons.mp hm with e | hm
  · cases e
    exact ⟨_, pr_abs, bl _ (by decide +kernel), by decide +kernel, .inl ⟨_, call_abs, PyProof.Rows.boot_abs⟩⟩
  rcases List.mem_cons.mp hm with e | hm
  · cases e
    exact ⟨_, pr_int, bl _ (by decide +kernel), by decide +kernel, .inr ⟨_, call_int1, PyProof.Rows.boot_int⟩⟩
  rcases List.mem_cons.mp hm with e | hm
  · cases e
    exact ⟨_, pr_range, bl _ (by decide +kernel), by decide +kernel, .inr ⟨_, call_range2, bt_range⟩⟩
  · cases hm
/-- what is proved of an expression -/
def Snd (Γ : Ct) (CX : CXT) (c : Cn) (X : Cx) (Ex : Xn → Prop) (H0 : Hp) (f : Expr → Option CE) : Prop := ∀ e ce, f e = some ce → isStar e = false ∧ PE X e (tr c H0 Ex ce) ∧ PT X e (trB c H0 Ex ce)
theorem cPs_ok {pos : Pos} {f : Expr → Option CE} (hf : Snd Γ CX c X Ex H0 f) : ∀ {ks : List (Option Expr)} {vs : List Expr} {cl : CL}, cPs f ks vs = some cl → ∃ trs, PPs X pos ks vs trs ∧ (∀ σ H Q, trPs c H0 Ex cl σ H Q → tPairs trs σ H Q) ∧ ks.all (·.isSome) = true ∧ ks.length = vs.length
  | [], [], cl, h => by
    cases h
    exact ⟨[], pps_nil, ps_nil, rfl, rfl⟩
  | [], _ :: _, cl, h => by cases h
  | none :: _, vs, cl, h => by cases vs <;> cases h
  | some k :: ks, [], cl, h => by cases h
  | some k :: ks, v :: vs, cl, h => by
    unfold cPs at h
    split at h
    · rename_i a b r h1 h2 h3
      cases h
      obtain ⟨trs, pp, pi, ha, hl⟩ := cPs_ok hf h3
      exact ⟨_, pps_cons (hf _ _ h1).2.1 (hf _ _ h2).2.1 pp, ps_cons pi, by simpa using ha, by simp [hl]⟩
    · cases h
theorem cEs_ok {f : Expr → Option CE} (hf : Snd Γ CX c X Ex H0 f) : ∀ {es : List Expr} {cs : CL}, cEs f es = some cs → PA X es (trL c H0 Ex cs) ∧ PA X es (trA c H0 Ex cs)
  | [], cs, h => by cases h; exact ⟨a_nil, g_nil⟩
  | a :: es, cs, h => by
    unfold cEs at h
    split at h
    · rename_i ca cb h1 h2
      cases h
      obtain ⟨i1, i2⟩ := cEs_ok hf h2
      obtain ⟨st, pe, _⟩ := hf _ _ h1
      exact ⟨a_cons pe i1 (star_cons st), g_cons pe i2 (star_cons st)⟩
    · cases h
theorem cBo_and {f : Expr → Option CE} (hf : Snd Γ CX c X Ex H0 f) : ∀ {es : List Expr} {ce : CE}, cBo f .and es = some ce → PE X (.BoolOp .And es pos) (tr c H0 Ex ce) ∧ PW X (.BoolOp .And es pos) (trB c H0 Ex ce)
  | [], _, h => by cases h
  | [a], _, h => by
    obtain ⟨_, pe, pt⟩ := hf _ _ h
    exact ⟨e_one pe, w_one1 pt⟩
  | a :: b :: es, ce, h => by
    unfold cBo at h
    split at h
    · rename_i ca cb h1 h2
      cases h
      obtain ⟨i1, i2⟩ := cBo_and hf h2
      obtain ⟨_, pe, pt⟩ := hf _ _ h1
      exact ⟨e_and pe i1, w_and pt i2⟩
    · cases h
theorem cBo_or {f : Expr → Option CE} (hf : Snd Γ CX c X Ex H0 f) : ∀ {es : List Expr} {ce : CE}, cBo f .or es = some ce → PE X (.BoolOp .Or es pos) (tr c H0 Ex ce) ∧ PW X (.BoolOp .Or es pos) (trB c H0 Ex ce)
  | [], _, h => by cases h
  | [a], _, h => by
    obtain ⟨_, pe, pt⟩ := hf _ _ h
    exact ⟨e_one pe, w_one2 pt⟩
  | a :: b :: es, ce, h => by
    unfold cBo at h
    split at h
    · rename_i ca cb h1 h2
      cases h
      obtain ⟨i1, i2⟩ := cBo_or hf h2
      obtain ⟨_, pe, pt⟩ := hf _ _ h1
      exact ⟨e_or pe i1, w_or pt i2⟩
    · cases h
theorem t_ife (hc : PT X e (trB c H0 Ex cc)) (ha : PT X a (trB c H0 Ex ca)) (hb : PT X b (trB c H0 Ex cb)) : PT X (.IfExp e a b pos) (trB c H0 Ex (.ife cc ca cb)) := by
  refine ⟨fun pins s σ H Q I h => ?_⟩
  obtain ⟨Z, ρ, P, r, hev, hk⟩ := h
  rw [ev] at hev
  refine PyProof.Rows.isTrue_IfExp (thn (hc.run pins s σ H _ I (trB_of (P := fun t ρ1 => if t = true then ev Ex ca ρ1 (fun d _ ρ' => ∃ b, d = .bl b ∧ P b ρ') else ev Ex cb ρ1 (fun d _ ρ' => ∃ b, d = .bl b ∧ P b ρ')) r hev
    (Q := fun t H1 => if t = true then trB c H0 Ex ca σ H1 Q else trB c H0 Ex cb σ H1 Q) fun t ρ1 H1 hp r1 s1 => ?_)) fun t s1 ⟨H1, I1, q1⟩ => ?_)
  · cases t
    · exact ⟨Z, ρ1, P, r1, hp, fun b ρ2 H2 hp2 r2 s2 => hk _ _ _ hp2 r2 (s1.trans s2)⟩
    · exact ⟨Z, ρ1, P, r1, hp, fun b ρ2 H2 hp2 r2 s2 => hk _ _ _ hp2 r2 (s1.trans s2)⟩
  · cases t
    · exact hb.run pins s1 σ H1 Q I1 q1
    · exact ha.run pins s1 σ H1 Q I1 q1
theorem cOp_ok {f : Expr → Option CE} (hf : Snd Γ CX c X Ex H0 f) {o : Option Expr} {co : CO} (h : cOp f o = some co) : PO X o (trO c H0 Ex co) := by
  cases o with
  | none => cases h; exact o_no
  | some e =>
    obtain ⟨ce, h1, rfl⟩ := Option.map_eq_some_iff.mp h
    exact o_one (hf _ _ h1).2.1
theorem onl_ok {f : Expr → Option CE} (hf : Snd Γ CX c X Ex H0 f) {ifs : List Expr} {o : Option Expr} {co : CO} (h0 : onl ifs = some o) (h : cOp f o = some co) : PTs X ifs (trC c H0 Ex co) := by
  match ifs, h0 with
  | [], h0 => cases h0; cases h; exact c_no
  | [e], h0 =>
    cases h0
    obtain ⟨ce, h1, rfl⟩ := Option.map_eq_some_iff.mp h
    exact c_one (hf _ _ h1).2.2
theorem i_key {x : Str} {i : Nat} {tg : Expr} (hN : X.N[i]? = some x) (hv : Vis X.env.scope x) (hd : (x == ("__debug__" : Str)) = false) (hcd : (x == ("__classdict__" : Str)) = false) : PI X tg (.Name x pos) (trJ c H0 Ex (.key i)) := by
  refine PI.imp (pi_keys (pe_var hN hv hd hcd)) fun σ H R h => ?_
  obtain ⟨⟨q, o, w, e1, e2⟩, Z, ρ, P, r, hev, hk⟩ := h
  refine ⟨_, e1, ?_⟩
  rw [evi] at hev
  rcases keyR_of hev with ⟨kvs, h1, hev⟩ | ⟨kvs, h1, hev⟩
  · obtain ⟨v, e3, w3⟩ := r.frz i _ h1
    rw [e1] at e3; cases e3
    cases w3 with
    | @dct a ks kvs rz hl hr =>
      have e4 : ∃ o, H q = some (.frz o (.dK ks)) := by
        rcases rz.2 with z | ⟨_, o, z⟩
        · rw [e2] at z; cases z
        · exact ⟨o, z⟩
      obtain ⟨o, e4⟩ := e4
      refine ⟨q, o, rfl, .inl ⟨ks, e4, hk _ _ _ _ _ ⟨[], [(q, .frz o (.dK ks))]⟩ hev r .refl ⟨fun _ h => (nomatch h), fun p hp => ?_⟩ (fun _ _ h => nomatch h) ?_⟩⟩
      · rw [List.mem_singleton] at hp; subst hp
        exact ⟨rz.1, .inl e4⟩
      · have : (kvs.map fun kv => D.ofKey kv.1) = ks.map fun kv => D.ofKey kv.1 := by
          have := congrArg (List.map D.ofKey) hr.keys
          rw [List.map_map, List.map_map] at this
          exact this.symm
        rw [this]
        exact iter_k
  · obtain ⟨a, e3, _, _, t⟩ := r.own i _ h1
    rw [e1] at e3; cases e3
    exact absurd rfl (t.nfz e2 rfl)
theorem j_of {tg : Expr} {it : CI} (hk : ksOf it = []) (h : PI X tg e (trI c H0 Ex it)) : PI X tg e (trJ c H0 Ex it) := PI.imp h fun σ H R q => q.2
theorem cIt_ok (S : Sat lv Γ CX c X EE) {f : Expr → Option CE} (hf : Snd Γ CX c X Ex H0 f) {tg : Expr} {it : CI} (h : cIt f Γ tg e = some it) : PI X tg e (trJ c H0 Ex it) := by
  have sq : ∀ {e it}, (f e).map CI.seq = some it → PI X tg e (trJ c H0 Ex it) := fun {e it} h => by
    obtain ⟨ce, h1, rfl⟩ := Option.map_eq_some_iff.mp h
    exact j_of rfl (i_seq S.O (hf _ _ h1).2.1)
  have tp : isTup tg = true → ∃ el kk tp, tg = .Tuple el kk tp := fun h => by
    cases tg <;> first | exact ⟨_, _, _, rfl⟩ | cases h
  have bl : ∀ y : Str, y ∈ blts → X.mg y = none := S.blt
  unfold cIt at h
  split at h
  · split at h
    · rename_i hc
      rw [Bool.and_eq_true] at hc
      obtain rfl := of_decide_eq_true hc.1
      obtain ⟨ce, h1, rfl⟩ := Option.map_eq_some_iff.mp h
      exact j_of rfl (i_rng1 (gl_ok S hc.2).1 (bl _ (by decide +kernel)) (hf _ _ h1).2.1 (star_cons (hf _ _ h1).1))
    · split at h
      · rename_i hc
        simp only [Bool.and_eq_true] at hc
        obtain rfl := of_decide_eq_true hc.1.1
        obtain ⟨ce, h1, rfl⟩ := Option.map_eq_some_iff.mp h
        obtain ⟨el, kk, tp, rfl⟩ := tp hc.2
        exact j_of rfl (i_enum S.O (gl_ok S hc.1.2).1 (bl _ (by decide +kernel)) (hf _ _ h1).2.1 (star_cons (hf _ _ h1).1))
      · exact sq h
  · split at h
    · rename_i hc
      rw [Bool.and_eq_true] at hc
      obtain rfl := of_decide_eq_true hc.1
      split at h
      · rename_i ca cb h1 h2
        cases h
        exact j_of rfl (i_rng (gl_ok S hc.2).1 (bl _ (by decide +kernel)) (hf _ _ h1).2.1 (hf _ _ h2).2.1 (by rw [star_cons (hf _ _ h1).1, star_cons (hf _ _ h2).1]; rfl) (star_cons (hf _ _ h2).1))
      · cases h
    · split at h
      · rename_i hc
        simp only [Bool.and_eq_true] at hc
        obtain rfl := of_decide_eq_true hc.1.1
        obtain ⟨el, kk, tp, rfl⟩ := tp hc.2
        split at h
        · rename_i ca cb h1 h2
          cases h
          exact j_of rfl (i_zip S.O (gl_ok S hc.1.2).1 (bl _ (by decide +kernel)) (hf _ _ h1).2.1 (hf _ _ h2).2.1 (star_cons (hf _ _ h1).1) (star_cons (hf _ _ h2).1))
        · cases h
      · exact sq h
  · split at h
    · rename_i i hi
      split at h
      · cases h
        obtain ⟨a1, a2, a3, a4⟩ := var_ok S hi
        exact i_key a1 a2 a3 a4
      · exact sq h
    · exact sq h
  · exact sq h
end
end Z
end T_ZI
section T_ZJ
namespace Z
open PySem L2
section
variable {lv : Nat} {Γ : Ct} {CX : CXT} {c : Cn} {X : Cx} {EE : XK} {Ex : Xn → Prop} {H0 : Hp}
variable {a b e : Expr} {es : List Expr} {pos p : Pos} {ca cb cc ce : CE} {cs : CL}
theorem Sat.inner (S : Sat lv Γ CX c X EE) {scope : Scope} (hb : blkC Γ.N Γ.sc scope = true) (s : Shared) (H : Hp) (C : Addr) (cl : List (Str × Addr)) (fp : List Addr) :
    Sat lv (Γ.inner scope) CX c (X.blk s H scope (compEnvC scope cl C X.env) fp) E0 where
  O := ⟨S.O.K, S.O.mg, S.O.calm, S.O.nd, S.O.un⟩
  N := S.N
  sc := by show relS scope X.env.scope = relS scope Γ.sc; rw [S.sc]
  bind := fun x hx => by
    have e : ∀ k, k ≠ .free → scope.names.lookup x = some k → (relS scope X.env.scope).names.lookup x = some k := fun k hk h => lookup_relS_keep hk h
    rcases hx with h | h
    · have := e _ (by decide) h
      exact ⟨.inl this, .inr this⟩
    · have h' : scope.names.lookup x = some .cell := h
      refine ⟨.inr (e _ (by decide) h), .inl ?_⟩
      show (scope.names.lookup x == some .cell) = true
      rw [h']; rfl
  kindf := by
    unfold blkC at hb
    simp only [Bool.and_eq_true, decide_eq_true_eq] at hb
    exact hb.1.1
  fns := S.fns
  fvs := S.fvs
  lls := S.lls
  pass := fun _ _ _ _ _ _ _ h => S.nc _ _ _ _ _ h
  nc := S.nc
  blt := S.blt
  cons := S.cons
  flds := S.flds
  kfns := S.kfns
  isa := S.isa
  rai := .inl rfl
  lam := .inl ⟨rfl, rfl⟩
  neq := .inl rfl
  eqq := .inl rfl
theorem Sat.lamb (S : Sat lv Γ CX c X EE) (L : LamOk lv Γ CX c X) {scope : Scope} (LS : LamX.LamS X.env.scope scope) {A : Around} {outer : List PySem.Env} {s : Shared} {H : Hp} {E : XK} {f e : Addr} {sz : Addr} (hr : Room lv (A.deeper (LamX.lamEnv X scope sz f e))) (hg : A.guards = X.A.guards) :
    Sat lv (Γ.lam scope) CX c (LamX.lamCx X A outer s H E scope f e) E where
  O := ⟨S.O.K, S.O.mg, rfl, S.O.nd, by have := hr.un; show (A.deeper (LamX.lamEnv X scope s.heap.objs.size f e)).units + 100 < cLine; have q : (A.deeper (LamX.lamEnv X scope s.heap.objs.size f e)).units = (A.deeper (LamX.lamEnv X scope sz f e)).units := rfl; omega⟩
  N := S.N
  sc := rfl
  bind := fun x hx => by
    have hx : scope.names.lookup x = some .local ∨ scope.names.lookup x = some .cell := hx
    rcases hx with hx | hx
    · exact absurd rfl (LS.own _ (PySem.mem_of_lookup hx)).1
    · exact absurd rfl (LS.own _ (PySem.mem_of_lookup hx)).2
  kindf := LS.kind
  fns := fun x m F h => L.fns x m F h _ ⟨hr.hd, hr.dp, hr.un⟩ hg
  kfns := fun x xs pm n F h => ⟨(S.kfns x xs pm n F h).1, L.kfns x xs pm n F h _ ⟨hr.hd, hr.dp, hr.un⟩ hg⟩
  fvs := fun x m F h => L.fvs x m F h _ ⟨hr.hd, hr.dp, hr.un⟩ hg
  lls := fun l q m F h => L.lls l q m F h _ ⟨hr.hd, hr.dp, hr.un⟩ hg
  pass := by
    rw [L.cx]
    exact passes_call (takes_of rfl rfl rfl rfl) fun _ _ _ _ h => h
  nc := S.nc
  blt := S.blt
  cons := S.cons
  flds := S.flds
  isa := S.isa
  rai := .inl rfl
  lam := .inl ⟨rfl, rfl⟩
  neq := .inl rfl
  eqq := .inl rfl
theorem cKs_ok {f : Expr → Option CE} (hf : Snd Γ CX c X Ex H0 f) : ∀ {ks : List Keyword} {xs : List Str} {cs : CL}, cKs f ks = some (xs, cs) → PK X ks (trL c H0 Ex cs) ∧ (∀ pos : Pos, (backToKw pos (keywordEach ks X.env)).all (·.1.isSome) = true) ∧ (∀ pos : Pos, (backToKw pos (keywordEach ks X.env)).filterMap (·.1) = xs) ∧
    (∀ pos : Pos, (backToKw pos (keywordEach ks X.env)).any (·.1.isNone) = false) ∧ cs.len = xs.length
  | [], xs, cs, h => by
    cases h
    exact ⟨k_nil, fun _ => rfl, fun _ => rfl, fun _ => rfl, rfl⟩
  | ⟨some x, e, kp⟩ :: ks, xs, cs, h => by
    unfold cKs at h
    split at h
    · rename_i ca xr cb h1 h2
      cases h
      obtain ⟨p1, p2, p3, p4, p5⟩ := cKs_ok hf h2
      refine ⟨k_cons (hf _ _ h1).2.1 p1, fun pos => ?_, fun pos => ?_, fun pos => ?_, by simp [CL.len, p5]⟩
      · have := p2 pos
        unfold backToKw at this ⊢
        rw [keywordEach]
        simpa using this
      · have := p3 pos
        unfold backToKw at this ⊢
        rw [keywordEach]
        simp only [List.map_cons, List.filterMap_cons]
        rw [this]
      · have := p4 pos
        unfold backToKw at this ⊢
        rw [keywordEach]
        simpa using this
    · cases h
  | ⟨none, e, kp⟩ :: ks, xs, cs, h => by cases h
theorem cLs_at {f : LamT → Option CE} : ∀ {ls : List LamT} {bs : CL}, cLs f ls = some bs → ∀ {j : Nat} {l : LamT} {cb : CE}, ls[j]? = some l → bs.at j = some cb → f l = some cb
  | [], _, h, j, l, cb, h1, h2 => by simp at h1
  | l0 :: ls, bs, h, j, l, cb, h1, h2 => by
    unfold cLs at h
    split at h
    · rename_i a b e1 e2
      cases h
      cases j with
      | zero =>
        simp only [List.getElem?_cons_zero] at h1
        cases h1; cases h2
        exact e1
      | succ j =>
        exact cLs_at e2 (j := j) (by simpa using h1) h2
    · cases h
theorem bind0 {q : Str} {ps : Arguments} {body : Expr} {sc : Scope} {cl : List (Str × Addr)} {pm cv ctv : Value} (h : noPar ps = true) : bindArgs (PySem.W.kla_fn "<lambda>" q ps body sc cl pm cv ctv) ⟨[], []⟩ = pure [] := by
  unfold noPar at h
  split at h
  · rfl
  · cases h
theorem def0 {ps : Arguments} {env : PySem.Env} (h : noPar ps = true) : defaultsOf ps env = ([], []) := by
  unfold noPar at h
  split at h
  · rfl
  · cases h
theorem defP {ps : Arguments} {env : PySem.Env} {as : List Arg} (h : plPar ps = some as) : defaultsOf ps env = ([], []) := by
  unfold plPar at h
  split at h
  · rfl
  · cases h
theorem ownV_mem {N : List Str} : ∀ {l : List (Str × NameKind)} {p : Str × Nat}, p ∈ ownV N l → strIx N p.1 = some p.2
  | (x, k) :: r, p, h => by
    unfold ownV at h
    split at h
    all_goals first
      | (split at h
         · rename_i i hi
           rcases List.mem_cons.mp h with z | z
           · subst z; exact hi
           · exact ownV_mem z
         · exact ownV_mem h)
      | exact ownV_mem h
  | [], _, h => nomatch h
theorem strIx_none : ∀ {N : List Str} {x : Str}, strIx N x = none → x ∉ N
  | [], _, _ => by simp
  | y :: ys, x, h => by
    unfold strIx at h
    by_cases e : y = x
    · simp only [e, decide_true, if_true] at h; cases h
    · simp only [e, decide_false, Bool.false_eq_true, if_false] at h
      rw [List.mem_cons, not_or]
      exact ⟨fun z => e z.symm, strIx_none (Option.map_eq_none_iff.mp h)⟩
theorem ownV_in {N : List Str} : ∀ {l : List (Str × NameKind)} {y : Str × NameKind}, y ∈ l → y.2 = .local ∨ y.2 = .cell → y.1 ∈ (ownV N l).map (·.1) ∨ y.1 ∉ N
  | (x, k) :: r, y, h, hk => by
    have go : ∀ {m : List (Str × Nat)}, (∀ z ∈ (ownV N r).map (·.1), z ∈ m.map (·.1)) → y ∈ r → y.1 ∈ m.map (·.1) ∨ y.1 ∉ N := fun hm hy => (ownV_in hy hk).imp (hm _) id
    have he : (k = .local ∨ k = .cell) → ownV N ((x, k) :: r) = match strIx N x with
      | some i => (x, i) :: ownV N r
      | none => ownV N r := by
      rintro (rfl | rfl) <;> rfl
    have hn : (k ≠ .local ∧ k ≠ .cell) → ownV N ((x, k) :: r) = ownV N r := by
      intro hh
      cases k <;> first | rfl | exact absurd rfl hh.1 | exact absurd rfl hh.2
    by_cases hkk : k = .local ∨ k = .cell
    · rw [he hkk]
      cases hi : strIx N x with
      | some i =>
        rcases List.mem_cons.mp h with z | z
        · subst z; exact .inl (by simp)
        · exact go (fun w hw => by simp only [List.map_cons, List.mem_cons]; exact .inr hw) z
      | none =>
        rcases List.mem_cons.mp h with z | z
        · subst z; exact .inr (strIx_none hi)
        · exact go (fun w hw => hw) z
    · rw [hn ⟨fun z => hkk (.inl z), fun z => hkk (.inr z)⟩]
      rcases List.mem_cons.mp h with z | z
      · subst z; exact absurd hk hkk
      · exact go (fun w hw => hw) z
theorem blk_ok (S : Sat lv Γ CX c X EE) {scope : Scope} (hb : blkC Γ.N Γ.sc scope = true) : BlkOk X.N X.env.scope scope (ownV Γ.N scope.names) := by
  unfold blkC at hb
  simp only [Bool.and_eq_true, decide_eq_true_eq, List.all_eq_true, Bool.or_eq_true, Bool.not_eq_true', decide_eq_false_iff_not] at hb
  obtain ⟨⟨h1, h2⟩, h3⟩ := hb
  rw [S.N, S.sc]
  exact ⟨h1, h2, fun p hp => strIx_get (ownV_mem hp), fun y hy e => by
    rcases h3 y hy with (z | z) | z
    · exact absurd e z
    · exact .inl z
    · exact .inr z, fun y hy hk => ownV_in hy hk⟩
theorem cNm_ok (S : Sat lv Γ CX c X EE) : ∀ {es : List Expr} {is : List Nat}, cNm Γ Γ.slot es = some is → PGs X es (gNames is) ∧ (assignEach es X.env).length = is.length ∧ (assignEach es X.env).findIdx? (·.1) = none
  | [], is, h => by cases h; exact ⟨pgs_nil, rfl, rfl⟩
  | .Name x q :: es, is, h => by
    unfold cNm at h
    split at h
    · rename_i i js h1 h2
      cases h
      obtain ⟨a1, a2, a3⟩ := cNm_ok S h2
      obtain ⟨b1, b2, b3⟩ := slot_ok S h1
      have e : assignEach (.Name x q :: es) X.env = (false, assign (.Name x q) X.env) :: assignEach es X.env := rfl
      refine ⟨pgs_cons (pg_name S.O.nd b1 b2 b3) a1 rfl, by rw [e]; simp [a2], ?_⟩
      rw [e, List.findIdx?_cons]
      simp [a3]
    · cases h
/-- what the target does: the same in all blocks over the same names -/
def gTg (K : PySem.W.Frag) : Tg → TG
  | .one i => gName i
  | .tup is => gTup K is.length (gNames is)
theorem gTg_ok (t : Tg) : TgOk c t (gTg c.K t) := by
  cases t with
  | one i => exact tg_one
  | tup is => exact tg_tup is
theorem cTg_pg (S : Sat lv Γ CX c X EE) {tg : Expr} {t : Tg} (h : cTg Γ tg = some t) : PG X tg (gTg c.K t) := by
  unfold cTg at h
  split at h
  · obtain ⟨i, h1, rfl⟩ := Option.map_eq_some_iff.mp h
    obtain ⟨b1, b2, b3⟩ := slot_ok S h1
    exact pg_name S.O.nd b1 b2 b3
  · obtain ⟨is, h1, rfl⟩ := Option.map_eq_some_iff.mp h
    obtain ⟨a1, a2, a3⟩ := cNm_ok S h1
    rw [← S.O.K]
    exact pg_tup S.O.calm a1 a2 a3
  · cases h
theorem tgIn_ok {t : Tg} {vs : List Nat} (h : tgIn t vs = true) : ∀ i, i ∈ TgOk.tgs t → i ∈ vs := by
  intro i hi
  cases t with
  | one j =>
    rw [show i = j from List.mem_singleton.mp hi]
    have : vs.contains j = true := h
    simpa using this
  | tup is =>
    have := List.all_eq_true.mp (show is.all vs.contains = true from h) i hi
    simpa using this
theorem Me.ok {o : Expr} {m : Str} {apos : Pos} (h1 : noCall0 o = true) (h2 : lineOk apos pos = true) (hs : isStar e = false) : Me X o m apos e pos where
  base := base_ok h1
  few := by rw [star_cons hs]; rfl
  line := h2
  st := star_cons hs
theorem M2.ok {o : Expr} {m : Str} {apos : Pos} (h1 : noCall0 o = true) (h2 : lineOk apos pos = true) (ha : isStar a = false) (hb : isStar b = false) : M2 X o m apos a b pos where
  base := base_ok h1
  few := by rw [star_cons ha, star_cons hb]; rfl
  line := h2
  trees := by rw [star_cons ha, star_cons hb]; rfl
theorem frzn_no {it : CI} (h : ksOf it = []) (σ : L2.St) (H : Hp) : frzn it σ H := frzn_of fun i hi => by rw [h] at hi; exact nomatch hi
theorem key_of {it : CI} (h : ksOf it ≠ []) : ∃ i, it = .key i := by
  cases it <;> first | exact ⟨_, rfl⟩ | exact absurd rfl h
section
variable {tg it tg2 it2 elt : Expr} {ifs ifs2 : List Expr} {scope : Scope} {t t2 : Tg} {ci ci2 : CI} {co co2 : CO} {vs2 : List Nat}
theorem comp_base (S : Sat lv Γ CX c X EE) (hb : blkC Γ.N Γ.sc scope = true) (hset : isSet it = false) (hI : PI X tg it (trJ c H0 Ex ci)) (htv : tgIn t ((ownV Γ.N scope.names).map (·.2)) = true)
    (hg : ∀ (s : Shared) (H : Hp) (C : Addr) (cl : List (Str × Addr)) (fp : List Addr), PG (X.blk s H scope (compEnvC scope cl C X.env) fp) tg (gTg c.K t)) (ht : ∀ (s : Shared) (H : Hp) (C : Addr) (cl : List (Str × Addr)) (fp : List Addr), PTs (X.blk s H scope (compEnvC scope cl C X.env) fp) ifs (trC c H0 noX co))
    (he : ∀ (s : Shared) (H : Hp) (C : Addr) (cl : List (Str × Addr)) (fp : List Addr), PE (X.blk s H scope (compEnvC scope cl C X.env) fp) elt (tr c H0 noX ca)) :
    PE X (.ListComp elt [⟨tg, it, ifs, 0⟩] scope pos) (tLc (trJ c H0 Ex ci) (gTg c.K t) (trC c H0 noX co) (tr c H0 noX ca) ((ownV Γ.N scope.names).map (·.2))) :=
  pe_lc S.O.calm S.O.nd hI (blk_ok S hb) hg ht he (set_ok hset)
theorem comp_fin {st : Expr} {vs : List Nat} (hX : XS c H0 Ex EE) (htv : tgIn t vs = true) (h : ∀ H0 Ex, XS c H0 Ex EE → PE X st (tLc (trJ c H0 Ex ci) (gTg c.K t) (trC c H0 noX co) (tr c H0 noX ca) vs)) : PE X st (tr c H0 Ex (.comp vs ca t ci co)) := by
  by_cases hk : ksOf ci = []
  · exact PE.imp (h H0 Ex hX) fun σ H Q q => lc_imp (gTg_ok t) (tgIn_ok htv) σ H Q ⟨frzn_no hk σ H, q⟩
  · obtain ⟨i, rfl⟩ := key_of hk
    refine PE.imp (e_compLk (Ex := noX) (fun H0 => PE.imp (h H0 noX XS.noX) fun σ H Q q => lc_imp (gTg_ok t) (tgIn_ok htv) σ H Q q) H0) fun σ H Q q => ?_
    obtain ⟨Z, ρ, P, r, hev, hk⟩ := q
    rw [ev, evi] at hev
    exact ⟨Z, ρ, P, r, by rw [ev, evi]; exact hev, hk⟩
theorem comp2_base (S : Sat lv Γ CX c X EE) (hb : blkC Γ.N Γ.sc scope = true) (hset : isSet it = false) (hset2 : isSet it2 = false) (hI : PI X tg it (trJ c H0 Ex ci)) (htv : tgIn t2 ((ownV Γ.N scope.names).map (·.2)) = true)
    (hg : ∀ (s : Shared) (H : Hp) (C : Addr) (cl : List (Str × Addr)) (fp : List Addr), PG (X.blk s H scope (compEnvC scope cl C X.env) fp) tg (gTg c.K t)) (ht : ∀ (s : Shared) (H : Hp) (C : Addr) (cl : List (Str × Addr)) (fp : List Addr), PTs (X.blk s H scope (compEnvC scope cl C X.env) fp) ifs (trC c H0 noX co))
    (hI2 : ∀ (s : Shared) (H : Hp) (C : Addr) (cl : List (Str × Addr)) (fp : List Addr), PI (X.blk s H scope (compEnvC scope cl C X.env) fp) tg2 it2 (trJ c H0 noX ci2))
    (hg2 : ∀ (s : Shared) (H : Hp) (C : Addr) (cl : List (Str × Addr)) (fp : List Addr), PG (X.blk s H scope (compEnvC scope cl C X.env) fp) tg2 (gTg c.K t2)) (ht2 : ∀ (s : Shared) (H : Hp) (C : Addr) (cl : List (Str × Addr)) (fp : List Addr), PTs (X.blk s H scope (compEnvC scope cl C X.env) fp) ifs2 (trC c H0 noX co2))
    (he : ∀ (s : Shared) (H : Hp) (C : Addr) (cl : List (Str × Addr)) (fp : List Addr), PE (X.blk s H scope (compEnvC scope cl C X.env) fp) elt (tr c H0 noX ca)) :
    PE X (.ListComp elt [⟨tg, it, ifs, 0⟩, ⟨tg2, it2, ifs2, 0⟩] scope pos) (tLc2 (trJ c H0 Ex ci) (gTg c.K t) (trC c H0 noX co) (trJ c H0 noX ci2) (gTg c.K t2) (trC c H0 noX co2) (tr c H0 noX ca) ((ownV Γ.N scope.names).map (·.2)) (TgOk.tgs t2)) :=
  pe_lc2 S.O.calm S.O.nd hI (blk_ok S hb) (tgIn_ok htv) hg ht hI2 hg2 ht2 he (set_ok hset) fun env => set_ok hset2
theorem comp2_fin {st : Expr} {vs : List Nat} (hX : XS c H0 Ex EE) (htv : tgIn t vs = true) (hkk : (ksOf ci2 == [] || !(ksOf ci == [])) = true)
    (h : ∀ H0 Ex, XS c H0 Ex EE → PE X st (tLc2 (trJ c H0 Ex ci) (gTg c.K t) (trC c H0 noX co) (trJ c H0 noX ci2) (gTg c.K t2) (trC c H0 noX co2) (tr c H0 noX ca) vs (TgOk.tgs t2))) : PE X st (tr c H0 Ex (.comp2 vs (TgOk.tgs t2) ca t ci co t2 ci2 co2)) := by
  by_cases hk : ksOf ci = []
  · have hk2 : ksOf ci2 = [] := by rw [hk] at hkk; simpa using hkk
    exact PE.imp (h H0 Ex hX) fun σ H Q q => lc2_imp (gTg_ok t) (tgIn_ok htv) (gTg_ok t2) (fun _ h => h) σ H Q ⟨frzn_no hk σ H, frzn_no hk2 σ H, q⟩
  · obtain ⟨i, rfl⟩ := key_of hk
    refine PE.imp (e_comp2Lk (Ex := noX) (fun H0 => PE.imp (h H0 noX XS.noX) fun σ H Q q => lc2_imp (gTg_ok t) (tgIn_ok htv) (gTg_ok t2) (fun _ h => h) σ H Q q) H0) fun σ H Q q => ?_
    obtain ⟨Z, ρ, P, r, hev, hk⟩ := q
    rw [ev, evi] at hev
    exact ⟨Z, ρ, P, r, by rw [ev, evi]; exact hev, hk⟩
end
theorem tgl_eq (t : Tg) : tgl t = TgOk.tgs t := by cases t <;> rfl
theorem cE_ok : ∀ (n : Nat) {Γ : Ct} {X : Cx} {EE : XK} {Ex : Xn → Prop} {H0 : Hp}, Sat lv Γ CX c X EE → XS c H0 Ex EE → Snd Γ CX c X Ex H0 (cE n Γ)
  | 0, _, _, _, _, _, _, _ => fun e ce h => by cases h
  | n + 1, Γ, X, EE, Ex, H0, S, hX => by
    have ih : Snd Γ CX c X Ex H0 (cE n Γ) := cE_ok n S hX
    intro e ce h
    refine ⟨cE_star h, ?_⟩
    have val : PE X e (tr c H0 Ex ce) → (∀ whole, isTrue e X.env whole = (do let v ← whole; standAt e.pos; holding [v] (truthy v))) → PE X e (tr c H0 Ex ce) ∧ PT X e (trB c H0 Ex ce) := fun p he => ⟨p, t_val p he⟩
    unfold cE at h
    split at h
    -- a constant
    · rename_i k j q
      obtain ⟨d, h1, rfl⟩ := Option.map_eq_some_iff.mp h
      have pe : PE X (.Constant k j q) (tr c H0 Ex (.lit d)) := by
        cases k <;> cases h1
        · exact e_c (fun _ => .non) pe_non
        · exact e_c (fun _ => .bl _) pe_bl
        · exact e_c (fun _ => .int _) pe_int
        · exact e_c (fun _ => .str _) pe_str
      exact val pe fun _ => rfl
    -- a name
    · split at h
      · rename_i i hi
        cases h
        obtain ⟨a1, a2, a3, a4⟩ := var_ok S hi
        exact val (e_var a1 a2 a3 a4) fun _ => rfl
      · split at h
        · rename_i hg
          obtain ⟨d, h1, rfl⟩ := Option.map_eq_some_iff.mp h
          obtain ⟨u, v, m, r, rp⟩ := S.cons _ _ h1
          obtain ⟨g1, g2⟩ := gl_ok S hg
          exact val (e_c rp (pe_glob g1 m r g2)) fun _ => rfl
        · cases h
    -- a + b
    · split at h
      · rename_i o ca cb h1 h2 h3
        cases h
        obtain ⟨r, a1, a2⟩ := opM_ok S.O h1
        exact val (e_op a1 a2 (ih _ _ h2).2.1 (ih _ _ h3).2.1) fun _ => rfl
      · cases h
    -- - a
    · obtain ⟨ca, h1, rfl⟩ := Option.map_eq_some_iff.mp h
      exact val (e_neg (ih _ _ h1).2.1) fun _ => rfl
    -- not a
    · obtain ⟨ca, h1, rfl⟩ := Option.map_eq_some_iff.mp h
      exact ⟨e_not (ih _ _ h1).2.1, t_not (ih _ _ h1).2.2⟩
    -- a < b
    · split at h
      · cases h
      · rename_i hm
        have hm := Bool.not_eq_true _ ▸ hm
        split at h
        · rename_i o ca cb h1 h2 h3
          cases h
          obtain ⟨r, a1, a2⟩ := opG_ok S h1
          exact ⟨e_cmp a1 a2 (ih _ _ h2).2.1 (ih _ _ h3).2.1 hm, t_cmp a1 a2 (ih _ _ h2).2.1 (ih _ _ h3).2.1 hm⟩
        · cases h
    -- a < b < c
    · split at h
      · cases h
      · rename_i hm
        have hm := Bool.not_eq_true _ ▸ hm
        split at h
        · rename_i o o' ca cb cc h1 h2 h3 h4 h5
          cases h
          obtain ⟨r, a1, a2⟩ := opC_ok S.O h1
          obtain ⟨r', b1, b2⟩ := opC_ok S.O h2
          exact ⟨e_chain a1 b1 a2 b2 (ih _ _ h3).2.1 (ih _ _ h4).2.1 (ih _ _ h5).2.1 hm, t_chain a1 b1 a2 b2 (ih _ _ h3).2.1 (ih _ _ h4).2.1 (ih _ _ h5).2.1 hm⟩
        · cases h
    -- and, or
    · obtain ⟨a1, a2⟩ := cBo_and (pos := _) ih h
      exact ⟨a1, a2.pt⟩
    · obtain ⟨a1, a2⟩ := cBo_or (pos := _) ih h
      exact ⟨a1, a2.pt⟩
    -- a if c else b
    · split at h
      · rename_i cc ca cb h1 h2 h3
        cases h
        exact ⟨e_ife (ih _ _ h1).2.2 (ih _ _ h2).2.1 (ih _ _ h3).2.1, t_ife (ih _ _ h1).2.2 (ih _ _ h2).2.2 (ih _ _ h3).2.2⟩
      · cases h
    -- [..]
    · split at h
      · rename_i hl
        obtain ⟨cs, h1, rfl⟩ := Option.map_eq_some_iff.mp h
        have hl := of_decide_eq_true hl
        exact val (e_lst (cEs_ok ih h1).1 (by rw [cEs_len h1]; exact Nat.le_trans hl (by decide))) fun _ => rfl
      · cases h
    -- (..)
    · split at h
      · rename_i hl
        obtain ⟨cs, h1, rfl⟩ := Option.map_eq_some_iff.mp h
        have hl := of_decide_eq_true hl
        exact val (e_tup (cEs_ok ih h1).1 (by rw [cEs_len h1]; exact Nat.le_trans hl (by decide))) fun _ => rfl
      · cases h
    -- {}
    · cases h
      exact val e_dnew fun _ => rfl
    -- {k: v, ..}
    · split at h
      · rename_i hl15
        obtain ⟨cl, h1, rfl⟩ := Option.map_eq_some_iff.mp h
        obtain ⟨trs, pp, pi, ha, hl⟩ := cPs_ok ih h1
        exact val (e_dspe pp pi ha hl (by simp) (by have := of_decide_eq_true hl15; simp; omega)) fun _ => rfl
      · cases h
    -- a[::-1]
    · obtain ⟨ca, h1, rfl⟩ := Option.map_eq_some_iff.mp h
      exact val (e_rev S.O (ih _ _ h1).2.1) fun _ => rfl
    -- a[i:j]
    · split at h
      · rename_i ca cl ch h1 h2 h3
        cases h
        exact val (e_cut S.O (ih _ _ h1).2.1 (cOp_ok ih h2) (cOp_ok ih h3)) fun _ => rfl
      · cases h
    -- a[b]
    · split at h
      · rename_i ca cb h1 h2
        cases h
        exact val (e_idx S.O (ih _ _ h1).2.1 (ih _ _ h2).2.1 (plainIx h2)) fun _ => rfl
      · cases h
    -- a.f
    · split at h
      · rename_i hb
        split at h
        · rename_i ca Cs h1 h2
          cases h
          exact val (e_fld S.O (S.flds _ _ h2) (ih _ _ h1).2.1 (base_ok hb)) fun _ => rfl
        · cases h
      · cases h
    -- f()
    · split at h
      · rename_i hg
        split at h
        · rename_i F hf
          cases h
          obtain ⟨g1, g2⟩ := gl_ok S hg
          exact val (call0_ok S.O hX (S.fns _ _ _ hf X EE rfl rfl rfl rfl rfl rfl S.pass) g1 g2) fun _ => rfl
        · cases h
      · cases h
    -- f(a, ..)
    · split at h
      · rename_i hg
        obtain ⟨g1, g2⟩ := gl_ok S hg
        split at h
        · rename_i hx
          obtain rfl := of_decide_eq_true hx
          have bl : ∀ y : Str, y ∈ blts → X.mg y = none := S.blt
          split at h
          · rename_i q ca h1 h2
            cases h
            obtain ⟨st, pe, _⟩ := ih _ _ h2
            unfold isiT at h1
            split at h1
            · split at h1
              · rename_i hy
                cases h1
                rw [Bool.and_eq_true] at hy
                obtain rfl := of_decide_eq_true hy.1
                exact val (isi_one D.isI (fun d P h => h) isI_ok S.O g1 (bl _ (by decide +kernel)) (pe_bltn (v := .ty "int") (gl_ok S hy.2).1 (bl _ (by decide +kernel)) PyProof.Rows.boot_int rfl (by decide +kernel) (by decide +kernel)) rfl pe (star_cons st)) fun _ => rfl
              · split at h1
                · rename_i hy
                  cases h1
                  rw [Bool.and_eq_true] at hy
                  obtain rfl := of_decide_eq_true hy.1
                  exact val (isi_one D.isB (fun d P h => h) isB_ok S.O g1 (bl _ (by decide +kernel)) (pe_bltn (v := .ty "bool") (gl_ok S hy.2).1 (bl _ (by decide +kernel)) PyProof.Rows.boot_bool rfl (by decide +kernel) (by decide +kernel)) rfl pe (star_cons st)) fun _ => rfl
                · split at h1
                  · rename_i hy
                    cases h1
                    rw [Bool.and_eq_true] at hy
                    obtain rfl := of_decide_eq_true hy.1
                    exact val (isi_one D.isT (fun d P h => h) isT_ok S.O g1 (bl _ (by decide +kernel)) (pe_bltn (v := .ty "tuple") (gl_ok S hy.2).1 (bl _ (by decide +kernel)) PyProof.Rows.boot_tuple rfl (by decide +kernel) (by decide +kernel)) rfl pe (star_cons st)) fun _ => rfl
                  · cases h1
            · split at h1
              · rename_i hy
                cases h1
                simp only [Bool.and_eq_true] at hy
                obtain ⟨⟨⟨hy1, hy2⟩, hy3⟩, hy4⟩ := hy
                obtain rfl := of_decide_eq_true hy1
                obtain rfl := of_decide_eq_true hy3
                exact val (e_islist S.O g1 (bl _ (by decide +kernel)) (gl_ok S hy2).1 (bl _ (by decide +kernel)) (gl_ok S hy4).1 (bl _ (by decide +kernel)) pe fun es => star_cons st) fun _ => rfl
              · cases h1
            · cases h1
          · rename_i ca h0 h2
            obtain ⟨C, h1, rfl⟩ := Option.map_eq_some_iff.mp h
            obtain ⟨st, pe, _⟩ := ih _ _ h2
            unfold isiC at h1
            split at h1
            · split at h1
              · rename_i hy
                cases h1
                rw [Bool.and_eq_true] at hy
                obtain ⟨G, hd⟩ := S.isa _ (by simpa using hy.1)
                exact val (e_isa (y := C) S.O g1 (bl _ (by decide +kernel)) (gl_ok S hy.2).1 hd G pe fun es => star_cons st) fun _ => rfl
              · cases h1
            · cases h1
          · cases h
        split at h
        · rename_i hcau
          rw [Bool.and_eq_true] at hcau
          obtain rfl := of_decide_eq_true hcau.1
          rcases S.lam with q | L
          · rw [q.1] at hcau
            cases hcau.2
          split at h
          · split at h
            · rename_i ca bs h1 h2
              cases h
              obtain ⟨st, pe, _⟩ := ih _ _ h1
              obtain ⟨Ca, G, hex⟩ := L.cau
              refine val (e_caught (n := lv) S.O G L.room g1 g2 hex L.cl L.lq (fun j l hl cb hcb => ?_) pe (star_cons st)) fun _ => rfl
              rw [L.lm] at hl
              obtain ⟨np, LS⟩ := L.ok l (List.mem_of_getElem? hl)
              refine ⟨LS, fun _ _ _ _ _ => bind0 np, fun E A outer s H f e sz hr hg H0 Ex hx => ?_⟩
              exact (cE_ok n (S.lamb L LS hr hg) hx _ _ (cLs_at h2 hl hcb)).2.1
            · cases h
          · cases h
        · split at h
          · rename_i cs m F h1 h2
            split at h
            · rename_i hm
              cases h
              have hm := of_decide_eq_true hm
              obtain ⟨pl, pg⟩ := cEs_ok ih h1
              have sts := cEs_star (fun e ce h => (ih e ce h).1) h1
              have T := S.fns _ _ _ h2 X EE rfl rfl rfl rfl rfl rfl S.pass
              have hn : cs.len = m := by rw [cEs_len h1, hm]; rfl
              have s2 := fun (q : Pos) => star_none (pos := q) (env := X.env) fun e he => sts e (List.mem_cons_of_mem _ he)
              by_cases hf : F.fl = true
              · exact val (call_fl S.O hX T hn hf g1 g2 pg (star_cons (sts _ List.mem_cons_self)) (s2 _)) fun _ => rfl
              · exact val (call_ok S.O hX T hn (Bool.not_eq_true _ ▸ hf) g1 g2 pl (star_cons (sts _ List.mem_cons_self)) (s2 _)) fun _ => rfl
            · cases h
          · rename_i cs h1 h2
            obtain ⟨q, h3, rfl⟩ := Option.map_eq_some_iff.mp h
            obtain ⟨pl, pg⟩ := cEs_ok ih h1
            have sts := cEs_star (fun e ce h => (ih e ce h).1) h1
            have s2 := fun (q : Pos) => star_none (pos := q) (env := X.env) fun e he => sts e (List.mem_cons_of_mem _ he)
            obtain ⟨rr, ok, hm, hn, hh⟩ := prB_ok (H0 := H0) S h3
            rcases hh with ⟨id, cr, bt⟩ | ⟨T, cr, bt⟩
            · exact val (p_blt cr ok g1 hm bt pg hn g2 (star_cons (sts _ List.mem_cons_self)) (s2 _)) fun _ => rfl
            · exact val (p_ty cr ok g1 hm bt pg hn g2 (star_cons (sts _ List.mem_cons_self)) (s2 _)) fun _ => rfl
          · cases h
      · split at h
        · cases h
        split at h
        · rename_i i cs h1 h2
          obtain ⟨a1, a2, a3, a4⟩ := var_ok S h1
          obtain ⟨pl, pg⟩ := cEs_ok ih h2
          have sts := cEs_star (fun e ce h => (ih e ce h).1) h2
          have s2 := fun (q : Pos) => star_none (pos := q) (env := X.env) fun e he => sts e (List.mem_cons_of_mem _ he)
          split at h
          rotate_left
          · cases h
            exact val (callw_ok S.O hX (fun y m F hl => S.fvs y m F hl X EE rfl rfl rfl rfl rfl rfl S.pass) (fun l q m F hl => S.lls l q m F hl X EE rfl rfl rfl rfl rfl rfl S.pass) a1 a2 a3 a4 pl (star_cons (sts _ List.mem_cons_self)) (s2 _)
              (callv_ok S.O hX (fun y m F hl => S.fvs y m F hl X EE rfl rfl rfl rfl rfl rfl S.pass) a1 a2 a3 a4 pl (star_cons (sts _ List.mem_cons_self)) (s2 _))) fun _ => rfl
          cases h
          exact val (callv_ok S.O hX (fun y m F hl => S.fvs y m F hl X EE rfl rfl rfl rfl rfl rfl S.pass) a1 a2 a3 a4 pl (star_cons (sts _ List.mem_cons_self)) (s2 _)) fun _ => rfl
        · cases h
    -- f(x = a, ..)
    · split at h
      · rename_i hg
        obtain ⟨g1, g2⟩ := gl_ok S hg
        split at h
        · rename_i xs cs h1
          split at h
          · rename_i pm m F h2
            cases h
            obtain ⟨k1, k2, k3, k4, k5⟩ := cKs_ok ih h1
            obtain ⟨hn, T⟩ := S.kfns _ _ _ _ _ h2
            exact val (e_callk S.O hX (T X EE rfl rfl rfl rfl rfl rfl S.pass) hn k5 g1 g2 k1 (k2 _) (k3 _) (by rw [k4]; rfl)) fun _ => rfl
          · cases h
        · cases h
      · cases h
    -- a lambda
    · split at h
      · rename_i hp
        rw [Bool.and_eq_true] at hp
        obtain ⟨j, h1, rfl⟩ := Option.map_eq_some_iff.mp h
        have h1 := lamIx_get hp.1 h1
        rcases S.lam with q | L
        · rw [q.1] at h1
          simp at h1
        obtain ⟨cd, P, TB, hcode, hm, hu⟩ := L.tab
        exact val (e_lam (l := ⟨_, _, _⟩) (by rw [L.lm]; exact h1) TB hcode L.cl L.lq hm hu (def0 hp.1) (LamX.lamS_by (by rw [S.sc]; exact hp.2))) fun _ => rfl
      · split at h
        · rename_i l hl
          split at h
          · rename_i hcl
            cases h
            obtain ⟨rfl, as, has⟩ := lamEq_sound (by simpa using List.find?_some hl)
            rcases S.lam with q | L
            · rw [q.2] at hl
              simp at hl
            obtain ⟨cd, P, TB, hcode, hm, hu⟩ := L.tab
            have hq : c.xs.lq = Γ.xt.mkq := L.mkq.elim (fun z => by rw [z] at hl; simp at hl) id
            refine val (?_ : PE X (.Lambda _ _ _ _) (tr c H0 Ex (.lit (.lamc ⟨_, _, _⟩ Γ.xt.mkq)))) fun _ => rfl
            rw [← hq]
            exact e_lamc (l := ⟨_, _, _⟩) TB hcode L.cl L.lq hm hu (defP has) hcl
          · cases h
        · cases h
    -- o.m(a, b)
    · split at h
      · rename_i hm
        simp only [Bool.and_eq_true] at hm
        obtain ⟨⟨hm, hb⟩, hl⟩ := hm
        obtain rfl := of_decide_eq_true hm
        split at h
        · rename_i co ca cb h1 h2 h3
          cases h
          exact val (e_get S.O (ih _ _ h1).2.1 (ih _ _ h2).2.1 (ih _ _ h3).2.1 (M2.ok hb hl (ih _ _ h2).1 (ih _ _ h3).1)) fun _ => rfl
        · cases h
      · split at h
        · rename_i hm
          rw [Bool.and_eq_true] at hm
          obtain ⟨hm, hl⟩ := hm
          obtain rfl := of_decide_eq_true hm
          split at h
          · split at h
            · rename_i i ca cb h1 h2 h3
              cases h
              obtain ⟨a1, a2, a3, a4⟩ := var_ok S h1
              exact val (e_popd S.O a1 a2 a3 a4 (ih _ _ h2).2.1 (ih _ _ h3).2.1 (M2.ok rfl hl (ih _ _ h2).1 (ih _ _ h3).1)) fun _ => rfl
            · cases h
          · cases h
        · cases h
    -- x.pop(a)
    · split at h
      · rename_i hm
        rw [Bool.and_eq_true] at hm
        obtain ⟨hm, hl⟩ := hm
        obtain rfl := of_decide_eq_true hm
        split at h
        · rename_i i ca h1 h2
          cases h
          obtain ⟨a1, a2, a3, a4⟩ := var_ok S h1
          exact val (e_popl S.O a1 a2 a3 a4 (ih _ _ h2).2.1 (Me.ok rfl hl (ih _ _ h2).1)) fun _ => rfl
        · cases h
      · cases h
    -- [e for t in it if c]
    · split at h
      · rename_i hb
        rw [Bool.and_eq_true, Bool.not_eq_true'] at hb
        obtain ⟨hb, hset⟩ := hb
        split at h
        · rename_i t ci o h1 h2 h3
          split at h
          · rename_i ce' co h4 h5
            split at h
            · rename_i htv
              cases h
              refine val (comp_fin hX htv fun H0 Ex hX => comp_base S hb hset (cIt_ok S (cE_ok n S hX) h2) htv (fun s H C cl fp => cTg_pg (S.inner hb s H C cl fp) h1) (fun s H C cl fp => onl_ok (cE_ok n (S.inner hb s H C cl fp) XS.noX) h3 h5) fun s H C cl fp => (cE_ok n (S.inner hb s H C cl fp) XS.noX _ _ h4).2.1) fun _ => rfl
            · cases h
          · cases h
        · cases h
      · cases h
    -- two clauses
    · split at h
      · rename_i hb
        simp only [Bool.and_eq_true, Bool.not_eq_true'] at hb
        obtain ⟨⟨hb, hset⟩, hset2⟩ := hb
        split at h
        · rename_i t ci o t2 ci2 o2 h1 h2 h3 h4 h5 h6
          split at h
          · rename_i ce' co co2 h7 h8 h9
            split at h
            · rename_i htv
              simp only [Bool.and_eq_true] at htv
              obtain ⟨⟨htv, htv2⟩, hkk⟩ := htv
              cases h
              rw [tgl_eq]
              refine val (comp2_fin hX htv hkk fun H0 Ex hX => comp2_base S hb hset hset2 (cIt_ok S (cE_ok n S hX) h2) htv2 (fun s H C cl fp => cTg_pg (S.inner hb s H C cl fp) h1) (fun s H C cl fp => onl_ok (cE_ok n (S.inner hb s H C cl fp) XS.noX) h3 h8)
                (fun s H C cl fp => cIt_ok (S.inner hb s H C cl fp) (cE_ok n (S.inner hb s H C cl fp) XS.noX) h5) (fun s H C cl fp => cTg_pg (S.inner hb s H C cl fp) h4) (fun s H C cl fp => onl_ok (cE_ok n (S.inner hb s H C cl fp) XS.noX) h6 h9) fun s H C cl fp => (cE_ok n (S.inner hb s H C cl fp) XS.noX _ _ h7).2.1) fun _ => rfl
            · cases h
          · cases h
        · cases h
      · cases h
    · cases h
end
end Z
end T_ZJ
section T_ZK
namespace Z
open PySem L2
section
variable {env : PySem.Env} {ts vs : List Expr} {k k2 : Nat} {p p2 : Pos}
def nmOf : Expr → Option Str
  | .Name id _ => some id
  | _ => none
def swNames (env : PySem.Env) (ts : List Expr) : List Str := ts.filterMap fun
    | .Name id pos => if env.kindOf id == some .local && pos.line == (ts.head?.map (·.pos.line)).getD 0 then some id else none
    | _ => none
theorem sw_short (h : (ts.length == 2 || ts.length == 3) = false) : swappedStores [.Tuple ts k p] (.Tuple vs k2 p2) env = pure none := by
  simp only [swappedStores, h, Bool.not_false, Bool.true_or, if_true]
theorem sw_names (hb : env.blockKind = .function) (hl : (ts.length == 2 || ts.length == 3) = true) (hv : (vs.length == ts.length) = true) (hst : (vs.all fun e => !isStar e) = true) :
    swappedStores [.Tuple ts k p] (.Tuple vs k2 p2) env = if (swNames env ts).length != ts.length || (swNames env ts).eraseDups.length != (swNames env ts).length then pure none
      else if vs.all (foldedForSure 8) then pure none else if vs.all (constantsAlone 8) then (do unsupported "assign.tuple-of-constant-expressions:order-of-the-stores"; pure (some (swNames env ts))) else pure (some (swNames env ts)) := by
  simp only [swappedStores, hl, hv, hb, bne, Bool.not_true, Bool.false_or, beq_self_eq_true, Bool.or_self, if_false, Bool.false_eq_true]
  refine (if_neg ?_).trans ?_
  · intro z
    rw [List.any_eq_true] at z
    obtain ⟨e, he, hz⟩ := z
    have := List.all_eq_true.mp hst e he
    cases e <;> first | (cases hz; done) | (cases this; done)
  · rfl
theorem fm_len {α β : Type} {f : α → Option β} : ∀ {l : List α}, (l.filterMap f).length = l.length → ∀ x ∈ l, (f x).isSome = true
  | [], _, x, h => nomatch h
  | a :: l, h, x, hx => by
    cases e : f a with
    | none =>
      rw [List.filterMap_cons, e] at h
      have := List.length_filterMap_le f l
      simp only [List.length_cons] at h
      omega
    | some b =>
      rw [List.filterMap_cons, e] at h
      rcases List.mem_cons.mp hx with z | z
      · subst z; rw [e]; rfl
      · exact fm_len (by simpa using h) x z
end
section
variable {lv : Nat} {Γ : Ct} {CX : CXT} {c : Cn} {X : Cx} {EE : XK} {Ex : Xn → Prop} {H0 : Hp}
variable {a b e : Expr} {es ts vs : List Expr} {pos p : Pos} {ca cb cc ce : CE} {cs : CL}
theorem sw_lc {elt : Expr} {gs : List Comprehension} {scope : Scope} {y : Str} {py : Pos} {l : Nat} {env : PySem.Env} : swapsWith (.ListComp elt gs scope pos) (some (.Name y py)) l env =
    pure (env.blockKind == .function && env.kindOf y == some .local && py.line == pos.line && !(scope.names.any fun (n, k) => n == y && (k == .local || k == .cell))) := rfl
theorem Sat.bk (S : Sat lv Γ CX c X EE) : X.env.blockKind = .function := by unfold Env.blockKind; rw [S.kindf]; rfl
theorem swNo (S : Sat lv Γ CX c X EE) (h : swLoc Γ ts = false) : (swNames X.env ts).length ≠ ts.length := fun e => by
  have := fm_len e
  have h2 : swLoc Γ ts = true := by
    unfold swLoc
    rw [List.all_eq_true]
    intro t ht
    have := this t ht
    cases t <;> try (cases this; done)
    rename_i x q
    simp only at this ⊢
    split at this
    · rename_i hc
      rw [Bool.and_eq_true, beq_iff_eq] at hc
      rw [Bool.and_eq_true, decide_eq_true_eq]
      refine ⟨?_, hc.2⟩
      have := hc.1
      unfold Env.kindOf at this
      rw [S.sc] at this
      exact this
    · cases this
  rw [h] at h2; cases h2
theorem two_of_len {α : Type} {l : List α} (h : l.length = 2) : ∃ a b, l = [a, b] := by
  match l, h with
  | [a, b], _ => exact ⟨a, b, rfl⟩
theorem three_of_len {α : Type} {l : List α} (h : l.length = 3) : ∃ a b d, l = [a, b, d] := by
  match l, h with
  | [a, b, d], _ => exact ⟨a, b, d, rfl⟩
theorem parN_cons {t : Expr} {is : List (Nat × Bool)} (h : parN Γ (t :: ts) = some is) : ∃ x q i js, t = .Name x q ∧ Γ.slot x = some i ∧ parN Γ ts = some js ∧ (js.map (·.1)).contains i = false ∧ is = (i, Γ.own.contains i) :: js := by
  cases t <;> try (cases h; done)
  rename_i x q
  unfold parN at h
  split at h
  · rename_i i js h1 h2
    split at h
    · cases h
    · rename_i hc
      cases h
      exact ⟨x, q, i, js, rfl, h1, h2, Bool.not_eq_true _ ▸ hc, rfl⟩
  · cases h
theorem swNames_all (S : Sat lv Γ CX c X EE) : ∀ {us : List Expr} {l : Nat}, (us.all fun
  | .Name x p => decide (Γ.kd x = some .local) && (p.line == l)
  | _ => false) = true → (us.filterMap fun
    | .Name id pos => if X.env.kindOf id == some .local && pos.line == l then some id else none
    | _ => none) = us.filterMap nmOf
  | [], _, _ => rfl
  | u :: us, l, h => by
    rw [List.all_cons, Bool.and_eq_true] at h
    obtain ⟨h1, h2⟩ := h
    cases u <;> try (cases h1; done)
    rename_i x q
    simp only [Bool.and_eq_true, decide_eq_true_eq] at h1
    have hk : X.env.kindOf x = some .local := by unfold Env.kindOf; rw [S.sc]; exact h1.1
    have ih := swNames_all S h2
    simp only [List.filterMap_cons, hk, h1.2, beq_self_eq_true, Bool.and_self, if_true, nmOf]
    rw [ih]
theorem VX.add {es : List VE} {q : Addr} {o : HO} {Z ZZ : Addr → Prop} {σ : L2.St} {Hs H : Hp} {ρ : Env} (x : VX c H0 Z ZZ σ Hs H ρ es) (hq : H q = none) : VX c H0 Z ZZ σ Hs (upd H q o) ρ es := by
  have st : Stp c.ws σ ρ H σ ρ (upd H q o) := .new hq
  refine ⟨x.re.new hq, x.sub, x.wz, x.al, x.zz, fun e he => ?_, x.nd⟩
  have := x.en e he
  obtain ⟨v, d, k⟩ := e
  cases k with
  | own j => exact this
  | cln => exact Rep.to (st.R x.re.wz) this
  | new =>
    obtain ⟨a, e1, e2, e3, e4, e5⟩ := this
    exact ⟨a, e1, e2, e3, e4, e5.to (st.R x.re.wz) (upd_ne fun z => e5.al (z ▸ hq))⟩
theorem s_parT {i j : Nat} {o q : Bool} {st : Stmt} (O : XOk c X) (h : PS X st (tAsg (tTup (tCons (tr c H0 Ex ca) (tCons (tr c H0 Ex cb) tNil))) (gTup X.K 2 (gNames [i, j])))) : PS X st (trS c H0 Ex (.par [(i, o), (j, q)] (.cons ca (.cons cb .nil)))) := by
  refine PS.imp h fun Dn σ H h => ?_
  obtain ⟨Z, ρ, K, r, hev, hk⟩ := h
  rw [evS] at hev
  refine ⟨Z, ρ, _, r, hev, fun d k ρ1 v H1 hp r1 s1 v1 => ?_⟩
  obtain ⟨n1, hp⟩ := hp
  obtain ⟨Z1, x1⟩ := VX.one r1 r.al s1.al v1 n1
  refine ⟨Z1, ρ1, _, x1.re, hp, fun d2 k2 ρ2 w H2 hp2 r2 s2 v2 => ?_⟩
  obtain ⟨n2, hp2⟩ := hp2
  obtain ⟨Z2, x2⟩ := x1.snoc s1.al r2 s2 v2 n2
  refine ⟨by show 2 ≤ sizeLine; decide, fun t ht => ?_⟩
  have x3 := x2.add (o := .tup [v, w]) ht
  obtain ⟨ρ3, Z3, hp3, x4, t4⟩ := x3.sto hp2
  obtain ⟨ρ4, Z4, hp4, x5, t5⟩ := x4.sto hp3
  exact ⟨t, [v, w], rfl, .inl (.inl upd_same), rfl, v, [w], rfl, w, [], rfl, rfl, hk.nx _ _ _ hp4 x5.end (t5 (t4 ((s1.trans s2).trans (.new ht))))⟩
theorem s_parT3 {i j l : Nat} {o q q3 : Bool} {st : Stmt} (O : XOk c X) (h : PS X st (tAsg (tTup (tCons (tr c H0 Ex ca) (tCons (tr c H0 Ex cb) (tCons (tr c H0 Ex cc) tNil)))) (gTup X.K 3 (gNames [i, j, l])))) : PS X st (trS c H0 Ex (.par [(i, o), (j, q), (l, q3)] (.cons ca (.cons cb (.cons cc .nil))))) := by
  refine PS.imp h fun Dn σ H h => ?_
  obtain ⟨Z, ρ, K, r, hev, hk⟩ := h
  rw [evS] at hev
  refine ⟨Z, ρ, _, r, hev, fun d k ρ1 v H1 hp r1 s1 v1 => ?_⟩
  obtain ⟨n1, hp⟩ := hp
  obtain ⟨Z1, x1⟩ := VX.one r1 r.al s1.al v1 n1
  refine ⟨Z1, ρ1, _, x1.re, hp, fun d2 k2 ρ2 w H2 hp2 r2 s2 v2 => ?_⟩
  obtain ⟨n2, hp2⟩ := hp2
  obtain ⟨Z2, x2⟩ := x1.snoc s1.al r2 s2 v2 n2
  refine ⟨Z2, ρ2, _, x2.re, hp2, fun d3 k3 ρ3 u H3 hp3 r3 s3 v3 => ?_⟩
  obtain ⟨n3, hp3⟩ := hp3
  obtain ⟨Z3, x3⟩ := x2.snoc (s1.trans s2).al r3 s3 v3 n3
  refine ⟨by show 3 ≤ sizeLine; decide, fun t ht => ?_⟩
  have x3' := x3.add (o := .tup [v, w, u]) ht
  obtain ⟨ρ4, Z4, hp4, x4, t4⟩ := x3'.sto hp3
  obtain ⟨ρ5, Z5, hp5, x5, t5⟩ := x4.sto hp4
  obtain ⟨ρ6, Z6, hp6, x6, t6⟩ := x5.sto hp5
  exact ⟨t, [v, w, u], rfl, .inl (.inl upd_same), rfl, v, [w, u], rfl, w, [u], rfl, u, [], rfl, rfl, hk.nx _ _ _ hp6 x6.end (t6 (t5 (t4 (((s1.trans s2).trans s3).trans (.new ht)))))⟩
end
end Z
end T_ZK
section T_ZL
namespace Z
open PySem L2
section
variable {lv : Nat} {Γ : Ct} {CX : CXT} {c : Cn} {X : Cx} {EE : XK} {Ex : Xn → Prop} {H0 : Hp}
variable {a b e : Expr} {es ts vs : List Expr} {pos p : Pos} {ca cb cc ce : CE} {cs : CL}
/-- what a comprehension's compilation tells -/
theorem lc_data {n : Nat} {elt : Expr} {gs : List Comprehension} {scope : Scope} (h : cE n Γ (.ListComp elt gs scope pos) = some ce) :
    (∃ tg it ifs t ci o ce' co m, gs = [⟨tg, it, ifs, 0⟩] ∧ n = m + 1 ∧ blkC Γ.N Γ.sc scope = true ∧ isSet it = false ∧ cTg (Γ.inner scope) tg = some t ∧ cIt (cE m Γ) Γ tg it = some ci ∧ onl ifs = some o ∧ cE m (Γ.inner scope) elt = some ce' ∧
      cOp (cE m (Γ.inner scope)) o = some co ∧ tgIn t (ownVs Γ scope) = true ∧ ce = .comp (ownVs Γ scope) ce' t ci co) ∨
    (∃ tg it ifs t ci o tg2 it2 ifs2 t2 ci2 o2 ce' co co2 m, gs = [⟨tg, it, ifs, 0⟩, ⟨tg2, it2, ifs2, 0⟩] ∧ n = m + 1 ∧ blkC Γ.N Γ.sc scope = true ∧ isSet it = false ∧ isSet it2 = false ∧ cTg (Γ.inner scope) tg = some t ∧ cIt (cE m Γ) Γ tg it = some ci ∧ onl ifs = some o ∧
      cTg (Γ.inner scope) tg2 = some t2 ∧ cIt (cE m (Γ.inner scope)) (Γ.inner scope) tg2 it2 = some ci2 ∧ onl ifs2 = some o2 ∧ cE m (Γ.inner scope) elt = some ce' ∧ cOp (cE m (Γ.inner scope)) o = some co ∧ cOp (cE m (Γ.inner scope)) o2 = some co2 ∧
      tgIn t (ownVs Γ scope) = true ∧ tgIn t2 (ownVs Γ scope) = true ∧ (ksOf ci2 == [] || !(ksOf ci == [])) = true ∧ ce = .comp2 (ownVs Γ scope) (TgOk.tgs t2) ce' t ci co t2 ci2 co2) := by
  cases n with
  | zero => cases h
  | succ m =>
    unfold cE at h
    split at h <;> try (rename_i q; cases q; done)
    all_goals first
      | (rename_i heq; cases heq; done)
      | skip
    · rename_i heq
      cases heq
      split at h
      · rename_i hb
        rw [Bool.and_eq_true, Bool.not_eq_true'] at hb
        split at h
        · rename_i t ci o h1 h2 h3
          split at h
          · rename_i ce' co h4 h5
            split at h
            · rename_i htv
              cases h
              exact .inl ⟨_, _, _, t, ci, o, ce', co, m, rfl, rfl, hb.1, hb.2, h1, h2, h3, h4, h5, htv, rfl⟩
            · cases h
          · cases h
        · cases h
      · cases h
    · rename_i heq
      cases heq
      split at h
      · rename_i hb
        simp only [Bool.and_eq_true, Bool.not_eq_true'] at hb
        obtain ⟨⟨hb, hset⟩, hset2⟩ := hb
        split at h
        · rename_i t ci o t2 ci2 o2 h1 h2 h3 h4 h5 h6
          split at h
          · rename_i ce' co co2 h7 h8 h9
            split at h
            · rename_i htv
              simp only [Bool.and_eq_true] at htv
              obtain ⟨⟨htv, htv2⟩, hkk⟩ := htv
              cases h
              rw [tgl_eq]
              exact .inr ⟨_, _, _, t, ci, o, _, _, _, t2, ci2, o2, ce', co, co2, m, rfl, rfl, hb, hset, hset2, h1, h2, h3, h4, h5, h6, h7, h8, h9, htv, htv2, hkk, rfl⟩
            · cases h
          · cases h
        · cases h
      · cases h
    · cases h
theorem asg_imp {st : Stmt} {i : Nat} {o : Bool} {t : TE} (h : PS X st (tAsg t (gName i))) (k : ∀ σ H Q, tr c H0 Ex ca σ H Q → t σ H Q) : PS X st (trS c H0 Ex (.asg i o ca)) :=
  s_asg (PS.imp h fun D σ H q => k _ _ _ q)
theorem lcS_fin {st : Stmt} {vs : List Nat} {t : Tg} {ci : CI} {co : CO} {i : Nat} {o : Bool} (hX : XS c H0 Ex EE) (htv : tgIn t vs = true) (h : ∀ H0 Ex, XS c H0 Ex EE → PS X st (tAsg (tLc (trJ c H0 Ex ci) (gTg c.K t) (trC c H0 noX co) (tr c H0 noX ca) vs) (gName i))) : PS X st (trS c H0 Ex (.asg i o (.comp vs ca t ci co))) := by
  by_cases hk : ksOf ci = []
  · exact asg_imp (h H0 Ex hX) fun σ H Q q => lc_imp (gTg_ok t) (tgIn_ok htv) σ H Q ⟨frzn_no hk σ H, q⟩
  · obtain ⟨j, rfl⟩ := key_of hk
    refine PS.imp (s_asgLc (o := o) (Ex := noX) (gTg_ok t) (tgIn_ok htv) (fun H0 => h H0 noX XS.noX) H0) fun D σ H q => ?_
    obtain ⟨Z, ρ, K, r, hev, hk⟩ := q
    rw [evS, ev, evi] at hev
    exact ⟨Z, ρ, K, r, by rw [evS, ev, evi]; exact hev, hk⟩
theorem lc2S_fin {st : Stmt} {vs : List Nat} {t t2 : Tg} {ci ci2 : CI} {co co2 : CO} {i : Nat} {o : Bool} (hX : XS c H0 Ex EE) (htv : tgIn t vs = true) (hkk : (ksOf ci2 == [] || !(ksOf ci == [])) = true)
    (h : ∀ H0 Ex, XS c H0 Ex EE → PS X st (tAsg (tLc2 (trJ c H0 Ex ci) (gTg c.K t) (trC c H0 noX co) (trJ c H0 noX ci2) (gTg c.K t2) (trC c H0 noX co2) (tr c H0 noX ca) vs (TgOk.tgs t2)) (gName i))) : PS X st (trS c H0 Ex (.asg i o (.comp2 vs (TgOk.tgs t2) ca t ci co t2 ci2 co2))) := by
  by_cases hk : ksOf ci = []
  · have hk2 : ksOf ci2 = [] := by rw [hk] at hkk; simpa using hkk
    exact asg_imp (h H0 Ex hX) fun σ H Q q => lc2_imp (gTg_ok t) (tgIn_ok htv) (gTg_ok t2) (fun _ h => h) σ H Q ⟨frzn_no hk σ H, frzn_no hk2 σ H, q⟩
  · obtain ⟨j, rfl⟩ := key_of hk
    refine PS.imp (s_asgLc2 (o := o) (Ex := noX) (gTg_ok t) (tgIn_ok htv) (gTg_ok t2) (fun _ h => h) (fun H0 => h H0 noX XS.noX) H0) fun D σ H q => ?_
    obtain ⟨Z, ρ, K, r, hev, hk⟩ := q
    rw [evS, ev, evi] at hev
    exact ⟨Z, ρ, K, r, by rw [evS, ev, evi]; exact hev, hk⟩
theorem isComp_lc {n : Nat} (h : cE n Γ e = some ce) (hc : isComp e = true) : ∃ elt gs scope q, e = .ListComp elt gs scope q := by
  cases n with
  | zero => cases h
  | succ n => cases e <;> first | exact ⟨_, _, _, _, rfl⟩ | (cases hc; done) | (cases h; done)
/-- x = e -/
theorem asg_ok (S : Sat lv Γ CX c X EE) (hX : XS c H0 Ex EE) {n : Nat} {x : Str} {q : Pos} {i : Nat} (hi : Γ.slot x = some i) (h : cE n Γ e = some ce) (o : Bool) : PS X (.Assign [.Name x q] e pos) (trS c H0 Ex (.asg i o ce)) := by
  obtain ⟨b1, b2, b3⟩ := slot_ok S hi
  by_cases hc : isComp e = true
  · obtain ⟨elt, gs, scope, q2, rfl⟩ := isComp_lc h hc
    cases hsw : (X.env.blockKind == .function && X.env.kindOf x == some .local && q.line == q2.line && !(scope.names.any fun (n, k) => n == x && (k == .local || k == .cell))) with
    | false =>
      have hs : swapsWith (.ListComp elt gs scope q2) (some (.Name x q)) pos.line X.env = pure false := by rw [sw_lc, hsw]
      exact s_asg (ps_set S.O.nd b1 b2 (cE_ok n S hX _ _ h).2.1 hs b3)
    | true =>
      have hs : swapsWith (.ListComp elt gs scope q2) (some (.Name x q)) pos.line X.env = pure true := by rw [sw_lc, hsw]
      have hyl : X.env.scope.names.lookup x = some .local := by
        simp only [Bool.and_eq_true, beq_iff_eq] at hsw
        exact hsw.1.1.2
      rcases lc_data h with ⟨tg, it, ifs, t, ci, oo, ce', co, m, rfl, rfl, hb, hset, h1, h2, h3, h4, h5, htv, rfl⟩ | ⟨tg, it, ifs, t, ci, oo, tg2, it2, ifs2, t2, ci2, o2, ce', co, co2, m, rfl, rfl, hb, hset, hset2, h1, h2, h3, h4, h5, h6, h7, h8, h9, htv, htv2, hkk, rfl⟩
      · refine lcS_fin hX htv fun H0 Ex hX => ?_
        exact ps_setLc S.O.calm S.O.nd b1 hyl hs (cIt_ok S (cE_ok m S hX) h2) (blk_ok S hb) (fun s H C cl fp => cTg_pg (S.inner hb s H C cl fp) h1) (fun s H C cl fp => onl_ok (cE_ok m (S.inner hb s H C cl fp) XS.noX) h3 h5) (fun s H C cl fp => (cE_ok m (S.inner hb s H C cl fp) XS.noX _ _ h4).2.1) (set_ok hset)
      · refine lc2S_fin hX htv hkk fun H0 Ex hX => ?_
        exact ps_setLc2 S.O.calm S.O.nd b1 hyl hs (cIt_ok S (cE_ok m S hX) h2) (blk_ok S hb) (tgIn_ok htv2) (fun s H C cl fp => cTg_pg (S.inner hb s H C cl fp) h1) (fun s H C cl fp => onl_ok (cE_ok m (S.inner hb s H C cl fp) XS.noX) h3 h8)
          (fun s H C cl fp => cIt_ok (S.inner hb s H C cl fp) (cE_ok m (S.inner hb s H C cl fp) XS.noX) h5) (fun s H C cl fp => cTg_pg (S.inner hb s H C cl fp) h4) (fun s H C cl fp => onl_ok (cE_ok m (S.inner hb s H C cl fp) XS.noX) h6 h9) (fun s H C cl fp => (cE_ok m (S.inner hb s H C cl fp) XS.noX _ _ h7).2.1) (set_ok hset) fun env => set_ok hset2
  · exact s_asg (ps_set S.O.nd b1 b2 (cE_ok n S hX _ _ h).2.1 (swaps_no (Bool.not_eq_true _ ▸ hc)) b3)
theorem opA_ok {op : Operator} {o : O2} (h : opA op = some o) : ∃ r, PIp X op r ∧ IpOk c o r := by
  cases op <;> cases h
  · exact ⟨_, ip_add', ipok_add⟩
  · exact ⟨_, fun pins s σ H x y v u Q I rx ry h => iop_sub pins s σ H x y v u Q I rx ry h, ipok_sub⟩
  · exact ⟨_, fun pins s σ H x y v u Q I rx ry h => iop_mul pins s σ H x y v u Q I rx ry h, ipok_mul⟩
  · exact ⟨_, fun pins s σ H x y v u Q I rx ry h => iop_mod pins s σ H x y v u Q I rx ry h, ipok_mod⟩
  · exact ⟨_, fun pins s σ H x y v u Q I rx ry h => iop_fdiv pins s σ H x y v u Q I rx ry h, ipok_fdiv⟩
def SndS (Γ : Ct) (c : Cn) (X : Cx) (Ex : Xn → Prop) (H0 : Hp) (f : Stmt → Option CS) : Prop := ∀ s cs, f s = some cs → PS X s (trS c H0 Ex cs)
theorem cBs_ok {f : Stmt → Option CS} (hf : SndS Γ c X Ex H0 f) : ∀ {l : List Stmt} {cb : CB}, cBs f l = some cb → PSs X l (trBs c H0 Ex cb)
  | [], _, h => by cases h; exact b_nil
  | s :: l, cb, h => by
    unfold cBs at h
    split at h
    · rename_i ca cb h1 h2
      cases h
      exact b_cons (hf _ _ h1) (cBs_ok hf h2)
    · cases h
theorem key_itX {it : CI} (h : ksOf it ≠ []) : itX it Ex = noX := by
  obtain ⟨i, rfl⟩ := key_of h
  rfl
theorem key_itX' {it : CI} (h : ksOf it = []) : itX it Ex = Ex := by
  cases it <;> first | rfl | cases h
theorem swaps_sub {o k : Expr} {q : Pos} {l : Nat} {env : PySem.Env} : swapsWithSole [.Subscript o k q] e l env = pure false := by cases e <;> rfl
theorem stores_sub {o k : Expr} {q : Pos} {env : PySem.Env} : swappedStores [.Subscript o k q] e env = pure none := by cases e <;> rfl
theorem swaps_tup {ts : List Expr} {j : Nat} {q : Pos} {l : Nat} {env : PySem.Env} : swapsWithSole [.Tuple ts j q] e l env = pure false := by cases e <;> rfl
theorem stores_tup {ts : List Expr} {j : Nat} {q : Pos} {env : PySem.Env} (h : isTup e = false) : swappedStores [.Tuple ts j q] e env = pure none := by cases e <;> first | rfl | cases h
theorem asg_sub {o k : Expr} {q : Pos} {env : PySem.Env} (h : isSlice k = false) (v : Value) : assign (.Subscript o k q) env v = (do
      let ov ← holding [v] (eval o env)
      let iv ← holding [v, ov] (eval k env)
      standAt q
      holding [v, ov, iv] (setItem ov iv v)
      release [v, ov, iv] []) := by cases k <;> first | rfl | cases h
theorem aug_sub {k : Expr} (h : isSlice k = false) (ov iv new : Value) : augStore k ov iv new = (do holding [new, ov, iv] (setItem ov iv new); release [new, ov, iv] []; pure .next) := by cases k <;> first | rfl | cases h
theorem asgE_tup {ts : List Expr} {j : Nat} {q : Pos} {env : PySem.Env} : (assignEach [.Tuple ts j q] env).map (·.2) = [assign (.Tuple ts j q) env] := rfl
theorem cNm_slots : ∀ {ts : List Expr} {is : List (Nat × Bool)}, parN Γ ts = some is → cNm Γ Γ.slot ts = some (is.map (·.1))
  | [], is, h => by cases h; rfl
  | t :: ts, is, h => by
    obtain ⟨x, q, i, js, rfl, h1, h2, h3, rfl⟩ := parN_cons h
    unfold cNm
    rw [h1, cNm_slots h2]
    rfl
/-- a, b = x, y -/
theorem par_ok (S : Sat lv Γ CX c X EE) (hX : XS c H0 Ex EE) {n : Nat} {k k2 : Nat} {q q2 : Pos} {is : List (Nat × Bool)} (hv : cEs (cE n Γ) vs = some cs) (hp : parN Γ ts = some is)
    (h2 : ts.length = 2 ∨ ts.length = 3) (hl : vs.length = ts.length)
    (hpar : (swappedStores [.Tuple ts k q] (.Tuple vs k2 q2) X.env = pure (some (ts.filterMap nmOf)) ∧ ∀ x p, .Name x p ∈ ts → X.env.scope.names.lookup x = some .local) ∨ swappedStores [.Tuple ts k q] (.Tuple vs k2 q2) X.env = pure none) :
    PS X (.Assign [.Tuple ts k q] (.Tuple vs k2 q2) pos) (trS c H0 Ex (.par is cs)) := by
  have ih := cE_ok (H0 := H0) n S hX
  have sts := cEs_star (fun e ce h => (ih e ce h).1) hv
  rcases h2 with h2 | h2
  · obtain ⟨a, b, rfl⟩ := two_of_len (hl.trans h2)
    obtain ⟨t, u, rfl⟩ := two_of_len h2
    obtain ⟨x, px, i, js, rfl, s1, hp2, d1, rfl⟩ := parN_cons hp
    obtain ⟨y, py, j, ks, rfl, s2, hp3, d2, rfl⟩ := parN_cons hp2
    cases hp3
    have hij : i ≠ j := fun e => by subst e; simp at d1
    unfold cEs at hv
    split at hv
    · rename_i ca cr h3 h4
      unfold cEs at h4
      split at h4
      · rename_i cb cr2 h5 h6
        cases h6; cases h4; cases hv
        obtain ⟨a1, a2, a3⟩ := slot_ok S s1
        obtain ⟨b1, b2, b3⟩ := slot_ok S s2
        have pa : PA X [a, b] (tCons (tr c H0 Ex ca) (tCons (tr c H0 Ex cb) tNil)) := pa_cons (ih _ _ h3).2.1 (pa_cons (ih _ _ h5).2.1 pa_nil (star_cons (ih _ _ h5).1)) (star_cons (ih _ _ h3).1)
        rcases hpar with ⟨hw, hloc⟩ | hw
        · exact s_par (ps_par S.O.calm S.O.nd a1 b1 hij (hloc x px List.mem_cons_self) (hloc y py (List.mem_cons_of_mem _ List.mem_cons_self)) pa hw swaps_tup)
        · obtain ⟨g1, g2, g3⟩ := cNm_ok S (cNm_slots hp)
          exact s_parT S.O (ps_asg (pe_tup pa) (pg_tup S.O.calm g1 g2 g3) swaps_tup hw asgE_tup)
      · cases h4
    · cases hv
  · obtain ⟨a, b, d, rfl⟩ := three_of_len (hl.trans h2)
    obtain ⟨t, u, w, rfl⟩ := three_of_len h2
    obtain ⟨x, px, i, js, rfl, s1, hp2, d1, rfl⟩ := parN_cons hp
    obtain ⟨y, py, j, ks, rfl, s2, hp3, d2, rfl⟩ := parN_cons hp2
    obtain ⟨z, pz, l, ls, rfl, s3, hp4, d3, rfl⟩ := parN_cons hp3
    cases hp4
    have hij : i ≠ j := fun e => by subst e; simp at d1
    have hil : i ≠ l := fun e => by subst e; simp at d1
    have hjl : j ≠ l := fun e => by subst e; simp at d2
    unfold cEs at hv
    split at hv
    · rename_i ca cr h3 h4
      unfold cEs at h4
      split at h4
      · rename_i cb cr2 h5 h6
        unfold cEs at h6
        split at h6
        · rename_i cd cr3 h7 h8
          cases h8; cases h6; cases h4; cases hv
          obtain ⟨a1, a2, a3⟩ := slot_ok S s1
          obtain ⟨b1, b2, b3⟩ := slot_ok S s2
          obtain ⟨e1, e2, e3⟩ := slot_ok S s3
          have pa : PA X [a, b, d] (tCons (tr c H0 Ex ca) (tCons (tr c H0 Ex cb) (tCons (tr c H0 Ex cd) tNil))) :=
            pa_cons (ih _ _ h3).2.1 (pa_cons (ih _ _ h5).2.1 (pa_cons (ih _ _ h7).2.1 pa_nil (star_cons (ih _ _ h7).1)) (star_cons (ih _ _ h5).1)) (star_cons (ih _ _ h3).1)
          rcases hpar with ⟨hw, hloc⟩ | hw
          · exact s_par3 (ps_par3 S.O.calm S.O.nd a1 b1 e1 hij hil hjl (hloc x px (by simp)) (hloc y py (by simp)) (hloc z pz (by simp)) pa hw swaps_tup)
          · obtain ⟨g1, g2, g3⟩ := cNm_ok S (cNm_slots hp)
            exact s_parT3 S.O (ps_asg (pe_tup pa) (pg_tup S.O.calm g1 g2 g3) swaps_tup hw asgE_tup)
        · cases h6
      · cases h4
    · cases hv
end
end Z
end T_ZL
section T_ZM
namespace Z
open PySem L2
section
variable {lv : Nat} {Γ : Ct} {CX : CXT} {c : Cn} {X : Cx} {EE : XK} {Ex : Xn → Prop} {H0 : Hp}
variable {a b e : Expr} {es ts vs : List Expr} {pos p : Pos} {ca cb cc ce : CE} {cs : CL}
theorem swLoc_names (S : Sat lv Γ CX c X EE) (h : swLoc Γ ts = true) : swNames X.env ts = (ts.filterMap nmOf) ∧ ∀ x p, Expr.Name x p ∈ ts → X.env.scope.names.lookup x = some .local := by
  refine ⟨swNames_all S h, fun x p hx => ?_⟩
  have := List.all_eq_true.mp h _ hx
  simp only [Bool.and_eq_true, decide_eq_true_eq] at this
  rw [S.sc]; exact this.1
theorem parN_names : ∀ {ts : List Expr} {is : List (Nat × Bool)}, parN Γ ts = some is → (ts.filterMap nmOf).length = ts.length ∧ (ts.filterMap nmOf).Nodup ∧
    ∀ x ∈ (ts.filterMap nmOf), ∃ i ∈ is.map (·.1), Γ.slot x = some i
  | [], is, h => by cases h; exact ⟨rfl, .nil, fun _ h => nomatch h⟩
  | t :: ts, is, h => by
    obtain ⟨x, q, i, js, rfl, h1, h2, h3, rfl⟩ := parN_cons h
    obtain ⟨a1, a2, a3⟩ := parN_names h2
    simp only [List.filterMap_cons, nmOf]
    refine ⟨by simp only [List.length_cons]; rw [a1], List.nodup_cons.mpr ⟨fun hx => ?_, a2⟩, fun y hy => ?_⟩
    · obtain ⟨j, hj, hs⟩ := a3 x hx
      rw [h1] at hs; cases hs
      simp only [List.contains_eq_mem, decide_eq_false_iff_not] at h3
      exact h3 hj
    · rcases List.mem_cons.mp hy with z | z
      · subst z; exact ⟨i, List.mem_cons_self, h1⟩
      · obtain ⟨j, hj, hs⟩ := a3 y z
        exact ⟨j, List.mem_cons_of_mem _ hj, hs⟩
theorem nodup_erase {l : List Str} (h : l.Nodup) : l.eraseDups = l := by
  induction l with
  | nil => rfl
  | cons x l ih =>
    rw [List.eraseDups_cons]
    have hx := List.nodup_cons.mp h
    have : l.filter (fun b => !b == x) = l := by
      rw [List.filter_eq_self]
      intro y hy
      have : y ≠ x := fun e => hx.1 (e ▸ hy)
      simp [this]
    rw [this, ih hx.2]
theorem cS_ok : ∀ (n : Nat) {Γ : Ct} {X : Cx} {EE : XK} {Ex : Xn → Prop} {H0 : Hp}, Sat lv Γ CX c X EE → PassesOwn (model X.prog X.w) X.A X.env X.xe → XS c H0 Ex EE → SndS Γ c X Ex H0 (cS n Γ)
  | 0, _, _, _, _, _, _, _, _ => fun e ce h => by cases h
  | n + 1, Γ, X, EE, Ex, H0, S, hp, hX => by
    have ih : SndS Γ c X Ex H0 (cS n Γ) := cS_ok n S hp hX
    have ihE : Snd Γ CX c X Ex H0 (cE n Γ) := cE_ok n S hX
    intro st cst h
    unfold cS at h
    split at h
    · cases h; exact s_pass ps_doc
    · cases h; exact s_pass ps_pass
    · cases h; exact s_cont
    -- raise C(e)
    · split at h
      · rename_i hc
        rw [Bool.and_eq_true] at hc
        obtain ⟨ca, h1, rfl⟩ := Option.map_eq_some_iff.mp h
        rcases S.rai with q | ⟨q1, q2, q3⟩
        · rw [q] at hc
          cases hc.1
        · obtain ⟨st, pe, _⟩ := ihE _ _ h1
          exact s_raise (n := 0) S.O q2 hX (gl_ok S hc.2).1 (q3 _ (by simpa using hc.1)) q1 pe (star_cons st)
      · cases h; exact s_never
    · cases h; exact s_never
    · cases h; exact s_never
    -- xs.append(e)
    · split at h
      · rename_i hm
        rw [Bool.and_eq_true] at hm
        obtain ⟨hm, hl⟩ := hm
        obtain rfl := of_decide_eq_true hm
        split at h
        · rename_i i ca h1 h2
          cases h
          obtain ⟨a1, a2, a3, a4⟩ := var_ok S h1
          exact s_app S.O (ps_expr (e_appT S.O a1 a2 a3 a4 (ihE _ _ h2).2.1 (Me.ok rfl hl (ihE _ _ h2).1)) rfl)
        · cases h
      · split at h
        · rename_i hm
          rw [Bool.and_eq_true] at hm
          obtain ⟨hm, hl⟩ := hm
          obtain rfl := of_decide_eq_true hm
          split at h
          · rename_i i ca h1 h2
            cases h
            obtain ⟨a1, a2, a3, a4⟩ := var_ok S h1
            exact s_ext S.O (ps_expr (e_extT S.O a1 a2 a3 a4 (ihE _ _ h2).2.1 (Me.ok rfl hl (ihE _ _ h2).1)) rfl)
          · cases h
        · obtain ⟨ca, h1, rfl⟩ := Option.map_eq_some_iff.mp h
          exact s_exp (ps_expr (ihE _ _ h1).2.1 rfl)
    · split at h
      · rename_i hm
        rw [Bool.and_eq_true] at hm
        obtain ⟨hm, hl⟩ := hm
        obtain rfl := of_decide_eq_true hm
        obtain ⟨i, h1, rfl⟩ := Option.map_eq_some_iff.mp h
        obtain ⟨a1, a2, a3, a4⟩ := var_ok S h1
        exact s_clr S.O (ps_expr (e_clrT S.O a1 a2 a3 a4 (base_ok rfl) hl) rfl)
      · obtain ⟨ca, h1, rfl⟩ := Option.map_eq_some_iff.mp h
        exact s_exp (ps_expr (ihE _ _ h1).2.1 rfl)
    · split at h
      · cases h
      · rename_i hc
        obtain ⟨ca, h1, rfl⟩ := Option.map_eq_some_iff.mp h
        exact s_exp (ps_expr (ihE _ _ h1).2.1 (swaps_no (Bool.not_eq_true _ ▸ hc)))
    · cases h; exact s_retn
    · obtain ⟨ca, h1, rfl⟩ := Option.map_eq_some_iff.mp h
      exact s_ret (ihE _ _ h1).2.1
    · split at h
      · rename_i cc ca cb h1 h2 h3
        cases h
        exact s_ite (ihE _ _ h1).2.2 (cBs_ok ih h2) (cBs_ok ih h3)
      · cases h
    · split at h
      · rename_i cc cb h1 h2
        cases h
        exact s_while hp (ihE _ _ h1).2.2 (cBs_ok ih h2)
      · cases h
    -- for
    · rename_i tg it body pos
      split at h
      · cases h
      · rename_i hset
        have hset := Bool.not_eq_true _ ▸ hset
        split at h
        · rename_i t ci cb h1 h2 h3
          cases h
          have go : ∀ (H0 : Hp) (Ex : Xn → Prop), XS c H0 Ex EE → XS c H0 (itX ci Ex) EE → PS X (.For tg it body [] pos) (fun D σ H => frzn ci σ H ∧ trS c H0 Ex (.for_ t ci cb) D σ H) := fun H0 Ex hX hX2 =>
            s_forF hp S.O.calm (cIt_ok S (cE_ok n S hX) h2) (cTg_pg S h1) (gTg_ok t) (cBs_ok (cS_ok n S hp hX2) h3) (set_ok hset)
          by_cases hk : ksOf ci = []
          · exact PS.imp (go H0 Ex hX (by rw [key_itX' hk]; exact hX)) fun D σ H q => ⟨frzn_no hk σ H, q⟩
          · have := s_forLk (Ex := noX) (fun H0 => go H0 noX XS.noX (by rw [key_itX hk]; exact XS.noX)) H0
            refine PS.imp this fun D σ H q => ?_
            obtain ⟨Z, ρ, K, r, hev, hk2⟩ := q
            rw [evS, key_itX hk] at hev
            obtain ⟨i, rfl⟩ := key_of hk
            rw [evi] at hev
            exact ⟨Z, ρ, K, r, by rw [evS, key_itX hk, evi]; exact hev, hk2⟩
        · cases h
    -- x = e
    · split at h
      · rename_i i ce h1 h2
        cases h
        exact asg_ok S hX h1 h2 _
      · cases h
    -- a, b = x, y
    · rename_i ts k p vs k2 p2 pos
      split at h
      · rename_i cs h1
        split at h
        · rename_i hc
          rw [Bool.and_eq_true] at hc
          have hlen := of_decide_eq_true hc.1
          have hst := hc.2
          obtain ⟨pl, _⟩ := cEs_ok ihE h1
          have hb := S.bk
          split at h
          · rename_i hn
            have h2 := (Bool.or_eq_true _ _).mp hn
            have h2 := h2.imp (fun z => eq_of_beq z) fun z => eq_of_beq z
            split at h
            · rename_i hl
              have hl' := eq_of_beq hl
              split at h
              · rename_i hsw
                obtain ⟨e1, e2⟩ := swLoc_names S hsw
                split at h
                · rename_i hf
                  have hf : vs.all (foldedForSure 8) = false := by simpa only [Bool.not_eq_true'] using hf
                  split at h
                  · rename_i hco
                    have hco : vs.all (constantsAlone 8) = false := by simpa only [Bool.not_eq_true'] using hco
                    obtain ⟨is, h3, rfl⟩ := Option.map_eq_some_iff.mp h
                    obtain ⟨n1, n2, _⟩ := parN_names h3
                    refine par_ok S hX h1 h3 h2 hl' (.inl ⟨?_, e2⟩)
                    rw [sw_names hb hn hl hst, e1, n1, nodup_erase n2, hf, hco, n1]
                    simp
                  · cases h
                · rename_i hf
                  have hf : vs.all (foldedForSure 8) = true := by simpa only [Bool.not_eq_true', Bool.not_eq_false] using hf
                  obtain ⟨is, h3, rfl⟩ := Option.map_eq_some_iff.mp h
                  obtain ⟨g1, g2, g3⟩ := cNm_ok S h3
                  refine s_unp S.O (e_tup pl (by rw [cEs_len h1]; exact Nat.le_trans hlen (by decide))) (pg_tup S.O.calm g1 g2 g3) swaps_tup ?_ asgE_tup
                  rw [sw_names hb hn hl hst, hf]
                  simp
              · rename_i hsw
                obtain ⟨is, h3, rfl⟩ := Option.map_eq_some_iff.mp h
                refine par_ok S hX h1 h3 h2 hl' (.inr ?_)
                have := swNo S (Bool.not_eq_true _ ▸ hsw)
                rw [sw_names hb hn hl hst]
                simp [this]
            · cases h
          · rename_i hn
            obtain ⟨is, h3, rfl⟩ := Option.map_eq_some_iff.mp h
            obtain ⟨g1, g2, g3⟩ := cNm_ok S h3
            exact s_unp S.O (e_tup pl (by rw [cEs_len h1]; exact Nat.le_trans hlen (by decide))) (pg_tup S.O.calm g1 g2 g3) swaps_tup (sw_short (Bool.not_eq_true _ ▸ hn)) asgE_tup
        · cases h
      · cases h
    -- a, b = e
    · rename_i ts k p e pos hne
      split at h
      · rename_i is ce h1 h2
        cases h
        obtain ⟨g1, g2, g3⟩ := cNm_ok S h1
        refine s_unp S.O (ihE _ _ h2).2.1 (pg_tup S.O.calm g1 g2 g3) swaps_tup (stores_tup ?_) asgE_tup
        cases e <;> first | rfl | exact (hne _ _ _ rfl).elim
      · cases h
    -- xs[k] = e
    · split at h
      · cases h
      · rename_i hsl
        have hsl := Bool.not_eq_true _ ▸ hsl
        split at h
        · rename_i i ck ce h1 h2 h3
          cases h
          obtain ⟨a1, a2, a3, a4⟩ := var_ok S h1
          exact s_seti (ps_asg (ihE _ _ h3).2.1 (pg_sub (pe_var a1 a2 a3 a4) (ihE _ _ h2).2.1 (set_X (by have := S.O.un; omega)) (asg_sub hsl)) swaps_sub stores_sub rfl)
        · cases h
    -- x op= e
    · split at h
      · rename_i i o ce h1 h2 h3
        cases h
        obtain ⟨a1, a2, a3⟩ := slot_ok S h1
        obtain ⟨r, o1, o2⟩ := opA_ok (c := c) (X := X) h2
        exact s_aug S.O.nd a1 a2 (ihE _ _ h3).2.1 o1 o2 a3
      · cases h
    -- xs[k] op= e
    · split at h
      · cases h
      · rename_i hsl
        have hsl := Bool.not_eq_true _ ▸ hsl
        split at h
        · rename_i i o ck ce h1 h2 h3 h4
          cases h
          obtain ⟨a1, a2, a3, a4⟩ := var_ok S h1
          obtain ⟨r, o1, o2⟩ := opA_ok (c := c) (X := X) h2
          have hu := S.O.un
          exact s_augi S.O o2 (ps_augS (pe_var a1 a2 a3 a4) (ihE _ _ h3).2.1 (get_X (by omega)) (ihE _ _ h4).2.1 o1 (set_X (by omega)) (aug_sub hsl))
        · cases h
    · cases h
end
end Z
end T_ZM
section T_ZN
namespace Z
open PySem L2
section
variable {P : Program} {w : World} {K : PySem.W.Frag} {mg : Str → Option Value} {base : Heap} {CX : CXT}
/-- what may be called, at a level -/
def CalK (CX : CXT) (P : Program) (w : World) (K : PySem.W.Frag) (mg : Str → Option Value) (base : Heap) (k : Nat) (x : Str) (n : Nat) (F : Fn) : Prop := ∀ A : Around, Room k A → Cal CX P w K mg base A x n F
theorem CalK.mono {k j : Nat} {x : Str} {n : Nat} {F : Fn} (h : CalK CX P w K mg base k x n F) (hk : k ≤ j) : CalK CX P w K mg base j x n F := fun A r => h A (r.mono hk)
theorem CalK.fn {k : Nat} {x : Str} {n : Nat} {F : Fn} {f : Addr} {fd : FuncData} {ps : List Str} (G : FnOk P w K mg base CX k f fd ps (spF K mg n F)) (hm : mg x = some (.ref f)) (hk : PySem.W.keepIn K (.ref f) = true) (hb : Binds K fd ps []) : CalK CX P w K mg base k x n F := by
  intro A hr X EE e1 e2 e3 e4 e5 e6 hp
  subst e1 e2 e3 e4 e5 e6
  exact FT.fn G hm hk hb hr hp
/-- the names, told once for all defs -/
structure Gnd (K : PySem.W.Frag) (mg : Str → Option Value) (Γ : Ct) : Prop where
  blt : ∀ x ∈ blts, mg x = none
  cons : ∀ x d, Γ.cons.lookup x = some d → ∃ u v, mg x = some u ∧ RelV v u ∧ ∀ (c : Cn) R, c.K = K → c.mg = mg → Rep c R v d
  flds : ∀ f Cs, Γ.flds.lookup f = some Cs → ∀ C ∈ Cs, FldC K mg f C
  isa : ∀ C ∈ Γ.xt.clss, IsaC K mg C ∧ (C == ("__debug__" : Str)) = false
/-- the entry -/
theorem RE.start {c : Cn} {Z : Addr → Prop} {H : Hp} {N : List Str} {vs : List V} {ds : List D} (hw : c.wok H) (hz : ∀ a, c.ws a → Z a) (za : ∀ a, Z a → Ob H a) (l : RepL c (Rz H Z) vs ds) :
    RE c H Z (L2.start N vs) H (ds.map (fun d => some (.frz d)) ++ List.replicate (N.length - ds.length) none) := by
  have hl := l.len
  have get : ∀ {i : Nat} {s : Sl}, (ds.map (fun d => some (Sl.frz d)) ++ List.replicate (N.length - ds.length) none)[i]? = some (some s) → ∃ d, ds[i]? = some d ∧ s = .frz d := fun {i s} h => by
    by_cases hi : i < ds.length
    · rw [List.getElem?_append_left (by simpa using hi), List.getElem?_map] at h
      rw [List.getElem?_eq_getElem hi] at h ⊢
      cases h
      exact ⟨_, rfl, rfl⟩
    · rw [List.getElem?_append_right (by simpa using hi), List.getElem?_replicate] at h
      split at h <;> cases h
  have now : ∀ b, ¬ Ow (L2.start N vs) (ds.map (fun d => some (Sl.frz d)) ++ List.replicate (N.length - ds.length) none) b := by
    rintro b ⟨i, d, h, _⟩
    obtain ⟨d', _, e⟩ := get h
    cases e
  refine ⟨?_, fun i d h => ?_, fun i d h => ?_, fun i j d e v _ h _ _ => ?_, fun b o e _ => e, fun b h => h, hw, hz, za⟩
  · unfold L2.start; simp [hl]
  · obtain ⟨d', h1, e⟩ := get h
    cases e
    obtain ⟨v, h2, q⟩ := l.getD h1
    refine ⟨v, ?_, q.to (Rz.mono fun a z => z.elim id fun z => (now a z).elim)⟩
    unfold L2.start
    have hi : i < vs.length := (List.getElem?_eq_some_iff.mp h2).1
    rw [List.getElem?_append_left (by simpa using hi), List.getElem?_map, h2]; rfl
  · obtain ⟨d', h1, e⟩ := get h; cases e
  · obtain ⟨d', h1, e⟩ := get h; cases e
theorem ret_of {c : Cn} {Z : Addr → Prop} {H H' : Hp} {σ' : L2.St} {ρ' : Env} {fr : Bool} {v : V} {d : D} {k : Kd} (r : RE c H Z σ' H' ρ') (h : VR c H Z σ' H H' ρ' v d k) (hk : fr = true → k.frs) : Ret c Z H H' fr v d := by
  unfold Ret
  cases fr with
  | false =>
    simp only [Bool.false_eq_true, if_false]
    cases k with
    | cln => exact Rep.to (Rz.mono fun a z => .inl z) h
    | own i =>
      obtain ⟨h1, h2⟩ := h
      obtain ⟨a, e, n, h0, t⟩ := r.own i d h2
      rw [h1] at e; cases e
      exact t.rep (Rz.mono fun a z => .inl z) fun u hu => ⟨n, .inl hu⟩
    | new => exact Rep.to (Rz.mono fun a z => .inl z) h.clean
  | true =>
    simp only [if_true]
    cases k with
    | cln => exact (hk rfl).elim
    | own i =>
      obtain ⟨h1, h2⟩ := h
      obtain ⟨a, e, n, h0, t⟩ := r.own i d h2
      rw [h1] at e; cases e
      exact ⟨a, rfl, h0, t.to (Rz.mono fun b z => z.elim .inl fun z => .inr ⟨i, d, h2, by rw [z]; exact h1⟩) rfl⟩
    | new =>
      obtain ⟨a, rfl, h0, n, _, t⟩ := h
      exact ⟨a, rfl, h0, t.to (Rz.mono fun b z => .inl z) rfl⟩
theorem body_ok {c : Cn} {Γ : Ct} {Ex : Xn → Prop} {Z : Addr → Prop} {H : Hp} {Q : VK} {vs : List V} {ds : List D} {Pd : D → Prop} {cb : CB} {fr : Bool} (hev : evF cb Γ.N.length fr ds Pd Ex)
    (hw : c.wok H) (hz : ∀ a, c.ws a → Z a) (za : ∀ a, Z a → Ob H a) (l : RepL c (Rz H Z) vs ds)
    (hQ : ∀ d v H', Pd d → (∀ b o, H b = some o → ¬ c.ws b → H' b = some o) → (∀ b, H b ≠ none → H' b ≠ none) → c.wok H' → Ret c Z H H' fr v d → Q v H') :
    trBs c H Ex cb { nx := fun _ H' => Q .non H', rt := Q } (L2.start Γ.N vs) H := by
  refine ⟨Z, _, _, RE.start hw hz za l, hev, ⟨fun ρ' σ' H' q r s => ?_, fun d k ρ' v σ' H' q r s w => ?_, fun _ _ _ q => q.elim⟩⟩
  · obtain ⟨e, hP⟩ := q
    subst e
    exact hQ .non .non H' hP r.ext r.al r.wok (show Ret c Z H H' false .non .non from .non)
  · obtain ⟨hk, hP⟩ := q
    exact hQ d v H' hP r.ext r.al r.wok (ret_of r w hk)
/-- THE RULE for a def that lets nothing out -/
theorem def_ok {x qual : Str} {params : Arguments} {body : List Stmt} {scope : Scope} {kws : List (Str × V)} {f : Addr} {fd : FuncData} {ps : List Str} {k nf : Nat} {Γ : Ct} {cb : CB} {F : Fn} (Fd : FunD K x qual params body scope [] kws f fd) (S : FnScope Γ.N ps scope)
    (hsc : Γ.sc = scope) (hosc : Γ.osc = scope) (hc : cBs (cS nf Γ) body = some cb) (hF : ∀ ds P E, F.run ds P E → evF cb Γ.N.length F.fr ds P E) (G : Gnd K mg Γ) (hx0 : Γ.xt.excs = []) (hl0 : Γ.xt.lams = []) (hk0 : Γ.xt.kfns = []) (he0 : Γ.xt.eqs = false)
    (fns : ∀ x m F', Γ.fns.lookup x = some (m, F') → CalK CX0 P w K mg base k x m F') (hv0 : Γ.xt.fvs = [] ∧ Γ.xt.lls = [] ∧ Γ.xt.mks = [] ∧ Γ.xt.eqq = false := by exact ⟨rfl, rfl, rfl, rfl⟩) : FnOk P w K mg base CX0 (k + 1) f fd ps (spF K mg ps.length F) := by
  refine Fd.ok S (fun vs H Q E h => ?_) fun cdv A outer s H vs Q E hr h => ?_
  · obtain ⟨_, _, _, _, _, _, _, hl, _⟩ := h
    exact hl
  · obtain ⟨c, Z, ds, Pd, Ex, hK, hm, hl, hw, hz, za, l, hrun, hQ, hE⟩ := h
    have O : XOk c (cxOf CX0 P w K mg base Γ.N qual scope f cdv A outer s H E).nox := ⟨hK.symm, hm.symm, rfl, S.nd, by have := hr.un; show (A.deeper _).units + 100 < cLine; omega⟩
    have St : Sat 0 Γ CX0 c (cxOf CX0 P w K mg base Γ.N qual scope f cdv A outer s H E).nox E := {
      O := O
      N := rfl
      sc := hsc.symm
      bind := fun x hx => ⟨by rw [hosc] at hx; exact hx, .inl rfl⟩
      kindf := S.kind
      fns := fun x m F' h => (fns x m F' h _ hr).atC hK hm
      fvs := fun x m F' h => by rw [hv0.1] at h; cases h
      lls := fun l q m F' h => by rw [hv0.2.1] at h; cases h
      pass := fun _ _ _ _ _ _ _ h => h.elim
      nc := fun _ _ _ _ _ h => h
      blt := G.blt
      cons := fun x d h => by
        obtain ⟨u, v, a1, a2, a3⟩ := G.cons x d h
        exact ⟨u, v, a1, a2, fun R => a3 c R hK hm⟩
      flds := fun f Cs h C hC => by rw [hm]; exact G.flds f Cs h C hC
      kfns := fun x xs pm n F' h => by rw [hk0] at h; cases h
      isa := fun C hC => by rw [hm, hK]; exact G.isa C hC
      rai := .inl hx0
      lam := .inl ⟨hl0, hv0.2.2.1⟩
      neq := .inl he0
      eqq := .inl hv0.2.2.2 }
    have hX : XS c H Ex E := fun x cls od H' hx k1 k2 wk q => hE x cls od H' hx k1 k2 wk q
    exact ⟨trBs c H Ex cb, PSs.nox (cBs_ok (cS_ok nf St .never hX) hc), body_ok (Γ := Γ) (hF _ _ _ hrun) hw hz za l hQ⟩
end
end Z
end T_ZN
section T_ZO
namespace Z
open PySem L2
theorem ex_some {α : Type} {a : α} {p : α → Prop} : (∃ r, some a = some r ∧ p r) ↔ p a := ⟨fun ⟨_, e, h⟩ => by cases e; exact h, fun h => ⟨_, rfl, h⟩⟩
theorem ex_bl {b : Bool} {p : Bool → Prop} : (∃ t, D.bl b = .bl t ∧ p t) ↔ p b := ⟨fun ⟨_, e, h⟩ => by cases e; exact h, fun h => ⟨_, rfl, h⟩⟩
theorem ex_int {b : Int} {p : Int → Prop} : (∃ t, D.int b = .int t ∧ p t) ↔ p b := ⟨fun ⟨_, e, h⟩ => by cases e; exact h, fun h => ⟨_, rfl, h⟩⟩
theorem ex_dct {b : List (Key × D)} {p : List (Key × D) → Prop} : (∃ t, D.dct b = .dct t ∧ p t) ↔ p b := ⟨fun ⟨_, e, h⟩ => by cases e; exact h, fun h => ⟨_, rfl, h⟩⟩
theorem ex_own {d : D} {p : D → Prop} : (∃ t, some (some (Sl.own d)) = some (some (Sl.own t)) ∧ p t) ↔ p d := ⟨fun ⟨_, e, h⟩ => by cases e; exact h, fun h => ⟨_, rfl, h⟩⟩
theorem ex_frz {d : D} {p : D → Prop} : (∃ t, some (some (Sl.frz d)) = some (some (Sl.frz t)) ∧ p t) ↔ p d := ⟨fun ⟨_, e, h⟩ => by cases e; exact h, fun h => ⟨_, rfl, h⟩⟩
abbrev Fx {α : Type} (_ : α) : Type := PUnit
/-- what is not looked into: the second argument's type names the first, so the first stays as it is -/
def bx {α : Type} (x : α) (_ : Fx x := PUnit.unit) : α := x
theorem bx_ap {α β : Type} {f : α → β} {u : Fx f} {a : α} : bx f u a = f a := rfl
/-- what is there -/
def ExS {α : Type} (o : Option α) (P : α → Prop) : Prop := ∃ x, o = some x ∧ P x
def BLp (x : D) (P : Bool → Prop) : Prop := ∃ b, x = .bl b ∧ P b
def INp (x : D) (P : Int → Prop) : Prop := ∃ b, x = .int b ∧ P b
def DCp (x : D) (P : List (Key × D) → Prop) : Prop := ∃ b, x = .dct b ∧ P b
def CHp (o : Option (D × Kd)) (P : Bool → Prop) : Prop := ∃ r, o = some (.bl r, .cln) ∧ P r
def iF (b : Bool) (A B : Prop) : Prop := if b = true then A else B
def iP (b : Bool) (A B : Prop) (_ : Fx (A, B) := PUnit.unit) : Prop := iF b A B
def FLD (Cs : List Str) (x : D) (f : Str) (P : D → Prop) : Prop := ∃ C fs d, C ∈ Cs ∧ (isExc C = false ∧ x = .ins C fs ∨ isExc C = true ∧ x = .exc C fs) ∧ fs.lookup f = some d ∧ P d
def RAI (C : Str) (E : Xn → Prop) (d : D) : Prop := d.scal = true ∧ if hasAt C = true then E (C, some d) else E (C, none)
def CLOp (x : D) (P : Nat → Prop) : Prop := ∃ j, x = .clo j ∧ P j
def FRp (s : Option (Option Sl)) (P : D → Prop) : Prop := ∃ x, s = some (some (.frz x)) ∧ P x
def OWp (s : Option (Option Sl)) (P : D → Prop) : Prop := ∃ x, s = some (some (.own x)) ∧ P x
def RUN (F : Fn) (ds : List D) (P : D → Prop) (E : Xn → Prop) : Prop := F.run ds P E
section
variable {α : Type} {E : Xn → Prop} {ρ ρ' : Env} {P : Kt} {K : Kn}
/-- what a name holds -/
def rdV (s : Option (Option Sl)) (i : Nat) (ρ : Env) (P : Kt) : Prop := match s with
    | some (some (.frz d)) => P d .cln ρ
    | some (some (.own d)) => P d (.own i) ρ
    | _ => False
theorem xs_s {x : α} {P : α → Prop} : ExS (some x) P = P x := propext ex_some
theorem bl_s {x : Bool} {P : Bool → Prop} : BLp (.bl x) P = P x := propext ex_bl
theorem in_s {x : Int} {P : Int → Prop} : INp (.int x) P = P x := propext ex_int
theorem dc_s {x : List (Key × D)} {P : List (Key × D) → Prop} : DCp (.dct x) P = P x := propext ex_dct
theorem ch_s {x : Bool} {P : Bool → Prop} : CHp (some (.bl x, .cln)) P = P x := propext ⟨fun ⟨_, e, h⟩ => by cases e; exact h, fun h => ⟨_, rfl, h⟩⟩
theorem iF_t {A B : Prop} : iF true A B = A := if_pos rfl
theorem iF_f {A B : Prop} : iF false A B = B := if_neg (by simp)
theorem fr_s {d : D} {P : D → Prop} : FRp (some (some (.frz d))) P = P d := propext ex_frz
theorem ow_s {d : D} {P : D → Prop} : OWp (some (some (.own d))) P = P d := propext ex_own
theorem op_i {b : Bool} {A B : Prop} {u : Fx (A, B)} : iP b A B u = iF b A B := rfl
theorem op_xs {o : Option α} {P : α → Prop} {u : Fx P} : ExS o (bx P u) = ExS o P := rfl
theorem op_bl {o : D} {P : Bool → Prop} {u : Fx P} : BLp o (bx P u) = BLp o P := rfl
theorem op_in {o : D} {P : Int → Prop} {u : Fx P} : INp o (bx P u) = INp o P := rfl
theorem op_dc {o : D} {P : List (Key × D) → Prop} {u : Fx P} : DCp o (bx P u) = DCp o P := rfl
theorem op_ch {o : Option (D × Kd)} {P : Bool → Prop} {u : Fx P} : CHp o (bx P u) = CHp o P := rfl
theorem op_fl {Cs : List Str} {x : D} {f : Str} {P : D → Prop} {u : Fx P} : FLD Cs x f (bx P u) = FLD Cs x f P := rfl
theorem op_co {o : D} {P : Nat → Prop} {u : Fx P} : CLOp o (bx P u) = CLOp o P := rfl
theorem co_s {j : Nat} {P : Nat → Prop} : CLOp (.clo j) P = P j := propext ⟨fun ⟨_, e, h⟩ => by cases e; exact h, fun h => ⟨_, rfl, h⟩⟩
theorem op_fr {s : Option (Option Sl)} {P : D → Prop} {u : Fx P} : FRp s (bx P u) = FRp s P := rfl
theorem op_ow {s : Option (Option Sl)} {P : D → Prop} {u : Fx P} : OWp s (bx P u) = OWp s P := rfl
theorem op_run {F : Fn} {ds : List D} {P : D → Prop} {u : Fx P} : RUN F ds (bx P u) E = RUN F ds P E := rfl
theorem op_ix {x y : D} {P : D → Prop} {u : Fx P} : idxR x y (bx P u) = idxR x y P := rfl
theorem op_ct {x : D} {l h : Option Int} {P : D → Kd → Prop} {u : Fx P} : cutR x l h (bx P u) = cutR x l h P := rfl
theorem op_rv {x : D} {P : D → Prop} {u : Fx P} : revR x (bx P u) = revR x P := rfl
theorem op_en {x : D} {P : List D → Prop} {u : Fx P} : enR x (bx P u) = enR x P := rfl
theorem op_sq {x : D} {P : List D → Prop} {u : Fx P} : seqR x (bx P u) = seqR x P := rfl
theorem op_po {s : Option (Option Sl)} {y : D} {P : D → List (Key × D) → Prop} {N : Prop} {u : Fx P} : popR s y (bx P u) N = popR s y P N := rfl
theorem op_pl {s : Option (Option Sl)} {y : D} {P : D → List D → Prop} {u : Fx P} : poplR s y (bx P u) = poplR s y P := rfl
theorem op_ky {s : Option (Option Sl)} {P Q : List (Key × D) → Prop} {u : Fx P} {v : Fx Q} : keyR s (bx P u) (bx Q v) = keyR s P Q := rfl
theorem op_zp {x y : D} {P : List D → Prop} {u : Fx P} : zipR x y (bx P u) = zipR x y P := rfl
theorem op_ap {s : Option (Option Sl)} {y : D} {P : D → Prop} {u : Fx P} : appR s y (bx P u) = appR s y P := rfl
theorem op_ex {s : Option (Option Sl)} {y : D} {P : D → Prop} {u : Fx P} : extR s y (bx P u) = extR s y P := rfl
theorem op_se {s : Option (Option Sl)} {y d : D} {P : D → Prop} {u : Fx P} : setR s y d (bx P u) = setR s y d P := rfl
theorem op_pr {p : Pr} {ds : List D} {P : D → Kd → Prop} {u : Fx P} : pr p ds (bx P u) = pr p ds P := rfl
theorem op_cl {st : D → (Option D → Prop) → Prop} {xs acc : List D} {P : List D → Prop} {u : Fx P} : cmpL st xs acc (bx P u) = cmpL st xs acc P := rfl
theorem op_cs {st : D → List D → (List D → Prop) → Prop} {xs acc : List D} {P : List D → Prop} {u : Fx P} : cmpLs st xs acc (bx P u) = cmpLs st xs acc P := rfl
theorem z_var {i : Nat} : ev E (.var i) ρ P = rdV ρ[i]? i ρ P := by rw [ev]; rfl
theorem rd_f {i : Nat} {d : D} : rdV (some (some (.frz d))) i ρ P = P d .cln ρ := rfl
theorem rd_o {i : Nat} {d : D} : rdV (some (some (.own d))) i ρ P = P d (.own i) ρ := rfl
theorem z_lit {d : D} : ev E (.lit d) ρ P = P d .cln ρ := by rw [ev]
theorem z_op {o : O2} {a b : CE} : ev E (.op o a b) ρ P = ev E a ρ (bx fun x k ρ1 => ev E b ρ1 (bx fun y _ ρ2 => stood ρ2 x k ∧ ExS (op2 o x y) (bx fun r => P r.1 r.2 ρ2))) := by rw [ev]; rfl
theorem z_neg {a : CE} : ev E (.neg a) ρ P = ev E a ρ (bx fun x _ ρ1 => INp x (bx fun i => P (.int (-i)) .cln ρ1)) := by rw [ev]; rfl
theorem z_not {a : CE} : ev E (.not a) ρ P = ev E a ρ (bx fun x _ ρ1 => BLp x (bx fun b => P (.bl (!b)) .cln ρ1)) := by rw [ev]; rfl
theorem z_chain {o p : O2} {a b c : CE} : ev E (.chain o p a b c) ρ P = ev E a ρ (bx fun x k ρ1 => ev E b ρ1 (bx fun y k' ρ2 => stood ρ2 x k ∧ CHp (op2 o x y) (bx fun r =>
      iP r (ev E c ρ2 (bx fun z _ ρ3 => stood ρ3 y k' ∧ ExS (op2 p y z) (bx fun s => P s.1 s.2 ρ3))) (P (.bl false) .cln ρ2)))) := by rw [ev]; rfl
theorem z_and {a b : CE} : ev E (.and a b) ρ P = ev E a ρ (bx fun x _ ρ1 => BLp x (bx fun c => iP c (ev E b ρ1 P) (P (.bl false) .cln ρ1))) := by rw [ev]; rfl
theorem z_or {a b : CE} : ev E (.or a b) ρ P = ev E a ρ (bx fun x _ ρ1 => BLp x (bx fun c => iP c (P (.bl true) .cln ρ1) (ev E b ρ1 P))) := by rw [ev]; rfl
theorem z_ife {c a b : CE} : ev E (.ife c a b) ρ P = ev E c ρ (bx fun x _ ρ1 => BLp x (bx fun t => iP t (ev E a ρ1 P) (ev E b ρ1 P))) := by rw [ev]; rfl
theorem z_lst {es : CL} : ev E (.lst es) ρ P = evs E es ρ (bx fun ds ρ1 => P (.lst ds) .new ρ1) := by rw [ev]; rfl
theorem z_tup {es : CL} : ev E (.tup es) ρ P = evs E es ρ (bx fun ds ρ1 => P (.tup ds) .cln ρ1) := by rw [ev]; rfl
theorem z_dsp0 : ev E (.dsp [] .nil) ρ P = P (.dct []) .new ρ := by
  rw [ev, evs]
  exact propext ⟨fun h => h.2.2, fun h => ⟨rfl, by simp, h⟩⟩
theorem z_dspe {es : CL} : ev E (.dspe es) ρ P = evs E es ρ (bx fun ds ρ1 => ExS (prsD ds) (bx fun kvs => kvs.length ≤ 15 ∧ P (.dct (mrgD [] kvs)) .new ρ1)) := by rw [ev]; rfl
theorem pd_n : prsD [] = some [] := rfl
theorem pd_s {k : Str} {v : D} {r : List D} : prsD (.str k :: v :: r) = (prsD r).map fun l => (.inr k, v) :: l := by
  rw [prsD]
  cases prsD r <;> rfl
theorem pd_i {k : Int} {v : D} {r : List D} : prsD (.int k :: v :: r) = (prsD r).map fun l => (.inl k, v) :: l := by
  rw [prsD]
  cases prsD r <;> rfl
theorem z_idx {a b : CE} : ev E (.idx a b) ρ P = ev E a ρ (bx fun x k ρ1 => ev E b ρ1 (bx fun y _ ρ2 => stood ρ2 x k ∧ idxR x y (bx fun d => P d .cln ρ2))) := by rw [ev]; rfl
theorem z_cut {a : CE} {lo hi : CO} : ev E (.cut a lo hi) ρ P = ev E a ρ (bx fun x k ρ1 => evo E lo ρ1 (bx fun l ρ2 => evo E hi ρ2 (bx fun h ρ3 => stood ρ3 x k ∧ cutR x l h (bx fun d k => P d k ρ3)))) := by rw [ev]; rfl
theorem z_rev {a : CE} : ev E (.rev a) ρ P = ev E a ρ (bx fun x _ ρ1 => revR x (bx fun d => P d .new ρ1)) := by rw [ev]; rfl
theorem z_call {F : Fn} {es : CL} : ev E (.call F es) ρ P = iP F.fl
      (evas E es ρ (bx fun ps ρ1 => stoods ρ1 ps ∧ RUN F (ps.map (·.1)) ((bx fun d => (d.scal = true ∨ (F.fr = true ∧ d.shal = true) ∨ owns ps = false) ∧ P d (if F.fr = true then .new else .cln) ρ1)) E))
      (evs E es ρ (bx fun ds ρ1 => RUN F ds ((bx fun d => P d (if F.fr = true then .new else .cln) ρ1)) E)) := by rw [ev]; rfl
theorem z_prim {p : Pr} {es : CL} : ev E (.prim p es) ρ P = evas E es ρ (bx fun ps ρ1 => stoods ρ1 ps ∧ pr p (ps.map (·.1)) (bx fun d k => P d k ρ1)) := by rw [ev]; rfl
theorem z_get {a k d : CE} : ev E (.get a k d) ρ P = ev E a ρ (bx fun x q ρ1 => DCp x (bx fun kvs => ev E k ρ1 (bx fun y _ ρ2 => ev E d ρ2 (bx fun z _ ρ3 => stood ρ3 x q ∧ z.scal = true ∧ ExS y.key (bx fun j => P ((valD kvs j).getD z) .cln ρ3))))) := by rw [ev]; rfl
theorem z_popd {i : Nat} {k d : CE} : ev E (.popd i k d) ρ P = (Sl.isK ρ[i]? = true ∧ ev E k ρ (bx fun y _ ρ1 => ev E d ρ1 (bx fun z _ ρ2 => z.scal = true ∧ popR ρ2[i]? y ((bx fun v kvs => P v .cln (ρ2.set i (some (.own (.dct kvs)))))) (P z .cln ρ2)))) := by rw [ev]; rfl
theorem z_popl {i : Nat} {k : CE} : ev E (.popl i k) ρ P = (Sl.isL ρ[i]? = true ∧ ev E k ρ (bx fun y _ ρ1 => poplR ρ1[i]? y (bx fun d xs => P d .cln (ρ1.set i (some (.own (.lst xs))))))) := by rw [ev]; rfl
theorem z_fld {Cs : List Str} {a : CE} {f : Str} : ev E (.fld Cs a f) ρ P = ev E a ρ (bx fun x _ ρ1 => FLD Cs x f (bx fun d => P d .cln ρ1)) := by rw [ev]; rfl
theorem z_isa {a : CE} {C : Str} : ev E (.isa a C) ρ P = ev E a ρ (bx fun x _ ρ1 => ExS (isaD C x) (bx fun b => P (.bl b) .cln ρ1)) := by rw [ev]; rfl
theorem z_lam {j : Nat} : ev E (.lam j) ρ P = P (.clo j) .cln ρ := by rw [ev]
theorem z_caught {bs : CL} {e : CE} : ev E (.caught bs e) ρ P = ev E e ρ (bx fun x _ ρ1 => CLOp x (bx fun j => evj bs j (shut ρ1) (fun y => P (excD y) .cln ρ1) (P .non .cln ρ1))) := by rw [ev]; rfl
theorem z_callk {F : Fn} {pm : List Nat} {es : CL} : ev E (.callk F pm es) ρ P = evs E es ρ (bx fun ds ρ1 => ExS (permD pm ds) (bx fun ds' => RUN F ds' ((bx fun d => P d (if F.fr = true then .new else .cln) ρ1)) E)) := by rw [ev]; rfl
theorem z_j0 {b : CE} {bs : CL} {P : Prop} : evj (.cons b bs) 0 ρ E P = ev E b ρ fun _ _ _ => P := by rw [evj]
theorem z_j1 {b : CE} {bs : CL} {j : Nat} {P : Prop} : evj (.cons b bs) (j + 1) ρ E P = evj bs j ρ E P := by rw [evj]
theorem sh_nil : shut [] = [] := rfl
theorem sh_f {d : D} {ρ : Env} : shut (some (.frz d) :: ρ) = some (.frz d) :: shut ρ := rfl
theorem sh_o {d : D} {ρ : Env} : shut (some (.own d) :: ρ) = none :: shut ρ := rfl
theorem sh_n {ρ : Env} : shut (none :: ρ) = none :: shut ρ := rfl
theorem z_comp {vs : List Nat} {e : CE} {t : Tg} {it : CI} {c : CO} : ev E (.comp vs e t it c) ρ P = evi E it ρ (bx fun items k ρ1 => noOwn ρ1 vs = true ∧ cmpL (trn t vs (evc noX c) (ev noX e) ρ1) items [] (bx fun ds => P (.lst ds) .new ρ1)) := by rw [ev]; rfl
theorem z_comp2 {vs vs2 : List Nat} {e : CE} {t t2 : Tg} {it it2 : CI} {c c2 : CO} : ev E (.comp2 vs vs2 e t it c t2 it2 c2) ρ P = (kOk it2 ρ ∧ evi E it ρ (bx fun items k ρ1 => noOwn ρ1 vs = true ∧ kOk it2 (wipeD ρ1 vs) ∧ cmpLs (trn2 t vs t2 vs2 (evc noX c) (evi noX it2) (evc noX c2) (ev noX e) ρ1) items [] (bx fun ds => P (.lst ds) .new ρ1))) := by rw [ev]; rfl
theorem z_snil {P : List D → Env → Prop} : evs E .nil ρ P = P [] ρ := by rw [evs]
theorem z_scons {e : CE} {es : CL} {P : List D → Env → Prop} : evs E (.cons e es) ρ P = ev E e ρ (bx fun d k ρ1 => clr d k ρ1 (bx fun ρ2 => evs E es ρ2 (bx fun ds ρ3 => P (d :: ds) ρ3))) := by rw [evs]; rfl
theorem z_anil {P : List (D × Kd) → Env → Prop} : evas E .nil ρ P = P [] ρ := by rw [evas]
theorem z_acons {e : CE} {es : CL} {P : List (D × Kd) → Env → Prop} : evas E (.cons e es) ρ P = ev E e ρ (bx fun d k ρ1 => evas E es ρ1 (bx fun ds ρ2 => P ((d, k) :: ds) ρ2)) := by rw [evas]; rfl
theorem z_on {P : Option Int → Env → Prop} : evo E .no ρ P = P none ρ := by rw [evo]
theorem z_oo {e : CE} {P : Option Int → Env → Prop} : evo E (.one e) ρ P = ev E e ρ (bx fun d _ ρ1 => INp d (bx fun i => P (some i) ρ1)) := by rw [evo]; rfl
theorem z_cn {P : Bool → Env → Prop} : evc E .no ρ P = P true ρ := by rw [evc]
theorem z_co {e : CE} {P : Bool → Env → Prop} : evc E (.one e) ρ P = ev E e ρ (bx fun d _ ρ1 => BLp d (bx fun b => P b ρ1)) := by rw [evc]; rfl
section
variable {P : List D → Kd → Env → Prop} {a b e : CE} {i : Nat}
theorem z_iseq : evi E (.seq e) ρ P = ev E e ρ (bx fun d k ρ1 => seqR d (bx fun xs => P xs k ρ1)) := by rw [evi]; rfl
theorem z_ikey : evi E (.key i) ρ P = keyR ρ[i]? ((bx fun kvs => P (kvs.map (fun kv => .ofKey kv.1)) .cln ρ)) ((bx fun kvs => P (kvs.map (fun kv => .ofKey kv.1)) .cln (frzAt ρ i (.dct kvs)))) := by rw [evi]; rfl
theorem z_irng1 : evi E (.rng1 a) ρ P = ev E a ρ (bx fun x _ ρ1 => INp x (bx fun j => j ≤ big ∧ -(2 ^ 62) ≤ j ∧ P (rngD 0 j.toNat) .cln ρ1)) := by rw [evi]; rfl
theorem z_irng : evi E (.rng a b) ρ P = ev E a ρ (bx fun x _ ρ1 => ev E b ρ1 (bx fun y _ ρ2 => INp x (bx fun i => INp y (bx fun j => j - i ≤ big ∧ -(2 ^ 61) ≤ i ∧ i < 2 ^ 61 ∧ -(2 ^ 61) ≤ j ∧ P (rngD i (j - i).toNat) .cln ρ2)))) := by
  unfold bx
  rw [evi]
  congr 1
  funext x k ρ1
  congr 1
  funext y k2 ρ2
  apply propext
  constructor
  · rintro ⟨i, j, rfl, rfl, h⟩; exact ⟨i, rfl, j, rfl, h⟩
  · rintro ⟨i, rfl, j, rfl, h⟩; exact ⟨i, j, rfl, rfl, h⟩
theorem z_ienum : evi E (.enum e) ρ P = ev E e ρ (bx fun d k ρ1 => enR d (bx fun xs => P (enumD 0 xs) k ρ1)) := by rw [evi]; rfl
theorem z_izip : evi E (.zip a b) ρ P = ev E a ρ (bx fun x k ρ1 => ev E b ρ1 (bx fun y k2 ρ2 => stood ρ2 x k ∧ zipR x y (bx fun xs => P xs (zk k k2) ρ2))) := by rw [evi]; rfl
end
theorem z_nil : evB E .nil ρ K = K.nx ρ := by rw [evB]
theorem z_cons {s : CS} {r : CB} : evB E (.cons s r) ρ K = evS E s ρ ⟨(bx fun ρ1 => evB E r ρ1 K), K.rt, K.ct⟩ := by rw [evB]; rfl
theorem z_asg {i : Nat} {o : Bool} {e : CE} : evS E (.asg i o e) ρ K = ev E e ρ (bx fun d k ρ1 => sto i o d k ρ1 K.nx) := by rw [evS]; rfl
theorem z_unp {t : Tg} {e : CE} : evS E (.unp t e) ρ K = ev E e ρ (bx fun d k ρ1 => ExS (bindT t d ρ1) K.nx) := by rw [evS]; rfl
theorem z_par2 {i j : Nat} {o p : Bool} {e f : CE} : evS E (.par [(i, o), (j, p)] (.cons e (.cons f .nil))) ρ K = ev E e ρ (bx fun d k ρ1 => k.no ∧ ev E f ρ1 (bx fun d' k' ρ2 => k'.no ∧ sto i o d k ρ2 (bx fun ρ3 => sto j p d' k' ρ3 K.nx))) := by rw [evS]; rfl
theorem z_par3 {i j l : Nat} {o p q : Bool} {e f g : CE} : evS E (.par [(i, o), (j, p), (l, q)] (.cons e (.cons f (.cons g .nil)))) ρ K = ev E e ρ (bx fun d k ρ1 => k.no ∧ ev E f ρ1 (bx fun d' k' ρ2 => k'.no ∧ ev E g ρ2 (bx fun d'' k'' ρ3 =>
        k''.no ∧ sto i o d k ρ3 (bx fun ρ4 => sto j p d' k' ρ4 (bx fun ρ5 => sto l q d'' k'' ρ5 K.nx))))) := by rw [evS]; rfl
theorem z_aug {i : Nat} {o : O2} {e : CE} : evS E (.aug i o e) ρ K = FRp ρ[i]? (bx fun x => x.scal = true ∧ ev E e ρ (bx fun d k ρ1 => ExS (op2 o x d) (bx fun r => K.nx (ρ1.set i (some (.frz r.1)))))) := by rw [evS]; rfl
theorem z_app {i : Nat} {e : CE} : evS E (.app i e) ρ K = (Sl.isL ρ[i]? = true ∧ ev E e ρ (bx fun d k ρ1 => clr d k ρ1 (bx fun ρ2 => appR ρ2[i]? d (bx fun x => K.nx (ρ2.set i (some (.own x))))))) := by rw [evS]; rfl
theorem z_ext {i : Nat} {e : CE} : evS E (.ext i e) ρ K = (Sl.isL ρ[i]? = true ∧ ev E e ρ (bx fun d k ρ1 => clr d k ρ1 (bx fun ρ2 => extR ρ2[i]? d (bx fun x => K.nx (ρ2.set i (some (.own x))))))) := by rw [evS]; rfl
theorem z_seti {i : Nat} {k e : CE} : evS E (.seti i k e) ρ K = (Sl.isOwn ρ[i]? = true ∧ ev E e ρ (bx fun d kd ρ1 => clr d kd ρ1 (bx fun ρ2 => ev E k ρ2 (bx fun y _ ρ3 => setR ρ3[i]? y d (bx fun z' => K.nx (ρ3.set i (some (.own z')))))))) := by rw [evS]; rfl
/-- z[y] o= -/
theorem z_augi {i : Nat} {k e : CE} {o : O2} : evS E (.augi i k o e) ρ K = (Sl.isOwn ρ[i]? = true ∧ ev E k ρ (bx fun y _ ρ1 => OWp ρ1[i]? (bx fun z => ExS (getD z y) (bx fun x => x.scal = true ∧ ev E e ρ1 (bx fun d _ ρ2 => OWp ρ2[i]? (bx fun z' => ExS (op2 o x d) (bx fun r => r.1.scal = true ∧ ExS (setD z' y r.1) (bx fun z'' => K.nx (ρ2.set i (some (.own z''))))))))))) := by
  unfold bx
  rw [evS]
  congr 2
  funext y k1 ρ1
  apply propext
  have key : ∀ (x : D) (ρ2 : Env) (d : D), (∃ r z' z'', ρ2[i]? = some (some (.own z')) ∧ op2 o x d = some r ∧ r.1.scal = true ∧ setD z' y r.1 = some z'' ∧ K.nx (ρ2.set i (some (.own z'')))) =
      (OWp ρ2[i]? fun z' => ExS (op2 o x d) fun r => r.1.scal = true ∧ ExS (setD z' y r.1) fun z'' => K.nx (ρ2.set i (some (.own z'')))) := fun x ρ2 d => propext
    ⟨fun ⟨r, z', z'', h1, h2, h3, h4, h5⟩ => ⟨z', h1, r, h2, h3, z'', h4, h5⟩, fun ⟨z', h1, r, h2, h3, z'', h4, h5⟩ => ⟨r, z', z'', h1, h2, h3, h4, h5⟩⟩
  constructor
  · rintro ⟨x, z, h1, h2, h3, h4⟩
    refine ⟨z, h1, x, h2, h3, ?_⟩
    simpa only [key] using h4
  · rintro ⟨z, h1, x, h2, h3, h4⟩
    refine ⟨x, z, h1, h2, h3, ?_⟩
    simpa only [key] using h4
theorem z_exp {e : CE} : evS E (.exp e) ρ K = ev E e ρ (bx fun _ _ ρ1 => K.nx ρ1) := by rw [evS]; rfl
theorem z_ret {e : CE} : evS E (.ret e) ρ K = ev E e ρ K.rt := by rw [evS]
theorem z_retn : evS E .retn ρ K = K.rt .non .cln ρ := by rw [evS]
theorem z_ite {c : CE} {a b : CB} : evS E (.ite c a b) ρ K = ev E c ρ (bx fun x _ ρ1 => BLp x (bx fun t => iP t (evB E a ρ1 K) (evB E b ρ1 K))) := by rw [evS]; rfl
section
variable {t : Tg} {b : CB} {e a c : CE} {i : Nat}
theorem z_fseq : evS E (.for_ t (.seq e) b) ρ K = evi E (.seq e) ρ (bx fun items k ρ1 => k.no ∧ forL (evB E b) t items ρ1 K) := by rw [evS]; rfl
theorem z_fkey : evS E (.for_ t (.key i) b) ρ K = evi E (.key i) ρ (bx fun items k ρ1 => k.no ∧ forL (evB noX b) t items ρ1 K) := by rw [evS]; rfl
theorem z_frng : evS E (.for_ t (.rng a c) b) ρ K = evi E (.rng a c) ρ (bx fun items k ρ1 => k.no ∧ forL (evB E b) t items ρ1 K) := by rw [evS]; rfl
theorem z_frng1 : evS E (.for_ t (.rng1 a) b) ρ K = evi E (.rng1 a) ρ (bx fun items k ρ1 => k.no ∧ forL (evB E b) t items ρ1 K) := by rw [evS]; rfl
theorem z_fenum : evS E (.for_ t (.enum a) b) ρ K = evi E (.enum a) ρ (bx fun items k ρ1 => k.no ∧ forL (evB E b) t items ρ1 K) := by rw [evS]; rfl
theorem z_fzip : evS E (.for_ t (.zip a c) b) ρ K = evi E (.zip a c) ρ (bx fun items k ρ1 => k.no ∧ forL (evB E b) t items ρ1 K) := by rw [evS]; rfl
end
/-- a while loop, from here -/
def WHL (c : Env → (Bool → Env → Prop) → Prop) (b : Env → Kn → Prop) (ρ : Env) (K : Kn) : Prop := ∃ n, whlN c b n ρ K
theorem z_whl {c : CE} {b : CB} : evS E (.whl c b) ρ K = WHL (tst (ev E c)) (evB E b) ρ K := by rw [evS]; rfl
theorem z_tst {e : CE} {P : Bool → Env → Prop} : tst (ev E e) ρ P = ev E e ρ (bx fun x _ ρ1 => BLp x (bx fun t => P t ρ1)) := rfl
theorem z_rno {C : Str} : evS E (.raise_ C .no) ρ K = E (C, none) := by rw [evS]
theorem z_rone {C : Str} {e : CE} : evS E (.raise_ C (.one e)) ρ K = ev E e ρ (bx fun d _ _ => RAI C E d) := by rw [evS]; rfl
theorem z_clr {i : Nat} : evS E (.clr i) ρ K = (Sl.isL ρ[i]? = true ∧ K.nx (ρ.set i (some (.own (.lst []))))) := by rw [evS]
theorem z_cont : evS E .cont ρ K = K.ct ρ := by rw [evS]
theorem z_pass : evS E .pass ρ K = K.nx ρ := by rw [evS]
theorem z_never : evS E .never ρ K = False := by rw [evS]
theorem z_trn {t : Tg} {vs : List Nat} {fc : Env → (Bool → Env → Prop) → Prop} {fe : Env → Kt → Prop} {x : D} {K : Option D → Prop} : trn t vs fc fe ρ x K = ExS (bindT t x (wipeD ρ vs)) (bx fun ρ2 => fc ρ2 (bx fun b ρ3 => ρ3 = ρ2 ∧ iP b (fe ρ2 (bx fun d k ρ4 => ρ4 = ρ2 ∧ k.no ∧ K (some d))) (K none))) := rfl
theorem z_trn2 {t : Tg} {vs : List Nat} {t2 : Tg} {vs2 : List Nat} {fc : Env → (Bool → Env → Prop) → Prop} {fi : Env → (List D → Kd → Env → Prop) → Prop} {fc2 : Env → (Bool → Env → Prop) → Prop} {fe : Env → Kt → Prop} {x : D} {acc : List D} {K : List D → Prop} :
    trn2 t vs t2 vs2 fc fi fc2 fe ρ x acc K = ExS (bindT t x (wipeD ρ vs)) (bx fun ρ2 => fc ρ2 (bx fun b ρ3 => ρ3 = ρ2 ∧ iP b (fi ρ2 (bx fun items2 k2 ρ4 => ρ4 = ρ2 ∧ noOwn ρ2 vs2 = true ∧ cmpL (trn t2 vs2 fc2 fe ρ2) items2 acc K)) (K acc))) := rfl
theorem no_own_nil {ρ : Env} : noOwn ρ [] = true := rfl
theorem no_own_cons {ρ : Env} {v : Nat} {vs : List Nat} : noOwn ρ (v :: vs) = (!Sl.isOwn ρ[v]? && noOwn ρ vs) := rfl
theorem kok_seq {e : CE} {ρ : Env} : kOk (.seq e) ρ = True := rfl
theorem kok_rng {a b : CE} {ρ : Env} : kOk (.rng a b) ρ = True := rfl
theorem kok_rng1 {a : CE} {ρ : Env} : kOk (.rng1 a) ρ = True := rfl
theorem kok_enum {a : CE} {ρ : Env} : kOk (.enum a) ρ = True := rfl
theorem kok_zip {a b : CE} {ρ : Env} : kOk (.zip a b) ρ = True := rfl
theorem c_c {d : D} {P : Env → Prop} : clr d .cln ρ P = P ρ := rfl
theorem c_n {d : D} {P : Env → Prop} : clr d .new ρ P = P ρ := rfl
theorem c_o {i : Nat} {d : D} {P : Env → Prop} : clr d (.own i) ρ P = P (ρ.set i (some (.frz d))) := rfl
theorem s_on {i : Nat} {d : D} {P : Env → Prop} : sto i true d .new ρ P = P (ρ.set i (some (.own d))) := rfl
theorem s_fc {i : Nat} {o : Bool} {d : D} {P : Env → Prop} : sto i o d .cln ρ P = P (ρ.set i (some (.frz d))) := by cases o <;> rfl
theorem s_fn {i : Nat} {d : D} {P : Env → Prop} : sto i false d .new ρ P = P (ρ.set i (some (.frz d))) := rfl
theorem s_fo {i j : Nat} {o : Bool} {d : D} {P : Env → Prop} : sto i o d (.own j) ρ P = P ((ρ.set j (some (.frz d))).set i (some (.frz d))) := by cases o <;> rfl
theorem st_c {d : D} : stood ρ d .cln = True := rfl
theorem st_n {d : D} : stood ρ d .new = True := rfl
theorem st_o {i : Nat} {d : D} : stood ρ d (.own i) = (ρ[i]? = some (some (.own d))) := rfl
theorem no_c : Kd.no .cln = True := rfl
theorem no_n : Kd.no .new = True := rfl
theorem frs_n : Kd.frs .new = True := rfl
theorem frs_o {i : Nat} : Kd.frs (.own i) = True := rfl
theorem z_F {b : CB} {n : Nat} {fr : Bool} {ds : List D} {P : D → Prop} : evF b n fr ds P E = evB E b (ds.map (fun d => some (.frz d)) ++ List.replicate (n - ds.length) none)
    ⟨(bx fun _ => fr = false ∧ P .non), (bx fun d k _ => (fr = true → k.frs) ∧ P d), (bx fun _ => False)⟩ := rfl
end
section
variable (i j : Int)
theorem o_add : op2 .add (.int i) (.int j) = some (.int (i + j), .cln) := rfl
theorem o_sub : op2 .sub (.int i) (.int j) = some (.int (i - j), .cln) := rfl
theorem o_lt : op2 .lt (.int i) (.int j) = some (.bl (decide (i < j)), .cln) := rfl
theorem o_le : op2 .le (.int i) (.int j) = some (.bl (decide (i ≤ j)), .cln) := rfl
theorem o_gt : op2 .gt (.int i) (.int j) = some (.bl (decide (j < i)), .cln) := rfl
theorem o_ge : op2 .ge (.int i) (.int j) = some (.bl (decide (j ≤ i)), .cln) := rfl
theorem o_eq : op2 .eq (.int i) (.int j) = some (.bl (decide (i = j)), .cln) := by
    show some (D.bl (i == j), Kd.cln) = _
    congr 2
theorem o_ne : op2 .ne (.int i) (.int j) = some (.bl (!decide (i = j)), .cln) := by
    show some (D.bl (!(i == j)), Kd.cln) = _
    congr 2
variable {p : D × Kd → Prop}
theorem o_mul : ExS (op2 .mul (.int i) (.int j)) p = (((-(2 ^ 64) < i ∧ i < 2 ^ 64) ∨ (-(2 ^ 64) < j ∧ j < 2 ^ 64)) ∧ p (.int (i * j), .cln)) := by
  apply propext
  unfold op2
  by_cases h : ((-(2 ^ 64) < i ∧ i < 2 ^ 64) ∨ (-(2 ^ 64) < j ∧ j < 2 ^ 64))
  · simp only [h, if_true]
    exact ⟨fun ⟨_, e, q⟩ => by cases e; exact ⟨trivial, q⟩, fun q => ⟨_, rfl, q.2⟩⟩
  · simp only [h, if_false]
    exact ⟨fun ⟨_, e, _⟩ => (nomatch e), fun q => q.1.elim⟩
theorem o_mod : ExS (op2 .mod (.int i) (.int j)) p = (0 < j ∧ p (.int (i % j), .cln)) := by
  apply propext
  unfold op2
  by_cases h : 0 < j
  · simp only [h, if_true]
    exact ⟨fun ⟨_, e, q⟩ => by cases e; exact ⟨trivial, q⟩, fun q => ⟨_, rfl, q.2⟩⟩
  · simp only [h, if_false]
    exact ⟨fun ⟨_, e, _⟩ => (nomatch e), fun q => q.1.elim⟩
theorem o_fdiv : ExS (op2 .fdiv (.int i) (.int j)) p = ((0 < j ∧ j < 1073741824) ∧ p (.int (i / j), .cln)) := by
  apply propext
  unfold op2
  by_cases h : (0 < j ∧ j < 1073741824)
  · simp only [h, if_true]
    exact ⟨fun ⟨_, e, q⟩ => by cases e; exact ⟨⟨trivial, trivial⟩, q⟩, fun q => ⟨_, rfl, q.2⟩⟩
  · simp only [h, if_false]
    exact ⟨fun ⟨_, e, _⟩ => (nomatch e), fun q => q.1.elim⟩
theorem o_pow : ExS (op2 .pow (.int i) (.int j)) p = ((0 ≤ j ∧ j ≤ 1000000 ∧ i.natAbs < 2 ^ 64) ∧ p (.int (i ^ j.toNat), .cln)) := by
  apply propext
  unfold op2
  by_cases h : (0 ≤ j ∧ j ≤ 1000000 ∧ i.natAbs < 2 ^ 64)
  · simp only [h, and_self, if_true]
    exact ⟨fun ⟨_, e, q⟩ => by cases e; exact ⟨trivial, q⟩, fun q => ⟨_, rfl, q.2⟩⟩
  · simp only [h, if_false]
    exact ⟨fun ⟨_, e, _⟩ => (nomatch e), fun q => q.1.elim⟩
variable {xs ys : List D}
theorem o_addl : ExS (op2 .add (.lst xs) (.lst ys)) p = (xs.length + ys.length ≤ big ∧ p (.lst (xs ++ ys), .new)) := by
  apply propext
  unfold op2
  by_cases h : xs.length + ys.length ≤ big
  · simp only [h, if_true]
    exact ⟨fun ⟨_, e, q⟩ => by cases e; exact ⟨trivial, q⟩, fun q => ⟨_, rfl, q.2⟩⟩
  · simp only [h, if_false]
    exact ⟨fun ⟨_, e, _⟩ => (nomatch e), fun q => q.1.elim⟩
theorem o_addt : ExS (op2 .add (.tup xs) (.tup ys)) p = (xs.length + ys.length ≤ big ∧ p (.tup (xs ++ ys), .cln)) := by
  apply propext
  unfold op2
  by_cases h : xs.length + ys.length ≤ big
  · simp only [h, if_true]
    exact ⟨fun ⟨_, e, q⟩ => by cases e; exact ⟨trivial, q⟩, fun q => ⟨_, rfl, q.2⟩⟩
  · simp only [h, if_false]
    exact ⟨fun ⟨_, e, _⟩ => (nomatch e), fun q => q.1.elim⟩
variable {x : Str}
theorem o_rept : ExS (op2 .rep (.tup xs) (.int j)) p = ((0 < xs.length ∧ 1 ≤ j ∧ j ≤ 1000 ∧ xs.length ≤ 1000) ∧ p (.tup (List.replicate j.toNat xs).flatten, .cln)) := by
  apply propext
  unfold op2
  by_cases h : (0 < xs.length ∧ 1 ≤ j ∧ j ≤ 1000 ∧ xs.length ≤ 1000)
  · simp only [h, and_self, if_true]
    exact ⟨fun ⟨_, e, q⟩ => by cases e; exact ⟨trivial, q⟩, fun q => ⟨_, rfl, q.2⟩⟩
  · simp only [h, if_false]
    exact ⟨fun ⟨_, e, _⟩ => (nomatch e), fun q => q.1.elim⟩
theorem o_reps : ExS (op2 .rep (.str x) (.int j)) p = ((j < 2 ^ 62 ∧ -(2 ^ 62) < j ∧ x.length * j.toNat ≤ big) ∧ p (.str (sRep x j), .cln)) := by
  apply propext
  unfold op2
  by_cases h : (j < 2 ^ 62 ∧ -(2 ^ 62) < j ∧ x.length * j.toNat ≤ big)
  · simp only [h, and_self, if_true]
    exact ⟨fun ⟨_, e, q⟩ => by cases e; exact ⟨trivial, q⟩, fun q => ⟨_, rfl, q.2⟩⟩
  · simp only [h, if_false]
    exact ⟨fun ⟨_, e, _⟩ => (nomatch e), fun q => q.1.elim⟩
theorem o_mull : ExS (op2 .mul (.lst xs) (.int j)) p = ((j < 2 ^ 62 ∧ -(2 ^ 62) < j ∧ xs.length * j.toNat ≤ big) ∧ p (.lst (List.replicate j.toNat xs).flatten, .new)) := by
  apply propext
  unfold op2
  by_cases h : (j < 2 ^ 62 ∧ -(2 ^ 62) < j ∧ xs.length * j.toNat ≤ big)
  · simp only [h, and_self, if_true]
    exact ⟨fun ⟨_, e, q⟩ => by cases e; exact ⟨trivial, q⟩, fun q => ⟨_, rfl, q.2⟩⟩
  · simp only [h, if_false]
    exact ⟨fun ⟨_, e, _⟩ => (nomatch e), fun q => q.1.elim⟩
end
theorem k_int {k : Int} : (D.int k).key = some (.inl k) := rfl
theorem k_str {k : Str} : (D.str k).key = some (.inr k) := rfl
theorem gt_l {xs : List D} {i : Int} : getD (.lst xs) (.int i) = atD xs i := rfl
/-- a loop: the invariant by the turn -/
theorem for_inv {body : Env → Kn → Prop} {t : Tg} (I : Nat → Env → Prop) {items : List D} {ρ : Env} {K : Kn} (h0 : I 0 ρ)
    (step : ∀ (i : Nat) (x : D) (ρ : Env) (K' : Kn), items[i]? = some x → I i ρ → K'.rt = K.rt → (∀ ρ', I (i + 1) ρ' → K'.nx ρ') → (∀ ρ', I (i + 1) ρ' → K'.ct ρ') → ExS (bindT t x ρ) (bx fun ρ1 => body ρ1 K')) (fin : ∀ ρ, I items.length ρ → K.nx ρ) : forL body t items ρ K := by
  have go : ∀ (xs : List D) (i : Nat) (ρ : Env), i ≤ items.length → items.drop i = xs → I i ρ → forL body t xs ρ K := by
    intro xs
    induction xs with
    | nil =>
      intro i ρ hl hd hi
      have : items.length ≤ i := List.drop_eq_nil_iff.mp hd
      have e : i = items.length := Nat.le_antisymm hl this
      subst e
      exact fin ρ hi
    | cons x xs ih =>
      intro i ρ hl hd hi
      have hlt : i < items.length := by
        rcases Nat.lt_or_ge i items.length with h | h
        · exact h
        · rw [List.drop_of_length_le h] at hd; cases hd
      have e := List.drop_eq_getElem_cons hlt
      rw [hd] at e
      have hx : items[i]? = some x := by
        rw [List.getElem?_eq_getElem hlt]
        exact congrArg some (List.cons.inj e).1.symm
      have hr : items.drop (i + 1) = xs := (List.cons.inj e).2.symm
      exact step i x ρ _ hx hi rfl (fun ρ' h => ih (i + 1) ρ' hlt hr h) fun ρ' h => ih (i + 1) ρ' hlt hr h
  exact go items 0 ρ (Nat.zero_le _) rfl h0
theorem cmp_mapL {α : Type} {step : D → (Option D → Prop) → Prop} (g : α → D) (f : α → Option D) : ∀ {l : List α} {acc : List D} {P : List D → Prop}, (∀ a ∈ l, ∀ K : Option D → Prop, K (f a) → step (g a) K) → acc.length + l.length ≤ big → P (acc ++ l.filterMap f) → cmpL step (l.map g) acc P
  | [], acc, P, _, _, q => by show P acc; simpa using q
  | x :: xs, acc, P, h, hl, q => by
    refine h x List.mem_cons_self _ ?_
    simp only [List.length_cons] at hl
    rw [List.filterMap_cons] at q
    cases e : f x with
    | none =>
      rw [e] at q
      exact cmp_mapL g f (fun y hy => h y (List.mem_cons_of_mem _ hy)) (by omega) q
    | some d =>
      rw [e] at q
      refine ⟨by omega, cmp_mapL g f (fun y hy => h y (List.mem_cons_of_mem _ hy)) (by rw [List.length_append, List.length_singleton]; omega) ?_⟩
      rw [List.append_assoc]
      exact q
theorem cmp_mapA {α : Type} {step : D → (Option D → Prop) → Prop} (g : α → D) (f : α → D) {l : List α} {P : List D → Prop} (h : ∀ a ∈ l, ∀ K : Option D → Prop, K (some (f a)) → step (g a) K) (hl : l.length ≤ big) (q : P (l.map f)) : cmpL step (l.map g) [] P := by
  refine cmp_mapL g (fun a => some (f a)) h (by simpa using hl) ?_
  rw [List.nil_append, show (fun a => some (f a)) = some ∘ f from rfl, List.filterMap_eq_map]
  exact q
theorem at0 {α : Type} {x : α} {xs : List α} : (x :: xs)[0]? = some x := rfl
section
variable {xs ys : List D} {kvs : List (Key × D)} {i : Int} {P : D → Prop} {d : D}
theorem ix_l : idxR (.lst xs) (.int i) P = ExS (atD xs i) P := rfl
theorem ix_t : idxR (.tup xs) (.int i) P = ExS (atD xs i) P := rfl
theorem ix_k : idxR (.dct kvs) (.int i) P ↔ ExS (valD kvs (.inl i)) P := ⟨fun ⟨_, d, e, h⟩ => by cases e; exact ⟨d, h⟩, fun ⟨d, h⟩ => ⟨_, d, rfl, h⟩⟩
theorem ix_s {x : Str} : idxR (.dct kvs) (.str x) P ↔ ExS (valD kvs (.inr x)) P := ⟨fun ⟨_, d, e, h⟩ => by cases e; exact ⟨d, h⟩, fun ⟨d, h⟩ => ⟨_, d, rfl, h⟩⟩
theorem ct_l {l h : Option Int} {P : D → Kd → Prop} : cutR (.lst xs) l h P = P (.lst (cutD xs l h)) .new := rfl
theorem ct_t {l h : Option Int} {P : D → Kd → Prop} : cutR (.tup xs) l h P = P (.tup (cutD xs l h)) .cln := rfl
theorem rv_l : revR (.lst xs) P = P (.lst xs.reverse) := rfl
theorem en_l {P : List D → Prop} : enR (.lst xs) P = P xs := rfl
theorem en_t {P : List D → Prop} : enR (.tup xs) P = P xs := rfl
theorem sq_r {lo hi : Int} {P : List D → Prop} : seqR (.rng lo hi) P = ((hi - lo ≤ big ∧ -(2 ^ 61) ≤ lo ∧ lo < 2 ^ 61 ∧ -(2 ^ 61) ≤ hi) ∧ P (rngD lo (hi - lo).toNat)) := rfl
theorem sq_l {P : List D → Prop} : seqR (.lst xs) P = P xs := rfl
theorem sq_t {P : List D → Prop} : seqR (.tup xs) P = P xs := rfl
theorem ky_f {P Q : List (Key × D) → Prop} : keyR (some (some (.frz (.dct kvs)))) P Q = P kvs := rfl
theorem ky_o {P Q : List (Key × D) → Prop} : keyR (some (some (.own (.dct kvs)))) P Q = Q kvs := rfl
theorem zp_l {P : List D → Prop} : zipR (.lst xs) (.lst ys) P = P (zipD xs ys) := rfl
theorem zp_t {P : List D → Prop} : zipR (.tup xs) (.tup ys) P = P (zipD xs ys) := rfl
theorem ap_l : appR (some (some (.own (.lst xs)))) d P ↔ xs.length < big ∧ P (.lst (xs ++ [d])) := ⟨fun ⟨_, e, h⟩ => by cases e; exact h, fun h => ⟨_, rfl, h⟩⟩
theorem ex_l : extR (some (some (.own (.lst xs)))) (.lst ys) P ↔ xs.length + ys.length ≤ big ∧ P (.lst (xs ++ ys)) := ⟨fun ⟨_, _, e, e2, h⟩ => by cases e; cases e2; exact h, fun h => ⟨_, _, rfl, rfl, h⟩⟩
theorem se_l : setR (some (some (.own (.lst xs)))) (.int i) d P ↔ ExS (ixN xs.length i) (bx fun j => P (.lst (xs.set j d))) := by
  constructor
  · rintro ⟨z, z', e, h, q⟩
    cases e
    obtain ⟨j, hj, rfl⟩ := Option.map_eq_some_iff.mp (show (ixN xs.length i).map _ = some z' from h)
    exact ⟨j, hj, q⟩
  · rintro ⟨j, hj, q⟩
    exact ⟨_, _, rfl, (show (ixN xs.length i).map _ = some _ by rw [hj]; rfl), q⟩
theorem se_k : setR (some (some (.own (.dct kvs)))) (.int i) d P ↔ kvs.length < big ∧ P (.dct (putD kvs (.inl i) d)) := by
  constructor
  · rintro ⟨z, z', e, h, q⟩
    cases e
    have h : (if kvs.length < big then (D.int i).key.map fun j => D.dct (putD kvs j d) else none) = some z' := h
    split at h
    · cases h; exact ⟨by assumption, q⟩
    · cases h
  · rintro ⟨h, q⟩
    exact ⟨_, _, rfl, (show (if kvs.length < big then (D.int i).key.map fun j => D.dct (putD kvs j d) else none) = some _ by rw [if_pos h]; rfl), q⟩
theorem po_k {P : D → List (Key × D) → Prop} {N : Prop} : popR (some (some (.own (.dct kvs)))) (.int i) P N ↔ ((∃ v, valD kvs (.inl i) = some v ∧ P v (delD kvs (.inl i))) ∨ (valD kvs (.inl i) = none ∧ N)) := by
  constructor
  · rintro ⟨_, _, e, f, h⟩
    cases e; cases f
    cases z : valD kvs (.inl i) with
    | none => rw [z] at h; exact .inr ⟨rfl, h⟩
    | some v => rw [z] at h; exact .inl ⟨v, rfl, h⟩
  · rintro (⟨v, z, h⟩ | ⟨z, h⟩)
    · exact ⟨_, _, rfl, rfl, by rw [z]; exact h⟩
    · exact ⟨_, _, rfl, rfl, by rw [z]; exact h⟩
theorem io_o : Sl.isOwn (some (some (.own d))) = true := rfl
theorem io_f : Sl.isOwn (some (some (.frz d))) = false := rfl
theorem io_n : Sl.isOwn (some none) = false := rfl
theorem ik_o : Sl.isK (some (some (.own (.dct kvs)))) = true := rfl
theorem il_o : Sl.isL (some (some (.own (.lst xs)))) = true := rfl
theorem pr_ll {P : D → Kd → Prop} : pr .len [.lst xs] P = P (.int xs.length) .cln := rfl
theorem pr_lt {P : D → Kd → Prop} : pr .len [.tup xs] P = P (.int xs.length) .cln := rfl
theorem pr_lk {P : D → Kd → Prop} : pr .len [.dct kvs] P = P (.int kvs.length) .cln := rfl
theorem pr_tl {P : D → Kd → Prop} : pr .tuple [.lst xs] P = P (.tup xs) .cln := rfl
theorem pr_tt {P : D → Kd → Prop} : pr .tuple [.tup xs] P = P (.tup xs) .cln := rfl
theorem pr_sl {P : D → Kd → Prop} : pr .list [.lst xs] P = P (.lst xs) .new := rfl
theorem pr_st {P : D → Kd → Prop} : pr .list [.tup xs] P = P (.lst xs) .new := rfl
theorem pr_sk {P : D → Kd → Prop} : pr .list [.dct kvs] P = P (.lst (kvs.map fun kv => .ofKey kv.1)) .new := rfl
theorem pr_dk {P : D → Kd → Prop} : pr .dict [.dct kvs] P = P (.dct kvs) .new := rfl
theorem pr_m2 {a b : Int} {P : D → Kd → Prop} : pr .min [.int a, .int b] P = P (.int (if b < a then b else a)) .cln := rfl
theorem pr_x2 {a b : Int} {P : D → Kd → Prop} : pr .max [.int a, .int b] P = P (.int (if b > a then b else a)) .cln := rfl
theorem pr_ii {a : Int} {P : D → Kd → Prop} : pr .int [.int a] P = P (.int a) .cln := rfl
theorem pr_ib {b : Bool} {P : D → Kd → Prop} : pr .int [.bl b] P = P (.int (if b then 1 else 0)) .cln := rfl
end
theorem sc_i {i : Int} : (D.int i).scal = true := rfl
theorem sc_b {b : Bool} : (D.bl b).scal = true := rfl
theorem sc_s {b : Str} : (D.str b).scal = true := rfl
theorem sc_n : D.non.scal = true := rfl
theorem sc_l {b : List D} : (D.lst b).scal = false := rfl
theorem sc_t {b : List D} : (D.tup b).scal = false := rfl
theorem sc_d {b : List (Key × D)} : (D.dct b).scal = false := rfl
theorem w_nil {ρ : Env} : wipeD ρ [] = ρ := rfl
theorem w_cons {ρ : Env} {v : Nat} {vs : List Nat} : wipeD ρ (v :: vs) = (wipeD ρ vs).set v none := rfl
theorem atD_nat {xs : List D} {j : Nat} {d : D} (h : xs[j]? = some d) : atD xs (j : Int) = some d := by
  have hj : j < xs.length := (List.getElem?_eq_some_iff.mp h).1
  unfold atD atI ixN
  rw [if_pos (by omega), if_pos (by omega)]
  simpa using h
theorem atD_int {xs : List D} {i : Int} {d : D} (h0 : 0 ≤ i) (h : xs[i.toNat]? = some d) : atD xs i = some d := by
  have := atD_nat h
  rwa [Int.toNat_of_nonneg h0] at this
end Z
end T_ZO
local macro_rules | `(tactic| simp! only [$ls,*]) => `(tactic| simp -dsimp only [$ls,*, Z.w_nil, Z.w_cons, ↓Z.bx_ap, Z.op_co, ↓Z.co_s, ↓Z.z_isa, ↓Z.z_lam, ↓Z.z_caught, ↓Z.z_callk, ↓Z.z_j0, ↓Z.z_j1, Z.sh_nil, Z.sh_f, Z.sh_o, Z.sh_n, ↓Z.z_clr, Z.op_i, Z.op_xs, Z.op_bl, Z.op_in, Z.op_dc, Z.op_ch, Z.op_fl, Z.op_fr, Z.op_ow, Z.op_run, Z.op_ix, Z.op_ct, Z.op_rv, Z.op_sq, Z.op_en, Z.op_po, Z.op_pl, Z.op_ky, Z.op_zp, Z.op_ap, Z.op_ex, Z.op_se, Z.op_pr, Z.op_cl, Z.op_cs, Bool.false_eq_true, eq_self, ↓Z.xs_s, ↓Z.bl_s, ↓Z.in_s, ↓Z.dc_s, ↓Z.ch_s, ↓Z.iF_t, ↓Z.iF_f, ↓Z.fr_s, ↓Z.ow_s, Z.o_add, Z.o_sub, Z.o_lt, Z.o_le, Z.o_gt, Z.o_ge, Z.o_eq, Z.o_ne, ↓Z.o_mul, ↓Z.o_mod, ↓Z.o_fdiv, ↓Z.o_pow, ↓Z.o_addl, ↓Z.o_addt, ↓Z.o_mull, ↓Z.o_rept, ↓Z.o_reps, Z.k_int, Z.k_str, Z.gt_l, ↓Z.z_F, ↓Z.z_nil, ↓Z.z_cons, ↓Z.z_asg, ↓Z.z_unp, ↓Z.z_par2, ↓Z.z_par3, ↓Z.z_aug, ↓Z.z_app, ↓Z.z_ext, ↓Z.z_seti, ↓Z.z_augi, ↓Z.z_exp, ↓Z.z_ret, ↓Z.z_retn, ↓Z.z_ite, ↓Z.z_fseq, ↓Z.z_fkey, ↓Z.z_frng, ↓Z.z_frng1, ↓Z.z_fenum, ↓Z.z_fzip, ↓Z.z_whl, ↓Z.z_tst, ↓Z.z_rno, ↓Z.z_rone, ↓Z.z_cont, ↓Z.z_pass, ↓Z.z_never, ↓Z.z_var, ↓Z.z_lit, ↓Z.rd_f, ↓Z.rd_o, ↓Z.z_op, ↓Z.z_neg, ↓Z.z_not, ↓Z.z_chain, ↓Z.z_and, ↓Z.z_or, ↓Z.z_ife, ↓Z.z_lst, ↓Z.z_tup, ↓Z.z_dsp0, ↓Z.z_dspe, Z.pd_n, Z.pd_s, Z.pd_i, Option.map_some, ↓Z.z_idx, ↓Z.z_cut, ↓Z.z_rev, ↓Z.z_call, ↓Z.z_prim, ↓Z.z_get, ↓Z.z_popd, ↓Z.z_popl, ↓Z.z_fld, ↓Z.z_comp, ↓Z.z_comp2, ↓Z.z_trn, ↓Z.z_trn2, Z.no_own_nil, Z.no_own_cons, Z.kok_seq, Z.kok_rng, Z.kok_rng1, Z.kok_enum, Z.kok_zip, ↓Z.z_snil, ↓Z.z_scons, ↓Z.z_anil, ↓Z.z_acons, ↓Z.z_on, ↓Z.z_oo, ↓Z.z_cn, ↓Z.z_co, ↓Z.z_iseq, ↓Z.z_ikey, ↓Z.z_irng1, ↓Z.z_irng, ↓Z.z_ienum, ↓Z.z_izip, List.map_cons, List.map_nil, List.cons_append, List.nil_append, List.length_cons, List.length_nil, Nat.reduceSub, Nat.reduceAdd, List.replicate, List.getElem?_cons_zero, List.getElem?_cons_succ, ↓Z.ix_l, ↓Z.ix_t, ↓Z.ix_k, ↓Z.ix_s, ↓Z.ct_l, ↓Z.ct_t, ↓Z.rv_l, ↓Z.sq_l, Z.en_l, Z.en_t, Z.sq_r, ↓Z.sq_t, ↓Z.ky_f, ↓Z.ky_o, ↓Z.zp_l, ↓Z.zp_t, ↓Z.ap_l, ↓Z.ex_l, ↓Z.se_l, ↓Z.se_k, ↓Z.po_k, Z.io_o, Z.io_f, Z.io_n, Z.ik_o, Z.il_o, ↓Z.pr_ll, ↓Z.pr_lt, ↓Z.pr_lk, ↓Z.pr_tl, ↓Z.pr_tt, ↓Z.pr_sl, ↓Z.pr_st, ↓Z.pr_sk, ↓Z.pr_dk, ↓Z.pr_m2, ↓Z.pr_x2, ↓Z.pr_ii, ↓Z.pr_ib, List.set_cons_zero, List.set_cons_succ, ↓Z.c_c, ↓Z.c_n, ↓Z.c_o, ↓Z.s_on, ↓Z.s_fc, ↓Z.s_fn, ↓Z.s_fo, ↓Z.st_c, ↓Z.st_n, ↓Z.st_o, Z.no_c, Z.no_n, Z.frs_n, Z.frs_o, Z.stoods, Z.owns, true_and, and_true, false_and, or_true, true_or, if_true, if_false, reduceCtorEq, false_implies, implies_true, Z.sc_i, Z.sc_b, Z.sc_s, Z.sc_n, Z.sc_l, Z.sc_t, Z.sc_d, and_self, List.any_nil, List.any_cons, Bool.false_or, Bool.or_false, Bool.or_self, Bool.and_self, Bool.and_true, Bool.true_and, Bool.not_true, Bool.not_false, decide_true, decide_false, Z.bindT, Z.bindL])
section T_PA
namespace Z
section
variable {β : Type}
def aG (l : List (Int × β)) (k : Int) : Option β := (l.find? fun q => decide (q.1 = k)).map (·.2)
def aK (l : List (Int × β)) : List Int := l.map (·.1)
theorem aG_nil (k : Int) : aG ([] : List (Int × β)) k = none := rfl
theorem aG_cons (q : Int × β) (l : List (Int × β)) (k : Int) : aG (q :: l) k = if q.1 = k then some q.2 else aG l k := by
  unfold aG
  rw [List.find?_cons]
  by_cases h : q.1 = k <;> simp [h]
theorem aG_none {l : List (Int × β)} {k : Int} : aG l k = none ↔ k ∉ aK l := by
  induction l with
  | nil => simp [aG_nil, aK]
  | cons q l ih =>
    rw [aG_cons]
    by_cases h : q.1 = k
    · simp [h, aK]
    · rw [if_neg h, ih]
      have h' : ¬ k = q.1 := fun e => h e.symm
      simp [aK, h']
theorem aG_mem {l : List (Int × β)} {k : Int} {v : β} (h : aG l k = some v) : (k, v) ∈ l := by
  induction l with
  | nil => cases h
  | cons q l ih =>
    rw [aG_cons] at h
    by_cases e : q.1 = k
    · rw [if_pos e] at h; cases h; subst e; exact List.mem_cons_self
    · rw [if_neg e] at h; exact List.mem_cons_of_mem _ (ih h)
theorem aG_of {l : List (Int × β)} {k : Int} {v : β} (nd : (aK l).Nodup) (h : (k, v) ∈ l) : aG l k = some v := by
  induction l with
  | nil => cases h
  | cons q l ih =>
    have nd' := List.nodup_cons.mp nd
    rw [aG_cons]
    rcases List.mem_cons.mp h with e | h
    · subst e; simp
    · have : q.1 ≠ k := fun e => nd'.1 (show q.1 ∈ aK l by rw [e]; exact List.mem_map.mpr ⟨_, h, rfl⟩)
      rw [if_neg this]; exact ih nd'.2 h
end
theorem nodup_range : ∀ (n : Nat) (l : List Int), l.Nodup → (∀ x ∈ l, 0 ≤ x ∧ x < n) → l.length ≤ n
  | 0, [], _, _ => Nat.le_refl _
  | 0, x :: l, _, h => by have := h x List.mem_cons_self; omega
  | n + 1, l, nd, h => by
    have h1 := nodup_range n (l.filter fun x => decide (x ≠ (n : Int))) (nd.filter _) fun x hx => by
      rw [List.mem_filter] at hx
      have := h x hx.1
      have := of_decide_eq_true hx.2
      omega
    have h2 : l.length ≤ (l.filter fun x => decide (x ≠ (n : Int))).length + 1 := by
      clear h1 h
      induction l with
      | nil => simp
      | cons y l ih =>
        have nd' := List.nodup_cons.mp nd
        rw [List.filter_cons]
        by_cases e : y = (n : Int)
        · subst e
          have : l.filter (fun x => decide (x ≠ (n : Int))) = l := by
            rw [List.filter_eq_self]
            intro z hz
            exact decide_eq_true fun e => nd'.1 (e ▸ hz)
          have t : (decide ((n : Int) ≠ n)) = false := by simp
          rw [t, if_neg Bool.false_ne_true, this]; exact Nat.le_refl _
        · simp only [e, ne_eq, not_false_eq_true, decide_true, if_true, List.length_cons]
          have := ih nd'.2
          simpa using this
    omega
abbrev SR := List (Int × Int)
def sv (r : SR) (k : Int) : Int := (aG r k).getD 0
/-- a sparse row over p of n places: no 0 is held -/
structure Can (p : Int) (n : Nat) (r : SR) : Prop where
  nd : (aK r).Nodup
  rg : ∀ k ∈ aK r, 0 ≤ k ∧ k < n
  vl : ∀ q ∈ r, 0 < q.2 ∧ q.2 < p
section
variable {p : Int} {n : Nat} {r o : SR}
theorem Can.length (h : Can p n r) : r.length ≤ n := by
  have := nodup_range n (aK r) h.nd h.rg
  simpa [aK] using this
theorem Can.sv_rg (h : Can p n r) (hp : 0 < p) (k : Int) : 0 ≤ sv r k ∧ sv r k < p := by
  unfold sv
  cases e : aG r k with
  | none => simp; exact hp
  | some v => have := h.vl _ (aG_mem e); simp; omega
theorem Can.mem (h : Can p n r) (k : Int) : k ∈ aK r ↔ sv r k ≠ 0 := by
  unfold sv
  cases e : aG r k with
  | none => simp [aG_none.mp e]
  | some v =>
    have := h.vl _ (aG_mem e)
    refine ⟨fun _ => by simp; omega, fun _ => List.mem_map.mpr ⟨_, aG_mem e, rfl⟩⟩
theorem Can.nil : Can p n [] := ⟨.nil, fun _ h => (nomatch h), fun _ h => nomatch h⟩
end
end Z
end T_PA
section T_PB
namespace Z
/-- alike up to p -/
def Cg (p a b : Int) : Prop := ∃ q, a = b + p * q
section
variable {p a b c d : Int}
theorem Cg.rfl' : Cg p a a := ⟨0, by simp⟩
theorem Cg.of (h : a = b) : Cg p a b := h ▸ .rfl'
theorem Cg.symm (h : Cg p a b) : Cg p b a := by obtain ⟨q, h⟩ := h; exact ⟨-q, by grind⟩
theorem Cg.trans (h : Cg p a b) (k : Cg p b c) : Cg p a c := by obtain ⟨q, h⟩ := h; obtain ⟨r, k⟩ := k; exact ⟨q + r, by grind⟩
theorem Cg.add (h : Cg p a b) (k : Cg p c d) : Cg p (a + c) (b + d) := by obtain ⟨q, h⟩ := h; obtain ⟨r, k⟩ := k; exact ⟨q + r, by grind⟩
theorem Cg.sub (h : Cg p a b) (k : Cg p c d) : Cg p (a - c) (b - d) := by obtain ⟨q, h⟩ := h; obtain ⟨r, k⟩ := k; exact ⟨q - r, by grind⟩
theorem Cg.mul (h : Cg p a b) (k : Cg p c d) : Cg p (a * c) (b * d) := by obtain ⟨q, h⟩ := h; obtain ⟨r, k⟩ := k; exact ⟨q * d + b * r + p * q * r, by grind⟩
theorem Cg.mod : Cg p (a % p) a := ⟨-(a / p), by have := Int.emod_add_mul_ediv a p; grind⟩
theorem Cg.emod (h : Cg p a b) : a % p = b % p := by
  obtain ⟨q, h⟩ := h
  rw [h, Int.add_mul_emod_self_left]
theorem Cg.to (h : a % p = b % p) : Cg p a b := ((Cg.mod (a := a)).symm.trans (.of h)).trans Cg.mod
theorem Cg.eq (h : Cg p a b) (ha : 0 ≤ a ∧ a < p) (hb : 0 ≤ b ∧ b < p) : a = b := by
  have := h.emod
  rwa [Int.emod_eq_of_lt ha.1 ha.2, Int.emod_eq_of_lt hb.1 hb.2] at this
end
abbrev Fu := Int → Int
/-- alike everywhere -/
def CgF (p : Int) (f g : Fu) : Prop := ∀ k, Cg p (f k) (g k)
inductive Span (p : Int) (S : Fu → Prop) : Fu → Prop
  | nil {f : Fu} : CgF p f (fun _ => 0) → Span p S f
  | step {f g h : Fu} (c : Int) : S g → Span p S f → CgF p h (fun k => f k + c * g k) → Span p S h
section
variable {p : Int} {S T : Fu → Prop} {f g h : Fu}
theorem Span.cg (s : Span p S f) (e : CgF p g f) : Span p S g := by
  cases s with
  | nil z => exact .nil fun k => (e k).trans (z k)
  | step c m s z => exact .step c m s fun k => (e k).trans (z k)
theorem Span.comb (s : Span p S f) (t : Span p S g) (c : Int) : Span p S (fun k => f k + c * g k) := by
  induction t generalizing f c with
  | nil z =>
    refine s.cg fun k => ?_
    have := ((Cg.rfl' (p := p) (a := f k)).add ((Cg.rfl' (p := p) (a := c)).mul (z k)))
    simpa using this
  | @step f' g' h' d m s' z ih =>
    refine .step (c * d) m (ih s c) fun k => ?_
    have := ((Cg.rfl' (p := p) (a := f k)).add ((Cg.rfl' (p := p) (a := c)).mul (z k)))
    refine this.trans (.of ?_)
    grind
theorem Span.mem (m : S g) : Span p S g := .step 1 m (.nil (f := fun _ => 0) fun _ => .rfl') fun k => .of (by simp)
theorem Span.zero : Span p S (fun _ => 0) := .nil fun _ => .rfl'
theorem Span.sub (s : Span p S f) (t : Span p S g) (c : Int) : Span p S (fun k => f k - c * g k) := (s.comb t (-c)).cg fun k => .of (by grind)
theorem Span.trans (s : Span p S f) (h : ∀ g, S g → Span p T g) : Span p T f := by
  induction s with
  | nil z => exact .nil z
  | step c m s z ih => exact (ih.comb (h _ m) c).cg z
theorem Span.mono (s : Span p S f) (h : ∀ g, S g → T g) : Span p T f := s.trans fun g hg => .mem (h g hg)
/-- what is linear and 0 on S is 0 on the span -/
theorem Span.lin (s : Span p S f) (L : Fu → Prop) (h0 : ∀ f, CgF p f (fun _ => 0) → L f) (h1 : ∀ f g h c, S g → L f → CgF p h (fun k => f k + c * g k) → L h) : L f := by
  induction s with
  | nil z => exact h0 _ z
  | step c m s z ih => exact h1 _ _ _ c m ih z
end
abbrev HR := List (Int × SR)
def rowsOf (h : HR) (f : Fu) : Prop := ∃ q ∈ h, f = sv q.2
/-- tidy heads: each leads at its key with 1 and is 0 at the other keys -/
structure Hd (p : Int) (n : Nat) (h : HR) : Prop where
  nd : (aK h).Nodup
  can : ∀ q ∈ h, Can p n q.2
  one : ∀ q ∈ h, sv q.2 q.1 = 1
  zer : ∀ q ∈ h, ∀ k ∈ aK h, k ≠ q.1 → sv q.2 k = 0
  led : ∀ q ∈ h, ∀ k, k < q.1 → sv q.2 k = 0
  rg : ∀ k ∈ aK h, 0 ≤ k ∧ k < n
section
variable {p : Int} {n : Nat} {h : HR} {f : Fu}
theorem Hd.nil : Hd p n [] := ⟨.nil, fun _ h => (nomatch h), fun _ h => (nomatch h), fun _ h => (nomatch h), fun _ h => (nomatch h), fun _ h => nomatch h⟩
/-- a sum over the heads -/
def hsum (h : HR) (f : Fu) (k : Int) : Int := (h.map fun q => f q.1 * sv q.2 k).sum
theorem hsum_cg {f g : Fu} (e : CgF p f g) (k : Int) : ∀ h : HR, Cg p (hsum h f k) (hsum h g k)
  | [] => .rfl'
  | q :: h => by
    simp only [hsum, List.map_cons, List.sum_cons]
    exact ((e q.1).mul .rfl').add (hsum_cg e k h)
theorem hsum_add {f g : Fu} {c : Int} (k : Int) : ∀ h : HR, hsum h (fun k => f k + c * g k) k = hsum h f k + c * hsum h g k
  | [] => by simp [hsum]
  | q :: h => by
    have := hsum_add (f := f) (g := g) (c := c) k h
    simp only [hsum, List.map_cons, List.sum_cons] at this ⊢
    rw [this]; grind
theorem hsum_zero {f : Fu} {k : Int} : ∀ {h : HR}, (∀ q ∈ h, f q.1 * sv q.2 k = 0) → hsum h f k = 0
  | [], _ => rfl
  | q :: h, z => by
    simp only [hsum, List.map_cons, List.sum_cons]
    rw [z q List.mem_cons_self]
    have := hsum_zero (h := h) fun r hr => z r (List.mem_cons_of_mem _ hr)
    unfold hsum at this
    rw [this]; rfl
theorem hsum_one {f : Fu} {k : Int} : ∀ {h : HR} {q : Int × SR}, (aK h).Nodup → q ∈ h → (∀ r ∈ h, r.1 ≠ q.1 → f r.1 * sv r.2 k = 0) → hsum h f k = f q.1 * sv q.2 k
  | r :: h, q, nd, hq, z => by
    have nd' := List.nodup_cons.mp nd
    simp only [hsum, List.map_cons, List.sum_cons]
    rcases List.mem_cons.mp hq with e | hq
    · subst e
      have := hsum_zero (f := f) (k := k) (h := h) fun r hr => z r (List.mem_cons_of_mem _ hr) fun e => nd'.1 (show q.1 ∈ aK h by rw [← e]; exact List.mem_map.mpr ⟨r, hr, rfl⟩)
      unfold hsum at this
      rw [this]; simp
    · have ne : r.1 ≠ q.1 := fun e => nd'.1 (show r.1 ∈ aK h by rw [e]; exact List.mem_map.mpr ⟨q, hq, rfl⟩)
      rw [z r List.mem_cons_self ne]
      have := hsum_one (f := f) (k := k) nd'.2 hq fun s hs => z s (List.mem_cons_of_mem _ hs)
      unfold hsum at this
      rw [this]; simp
/-- what is of the heads' span is put together from what it has at the keys -/
theorem Hd.expand (H : Hd p n h) (s : Span p (rowsOf h) f) : CgF p f (hsum h f) := by
  refine s.lin (fun f => CgF p f (hsum h f)) (fun f z k => ?_) fun f g h' c m ih z k => ?_
  · refine (z k).trans ?_
    have := (hsum_cg z k h)
    rw [hsum_zero (f := fun _ => 0) (fun q _ => by simp)] at this
    exact this.symm
  · obtain ⟨q, hq, rfl⟩ := m
    have e1 : hsum h (sv q.2) k = sv q.2 k := by
      rw [hsum_one (q := q) H.nd hq fun r hr ne => by rw [H.zer q hq r.1 (List.mem_map.mpr ⟨r, hr, rfl⟩) ne]; simp, H.one q hq, Int.one_mul]
    refine (z k).trans (((ih k).add .rfl').trans (Cg.symm ?_))
    refine (hsum_cg z k h).trans (.of ?_)
    rw [hsum_add, e1]
/-- a key: where something of the span leads -/
theorem Hd.key (H : Hd p n h) (hp : 1 < p) (s : Span p (rowsOf h) f) {k : Int} (hk : ¬ Cg p (f k) 0) (hl : ∀ j, j < k → Cg p (f j) 0) : k ∈ aK h := by
  refine Decidable.byContradiction fun no => hk ?_
  refine (H.expand s k).trans ?_
  have go : ∀ l : HR, (∀ q ∈ l, q ∈ h) → Cg p (hsum l f k) 0 := by
    intro l
    induction l with
    | nil => intro _; exact .rfl'
    | cons q l ih =>
      intro hl'
      simp only [hsum, List.map_cons, List.sum_cons]
      have h1 : Cg p (f q.1 * sv q.2 k) 0 := by
        have hq := hl' q List.mem_cons_self
        rcases Int.lt_trichotomy q.1 k with z | z | z
        · exact ((hl q.1 z).mul .rfl').trans (.of (by simp))
        · exact absurd (z ▸ List.mem_map.mpr ⟨q, hq, rfl⟩) no
        · rw [H.led q hq k z]; exact .of (by simp)
      have := h1.add (ih fun r hr => hl' r (List.mem_cons_of_mem _ hr))
      exact this
  exact go h fun _ z => z
/-- the other way: at each key something leads -/
theorem Hd.lead (H : Hd p n h) {k : Int} (hk : k ∈ aK h) : ∃ f, rowsOf h f ∧ f k = 1 ∧ ∀ j, j < k → f j = 0 := by
  obtain ⟨q, hq, rfl⟩ := List.mem_map.mp hk
  exact ⟨sv q.2, ⟨q, hq, rfl⟩, H.one q hq, H.led q hq⟩
end
end Z
end T_PB
section T_PC
namespace Z
open PySem L2
section
variable {β : Type} (g : β → D)
def akD (l : List (Int × β)) : List (Key × D) := l.map fun q => (Sum.inl q.1, g q.2)
variable {g} {l m : List (Int × β)} {k : Int}
theorem akD_cons {q : Int × β} : akD g (q :: l) = (Sum.inl q.1, g q.2) :: akD g l := rfl
theorem akD_val : valD (akD g l) (.inl k) = (aG l k).map g := by
  induction l with
  | nil => rfl
  | cons q l ih =>
    rw [aG_cons, akD_cons]
    unfold valD at ih ⊢
    rw [List.find?_cons]
    by_cases e : q.1 = k
    · simp [e]
    · have : ¬ (Sum.inl q.1 : Key) = .inl k := fun z => e (Sum.inl.inj z)
      simp only [this, decide_false, e, if_false]
      exact ih
end
abbrev srD (r : SR) : List (Key × D) := akD D.int r
abbrev hdD (h : HR) : List (Key × D) := akD (fun r => D.dct (srD r)) h
end Z
end T_PC
section T_PD
namespace Z
open PySem L2
def enumI : Int → List Int → List (Int × Int)
  | _, [] => []
  | i, x :: xs => (i, x) :: enumI (i + 1) xs
theorem enumI_keys : ∀ (xs : List Int) (i : Int), (∀ q ∈ enumI i xs, i ≤ q.1 ∧ q.1 < i + xs.length ∧ xs[(q.1 - i).toNat]? = some q.2) ∧ ((enumI i xs).map (·.1)).Nodup
  | [], _ => ⟨fun _ h => (nomatch h), .nil⟩
  | x :: xs, i => by
    obtain ⟨h1, h2⟩ := enumI_keys xs (i + 1)
    refine ⟨fun q hq => ?_, List.nodup_cons.mpr ⟨fun h => ?_, h2⟩⟩
    · rcases List.mem_cons.mp hq with e | hq
      · subst e; simp; omega
      · obtain ⟨a, b, c⟩ := h1 q hq
        refine ⟨by omega, by simp only [List.length_cons]; omega, ?_⟩
        have e : (q.1 - i).toNat = (q.1 - (i + 1)).toNat + 1 := by omega
        rw [e]; simpa using c
    · obtain ⟨q, hq, e⟩ := List.mem_map.mp h
      have := (h1 q hq).1
      have e : q.1 = i := e
      omega
theorem enumI_mem : ∀ (xs : List Int) (i : Int) (k : Nat) (x : Int), xs[k]? = some x → (i + k, x) ∈ enumI i xs
  | y :: xs, i, 0, x, h => by simp at h; subst h; simp [enumI]
  | y :: xs, i, k + 1, x, h => by
    have := enumI_mem xs (i + 1) k x (by simpa using h)
    refine List.mem_cons_of_mem _ ?_
    have e : i + ((k + 1 : Nat) : Int) = i + 1 + k := by omega
    rw [e]; exact this
/-- the row of a list -/
def fewF (p : Int) (q : Int × Int) : Option (Int × Int) := if q.2 % p = 0 then none else some (q.1, q.2 % p)
def fewL (p : Int) (xs : List Int) : SR := (enumI 0 xs).filterMap (fewF p)
theorem few_mem {p : Int} {xs : List Int} {q : Int × Int} : q ∈ fewL p xs ↔ ∃ x, (q.1, x) ∈ enumI 0 xs ∧ x % p ≠ 0 ∧ q.2 = x % p := by
  unfold fewL
  rw [List.mem_filterMap]
  constructor
  · rintro ⟨r, h1, h2⟩
    unfold fewF at h2
    split at h2
    · cases h2
    · cases h2; exact ⟨r.2, h1, by assumption, rfl⟩
  · rintro ⟨x, h1, h2, h3⟩
    exact ⟨_, h1, by unfold fewF; rw [if_neg h2]; simp [← h3]⟩
theorem few_nd (p : Int) : ∀ (l : List (Int × Int)), (l.map (·.1)).Nodup → (aK (l.filterMap (fewF p))).Nodup
  | [], _ => .nil
  | q :: l, nd => by
    have nd' := List.nodup_cons.mp nd
    have ih := few_nd p l nd'.2
    rw [List.filterMap_cons]
    cases e : fewF p q with
    | none => exact ih
    | some r =>
      refine List.nodup_cons.mpr ⟨fun h => nd'.1 ?_, ih⟩
      obtain ⟨s, hs, e2⟩ := List.mem_map.mp h
      obtain ⟨t, ht, e3⟩ := List.mem_filterMap.mp hs
      have a1 : r.1 = q.1 := by unfold fewF at e; split at e <;> cases e; rfl
      have a2 : s.1 = t.1 := by unfold fewF at e3; split at e3 <;> cases e3; rfl
      exact List.mem_map.mpr ⟨t, ht, (a2.symm.trans e2).trans a1⟩
theorem few_can {p : Int} (hp : 0 < p) (xs : List Int) : Can p xs.length (fewL p xs) where
  nd := few_nd p _ (enumI_keys xs 0).2
  rg := fun k hk => by
    obtain ⟨q, hq, rfl⟩ := List.mem_map.mp hk
    obtain ⟨x, h1, _, _⟩ := few_mem.mp hq
    have := (enumI_keys xs 0).1 _ h1
    show 0 ≤ q.1 ∧ q.1 < _
    omega
  vl := fun q hq => by
    obtain ⟨x, h1, h2, h3⟩ := few_mem.mp hq
    have a := Int.emod_nonneg x (show p ≠ 0 by omega)
    have b := Int.emod_lt_of_pos x hp
    rw [h3]; omega
/-- the function of a list -/
def lf (xs : List Int) (k : Int) : Int := if 0 ≤ k then (xs[k.toNat]?).getD 0 else 0
theorem few_sv {p : Int} (hp : 0 < p) (xs : List Int) (k : Int) : sv (fewL p xs) k = lf xs k % p := by
  have C := few_can hp xs
  unfold sv
  cases e : aG (fewL p xs) k with
  | some v =>
    obtain ⟨x, h1, h2, h3⟩ := few_mem.mp (aG_mem e)
    obtain ⟨a, b, c⟩ := (enumI_keys xs 0).1 _ h1
    have c : xs[(k - 0).toNat]? = some x := c
    have a : 0 ≤ k := a
    rw [Int.sub_zero] at c
    unfold lf
    rw [if_pos a, c]
    exact h3
  | none =>
    show 0 = _
    unfold lf
    by_cases h0 : 0 ≤ k
    · rw [if_pos h0]
      cases e2 : xs[k.toNat]? with
      | none => simp
      | some x =>
        have m := enumI_mem xs 0 k.toNat x e2
        rw [show (0 : Int) + (k.toNat : Int) = k by omega] at m
        refine Decidable.byContradiction fun z => ?_
        have : (k, x % p) ∈ fewL p xs := few_mem.mpr ⟨x, m, fun w => z (by simp [w]), rfl⟩
        exact (aG_none.mp e) (List.mem_map.mpr ⟨_, this, rfl⟩)
    · rw [if_neg h0]; simp
/-- a list or a tuple of numbers -/
def isRow (d : D) (xs : List Int) : Prop := d = .lst (xs.map .int) ∨ d = .tup (xs.map .int)
def rngI (lo : Int) (n : Nat) : List Int := (List.range n).map fun i => lo + (i : Nat)
theorem rngI_len (lo : Int) (n : Nat) : (rngI lo n).length = n := by simp [rngI]
def wholeL (n : Nat) (r : SR) : List Int := (rngI 0 n).map (sv r)
def F_few : Fn := ⟨"F_few", false, false, fun ds P _ => ∃ (p : Int) (d : D) (xs : List Int), ds = [.int p, d] ∧ (2 ≤ p ∧ p < 1000) ∧ isRow d xs ∧ xs.length < 1000000 ∧ P (.dct (srD (fewL p xs)))⟩
def F_whole_row : Fn := ⟨"F_whole_row", false, false, fun ds P _ => ∃ (n : Nat) (r : SR), ds = [.int n, .dct (srD r)] ∧ n < 1000000 ∧ P (.tup ((wholeL n r).map .int))⟩
/-- what cleared hands back -/
def Clr (p : Int) (n : Nat) (h : HR) (r f : SR) : Prop := Can p n f ∧ (∀ k ∈ aK h, sv f k = 0) ∧ Span p (rowsOf h) (fun k => sv r k - sv f k)
def F_cleared : Fn := ⟨"F_cleared", true, true, fun ds P _ => ∃ (p : Int) (n : Nat) (r : SR) (h : HR), ds = [.int p, .dct (srD r), .dct (hdD h)] ∧ (2 ≤ p ∧ p < 1000) ∧ n < 1000000 ∧ Can p n r ∧ Hd p n h ∧ ∀ f, Clr p n h r f → P (.dct (srD f))⟩
end Z
end T_PD
section T_PE
namespace Z
/-- p is as a prime is: what is not 0 is undone by its power -/
structure Prm (p : Int) : Prop where
  two : 2 ≤ p
  few : p < 1000
  und : ∀ n, 0 < n → n < p → n * n ^ (p - 2).toNat % p = 1
end Z
end T_PE
section T_PF
namespace Z
open PySem L2
theorem fl_cleared : F_cleared.fl = true := rfl
theorem fr_cleared : F_cleared.fr = true := rfl
/-- the rows that a span comes of -/
def inRows (rows : List SR) (f : Fu) : Prop := ∃ r ∈ rows, f = sv r
/-- what heads_of hands back -/
def HdOf (p : Int) (n : Nat) (rows : List SR) (h : HR) : Prop := Hd p n h ∧ (∀ r ∈ rows, Span p (rowsOf h) (sv r)) ∧ ∀ q ∈ h, Span p (inRows rows) (sv q.2)
def rowsD (rows : List SR) : List D := rows.map fun r => .dct (srD r)
def F_heads_of : Fn := ⟨"F_heads_of", false, false, fun ds P _ => ∃ (p : Int) (n : Nat) (rows : List SR), ds = [.int p, .lst (rowsD rows)] ∧ Prm p ∧ n < 1000000 ∧ (∀ r ∈ rows, Can p n r) ∧ ∀ h, HdOf p n rows h → P (.dct (hdD h))⟩
end Z
end T_PF
section T_P1
namespace Z
open PySem L2
end Z
end T_P1
section T_PK
namespace Z
open PySem L2
/-- a number: an int that is no bool -/
def D.isN : D → Option Bool
  | .int _ => some true
  | .bl _ | .non | .str _ | .lst _ | .tup _ | .dct _ => some false
  | _ => none
def PRIMES : List Int := [2, 3, 5, 7, 11, 13, 17, 19, 23, 29, 31, 37, 41, 43, 47, 53, 59, 61, 67, 71, 73, 79, 83, 89, 97]
inductive IsRows : List D → List (List Int) → Prop
  | nil : IsRows [] []
  | cons {d : D} {xs : List Int} {ds : List D} {xss : List (List Int)} : isRow d xs → IsRows ds xss → IsRows (d :: ds) (xs :: xss)
/-- a list or a tuple of rows -/
def isRows (d : D) (xss : List (List Int)) : Prop := ∃ rows, (d = .lst rows ∨ d = .tup rows) ∧ IsRows rows xss
def F_is_number : Fn := ⟨"F_is_number", false, true, fun ds P _ => ∃ d b, ds = [d] ∧ d.isN = some b ∧ P (.bl b)⟩
theorem fl_is_number : F_is_number.fl = true := rfl
theorem fr_is_number : F_is_number.fr = false := rfl
def F_is_between : Fn := ⟨"F_is_between", false, true, fun ds P _ => ∃ (d : D) (lo hi : Int), ds = [d, .int lo, .int hi] ∧ ((∃ i, d = .int i ∧ P (.bl (decide (lo ≤ i ∧ i ≤ hi)))) ∨ (d.isN = some false ∧ P (.bl false)))⟩
theorem fl_is_between : F_is_between.fl = true := rfl
theorem fr_is_between : F_is_between.fr = false := rfl
def F_is_list : Fn := ⟨"F_is_list", false, true, fun ds P _ => ∃ d b, ds = [d] ∧ d.isL = some b ∧ P (.bl b)⟩
theorem fl_is_list : F_is_list.fl = true := rfl
theorem fr_is_list : F_is_list.fr = false := rfl
def F_is_row : Fn := ⟨"F_is_row", false, true, fun ds P _ => ∃ (d : D) (xs : List Int) (n : Int), ds = [d, .int n] ∧ isRow d xs ∧ xs.length < 1000000 ∧ P (.bl (decide ((xs.length : Int) = n)))⟩
theorem fl_is_row : F_is_row.fl = true := rfl
theorem fr_is_row : F_is_row.fr = false := rfl
def F_are_rows : Fn := ⟨"F_are_rows", false, true, fun ds P _ => ∃ (d : D) (xss : List (List Int)) (n : Int), ds = [d, .int n] ∧ isRows d xss ∧ xss.length < 1000000 ∧ (∀ xs ∈ xss, xs.length < 1000000) ∧ P (.bl (xss.all fun xs => decide ((xs.length : Int) = n)))⟩
theorem fl_are_rows : F_are_rows.fl = true := rfl
theorem fr_are_rows : F_are_rows.fr = false := rfl
def F_need_prime : Fn := ⟨"F_need_prime", false, true, fun ds P _ => ∃ p, ds = [.int p] ∧ p ∈ PRIMES ∧ P .non⟩
theorem fl_need_prime : F_need_prime.fl = true := rfl
theorem fr_need_prime : F_need_prime.fr = false := rfl
def F_need_letters : Fn := ⟨"F_need_letters", false, true, fun ds P _ => ∃ n, ds = [.int n] ∧ (1 ≤ n ∧ n ≤ 9) ∧ P .non⟩
theorem fl_need_letters : F_need_letters.fl = true := rfl
theorem fr_need_letters : F_need_letters.fr = false := rfl
def F_need_from : Fn := ⟨"F_need_from", false, true, fun ds P _ => ∃ n d, ds = [.int n, d] ∧ 0 ≤ n ∧ P .non⟩
theorem fl_need_from : F_need_from.fl = true := rfl
theorem fr_need_from : F_need_from.fr = false := rfl
def F_many_words : Fn := ⟨"F_many_words", false, true, fun ds P _ => ∃ (n l : Nat), ds = [.int n, .int l] ∧ 1 ≤ n ∧ n ^ l ≤ 1000 ∧ P (.int ((n ^ l : Nat) : Int))⟩
theorem fl_many_words : F_many_words.fl = true := rfl
theorem fr_many_words : F_many_words.fr = false := rfl
def F_need_rows : Fn := ⟨"F_need_rows", false, true, fun ds P _ => ∃ (d : D) (xss : List (List Int)) (n : Int), ds = [d, .int n] ∧ isRows d xss ∧ xss.length < 1000000 ∧ n < 1000000 ∧ (∀ xs ∈ xss, (xs.length : Int) = n) ∧ P .non⟩
theorem fl_need_rows : F_need_rows.fl = true := rfl
theorem fr_need_rows : F_need_rows.fr = false := rfl
end Z
end T_PK
section T_PL
namespace Z
open PySem L2
section
variable {P : D → Prop} {E : Xn → Prop}
theorem IsRows.len : ∀ {ds : List D} {xss : List (List Int)}, IsRows ds xss → ds.length = xss.length
  | _, _, .nil => rfl
  | _, _, .cons _ b => by simp [IsRows.len b]
end
end Z
end T_PL
section T_PM
namespace Z
open PySem L2
def rowD (xs : List Int) : D := .tup (xs.map .int)
def tidyL (n : Nat) (h : HR) (ms : List Int) : List (List Int) := ms.map fun k => wholeL n ((aG h k).getD [])
/-- a tidy list of rows -/
def TidyOf (p : Int) (n : Nat) (xss t : List (List Int)) : Prop := ∃ h ms, HdOf p n (xss.map (fewL p)) h ∧ ms.Perm (aK h) ∧ ms.Pairwise (· ≤ ·) ∧ t = tidyL n h ms
def wordL (n : Nat) : Nat → Nat → List Nat
  | 0, _ => []
  | l + 1, s => wordL n l (s / n) ++ [s % n]
def wordD (w : List Nat) : D := .tup (w.map fun (a : Nat) => .int a)
def addAt (xs : List Int) (k : Nat) (c : Int) : List Int := xs.set k ((xs[k]?).getD 0 + c)
def pairL (n : Nat) (ps : List (Nat × Nat × Int)) : List Int := ps.foldl (fun xs q => addAt xs (q.1 * n + q.2.1) q.2.2) (List.replicate (n * n) 0)
def tripD (q : Nat × Nat × Int) : D := .tup [.int q.1, .int q.2.1, .int q.2.2]
def F_tidy_rows : Fn := ⟨"F_tidy_rows", false, false, fun ds P _ => ∃ (p : Int) (n : Nat) (d : D) (xss : List (List Int)), ds = [.int p, .int n, d] ∧ Prm p ∧ n < 1000000 ∧ isRows d xss ∧ xss.length < 1000000 ∧ (∀ xs ∈ xss, xs.length = n) ∧ ∀ t, TidyOf p n xss t → P (.lst (t.map rowD))⟩
theorem fl_tidy_rows : F_tidy_rows.fl = false := rfl
theorem fr_tidy_rows : F_tidy_rows.fr = false := rfl
def F_word_in : Fn := ⟨"F_word_in", false, false, fun ds P _ => ∃ (n l s : Nat), ds = [.int n, .int l, .int s] ∧ (1 ≤ n ∧ n ≤ 9) ∧ l ≤ 1000 ∧ P (wordD (wordL n l s))⟩
theorem fl_word_in : F_word_in.fl = false := rfl
theorem fr_word_in : F_word_in.fr = false := rfl
def F_pair_row : Fn := ⟨"F_pair_row", false, false, fun ds P _ => ∃ (n : Nat) (ps : List (Nat × Nat × Int)), ds = [.int n, .lst (ps.map tripD)] ∧ (1 ≤ n ∧ n ≤ 9) ∧ (∀ q ∈ ps, q.1 < n ∧ q.2.1 < n) ∧ P (.lst ((pairL n ps).map .int))⟩
theorem fl_pair_row : F_pair_row.fl = false := rfl
theorem fr_pair_row : F_pair_row.fr = false := rfl
theorem fl_few : F_few.fl = false := rfl
theorem fr_few : F_few.fr = false := rfl
theorem fl_whole_row : F_whole_row.fl = false := rfl
theorem fr_whole_row : F_whole_row.fr = false := rfl
theorem fl_heads_of : F_heads_of.fl = false := rfl
theorem fr_heads_of : F_heads_of.fr = false := rfl
section
variable {P : D → Prop} {E : Xn → Prop}
theorem wholeL_len (n : Nat) (r : SR) : (wholeL n r).length = n := by unfold wholeL; rw [List.length_map, rngI_len]
theorem hr_get {p : Int} {n : Nat} {h : HR} (H : Hd p n h) {k : Int} (hk : k ∈ aK h) : ((k, (aG h k).getD []) ∈ h) ∧ valD (hdD h) (.inl k) = some (.dct (srD ((aG h k).getD []))) := by
  cases e : aG h k with
  | none => exact absurd hk (aG_none.mp e)
  | some o => exact ⟨aG_mem e, by rw [akD_val, e]; rfl⟩
theorem hr_len {p : Int} {n : Nat} {h : HR} (H : Hd p n h) : h.length ≤ n := by
  have := nodup_range n (aK h) H.nd H.rg
  simpa [aK] using this
end
end Z
end T_PM
section T_PN
namespace Z
open PySem L2
def bookD (p : Int) (n : Nat) (t : List (List Int)) : D := .ins "Rules" [("prime", .int p), ("letters", .int n), ("rules", .tup (t.map rowD))]
def unitL (m k : Nat) : List Int := (List.range m).map fun j => if j = k then 1 else 0
def wAt (W : List (List Int)) (b a : Nat) : Int := ((W[b]?).getD [])[a]?.getD 0
/-- what a rule book's making asks, and hands on -/
def Made (p : Int) (n : Nat) (xss : List (List Int)) (P : D → Prop) : Prop := ∀ t, TidyOf p (n * n) xss t → P (bookD p n t)
def F_Rules : Fn := ⟨"F_Rules", false, false, fun ds P _ => ∃ (p : Int) (n : Nat) (d : D) (xss : List (List Int)), ds = [.int p, .int n, d] ∧ p ∈ PRIMES ∧ (1 ≤ n ∧ n ≤ 9) ∧ isRows d xss ∧ xss.length < 1000000 ∧ (∀ xs ∈ xss, xs.length = n * n) ∧ Made p n xss P⟩
theorem fl_Rules : F_Rules.fl = false := rfl
theorem fr_Rules : F_Rules.fr = false := rfl
end Z
end T_PN
local macro_rules | `(tactic| simpa! only [$ls,*]) => `(tactic| try simp -dsimp only [$ls,*, Z.fl_is_number, Z.fr_is_number, Z.fl_is_between, Z.fr_is_between, Z.fl_is_list, Z.fr_is_list, Z.fl_is_row, Z.fr_is_row, Z.fl_are_rows, Z.fr_are_rows, Z.fl_need_prime, Z.fr_need_prime, Z.fl_need_letters, Z.fr_need_letters, Z.fl_need_from, Z.fr_need_from, Z.fl_many_words, Z.fr_many_words, Z.fl_need_rows, Z.fr_need_rows, true_or, Z.fl_Rules, Z.fl_pair_row, Z.fr_pair_row, Z.fl_tidy_rows, Z.fr_tidy_rows, Z.fr_Rules, Z.w_nil, Z.w_cons, ↓Z.bx_ap, Z.op_co, ↓Z.co_s, ↓Z.z_isa, ↓Z.z_lam, ↓Z.z_caught, ↓Z.z_callk, ↓Z.z_j0, ↓Z.z_j1, Z.sh_nil, Z.sh_f, Z.sh_o, Z.sh_n, ↓Z.z_clr, Z.op_i, Z.op_xs, Z.op_bl, Z.op_in, Z.op_dc, Z.op_ch, Z.op_fl, Z.op_fr, Z.op_ow, Z.op_run, Z.op_ix, Z.op_ct, Z.op_rv, Z.op_sq, Z.op_en, Z.op_po, Z.op_pl, Z.op_ky, Z.op_zp, Z.op_ap, Z.op_ex, Z.op_se, Z.op_pr, Z.op_cl, Z.op_cs, Bool.false_eq_true, eq_self, ↓Z.xs_s, ↓Z.bl_s, ↓Z.in_s, ↓Z.dc_s, ↓Z.ch_s, ↓Z.iF_t, ↓Z.iF_f, ↓Z.fr_s, ↓Z.ow_s, Z.o_add, Z.o_sub, Z.o_lt, Z.o_le, Z.o_gt, Z.o_ge, Z.o_eq, Z.o_ne, ↓Z.o_mul, ↓Z.o_mod, ↓Z.o_fdiv, ↓Z.o_pow, ↓Z.o_addl, ↓Z.o_addt, ↓Z.o_mull, ↓Z.o_rept, ↓Z.o_reps, Z.k_int, Z.k_str, Z.gt_l, ↓Z.z_F, ↓Z.z_nil, ↓Z.z_cons, ↓Z.z_asg, ↓Z.z_unp, ↓Z.z_par2, ↓Z.z_par3, ↓Z.z_aug, ↓Z.z_app, ↓Z.z_ext, ↓Z.z_seti, ↓Z.z_augi, ↓Z.z_exp, ↓Z.z_ret, ↓Z.z_retn, ↓Z.z_ite, ↓Z.z_fseq, ↓Z.z_fkey, ↓Z.z_frng, ↓Z.z_frng1, ↓Z.z_fenum, ↓Z.z_fzip, ↓Z.z_whl, ↓Z.z_tst, ↓Z.z_rno, ↓Z.z_rone, ↓Z.z_cont, ↓Z.z_pass, ↓Z.z_never, ↓Z.z_var, ↓Z.z_lit, ↓Z.rd_f, ↓Z.rd_o, ↓Z.z_op, ↓Z.z_neg, ↓Z.z_not, ↓Z.z_chain, ↓Z.z_and, ↓Z.z_or, ↓Z.z_ife, ↓Z.z_lst, ↓Z.z_tup, ↓Z.z_dsp0, ↓Z.z_dspe, Z.pd_n, Z.pd_s, Z.pd_i, Option.map_some, ↓Z.z_idx, ↓Z.z_cut, ↓Z.z_rev, ↓Z.z_call, ↓Z.z_prim, ↓Z.z_get, ↓Z.z_popd, ↓Z.z_popl, ↓Z.z_fld, ↓Z.z_comp, ↓Z.z_comp2, ↓Z.z_trn, ↓Z.z_trn2, Z.no_own_nil, Z.no_own_cons, Z.kok_seq, Z.kok_rng, Z.kok_rng1, Z.kok_enum, Z.kok_zip, ↓Z.z_snil, ↓Z.z_scons, ↓Z.z_anil, ↓Z.z_acons, ↓Z.z_on, ↓Z.z_oo, ↓Z.z_cn, ↓Z.z_co, ↓Z.z_iseq, ↓Z.z_ikey, ↓Z.z_irng1, ↓Z.z_irng, ↓Z.z_ienum, ↓Z.z_izip, List.map_cons, List.map_nil, List.cons_append, List.nil_append, List.length_cons, List.length_nil, Nat.reduceSub, Nat.reduceAdd, List.replicate, List.getElem?_cons_zero, List.getElem?_cons_succ, ↓Z.ix_l, ↓Z.ix_t, ↓Z.ix_k, ↓Z.ix_s, ↓Z.ct_l, ↓Z.ct_t, ↓Z.rv_l, ↓Z.sq_l, Z.en_l, Z.en_t, Z.sq_r, ↓Z.sq_t, ↓Z.ky_f, ↓Z.ky_o, ↓Z.zp_l, ↓Z.zp_t, ↓Z.ap_l, ↓Z.ex_l, ↓Z.se_l, ↓Z.se_k, ↓Z.po_k, Z.io_o, Z.io_f, Z.io_n, Z.ik_o, Z.il_o, ↓Z.pr_ll, ↓Z.pr_lt, ↓Z.pr_lk, ↓Z.pr_tl, ↓Z.pr_tt, ↓Z.pr_sl, ↓Z.pr_st, ↓Z.pr_sk, ↓Z.pr_dk, ↓Z.pr_m2, ↓Z.pr_x2, ↓Z.pr_ii, ↓Z.pr_ib, List.set_cons_zero, List.set_cons_succ, ↓Z.c_c, ↓Z.c_n, ↓Z.c_o, ↓Z.s_on, ↓Z.s_fc, ↓Z.s_fn, ↓Z.s_fo, ↓Z.st_c, ↓Z.st_n, ↓Z.st_o, Z.no_c, Z.no_n, Z.frs_n, Z.frs_o, Z.stoods, Z.owns, true_and, and_true, false_and, or_true, if_true, if_false, reduceCtorEq, false_implies, implies_true, Z.sc_i, Z.sc_b, Z.sc_s, Z.sc_n, Z.sc_l, Z.sc_t, Z.sc_d, and_self, List.any_nil, List.any_cons, Bool.false_or, Bool.or_false, Bool.or_self, Bool.and_self, Bool.and_true, Bool.true_and, Bool.not_true, Bool.not_false, decide_true, decide_false, Z.bindT, Z.bindL])
section T_PO
namespace Z
open PySem L2
section
variable {P : D → Prop} {E : Xn → Prop}
theorem IsRows.get : ∀ {ds : List D} {xss : List (List Int)}, IsRows ds xss → ∀ {i : Nat} {xs : List Int}, xss[i]? = some xs → ∃ d, ds[i]? = some d ∧ isRow d xs
  | _, _, .cons a b, 0, xs, h => by simp at h; subst h; exact ⟨_, rfl, a⟩
  | _, _, .cons a b, i + 1, xs, h => by
    obtain ⟨d, h1, h2⟩ := IsRows.get b (i := i) (by simpa using h)
    exact ⟨d, by simpa using h1, h2⟩
theorem rng_eq (n : Nat) : rngD 0 n = (List.range n).map fun (a : Nat) => D.int a := by
  unfold rngD
  apply List.map_congr_left
  intro a _
  simp
end
end Z
end T_PO
section T_PG
namespace Z
/-- the spot of a word -/
def spt (n : Nat) : List Nat → Nat
  | [] => 0
  | a :: w => a * n ^ w.length + spt n w
theorem Cg.one_mul {p a b c d : Int} (h : Cg p (a * b) 1) (k : Cg p (c * d) 1) : Cg p ((a * c) * (b * d)) 1 :=
  (Cg.of (show (a * c) * (b * d) = (a * b) * (c * d) by grind)).trans ((h.mul k).trans (.of (by simp)))
/-- the row r with first ahead and last behind; W: how many words of two letters, B: how many behind -/
def plc (W B first last : Int) (r : Fu) : Fu := fun k => if k % B = last ∧ k / B / W = first then r (k / B % W) else 0
end Z
end T_PG
section T_PH
namespace Z
/-- rules of two letters put in at all places of a length -/
def PlcOf (n L : Nat) (G : Fu → Prop) (f : Fu) : Prop := ∃ (u v : List Nat) (r : Fu), u.length + v.length + 2 = L ∧ (∀ a ∈ u, a < n) ∧ (∀ a ∈ v, a < n) ∧ G r ∧
  f = plc ((n * n : Nat) : Int) ((n ^ v.length : Nat) : Int) (spt n u) (spt n v) r
end Z
end T_PH
section T_PQ
namespace Z
open PySem L2
structure BookOk (p : Int) (n : Nat) (t : List (List Int)) : Prop where
  pr : p ∈ PRIMES
  n1 : 1 ≤ n ∧ n ≤ 9
  nn : t.length ≤ n * n
  len : ∀ xs ∈ t, xs.length = n * n
theorem BookOk.few {p : Int} {n : Nat} {t : List (List Int)} (B : BookOk p n t) : t.length ≤ 81 := Nat.le_trans B.nn (Nat.mul_le_mul B.n1.2 B.n1.2)
def plcS (W B a b : Nat) (r : SR) : SR := r.map fun q => (((a : Int) * W + q.1) * B + b, q.2)
def placedL (p : Int) (n : Nat) (t : List (List Int)) (L j : Nat) : List SR := (List.range (n ^ j)).flatMap fun a => t.flatMap fun xs => (List.range (n ^ (L - j - 2))).map fun b => plcS (n * n) (n ^ (L - j - 2)) a b (fewL p xs)
def placedAll (p : Int) (n : Nat) (t : List (List Int)) (L : Nat) : List SR := (List.range (L - 1)).flatMap (placedL p n t L)
def restL (n L : Nat) (h : HR) : List Nat := (List.range (n ^ L)).filter fun s => decide ((s : Int) ∉ aK h)
/-- a length that is let -/
def LenOk (n L : Nat) : Prop := n ^ L ≤ 1000 ∧ L ≤ 1000
def F_need_book : Fn := ⟨"F_need_book", false, true, fun ds P _ => ∃ (p : Int) (n : Nat) (t : List (List Int)), ds = [bookD p n t] ∧ P .non⟩
theorem fl_need_book : F_need_book.fl = true := rfl
theorem fr_need_book : F_need_book.fr = false := rfl
def F_placed_few : Fn := ⟨"F_placed_few", false, false, fun ds P _ => ∃ (p : Int) (n : Nat) (t : List (List Int)) (L j : Nat), ds = [bookD p n t, .int L, .int j] ∧ BookOk p n t ∧ LenOk n L ∧ j + 2 ≤ L ∧ P (.lst (rowsD (placedL p n t L j)))⟩
theorem fl_placed_few : F_placed_few.fl = false := rfl
theorem fr_placed_few : F_placed_few.fr = false := rfl
def F_nothing_heads : Fn := ⟨"F_nothing_heads", false, false, fun ds P _ => ∃ (p : Int) (n : Nat) (t : List (List Int)) (L : Nat), ds = [bookD p n t, .int L] ∧ BookOk p n t ∧ LenOk n L ∧ ∀ h, HdOf p (n ^ L) (placedAll p n t L) h → P (.dct (hdD h))⟩
theorem fl_nothing_heads : F_nothing_heads.fl = false := rfl
theorem fr_nothing_heads : F_nothing_heads.fr = false := rfl
def F_need_length : Fn := ⟨"F_need_length", false, true, fun ds P _ => ∃ (p : Int) (n : Nat) (t : List (List Int)) (L : Nat), ds = [bookD p n t, .int L] ∧ BookOk p n t ∧ LenOk n L ∧ P (.int ((n ^ L : Nat) : Int))⟩
theorem fl_need_length : F_need_length.fl = true := rfl
theorem fr_need_length : F_need_length.fr = false := rfl
def F_rest_spots : Fn := ⟨"F_rest_spots", false, false, fun ds P _ => ∃ (p : Int) (n : Nat) (t : List (List Int)) (L : Nat), ds = [bookD p n t, .int L] ∧ BookOk p n t ∧ LenOk n L ∧ ∀ h, HdOf p (n ^ L) (placedAll p n t L) h → P (.lst ((restL n L h).map fun (s : Nat) => .int s))⟩
theorem fl_rest_spots : F_rest_spots.fl = false := rfl
theorem fr_rest_spots : F_rest_spots.fr = false := rfl
def F_rest_words : Fn := ⟨"F_rest_words", false, false, fun ds P _ => ∃ (p : Int) (n : Nat) (t : List (List Int)) (L : Nat), ds = [bookD p n t, .int L] ∧ BookOk p n t ∧ LenOk n L ∧ ∀ h, HdOf p (n ^ L) (placedAll p n t L) h → P (.lst ((restL n L h).map fun s => wordD (wordL n L s)))⟩
theorem fl_rest_words : F_rest_words.fl = false := rfl
theorem fr_rest_words : F_rest_words.fr = false := rfl
def F_count : Fn := ⟨"F_count", false, true, fun ds P _ => ∃ (p : Int) (n : Nat) (t : List (List Int)) (L : Nat), ds = [bookD p n t, .int L] ∧ BookOk p n t ∧ LenOk n L ∧ ∀ h, HdOf p (n ^ L) (placedAll p n t L) h → P (.int (restL n L h).length)⟩
theorem fl_count : F_count.fl = true := rfl
theorem fr_count : F_count.fr = false := rfl
end Z
end T_PQ
local macro_rules | `(tactic| dsimp! only [$ls,*]) => `(tactic| try simp -dsimp only [$ls,*, Z.fl_is_number, Z.fr_is_number, Z.fl_is_between, Z.fr_is_between, Z.fl_is_list, Z.fr_is_list, Z.fl_is_row, Z.fr_is_row, Z.fl_are_rows, Z.fr_are_rows, Z.fl_need_prime, Z.fr_need_prime, Z.fl_need_letters, Z.fr_need_letters, Z.fl_need_from, Z.fr_need_from, Z.fl_many_words, Z.fr_many_words, Z.fl_need_rows, Z.fr_need_rows, true_or, Z.fl_Rules, Z.fl_pair_row, Z.fr_pair_row, Z.fl_tidy_rows, Z.fr_tidy_rows, Z.fr_Rules, Z.fl_few, Z.fr_few, Z.fl_heads_of, Z.fr_heads_of, Z.fl_word_in, Z.fr_word_in, Z.fl_need_book, Z.fr_need_book, Z.fl_placed_few, Z.fr_placed_few, Z.fl_nothing_heads, Z.fr_nothing_heads, Z.fl_need_length, Z.fr_need_length, Z.fl_rest_spots, Z.fr_rest_spots, Z.fl_rest_words, Z.fr_rest_words, Z.fl_count, Z.fr_count, Z.w_nil, Z.w_cons, ↓Z.bx_ap, Z.op_co, ↓Z.co_s, ↓Z.z_isa, ↓Z.z_lam, ↓Z.z_caught, ↓Z.z_callk, ↓Z.z_j0, ↓Z.z_j1, Z.sh_nil, Z.sh_f, Z.sh_o, Z.sh_n, ↓Z.z_clr, Z.op_i, Z.op_xs, Z.op_bl, Z.op_in, Z.op_dc, Z.op_ch, Z.op_fl, Z.op_fr, Z.op_ow, Z.op_run, Z.op_ix, Z.op_ct, Z.op_rv, Z.op_sq, Z.op_en, Z.op_po, Z.op_pl, Z.op_ky, Z.op_zp, Z.op_ap, Z.op_ex, Z.op_se, Z.op_pr, Z.op_cl, Z.op_cs, Bool.false_eq_true, eq_self, ↓Z.xs_s, ↓Z.bl_s, ↓Z.in_s, ↓Z.dc_s, ↓Z.ch_s, ↓Z.iF_t, ↓Z.iF_f, ↓Z.fr_s, ↓Z.ow_s, Z.o_add, Z.o_sub, Z.o_lt, Z.o_le, Z.o_gt, Z.o_ge, Z.o_eq, Z.o_ne, ↓Z.o_mul, ↓Z.o_mod, ↓Z.o_fdiv, ↓Z.o_pow, ↓Z.o_addl, ↓Z.o_addt, ↓Z.o_mull, ↓Z.o_rept, ↓Z.o_reps, Z.k_int, Z.k_str, Z.gt_l, ↓Z.z_F, ↓Z.z_nil, ↓Z.z_cons, ↓Z.z_asg, ↓Z.z_unp, ↓Z.z_par2, ↓Z.z_par3, ↓Z.z_aug, ↓Z.z_app, ↓Z.z_ext, ↓Z.z_seti, ↓Z.z_augi, ↓Z.z_exp, ↓Z.z_ret, ↓Z.z_retn, ↓Z.z_ite, ↓Z.z_fseq, ↓Z.z_fkey, ↓Z.z_frng, ↓Z.z_frng1, ↓Z.z_fenum, ↓Z.z_fzip, ↓Z.z_whl, ↓Z.z_tst, ↓Z.z_rno, ↓Z.z_rone, ↓Z.z_cont, ↓Z.z_pass, ↓Z.z_never, ↓Z.z_var, ↓Z.z_lit, ↓Z.rd_f, ↓Z.rd_o, ↓Z.z_op, ↓Z.z_neg, ↓Z.z_not, ↓Z.z_chain, ↓Z.z_and, ↓Z.z_or, ↓Z.z_ife, ↓Z.z_lst, ↓Z.z_tup, ↓Z.z_dsp0, ↓Z.z_dspe, Z.pd_n, Z.pd_s, Z.pd_i, Option.map_some, ↓Z.z_idx, ↓Z.z_cut, ↓Z.z_rev, ↓Z.z_call, ↓Z.z_prim, ↓Z.z_get, ↓Z.z_popd, ↓Z.z_popl, ↓Z.z_fld, ↓Z.z_comp, ↓Z.z_comp2, ↓Z.z_trn, ↓Z.z_trn2, Z.no_own_nil, Z.no_own_cons, Z.kok_seq, Z.kok_rng, Z.kok_rng1, Z.kok_enum, Z.kok_zip, ↓Z.z_snil, ↓Z.z_scons, ↓Z.z_anil, ↓Z.z_acons, ↓Z.z_on, ↓Z.z_oo, ↓Z.z_cn, ↓Z.z_co, ↓Z.z_iseq, ↓Z.z_ikey, ↓Z.z_irng1, ↓Z.z_irng, ↓Z.z_ienum, ↓Z.z_izip, List.map_cons, List.map_nil, List.cons_append, List.nil_append, List.length_cons, List.length_nil, Nat.reduceSub, Nat.reduceAdd, List.replicate, List.getElem?_cons_zero, List.getElem?_cons_succ, ↓Z.ix_l, ↓Z.ix_t, ↓Z.ix_k, ↓Z.ix_s, ↓Z.ct_l, ↓Z.ct_t, ↓Z.rv_l, ↓Z.sq_l, Z.en_l, Z.en_t, Z.sq_r, ↓Z.sq_t, ↓Z.ky_f, ↓Z.ky_o, ↓Z.zp_l, ↓Z.zp_t, ↓Z.ap_l, ↓Z.ex_l, ↓Z.se_l, ↓Z.se_k, ↓Z.po_k, Z.io_o, Z.io_f, Z.io_n, Z.ik_o, Z.il_o, ↓Z.pr_ll, ↓Z.pr_lt, ↓Z.pr_lk, ↓Z.pr_tl, ↓Z.pr_tt, ↓Z.pr_sl, ↓Z.pr_st, ↓Z.pr_sk, ↓Z.pr_dk, ↓Z.pr_m2, ↓Z.pr_x2, ↓Z.pr_ii, ↓Z.pr_ib, List.set_cons_zero, List.set_cons_succ, ↓Z.c_c, ↓Z.c_n, ↓Z.c_o, ↓Z.s_on, ↓Z.s_fc, ↓Z.s_fn, ↓Z.s_fo, ↓Z.st_c, ↓Z.st_n, ↓Z.st_o, Z.no_c, Z.no_n, Z.frs_n, Z.frs_o, Z.stoods, Z.owns, true_and, and_true, false_and, or_true, if_true, if_false, reduceCtorEq, false_implies, implies_true, Z.sc_i, Z.sc_b, Z.sc_s, Z.sc_n, Z.sc_l, Z.sc_t, Z.sc_d, and_self, List.any_nil, List.any_cons, Bool.false_or, Bool.or_false, Bool.or_self, Bool.and_self, Bool.and_true, Bool.true_and, Bool.not_true, Bool.not_false, decide_true, decide_false, Z.bindT, Z.bindL])
section T_PR
namespace Z
open PySem L2
end Z
end T_PR
section T_PV
namespace Z
section
variable {p : Int} {n L : Nat} {t xss : List (List Int)} {h : HR}
def lfG (xss : List (List Int)) (f : Fu) : Prop := ∃ xs ∈ xss, f = lf xs
theorem few_cg (hp : 0 < p) (xs : List Int) : CgF p (sv (fewL p xs)) (lf xs) := fun k => by rw [few_sv hp]; exact Cg.mod
theorem wholeL_sv (hp : 0 < p) {m : Nat} {r : SR} (hr : Can p m r) (k : Int) : sv (fewL p (wholeL m r)) k = sv r k := by
  rw [few_sv hp]
  have rg := hr.sv_rg hp k
  unfold lf
  by_cases h0 : 0 ≤ k
  · rw [if_pos h0]
    unfold wholeL rngI
    by_cases hk : k.toNat < m
    · rw [List.getElem?_map, List.getElem?_map, List.getElem?_range hk]
      simp
      rw [show max k 0 = k by omega, Int.emod_eq_of_lt rg.1 rg.2]
    · rw [List.getElem?_eq_none (by simp; omega)]
      have : sv r k = 0 := Decidable.byContradiction fun z => by
        have := hr.rg k ((hr.mem k).mpr z)
        omega
      rw [this]; simp
  · rw [if_neg h0]
    have : sv r k = 0 := Decidable.byContradiction fun z => by
      have := hr.rg k ((hr.mem k).mpr z)
      omega
    rw [this]; simp
theorem tidy_len {m : Nat} (T : TidyOf p m xss t) : t.length ≤ m ∧ ∀ xs ∈ t, xs.length = m := by
  obtain ⟨h, ms, ⟨hh, _, _⟩, hm, _, rfl⟩ := T
  refine ⟨?_, fun xs hx => ?_⟩
  · unfold tidyL
    rw [List.length_map, hm.length_eq]
    have := hr_len hh
    simpa [aK] using this
  · unfold tidyL at hx
    obtain ⟨k, _, rfl⟩ := List.mem_map.mp hx
    exact wholeL_len _ _
/-- the tidy rows span what the rows do -/
theorem tidy_span {m : Nat} (hp : Prm p) (T : TidyOf p m xss t) : (∀ xs ∈ t, Span p (lfG xss) (sv (fewL p xs))) ∧ ∀ xs ∈ xss, Span p (fun f => ∃ ys ∈ t, f = sv (fewL p ys)) (lf xs) := by
  have p2 := hp.two
  obtain ⟨h, ms, ⟨hh, s1, s2⟩, hm, _, rfl⟩ := T
  have up : ∀ {f}, Span p (inRows (xss.map (fewL p))) f → Span p (lfG xss) f := fun s => s.trans fun g ⟨r, hr, e⟩ => by
    obtain ⟨xs, hx, rfl⟩ := List.mem_map.mp hr
    rw [e]
    exact (Span.mem ⟨xs, hx, rfl⟩).cg fun k => few_cg (p := p) (by omega) xs k
  refine ⟨fun ys hy => ?_, fun xs hx => ?_⟩
  · unfold tidyL at hy
    obtain ⟨k, hk, rfl⟩ := List.mem_map.mp hy
    obtain ⟨m1, _⟩ := hr_get hh (hm.mem_iff.mp hk)
    exact (up (s2 _ m1)).cg fun j => Cg.of (wholeL_sv (p := p) (by omega) (hh.can _ m1) j)
  · have := s1 _ (List.mem_map.mpr ⟨xs, hx, rfl⟩)
    refine (this.trans fun g ⟨q, hq, e⟩ => ?_).cg fun k => (few_cg (p := p) (by omega) xs k).symm
    have hk : q.1 ∈ aK h := List.mem_map.mpr ⟨q, hq, rfl⟩
    have e2 : (aG h q.1).getD [] = q.2 := by
      have : aG h q.1 = some q.2 := aG_of hh.nd (show (q.1, q.2) ∈ h from hq)
      rw [this]; rfl
    have hin : wholeL m q.2 ∈ tidyL m h ms := by
      unfold tidyL
      exact List.mem_map.mpr ⟨q.1, hm.mem_iff.mpr hk, by rw [e2]⟩
    exact (Span.mem (S := fun f => ∃ ys ∈ tidyL m h ms, f = sv (fewL p ys)) ⟨_, hin, rfl⟩).cg fun j => .of (by rw [e]; exact (wholeL_sv (by omega) (hh.can _ hq) j).symm)
theorem plc_cg {W B a b : Int} {f g : Fu} (h : CgF p f g) : CgF p (plc W B a b f) (plc W B a b g) := fun k => by
  unfold plc; split
  · exact h _
  · exact .rfl'
theorem plc_comb {W B a b c : Int} {f g : Fu} : plc W B a b (fun k => f k + c * g k) = fun k => plc W B a b f k + c * plc W B a b g k := by
  funext k
  unfold plc; split
  · rfl
  · simp
theorem plc_span {G : Fu → Prop} {u v : List Nat} {f : Fu} (hl : u.length + v.length + 2 = L) (hu : ∀ a ∈ u, a < n) (hv : ∀ a ∈ v, a < n) (s : Span p G f) :
    Span p (PlcOf n L G) (plc ((n * n : Nat) : Int) ((n ^ v.length : Nat) : Int) (spt n u) (spt n v) f) := by
  refine s.lin (fun f => Span p (PlcOf n L G) (plc ((n * n : Nat) : Int) ((n ^ v.length : Nat) : Int) (spt n u) (spt n v) f)) (fun f e => ?_) fun f g h c hg hf e => ?_
  · refine .nil ?_
    have := plc_cg (W := ((n * n : Nat) : Int)) (B := ((n ^ v.length : Nat) : Int)) (a := spt n u) (b := spt n v) e
    refine fun k => (this k).trans (.of ?_)
    unfold plc; split <;> rfl
  · refine (hf.comb (.mem ⟨u, v, g, hl, hu, hv, hg, rfl⟩) c).cg fun k => ?_
    have := plc_cg (W := ((n * n : Nat) : Int)) (B := ((n ^ v.length : Nat) : Int)) (a := spt n u) (b := spt n v) e k
    rw [plc_comb] at this
    exact this
theorem PlcOf.up {G G' : Fu → Prop} (h : ∀ g, G g → Span p G' g) {f : Fu} (s : Span p (PlcOf n L G) f) : Span p (PlcOf n L G') f := s.trans fun g ⟨u, v, r, hl, hu, hv, hr, e⟩ => by
  rw [e]; exact plc_span hl hu hv (h r hr)
end
end Z
end T_PV
section T_QA
namespace Z
section
variable {p : Int} {n m : Nat} {h g : HR} {xss yss t u : List (List Int)}
/-- in the span, and 0 at all keys: 0 -/
theorem Hd.null (H : Hd p n h) {f : Fu} (s : Span p (rowsOf h) f) (z : ∀ k ∈ aK h, Cg p (f k) 0) : CgF p f (fun _ => 0) := fun k => by
  refine (H.expand s k).trans ?_
  have : ∀ l : HR, (∀ q ∈ l, q ∈ h) → Cg p (hsum l f k) 0 := by
    intro l
    induction l with
    | nil => intro _; exact .of rfl
    | cons q l ih =>
      intro hl
      have h1 := z q.1 (List.mem_map.mpr ⟨q, hl q List.mem_cons_self, rfl⟩)
      have h2 := ih fun r hr => hl r (List.mem_cons_of_mem _ hr)
      have e : hsum (q :: l) f k = f q.1 * sv q.2 k + hsum l f k := by unfold hsum; rw [List.map_cons, List.sum_cons]
      rw [e]
      have := (h1.mul (Cg.rfl' (a := sv q.2 k))).add h2
      simpa using this
  exact this h fun _ h => h
theorem Hd.keys_le (hp : 1 < p) (H : Hd p n h) (G : Hd p m g) (s : ∀ f, rowsOf h f → Span p (rowsOf g) f) : ∀ k ∈ aK h, k ∈ aK g := fun k hk => by
  obtain ⟨f, hf, h1, h0⟩ := H.lead hk
  refine G.key hp (s f hf) (k := k) ?_ fun j hj => .of (h0 j hj)
  rw [h1]
  rintro ⟨q, e⟩
  have : p * q = 1 := by omega
  have hq : 0 < q := by
    rcases Int.lt_or_le 0 q with h | h
    · exact h
    · have := Int.mul_nonneg (show 0 ≤ p by omega) (show 0 ≤ -q by omega)
      rw [Int.mul_neg] at this; omega
  have := Int.mul_le_mul_of_nonneg_left (show 1 ≤ q by omega) (show 0 ≤ p by omega)
  omega
theorem Hd.row_eq (hp : 1 < p) (H : Hd p n h) (G : Hd p n g) (s : ∀ f, rowsOf h f → Span p (rowsOf g) f) (s' : ∀ f, rowsOf g f → Span p (rowsOf h) f) {k : Int} {a b : SR} (ha : (k, a) ∈ h) (hb : (k, b) ∈ g) (j : Int) : sv a j = sv b j := by
  have kk : ∀ i, i ∈ aK g → i ∈ aK h := H.keys_le hp G s |> fun _ => G.keys_le hp H s'
  have d : Span p (rowsOf g) (fun i => sv a i - 1 * sv b i) := (s _ ⟨_, ha, rfl⟩).sub (.mem ⟨_, hb, rfl⟩) 1
  have z := G.null d fun i hi => by
    by_cases e : i = k
    · subst e
      rw [H.one _ ha, G.one _ hb]; exact .of (by simp)
    · rw [H.zer _ ha i (kk i hi) e, G.zer _ hb i hi e]; exact .of (by simp)
  have h1 := (H.can _ ha).sv_rg (by omega) j
  have h2 := (G.can _ hb).sv_rg (by omega) j
  refine Cg.eq ?_ h1 h2
  have := (z j).add (Cg.rfl' (a := sv b j))
  exact (Cg.of (by grind)).trans (this.trans (.of (by simp)))
theorem sorted_perm_eq {l l' : List Int} (hp : l.Perm l') (h : l.Pairwise (· ≤ ·)) (h' : l'.Pairwise (· ≤ ·)) : l = l' :=
  hp.eq_of_pairwise (fun _ _ _ _ h1 h2 => Int.le_antisymm h1 h2) h h'
theorem nodup_perm {l l' : List Int} (h : l.Nodup) (h' : l'.Nodup) (e : ∀ k, k ∈ l ↔ k ∈ l') : l.Perm l' := (List.perm_ext_iff_of_nodup h h').mpr e
/-- equal spans, equal tidy lists -/
theorem tidy_heads (hp : 1 < p) (H : Hd p n h) (G : Hd p n g) (s : ∀ f, rowsOf h f → Span p (rowsOf g) f) (s' : ∀ f, rowsOf g f → Span p (rowsOf h) f) {ms ms' : List Int} (hm : ms.Perm (aK h)) (hs : ms.Pairwise (· ≤ ·)) (hm' : ms'.Perm (aK g)) (hs' : ms'.Pairwise (· ≤ ·)) : tidyL n h ms = tidyL n g ms' := by
  have kp : (aK h).Perm (aK g) := nodup_perm H.nd G.nd fun k => ⟨H.keys_le hp G s k, G.keys_le hp H s' k⟩
  have e : ms = ms' := sorted_perm_eq (hm.trans (kp.trans hm'.symm)) hs hs'
  subst e
  unfold tidyL
  refine List.map_congr_left fun k hk => ?_
  have h1 := (hr_get H (hm.mem_iff.mp hk)).1
  have h2 := (hr_get G (hm'.mem_iff.mp hk)).1
  unfold wholeL
  exact List.map_congr_left fun j _ => H.row_eq hp G s s' h1 h2 j
theorem few_span (hp : 0 < p) {f : Fu} (s : Span p (inRows (xss.map (fewL p))) f) : Span p (lfG xss) f := s.trans fun g ⟨r, hr, e⟩ => by
  obtain ⟨xs, hx, rfl⟩ := List.mem_map.mp hr
  subst e
  exact (Span.mem ⟨xs, hx, rfl⟩).cg (few_cg hp xs)
theorem span_few (hp : 0 < p) {f : Fu} (s : Span p (lfG xss) f) : Span p (inRows (xss.map (fewL p))) f := s.trans fun g ⟨xs, hx, e⟩ => by
  subst e
  exact (Span.mem ⟨_, List.mem_map_of_mem hx, rfl⟩).cg fun k => (few_cg hp xs k).symm
theorem HdOf.span (hp : 0 < p) (hh : HdOf p n (xss.map (fewL p)) h) (f : Fu) : Span p (rowsOf h) f ↔ Span p (lfG xss) f := by
  constructor
  · intro s
    exact few_span hp (s.trans fun g ⟨q, hq, e⟩ => by rw [e]; exact hh.2.2 q hq)
  · intro s
    exact (span_few hp s).trans fun g ⟨r, hr, e⟩ => by rw [e]; exact hh.2.1 r hr
theorem tidy_sp (hp : Prm p) (T : TidyOf p m xss t) (f : Fu) : Span p (lfG t) f ↔ Span p (lfG xss) f := by
  obtain ⟨a, b⟩ := tidy_span hp T
  have p0 := hp.two
  constructor
  · intro s
    refine s.trans fun g ⟨xs, hx, e⟩ => ?_
    rw [e]
    exact (a xs hx).cg fun k => (few_cg (by omega) xs k).symm
  · intro s
    refine s.trans fun g ⟨xs, hx, e⟩ => ?_
    rw [e]
    refine (b xs hx).trans fun g ⟨ys, hy, e⟩ => ?_
    rw [e]
    exact (Span.mem ⟨ys, hy, rfl⟩).cg (few_cg (by omega) ys)
theorem tidy_uniq (hp : Prm p) (T : TidyOf p m xss t) (U : TidyOf p m yss u) (e : ∀ f, Span p (lfG xss) f ↔ Span p (lfG yss) f) : t = u := by
  obtain ⟨h, ms, hh, hm, hs, rfl⟩ := T
  obtain ⟨g, ms', hg, hm', hs', rfl⟩ := U
  have p2 := hp.two
  refine tidy_heads (by omega) hh.1 hg.1 (fun f hf => ?_) (fun f hf => ?_) hm hs hm' hs'
  · exact (hg.span (by omega) f).mpr ((e f).mp ((hh.span (by omega) f).mp (.mem hf)))
  · exact (hh.span (by omega) f).mpr ((e f).mpr ((hg.span (by omega) f).mp (.mem hf)))
/-- a tidy list -/
def Tid (p : Int) (m : Nat) (t : List (List Int)) : Prop := ∃ xss, (∀ xs ∈ xss, xs.length = m) ∧ TidyOf p m xss t
theorem Tid.eq (hp : Prm p) (T : Tid p m t) (U : Tid p m u) (e : ∀ f, Span p (lfG t) f ↔ Span p (lfG u) f) : t = u := by
  obtain ⟨xss, _, T⟩ := T
  obtain ⟨yss, _, U⟩ := U
  exact tidy_uniq hp T U fun f => (tidy_sp hp T f).symm.trans ((e f).trans (tidy_sp hp U f))
theorem Tid.len (T : Tid p m t) : t.length ≤ m ∧ ∀ xs ∈ t, xs.length = m := let ⟨_, _, T⟩ := T; tidy_len T
end
end Z
end T_QA
section T_QB
namespace Z
section
variable {p : Int} {n m : Nat} {h g : HR} {xss yss t u : List (List Int)}
def lsum (l : List Nat) (F : Nat → Int) : Int := (l.map F).sum
theorem lsum_nil {F : Nat → Int} : lsum [] F = 0 := rfl
theorem lsum_cons {F : Nat → Int} {x : Nat} {l : List Nat} : lsum (x :: l) F = F x + lsum l F := by unfold lsum; rw [List.map_cons, List.sum_cons]
theorem lsum_cg {F G : Nat → Int} : ∀ {l : List Nat}, (∀ x ∈ l, Cg p (F x) (G x)) → Cg p (lsum l F) (lsum l G)
  | [], _ => .rfl'
  | x :: l, h => by
    rw [lsum_cons, lsum_cons]
    exact (h x List.mem_cons_self).add (lsum_cg fun y hy => h y (List.mem_cons_of_mem _ hy))
theorem lsum_add {F G : Nat → Int} {c : Int} : ∀ {l : List Nat}, lsum l (fun x => F x + c * G x) = lsum l F + c * lsum l G
  | [] => by simp [lsum_nil]
  | x :: l => by rw [lsum_cons, lsum_cons, lsum_cons, lsum_add]; grind
theorem lsum_split {F : Nat → Int} (q : Nat → Bool) : ∀ {l : List Nat}, lsum l F = lsum (l.filter q) F + lsum (l.filter fun x => !q x) F
  | [] => rfl
  | x :: l => by
    rw [lsum_cons, lsum_split q]
    cases e : q x <;> simp [List.filter_cons, e, lsum_cons] <;> omega
theorem lsum_zero {F : Nat → Int} {l : List Nat} (h : ∀ x ∈ l, F x = 0) : lsum l F = 0 := by
  induction l with
  | nil => rfl
  | cons x l ih => rw [lsum_cons, h x List.mem_cons_self, ih fun y hy => h y (List.mem_cons_of_mem _ hy)]; rfl
theorem lsum_one {F : Nat → Int} {l : List Nat} {x : Nat} (nd : l.Nodup) (hx : x ∈ l) (h : ∀ y ∈ l, y ≠ x → F y = 0) : lsum l F = F x := by
  induction l with
  | nil => cases hx
  | cons y l ih =>
    rw [lsum_cons]
    have nd' := List.nodup_cons.mp nd
    by_cases e : y = x
    · subst e
      rw [lsum_zero fun z hz => h z (List.mem_cons_of_mem _ hz) fun e => nd'.1 (e ▸ hz)]
      omega
    · rw [h y List.mem_cons_self e, ih nd'.2 (by
        rcases List.mem_cons.mp hx with q | q
        · exact absurd q.symm e
        · exact q) fun z hz => h z (List.mem_cons_of_mem _ hz)]
      omega
/-- what one row tells of another one -/
def dot (m : Nat) (f g : Fu) : Int := lsum (List.range m) fun k => f k * g k
theorem dot_cg {f f' g g' : Fu} (h : CgF p f f') (k : CgF p g g') : Cg p (dot m f g) (dot m f' g') := lsum_cg fun x _ => (h x).mul (k x)
theorem dot_lin {f f' g : Fu} {c : Int} : dot m (fun k => f k + c * f' k) g = dot m f g + c * dot m f' g := by
  unfold dot
  rw [← lsum_add]
  congr 1
  funext k
  grind
theorem dot_comm {f g : Fu} : dot m f g = dot m g f := by
  unfold dot
  congr 1
  funext k
  exact Int.mul_comm _ _
/-- x tells 0 of all of S -/
def Dk (p : Int) (m : Nat) (S : Fu → Prop) (x : Fu) : Prop := ∀ f, S f → Cg p (dot m f x) 0
theorem Dk.span {S : Fu → Prop} {x f : Fu} (d : Dk p m S x) (s : Span p S f) : Cg p (dot m f x) 0 := by
  refine s.lin (fun f => Cg p (dot m f x) 0) (fun f hf => ?_) fun f g h c hg hf hh => ?_
  · refine (dot_cg hf (fun k => Cg.rfl')).trans (.of ?_)
    unfold dot
    exact lsum_zero fun k _ => by simp
  · refine (dot_cg hh (fun k => Cg.rfl')).trans ?_
    rw [dot_lin]
    have := hf.add ((Cg.rfl' (a := c)).mul (d g hg))
    simpa using this
theorem Dk.of_span {S S' : Fu → Prop} {x : Fu} (d : Dk p m S x) (h : ∀ f, S' f → Span p S f) : Dk p m S' x := fun f hf => d.span (h f hf)
theorem Dk.cg {S : Fu → Prop} {x y : Fu} (d : Dk p m S x) (e : CgF p y x) : Dk p m S y := fun f hf => (dot_cg (fun _ => .rfl') e).trans (d f hf)
theorem Dk.lin {S : Fu → Prop} {x y : Fu} {c : Int} (d : Dk p m S x) (d' : Dk p m S y) : Dk p m S (fun k => x k + c * y k) := fun f hf => by
  rw [dot_comm, dot_lin, dot_comm (f := x), dot_comm (f := y)]
  have := (d f hf).add ((Cg.rfl' (a := c)).mul (d' f hf))
  simpa using this
theorem Dk.zero {S : Fu → Prop} : Dk p m S (fun _ => 0) := fun f _ => .of (lsum_zero fun k _ => by simp)
theorem Dk.up {S S' : Fu → Prop} {f : Fu} (d : ∀ x, S' x → Dk p m S x) (s : Span p S' f) : Dk p m S f :=
  s.lin (Dk p m S) (fun f hf => Dk.zero.cg hf) fun f g h c hg hf hh => (hf.lin (c := c) (d g hg)).cg hh
/-- 0 outside -/
def Sup (p : Int) (m : Nat) (f : Fu) : Prop := ∀ k : Int, (k < 0 ∨ (m : Int) ≤ k) → Cg p (f k) 0
/-- the row of a free spot -/
def dkF (h : HR) (s : Nat) : Fu := fun k => if k = s then 1 else if k ∈ aK h then -(sv ((aG h k).getD []) s) else 0
def frS (m : Nat) (h : HR) : List Nat := (List.range m).filter fun (k : Nat) => !decide ((k : Int) ∈ aK h)
def kyS (m : Nat) (h : HR) : List Nat := (List.range m).filter fun (k : Nat) => decide ((k : Int) ∈ aK h)
theorem mem_frS {s : Nat} : s ∈ frS m h ↔ s < m ∧ (s : Int) ∉ aK h := by simp [frS]
theorem mem_kyS {s : Nat} : s ∈ kyS m h ↔ s < m ∧ (s : Int) ∈ aK h := by simp [kyS]
theorem dot_split {f g : Fu} : dot m f g = lsum (kyS m h) (fun k => f k * g k) + lsum (frS m h) (fun k => f k * g k) := lsum_split (fun (k : Nat) => decide ((k : Int) ∈ aK h))
theorem kyS_nd : (kyS m h).Nodup := (List.nodup_range).sublist List.filter_sublist
theorem frS_nd : (frS m h).Nodup := (List.nodup_range).sublist List.filter_sublist
/-- what a head tells -/
theorem dot_head (H : Hd p m h) {q : Int × SR} (hq : q ∈ h) (x : Fu) : dot m (sv q.2) x = x q.1 + lsum (frS m h) (fun k => sv q.2 k * x k) := by
  have hk : q.1 ∈ aK h := List.mem_map.mpr ⟨q, hq, rfl⟩
  obtain ⟨h0, h1⟩ := H.rg _ hk
  obtain ⟨j, hj⟩ := Int.eq_ofNat_of_zero_le h0
  rw [dot_split (h := h), lsum_one (x := j) kyS_nd (mem_kyS.mpr ⟨by omega, by rw [← hj]; exact hk⟩)]
  · rw [← hj, H.one q hq, Int.one_mul]
  · intro y hy hne
    rw [H.zer q hq y (mem_kyS.mp hy).2 (by omega), Int.zero_mul]
theorem dk_dot (H : Hd p m h) {s : Nat} (hs : s ∈ frS m h) : Dk p m (rowsOf h) (dkF h s) := by
  rintro f ⟨q, hq, rfl⟩
  have hk : q.1 ∈ aK h := List.mem_map.mpr ⟨q, hq, rfl⟩
  obtain ⟨s1, s2⟩ := mem_frS.mp hs
  rw [dot_head H hq, lsum_one (x := s) frS_nd hs fun y hy hne => ?_]
  · have e1 : dkF h s q.1 = -(sv q.2 s) := by
      unfold dkF
      rw [if_neg (fun e : q.1 = (s : Int) => s2 (e ▸ hk)), if_pos hk, aG_of H.nd hq]
      rfl
    have e2 : dkF h s s = 1 := by unfold dkF; rw [if_pos rfl]
    rw [e1, e2]
    exact .of (by omega)
  · have : dkF h s y = 0 := by
      unfold dkF
      rw [if_neg (by omega), if_neg (mem_frS.mp hy).2]
    rw [this, Int.mul_zero]
theorem dkF_sup (H : Hd p m h) {s : Nat} (hs : s ∈ frS m h) : Sup p m (dkF h s) := fun k hk => by
  unfold dkF
  rw [if_neg (by have := (mem_frS.mp hs).1; omega), if_neg fun q => by have := H.rg k q; omega]
  exact .rfl'
theorem Sup.span {S : Fu → Prop} (h : ∀ f, S f → Sup p m f) {f : Fu} (s : Span p S f) : Sup p m f := by
  refine s.lin (Sup p m) (fun f hf k _ => hf k) fun f g h' c hg hf hh k hk => ?_
  have := (hf k hk).add ((Cg.rfl' (a := c)).mul (h g hg k hk))
  refine (hh k).trans ?_
  simpa using this
/-- what tells 0 of all that tells 0 is in the span -/
theorem dk_dk (H : Hd p m h) {f : Fu} (hf : Sup p m f) (d : ∀ s ∈ frS m h, Cg p (dot m f (dkF h s)) 0) : Span p (rowsOf h) f := by
  have hs : Span p (rowsOf h) (hsum h f) := by
    have : ∀ l : HR, (∀ q ∈ l, q ∈ h) → Span p (rowsOf h) (hsum l f) := by
      intro l
      induction l with
      | nil => intro _; exact Span.zero
      | cons q l ih =>
        intro hl
        refine ((ih fun r hr => hl r (List.mem_cons_of_mem _ hr)).comb (.mem ⟨q, hl q List.mem_cons_self, rfl⟩) (f q.1)).cg fun k => .of ?_
        show hsum (q :: l) f k = hsum l f k + _
        unfold hsum
        rw [List.map_cons, List.sum_cons]; omega
    exact this h fun _ h => h
  refine hs.cg fun k => ?_
  by_cases hk : k ∈ aK h
  · obtain ⟨q, hq, rfl⟩ := List.mem_map.mp hk
    rw [hsum_one H.nd hq fun r hr hne => ?_, H.one q hq]
    · exact .of (by omega)
    · rw [H.zer r hr q.1 hk (Ne.symm hne), Int.mul_zero]
  · by_cases hr : 0 ≤ k ∧ k < m
    · obtain ⟨j, rfl⟩ := Int.eq_ofNat_of_zero_le hr.1
      have hj : j ∈ frS m h := mem_frS.mpr ⟨by omega, hk⟩
      -- what is left is 0 at all heads
      have e1 : Cg p (dot m (fun k => f k + (-1) * hsum h f k) (dkF h j)) 0 := by
        rw [dot_lin]
        have a := (d j hj).add ((Cg.rfl' (a := (-1 : Int))).mul ((dk_dot H hj).span hs))
        simpa using a
      rw [dot_split (h := h)] at e1
      have e2 : Cg p (lsum (kyS m h) fun k => (f k + (-1) * hsum h f k) * dkF h j k) (lsum (kyS m h) fun _ => 0) := lsum_cg fun x hx => by
        obtain ⟨q, hq, e⟩ := List.mem_map.mp (mem_kyS.mp hx).2
        have : hsum h f x = f x := by
          rw [← e, hsum_one H.nd hq fun r hr hne => by rw [H.zer r hr q.1 (e ▸ (mem_kyS.mp hx).2) (Ne.symm hne), Int.mul_zero], H.one q hq, Int.mul_one]
        rw [this]
        exact .of (by grind)
      rw [lsum_zero (fun _ _ => rfl)] at e2
      rw [lsum_one (x := j) frS_nd hj fun y hy hne => by
        unfold dkF
        rw [if_neg (by omega), if_neg (mem_frS.mp hy).2, Int.mul_zero]] at e1
      have e3 : dkF h j j = 1 := by unfold dkF; rw [if_pos rfl]
      rw [e3] at e1
      obtain ⟨a, ha⟩ := e1
      obtain ⟨b, hb⟩ := e2
      exact ⟨a - b, by grind⟩
    · have e1 : hsum h f k = 0 := hsum_zero fun q hq => by
        have : k ∉ aK q.2 := fun z => hr ((H.can q hq).rg k z)
        have e : sv q.2 k = 0 := Classical.byContradiction fun e => this (((H.can q hq).mem k).mpr e)
        rw [e, Int.mul_zero]
      rw [e1]
      exact hf k (by omega)
end
end Z
end T_QB
section T_QC
namespace Z
open PySem L2
section
variable {p : Int} {n m : Nat} {h : HR} {xss t : List (List Int)} {E : Xn → Prop} {P : D → Prop}
def DarkOf (p : Int) (n : Nat) (xss t : List (List Int)) : Prop := (Tid p n t ∧ ∃ h, HdOf p n (xss.map (fewL p)) h) ∧ ∀ x, Sup p n x → (Span p (lfG t) x ↔ Dk p n (lfG xss) x)
theorem lf_sup {xs : List Int} (h : xs.length = m) : Sup p m (lf xs) := fun k hk => by
  unfold lf
  split
  · rw [List.getElem?_eq_none (by omega)]; exact .rfl'
  · exact .rfl'
theorem lfG_sup {S : List (List Int)} (h : ∀ xs ∈ S, xs.length = m) {f : Fu} (s : Span p (lfG S) f) : Sup p m f := Sup.span (fun f ⟨xs, hx, e⟩ => by rw [e]; exact lf_sup (h xs hx)) s
/-- twice is the room again -/
theorem span_dd (hp : Prm p) (hh : HdOf p m (xss.map (fewL p)) h) (hx : ∀ xs ∈ xss, xs.length = m) (f : Fu) : Span p (lfG xss) f ↔ Sup p m f ∧ ∀ x, Sup p m x → Dk p m (lfG xss) x → Cg p (dot m f x) 0 := by
  have p2 := hp.two
  constructor
  · intro s
    exact ⟨lfG_sup hx s, fun x _ d => d.span s⟩
  · rintro ⟨hf, d⟩
    refine (hh.span (by omega) f).mp (dk_dk hh.1 hf fun s hs => d _ (dkF_sup hh.1 hs) ?_)
    exact (dk_dot hh.1 hs).of_span fun g hg => (hh.span (by omega) g).mpr (.mem hg)
end
end Z
end T_QC
section T_QD
namespace Z
open PySem L2
def IsRooms : List D → List (List (List Int)) → Prop
  | [], [] => True
  | d :: ds, x :: xs => isRows d x ∧ IsRooms ds xs
  | _, _ => False
def CommonOf (p : Int) (n : Nat) (xsss : List (List (List Int))) (t : List (List Int)) : Prop := Tid p n t ∧ ∀ x, Span p (lfG t) x ↔ Sup p n x ∧ ∀ xss ∈ xsss, Span p (lfG xss) x
def Under (p : Int) (yss xss : List (List Int)) : Prop := ∀ f, Span p (lfG yss) f → Span p (lfG xss) f
def F_dark_rows : Fn := ⟨"F_dark_rows", false, false, fun ds P _ => ∃ (p : Int) (n : Nat) (d : D) (xss : List (List Int)), ds = [.int p, .int n, d] ∧ Prm p ∧ n < 1000000 ∧ isRows d xss ∧ xss.length < 1000000 ∧ (∀ xs ∈ xss, xs.length = n) ∧ ∀ t, DarkOf p n xss t → P (.lst (t.map rowD))⟩
theorem fl_dark_rows : F_dark_rows.fl = false := rfl
theorem fr_dark_rows : F_dark_rows.fr = false := rfl
def F_need_two_books : Fn := ⟨"F_need_two_books", false, true, fun ds P _ => ∃ (p : Int) (n : Nat) (t u : List (List Int)), ds = [bookD p n t, bookD p n u] ∧ P .non⟩
theorem fl_need_two_books : F_need_two_books.fl = true := rfl
theorem fr_need_two_books : F_need_two_books.fr = false := rfl
def F_common_of : Fn := ⟨"F_common_of", false, false, fun ds P _ => ∃ (p : Int) (n : Nat) (ds2 : List D) (xsss : List (List (List Int))), ds = [.int p, .int n, .lst ds2] ∧ Prm p ∧ n < 1000000 ∧ IsRooms ds2 xsss ∧ xsss.length * n < 1000000 ∧ (∀ xss ∈ xsss, xss.length < 1000000 ∧ ∀ xs ∈ xss, xs.length = n) ∧ ∀ t, CommonOf p n xsss t → P (.lst (t.map rowD))⟩
theorem fl_common_of : F_common_of.fl = false := rfl
theorem fr_common_of : F_common_of.fr = false := rfl
def F_has_all : Fn := ⟨"F_has_all", false, true, fun ds P _ => ∃ (p : Int) (n : Nat) (d e : D) (xss yss : List (List Int)), ds = [.int p, d, e] ∧ Prm p ∧ n < 1000000 ∧ isRows d xss ∧ isRows e yss ∧ (xss.length < 1000000 ∧ yss.length < 1000000) ∧ ((∀ xs ∈ xss, xs.length = n) ∧ ∀ xs ∈ yss, xs.length = n) ∧ ∀ b : Bool, (b = true ↔ Under p yss xss) → P (.bl b)⟩
theorem fl_has_all : F_has_all.fl = true := rfl
theorem fr_has_all : F_has_all.fr = false := rfl
def F_shadow_of : Fn := ⟨"F_shadow_of", false, false, fun ds P _ => ∃ (p : Int) (n : Nat) (t : List (List Int)), ds = [bookD p n t] ∧ BookOk p n t ∧ ∀ u, DarkOf p (n * n) t u → P (bookD p n u)⟩
theorem fl_shadow_of : F_shadow_of.fl = false := rfl
theorem fr_shadow_of : F_shadow_of.fr = false := rfl
def F_shadow : Fn := ⟨"F_shadow", false, false, fun ds P _ => ∃ (p : Int) (n : Nat) (t : List (List Int)), ds = [bookD p n t] ∧ BookOk p n t ∧ ∀ u, DarkOf p (n * n) t u → P (bookD p n u)⟩
theorem fl_shadow : F_shadow.fl = false := rfl
theorem fr_shadow : F_shadow.fr = false := rfl
def F_is_under : Fn := ⟨"F_is_under", false, true, fun ds P _ => ∃ (p : Int) (n : Nat) (t u : List (List Int)), ds = [bookD p n t, bookD p n u] ∧ BookOk p n t ∧ BookOk p n u ∧ ∀ b : Bool, (b = true ↔ Under p u t) → P (.bl b)⟩
theorem fl_is_under : F_is_under.fl = true := rfl
theorem fr_is_under : F_is_under.fr = false := rfl
def F_joined_rules : Fn := ⟨"F_joined_rules", false, false, fun ds P _ => ∃ (p : Int) (n : Nat) (t u : List (List Int)), ds = [bookD p n t, bookD p n u] ∧ BookOk p n t ∧ BookOk p n u ∧ ∀ v, TidyOf p (n * n) (t ++ u) v → P (bookD p n v)⟩
theorem fl_joined_rules : F_joined_rules.fl = false := rfl
theorem fr_joined_rules : F_joined_rules.fr = false := rfl
def F_common_rules : Fn := ⟨"F_common_rules", false, false, fun ds P _ => ∃ (p : Int) (n : Nat) (t u : List (List Int)), ds = [bookD p n t, bookD p n u] ∧ BookOk p n t ∧ BookOk p n u ∧ ∀ v, CommonOf p (n * n) [t, u] v → P (bookD p n v)⟩
theorem fl_common_rules : F_common_rules.fl = false := rfl
theorem fr_common_rules : F_common_rules.fr = false := rfl
end Z
end T_QD
section T_QE
namespace Z
open PySem L2
end Z
end T_QE
section T_QF
namespace Z
open PySem L2
section
variable {p : Int} {n m : Nat} {h : HR} {xss yss t u : List (List Int)} {E : Xn → Prop} {P : D → Prop}
/-- each room's dark rows -/
def Darks (p : Int) (n : Nat) : List (List (List Int)) → List (List (List Int)) → Prop
  | [], [] => True
  | x :: xs, t :: ts => DarkOf p n x t ∧ Darks p n xs ts
  | _, _ => False
theorem Darks.snoc : ∀ {xs ts : List (List (List Int))} {x t : List (List Int)}, Darks p n xs ts → DarkOf p n x t → Darks p n (xs ++ [x]) (ts ++ [t])
  | [], [], _, _, _, d => ⟨d, trivial⟩
  | x :: xs, t :: ts, _, _, a, d => ⟨a.1, Darks.snoc a.2 d⟩
  | [], _ :: _, _, _, a, _ => a.elim
  | _ :: _, [], _, _, a, _ => a.elim
theorem Darks.len : ∀ {xs ts : List (List (List Int))}, Darks p n xs ts → ts.length = xs.length
  | [], [], _ => rfl
  | x :: xs, t :: ts, a => by simp [Darks.len a.2]
  | [], _ :: _, a => a.elim
  | _ :: _, [], a => a.elim
/-- what tells 0 of the dark rows of all is in all -/
theorem Darks.dk (hp : Prm p) : ∀ {xs ts : List (List (List Int))}, (∀ x ∈ xs, ∀ r ∈ x, r.length = n) → Darks p n xs ts → ∀ {f : Fu}, Sup p n f → (Dk p n (lfG ts.flatten) f ↔ ∀ x ∈ xs, Span p (lfG x) f)
  | [], [], _, _, f, _ => ⟨fun _ _ h => (nomatch h), fun _ g ⟨_, h, _⟩ => nomatch h⟩
  | x :: xs, t :: ts, hl, a, f, hf => by
    have ih := Darks.dk hp (fun y hy => hl y (List.mem_cons_of_mem _ hy)) a.2 hf
    obtain ⟨h, hx⟩ := a.1.1.2
    have dd := span_dd hp hx (hl x List.mem_cons_self) f
    have one : Dk p n (lfG t) f ↔ Span p (lfG x) f := by
      rw [dd]
      constructor
      · intro d
        refine ⟨hf, fun y hy hd => ?_⟩
        have := d.span ((a.1.2 y hy).mpr hd)
        rwa [dot_comm] at this
      · rintro ⟨_, d⟩ g ⟨ys, hy, rfl⟩
        have sp : Span p (lfG t) (lf ys) := .mem ⟨ys, hy, rfl⟩
        have := d _ (lfG_sup a.1.1.1.len.2 sp) ((a.1.2 _ (lfG_sup a.1.1.1.len.2 sp)).mp sp)
        rwa [dot_comm] at this
    constructor
    · intro d y hy
      rcases List.mem_cons.mp hy with e | hy
      · rw [e]
        exact one.mp fun g ⟨ys, hy, e⟩ => d g ⟨ys, by rw [List.flatten_cons]; exact List.mem_append_left _ hy, e⟩
      · exact ih.mp (fun g ⟨ys, hy, e⟩ => d g ⟨ys, by rw [List.flatten_cons]; exact List.mem_append_right _ hy, e⟩) y hy
    · rintro d g ⟨ys, hy, e⟩
      rw [List.flatten_cons] at hy
      rcases List.mem_append.mp hy with z | z
      · exact one.mpr (d x List.mem_cons_self) g ⟨ys, z, e⟩
      · exact ih.mpr (fun y hy => d y (List.mem_cons_of_mem _ hy)) g ⟨ys, z, e⟩
  | [], _ :: _, _, a, _, _ => a.elim
  | _ :: _, [], _, a, _, _ => a.elim
theorem IsRooms.len : ∀ {ds : List D} {xs : List (List (List Int))}, IsRooms ds xs → ds.length = xs.length
  | [], [], _ => rfl
  | _ :: _, _ :: _, a => by simp [IsRooms.len a.2]
  | [], _ :: _, a => a.elim
  | _ :: _, [], a => a.elim
theorem IsRooms.get : ∀ {ds : List D} {xs : List (List (List Int))}, IsRooms ds xs → ∀ {i : Nat} {d : D}, ds[i]? = some d → ∃ x, xs[i]? = some x ∧ isRows d x
  | [], [], _, i, d, h => by simp at h
  | e :: ds, x :: xs, a, 0, d, h => by
    cases h
    exact ⟨x, rfl, a.1⟩
  | e :: ds, x :: xs, a, i + 1, d, h => by
    obtain ⟨y, h1, h2⟩ := IsRooms.get a.2 (i := i) (d := d) (by simpa using h)
    exact ⟨y, by simpa using h1, h2⟩
  | [], _ :: _, a, _, _, _ => a.elim
  | _ :: _, [], a, _, _, _ => a.elim
theorem BookOk.sz (B : BookOk p n t) : n * n ≤ 81 := Nat.mul_le_mul B.n1.2 B.n1.2
end
end Z
end T_QF
section T_QG
namespace Z
end Z
end T_QG
section T_RA
namespace Z
section
variable {p : Int} {n b N H : Nat} {A B : Nat → Nat → Int} {f g x : Fu}
theorem lsum_congr {F G : Nat → Int} {l : List Nat} (h : ∀ y ∈ l, F y = G y) : lsum l F = lsum l G := by
  induction l with
  | nil => rfl
  | cons y l ih => rw [lsum_cons, lsum_cons, h y List.mem_cons_self, ih fun z hz => h z (List.mem_cons_of_mem _ hz)]
theorem lsum_mul {F : Nat → Int} {c : Int} {l : List Nat} : lsum l (fun y => c * F y) = c * lsum l F := by
  induction l with
  | nil => simp [lsum_nil]
  | cons y l ih => rw [lsum_cons, lsum_cons, ih]; grind
theorem lsum_plus {F G : Nat → Int} {l : List Nat} : lsum l (fun y => F y + G y) = lsum l F + lsum l G := by
  induction l with
  | nil => rfl
  | cons y l ih => rw [lsum_cons, lsum_cons, lsum_cons, ih]; omega
/-- each letter at one place is led by A; b words behind the place -/
def ac (n b N : Nat) (A : Nat → Nat → Int) (f : Fu) : Fu := fun k => if 0 ≤ k ∧ k < N then lsum (List.range n) (fun g => A (k.toNat / b % n) g * f ((k.toNat - (k.toNat / b % n) * b + g * b : Nat) : Int)) else 0
/-- a spot by its letter -/
def pos (n b hi l lo : Nat) : Nat := (hi * n + l) * b + lo
/-- two squares that undo one another -/
def Und (p : Int) (n : Nat) (A B : Nat → Nat → Int) : Prop := ∀ i j, i < n → j < n → Cg p (lsum (List.range n) fun g => A i g * B g j) (if i = j then 1 else 0)
theorem ac_lin {c : Int} : ac n b N A (fun k => f k + c * g k) = fun k => ac n b N A f k + c * ac n b N A g k := by
  funext k
  unfold ac
  by_cases hk : 0 ≤ k ∧ k < (N : Int)
  · rw [if_pos hk, if_pos hk, if_pos hk, ← lsum_add]
    exact lsum_congr fun m _ => by grind
  · rw [if_neg hk, if_neg hk, if_neg hk]; omega
theorem ac_cg (e : CgF p f g) : CgF p (ac n b N A f) (ac n b N A g) := fun k => by
  unfold ac
  by_cases hk : 0 ≤ k ∧ k < (N : Int)
  · rw [if_pos hk, if_pos hk]
    exact lsum_cg fun m _ => Cg.rfl'.mul (e _)
  · rw [if_neg hk, if_neg hk]; exact .rfl'
theorem ac_zero : CgF p (ac n b N A fun _ => 0) fun _ => 0 := fun k => by
  unfold ac
  split
  · exact .of (lsum_zero fun m _ => by simp)
  · exact .rfl'
/-- a linear map, span by span -/
structure Lin (p : Int) (L : Fu → Fu) : Prop where
  lin : ∀ f g c, CgF p (L fun k => f k + c * g k) fun k => L f k + c * L g k
  cg : ∀ f g, CgF p f g → CgF p (L f) (L g)
  zero : CgF p (L fun _ => 0) fun _ => 0
theorem Lin.ac : Lin p (ac n b N A) := ⟨fun f g c k => by rw [ac_lin]; exact .rfl', fun f g e => ac_cg e, ac_zero⟩
theorem Lin.comp {L M : Fu → Fu} (h : Lin p L) (k : Lin p M) : Lin p fun f => L (M f) :=
  ⟨fun f g c j => (h.cg _ _ (k.lin f g c) j).trans (h.lin _ _ c j), fun f g e => h.cg _ _ (k.cg f g e), fun j => (h.cg _ _ k.zero j).trans (h.zero j)⟩
theorem Lin.span {L : Fu → Fu} (h : Lin p L) {S T : Fu → Prop} (hs : ∀ f, S f → Span p T (L f)) {f : Fu} (s : Span p S f) : Span p T (L f) := by
  refine s.lin (fun f => Span p T (L f)) (fun f e => ?_) fun f g k c hg hf e => ?_
  · exact Span.zero.cg fun j => (h.cg _ _ e j).trans (h.zero j)
  · exact (hf.comb (hs g hg) c).cg fun j => (h.cg _ _ e j).trans (h.lin f g c j)
end
end Z
end T_RA
section T_RI
namespace Z
section
variable {p v u : Int} {n i j : Nat} {A B A' B' : Nat → Nat → Int}
def UU (p : Int) (n : Nat) (A B : Nat → Nat → Int) : Prop := Und p n A B ∧ Und p n B A
theorem lsum_sub {F G : Nat → Int} {l : List Nat} : lsum l (fun y => F y - G y) = lsum l F - lsum l G := by
  induction l with
  | nil => rfl
  | cons y l ih => rw [lsum_cons, lsum_cons, lsum_cons, ih]; omega
theorem lsum_at {F : Nat → Int} (hi : i < n) : lsum (List.range n) (fun g => if g = i then F g else 0) = F i := by
  rw [lsum_one List.nodup_range (List.mem_range.mpr hi) fun y _ hy => if_neg hy, if_pos rfl]
/-- one row more, one column less -/
theorem UU.add (U : UU p n A B) (hij : i ≠ j) (hi : i < n) (hj : j < n) (hA : ∀ a g, a < n → g < n → Cg p (A' a g) (A a g + if a = i then v * A j g else 0)) (hB : ∀ a g, a < n → g < n → Cg p (B' a g) (B a g - if g = j then v * B a i else 0)) : UU p n A' B' := by
  obtain ⟨U1, U2⟩ := U
  refine ⟨fun a c ha hc => ?_, fun a c ha hc => ?_⟩
  · refine (lsum_cg (G := fun g => (A a g + if a = i then v * A j g else 0) * (B g c - if c = j then v * B g i else 0)) fun g hg => (hA a g ha (List.mem_range.mp hg)).mul (hB g c (List.mem_range.mp hg) hc)).trans ?_
    have e : lsum (List.range n) (fun g => (A a g + if a = i then v * A j g else 0) * (B g c - if c = j then v * B g i else 0)) =
        lsum (List.range n) (fun g => A a g * B g c) + (if a = i then v else 0) * lsum (List.range n) (fun g => A j g * B g c) - (if c = j then v else 0) * lsum (List.range n) (fun g => A a g * B g i) - (if a = i then v else 0) * (if c = j then v else 0) * lsum (List.range n) (fun g => A j g * B g i) := by
      rw [← lsum_mul, ← lsum_mul, ← lsum_mul, ← lsum_plus, ← lsum_sub, ← lsum_sub]
      refine lsum_congr fun g _ => ?_
      by_cases x : a = i <;> by_cases y : c = j <;> simp only [x, y, if_true, if_false] <;> grind
    rw [e]
    have k := (((U1 a c ha hc).add ((Cg.rfl' (a := if a = i then v else 0)).mul (U1 j c hj hc))).sub ((Cg.rfl' (a := if c = j then v else 0)).mul (U1 a i ha hi))).sub (Cg.rfl' (a := (if a = i then v else 0) * (if c = j then v else 0)) |>.mul (U1 j i hj hi))
    refine k.trans (.of ?_)
    have hji : ¬ j = i := fun e => hij e.symm
    by_cases x : a = i
    · by_cases y : c = j
      · subst x; subst y
        simp [hij, hji]
      · subst x
        simp [y, Ne.symm y, hji]
    · by_cases y : c = j
      · subst y
        simp [x, hji]
      · simp [x, y, hji]
  · refine (lsum_cg (G := fun g => (B a g - if g = j then v * B a i else 0) * (A g c + if g = i then v * A j c else 0)) fun g hg => (hB a g ha (List.mem_range.mp hg)).mul (hA g c (List.mem_range.mp hg) hc)).trans ?_
    have e : lsum (List.range n) (fun g => (B a g - if g = j then v * B a i else 0) * (A g c + if g = i then v * A j c else 0)) =
        lsum (List.range n) (fun g => B a g * A g c) + lsum (List.range n) (fun g => if g = i then B a g * (v * A j c) else 0) - lsum (List.range n) (fun g => if g = j then v * B a i * A g c else 0) := by
      rw [← lsum_plus, ← lsum_sub]
      refine lsum_congr fun g _ => ?_
      by_cases x : g = i
      · have y : ¬ g = j := fun y => hij (x.symm.trans y)
        simp only [x, if_true]
        rw [if_neg hij, if_neg hij]; grind
      · by_cases y : g = j
        · simp only [y, if_true]
          rw [if_neg (fun e => hij e.symm), if_neg (fun e => hij e.symm)]; grind
        · rw [if_neg x, if_neg y, if_neg x, if_neg y]; grind
    rw [e, lsum_at hi, lsum_at hj]
    exact (U2 a c ha hc).trans (.of rfl) |> fun k => (Cg.of (by grind)).trans k
theorem UU.unit (h : ∀ a g, a < n → g < n → A a g = if a = g then 1 else 0) : UU p n A A := by
  have k : Und p n A A := fun a c ha hc => by
    rw [lsum_congr (G := fun g => if g = a then A g c else 0) fun g hg => by
      rw [h a g ha (List.mem_range.mp hg)]
      by_cases e : a = g
      · rw [if_pos e, if_pos e.symm]; omega
      · rw [if_neg e, if_neg (Ne.symm e)]; omega, lsum_at ha, h a c ha hc]
    exact .rfl'
  exact ⟨k, k⟩
end
end Z
end T_RI
section T_ZQ
namespace Z
open PySem L2
def drwData (r t : Int) (ls cs : List Int) : D := .dct [(.inr "large", .lst (ls.map .int)), (.inr "rest", .int r), (.inr "cells", .lst (cs.map .int)), (.inr "turn", .int t)]
def Hn : Hp := fun _ => none
/-- the ground with no draws -/
def Cn.nd (c : Cn) : Cn := { c with dr := none, xs := CnX.no }
theorem nd_ws (c : Cn) (a : Addr) : ¬ c.nd.ws a := by
  rintro (⟨_, _, _, e, _⟩ | ⟨q, h⟩)
  · cases e
  · cases h
theorem nd_wok (c : Cn) (H : Hp) : c.nd.wok H := ⟨(fun _ _ _ e => by cases e), fun p hp => by cases hp⟩
def No : Addr → Prop := fun _ => False
/-- slots of data alone -/
def allF (ρ : Env) : Prop := ∀ (i : Nat) d, ρ[i]? ≠ some (some (.own d))
theorem now_all {σ : L2.St} {ρ : Env} (h : allF ρ) (b : Addr) : ¬ full No σ ρ b := by
  rintro (z | ⟨i, d, e, _⟩)
  · exact z
  · exact h i d e
/-- data looked at, nothing else known -/
theorem RE.look {c : Cn} {σ : L2.St} {H : Hp} {ρ : Env} (hl : ρ.length = σ.length) (ha : allF ρ) (hf : ∀ (i : Nat) d, ρ[i]? = some (some (.frz d)) → ∃ v, σ[i]? = some (some v) ∧ Rep c.nd (Rz H No) v d) : RE c.nd Hn No σ H ρ := by
  refine ⟨hl, fun i d h => ?_, fun i d h => absurd h (ha i d), fun i j d e v _ h _ _ => absurd h (ha i d), (fun b o e => by cases e), fun b h => absurd rfl h, nd_wok c H, fun a w => (nd_ws c a w).elim, fun a z => z.elim⟩
  obtain ⟨v, e, q⟩ := hf i d h
  exact ⟨v, e, q.to (Rz.mono fun a z => (now_all ha a z).elim)⟩
theorem ints_rep {c : Cn} {R : Addr → HO → Prop} (ns : List Int) : RepL c R (ns.map V.int) (ns.map D.int) := RepL.ofInts ns
/-- the draws' dict as data -/
theorem DrawOk.rep {c : Cn} {x y z : Addr} {H : Hp} (h : DrawOk x y z H) : ∃ r t ls cs, H x = some (.dK (drwD y z r t)) ∧ H y = some (.lst (ls.map V.int)) ∧ H z = some (.lst (cs.map V.int)) ∧ ls.length ≤ sizeLine ∧ cs.length ≤ sizeLine ∧ x ≠ y ∧ x ≠ z ∧ y ≠ z ∧ Rep c.nd (Rz H No) (.ref x) (drwData r t ls cs) := by
  obtain ⟨r, t, ls, cs, h1, h2, h3, h4, h5, h6⟩ := h
  refine ⟨r, t, ls, cs, h1, h2, h3, h4, h5, h6.1, h6.2.1, h6.2.2, .dct ⟨fun z => z, .inl h1⟩ (by show 4 ≤ sizeLine; decide) ?_⟩
  exact .cons _ (.lst ⟨fun z => z, .inl h2⟩ (by simpa using h4) (ints_rep ls)) (.cons _ (.int r) (.cons _ (.lst ⟨fun z => z, .inl h3⟩ (by simpa using h5) (ints_rep cs)) (.cons _ (.int t) .nil)))
/-- one of the numbers is changed -/
theorem DrawOk.turn {x y z : Addr} {H : Hp} (h : DrawOk x y z H) (u : Int) : ∃ H', DPut H x (.str "turn") (.int u) H' ∧ DrawOk x y z H' ∧ ∀ b, b ≠ x → H' b = H b := by
  obtain ⟨r, t, ls, cs, h1, h2, h3, h4, h5, h6, h7, h8⟩ := h
  refine ⟨upd H x (.dK (drwD y z r u)), .inl ⟨_, .inr "turn", h1, rfl, by show 4 < sizeLine; decide, rfl⟩, ⟨r, u, ls, cs, upd_same, by rw [upd_ne h6.symm]; exact h2, by rw [upd_ne h7.symm]; exact h3, h4, h5, h6, h7, h8⟩, fun b hb => upd_ne hb⟩
theorem DrawOk.rest {x y z : Addr} {H : Hp} (h : DrawOk x y z H) (u : Int) : ∃ H', DPut H x (.str "rest") (.int u) H' ∧ DrawOk x y z H' ∧ ∀ b, b ≠ x → H' b = H b := by
  obtain ⟨r, t, ls, cs, h1, h2, h3, h4, h5, h6, h7, h8⟩ := h
  refine ⟨upd H x (.dK (drwD y z u t)), .inl ⟨_, .inr "rest", h1, rfl, by show 4 < sizeLine; decide, rfl⟩, ⟨u, t, ls, cs, upd_same, by rw [upd_ne h6.symm]; exact h2, by rw [upd_ne h7.symm]; exact h3, h4, h5, h6, h7, h8⟩, fun b hb => upd_ne hb⟩
end Z
namespace Z
open PySem L2
def F_mixed : Fn := ⟨"F_mixed", false, false, fun ds P _ => ds = [.drw] ∧ ∀ r : Int, P (.int r)⟩
def F_take : Fn := ⟨"F_take", false, false, fun ds P _ => ∃ n : Int, ds = [.drw, .int n] ∧ (0 < n ∧ n < 1073741824) ∧ ∀ r : Int, 0 ≤ r → r < n → P (.int r)⟩
def c_mixR : CB :=
  (.cons (.par [(1, false), (2, false)] (.cons (.prim .int (.cons (.idx (.var 0) (.lit (.str "turn"))) .nil)) (.cons (.lit (.int (0))) .nil)))
  (.cons (.for_ (.one 3) (.seq (.lst (.cons (.lit (.int (2147483629))) (.cons (.lit (.int (2147483587))) (.cons (.lit (.int (2147483579))) .nil)))))
    (.cons (.asg 4 false (.op .mod (.op .add (.op .mul (.var 1) (.lit (.int (69621)))) (.op .fdiv (.var 3) (.lit (.int (7))))) (.var 3)))
    (.cons (.for_ (.one 5) (.seq (.idx (.var 0) (.lit (.str "cells"))))
      (.cons (.asg 4 false (.op .mod (.op .add (.op .mul (.var 4) (.lit (.int (48271)))) (.prim .int (.cons (.var 5) .nil))) (.var 3))) .nil))
    (.cons (.asg 2 false (.op .add (.op .mul (.var 2) (.lit (.int (2147483647)))) (.op .mod (.op .pow (.var 4) (.lit (.int (5)))) (.var 3)))) .nil))))
  (.cons (.ret (.var 2)) .nil)))
theorem val_turn (r t : Int) (l c : D) : valD ([(.inr "large", l), (.inr "rest", .int r), (.inr "cells", c), (.inr "turn", .int t)] : List (Key × D)) (.inr "turn") = some (.int t) := rfl
theorem val_cells (r t : Int) (l c : D) : valD ([(.inr "large", l), (.inr "rest", .int r), (.inr "cells", c), (.inr "turn", .int t)] : List (Key × D)) (.inr "cells") = some c := rfl
theorem ev_mixR {r t : Int} {ls cs : List Int} {K : Kn} (h : ∀ n ρ', K.rt (.int n) .cln ρ') : evB noX c_mixR [some (.frz (drwData r t ls cs)), none, none, none, none, none] K := by
  unfold c_mixR drwData
  simp! only [val_turn, val_cells]
  have go : ∀ (g : Int), 0 < g → g < 2147483648 → ∀ (fo : Int) (a b d : Option Sl) (K' : Kn), (∀ fo a b d, K'.nx [some (.frz (drwData r t ls cs)), some (.frz (.int t)), some (.frz (.int fo)), a, b, d]) →
      evB noX (CB.cons
        (CS.asg 4 false (CE.op O2.mod (CE.op O2.add (CE.op O2.mul (CE.var 1) (CE.lit (D.int 69621))) (CE.op O2.fdiv (CE.var 3) (CE.lit (D.int 7)))) (CE.var 3)))
        (CB.cons
          (CS.for_ (Tg.one 5) (CI.seq ((CE.var 0).idx (CE.lit (D.str (Str.ofString "cells")))))
            (CB.cons (CS.asg 4 false (CE.op O2.mod (CE.op O2.add (CE.op O2.mul (CE.var 4) (CE.lit (D.int 48271))) (CE.prim Pr.int (CL.cons (CE.var 5) CL.nil))) (CE.var 3))) CB.nil))
          (CB.cons
            (CS.asg 2 false (CE.op O2.add (CE.op O2.mul (CE.var 2) (CE.lit (D.int 2147483647))) (CE.op O2.mod (CE.op O2.pow (CE.var 4) (CE.lit (D.int 5))) (CE.var 3))))
            CB.nil))) [some (.frz (drwData r t ls cs)), some (.frz (.int t)), some (.frz (.int fo)), some (.frz (.int g)), b, d] K' := by
    intro g g0 g1 fo a b d K' hK
    unfold drwData at hK ⊢
    simp! only [val_turn, val_cells]
    refine ⟨.inr (by omega), by omega, g0, ?_⟩
    refine for_inv (fun i ρ => ∃ (bl : Int) (d : Option Sl), 0 ≤ bl ∧ bl < g ∧ ρ = [some (.frz (drwData r t ls cs)), some (.frz (.int t)), some (.frz (.int fo)), some (.frz (.int g)), some (.frz (.int bl)), d]) ⟨_, _, Int.emod_nonneg _ (by omega), Int.emod_lt_of_pos _ g0, rfl⟩ ?_ ?_
    · rintro i x ρ K2 hx ⟨bl, d, b0, b1, rfl⟩ rt hnx _
      rw [List.getElem?_map] at hx
      obtain ⟨c, hc, rfl⟩ := Option.map_eq_some_iff.mp hx
      simp! only [ex_some]
      exact ⟨.inr (by omega), g0, hnx _ ⟨_, _, Int.emod_nonneg _ (by omega), Int.emod_lt_of_pos _ g0, rfl⟩⟩
    · rintro ρ ⟨bl, d, b0, b1, rfl⟩
      simp! only [ex_some]
      exact ⟨.inr (by omega), ⟨by omega, by omega, by omega⟩, g0, hK _ _ _ _⟩
  refine for_inv (fun i ρ => ∃ fo a b d, ρ = [some (.frz (drwData r t ls cs)), some (.frz (.int t)), some (.frz (.int fo)), a, b, d]) ⟨_, _, _, _, rfl⟩ ?_ ?_
  · rintro i x ρ K' hx ⟨fo, a, b, d, rfl⟩ rt hnx _
    have : ∃ g : Int, x = .int g ∧ 0 < g ∧ g < 2147483648 := by
      match i, hx with
      | 0, hx => cases hx; exact ⟨_, rfl, by omega, by omega⟩
      | 1, hx => cases hx; exact ⟨_, rfl, by omega, by omega⟩
      | 2, hx => cases hx; exact ⟨_, rfl, by omega, by omega⟩
      | n + 3, hx => simp at hx
    obtain ⟨g, rfl, g0, g1⟩ := this
    exact ⟨_, rfl, go g g0 g1 fo a b d K' fun fo a b d => hnx _ ⟨_, _, _, _, rfl⟩⟩
  · rintro ρ ⟨fo, a, b, d, rfl⟩
    simp! only [ex_some]
    exact h _ _
end Z
end T_ZQ
section T_UT06
namespace Z
open PySem L2
/-- the draws, from H0 on -/
structure Dst (c : Cn) (x y z : Addr) (H0 H : Hp) : Prop where
  hd : c.dr = some (x, y, z)
  ok : DrawOk x y z H
  keep : ∀ b o, H0 b = some o → ¬ c.ws b → H b = some o
  al : ∀ b, H0 b ≠ none → H b ≠ none
  tab : LamX.Tabs c.xs.tb H
section
variable {c : Cn} {x y z p : Addr} {H0 H H' : Hp} {o : HO}
theorem Dst.refl (h : c.wok H) (hd : c.dr = some (x, y, z)) : Dst c x y z H H := ⟨hd, h.1 _ _ _ hd, fun _ _ e _ => e, fun _ e => e, h.2⟩
theorem DrawOk.new (h : DrawOk x y z H) (hp : H p = none) : DrawOk x y z (upd H p o) := by
  obtain ⟨r, t, ls, cs, h1, h2, h3, h4⟩ := h
  have n : ∀ {a u}, H a = some u → a ≠ p := fun {a u} e q => by rw [q, hp] at e; cases e
  exact ⟨r, t, ls, cs, by rw [upd_ne (n h1)]; exact h1, by rw [upd_ne (n h2)]; exact h2, by rw [upd_ne (n h3)]; exact h3, h4⟩
theorem Dst.new (h : Dst c x y z H0 H) (hp : H p = none) : Dst c x y z H0 (upd H p o) :=
  ⟨h.hd, h.ok.new hp, fun b u e n => upd_keep hp b u (h.keep b u e n), fun b e => upd_al b (h.al b e), h.tab.ext fun b u e => upd_keep hp b u e⟩
/-- an object that is neither a table nor of the library's own kind is changed -/
theorem tabs_put {T : List (Addr × Str)} {u : HO} (t : LamX.Tabs T H) (hx : H x = some u) (n1 : ∀ ps, u ≠ .tbl ps) (n2 : ∀ φ, u ≠ .ext φ) (e : ∀ b, b ≠ x → H' b = H b) : LamX.Tabs T H' := fun p hp => by
  obtain ⟨ps, h1, h2, h3⟩ := t p hp
  refine ⟨ps, by rw [e _ fun q => by rw [q, hx] at h1; cases h1; exact n1 _ rfl]; exact h1, h2, fun pos cv hc => ?_⟩
  obtain ⟨a, e1, e2⟩ := h3 pos cv hc
  exact ⟨a, e1, by rw [e _ fun q => by rw [q, hx] at e2; cases e2; exact n2 _ rfl]; exact e2⟩
theorem ws_in (hd : c.dr = some (x, y, z)) {b : Addr} (h : b = x ∨ b = y ∨ b = z) : c.ws b := .inl ⟨x, y, z, hd, h⟩
theorem Dst.put (h : Dst c x y z H0 H) (k : DrawOk x y z H') (e : ∀ b, b ≠ x → H' b = H b) : Dst c x y z H0 H' :=
  ⟨h.hd, k, fun b u e1 n => by rw [e b fun q => n (ws_in h.hd (.inl q))]; exact h.keep b u e1 n, fun b e1 => by
    by_cases q : b = x
    · obtain ⟨r, t, ls, cs, h1, _⟩ := k
      rw [q, h1]; simp
    · rw [e b q]; exact h.al b e1, by
    obtain ⟨r, t, ls, cs, h1, _⟩ := h.ok
    exact tabs_put h.tab h1 (fun _ q => nomatch q) (fun _ q => nomatch q) e⟩
theorem Dst.ext (h : Dst c x y z H0 H) : (∀ b o, H0 b = some o → ¬ c.ws b → H b = some o) ∧ c.wok H :=
  ⟨h.keep, ⟨fun x' y' z' e => by rw [h.hd] at e; cases e; exact h.ok, h.tab⟩⟩
theorem Dst.of (h : Dst c x y z H0 H) (k1 : ∀ b o, H b = some o → ¬ c.ws b → H' b = some o) (k2 : ∀ b, H b ≠ none → H' b ≠ none) (wk : c.wok H') : Dst c x y z H0 H' :=
  ⟨h.hd, wk.1 _ _ _ h.hd, fun b o e n => k1 b o (h.keep b o e n) n, fun b e => k2 b (h.al b e), wk.2⟩
theorem Dst.look {σ σ' : L2.St} {ρ ρ' : Z.Env} (h : Dst c x y z H0 H) (s : Stp c.nd.ws σ ρ H σ' ρ' H') (ha : allF ρ) : Dst c x y z H0 H' := by
  have kp : ∀ b o, H b = some o → H' b = some o := fun b o e => s.keep b o e (by
    rintro (q | ⟨i, d, e, _⟩)
    · exact nd_ws c b q
    · exact ha i d e)
  obtain ⟨hd, ⟨r, t, ls, cs, h1, h2, h3, h4⟩, h5, h6, h7⟩ := h
  exact ⟨hd, ⟨r, t, ls, cs, kp _ _ h1, kp _ _ h2, kp _ _ h3, h4⟩, fun b o e n => kp _ _ (h5 b o e n), fun b e => s.al b (h6 b e), h7.ext kp⟩
theorem drw_args {vs : List V} {R : Addr → HO → Prop} (l : RepL c R vs [.drw]) : ∃ x y z, vs = [.ref x] ∧ c.dr = some (x, y, z) := by
  cases l with
  | cons a b =>
    cases b
    cases a with
    | drw e => exact ⟨_, _, _, rfl, e⟩
theorem drw_args2 {vs : List V} {R : Addr → HO → Prop} {n : Int} (l : RepL c R vs [.drw, .int n]) : ∃ x y z, vs = [.ref x, .int n] ∧ c.dr = some (x, y, z) := by
  cases l with
  | cons a b =>
    cases b with
    | cons a2 b =>
      cases b
      cases a2
      cases a with
      | drw e => exact ⟨_, _, _, rfl, e⟩
end
section
variable {P : Program} {w : World} {K : PySem.W.Frag} {mg : Str → Option Value} {base : Heap}
/-- within a def of the text -/
theorem sat_def {qual : Str} {scope : Scope} {f : Addr} {ps : List Str} {k : Nat} {Γ : Ct} (S : FnScope Γ.N ps scope) (hsc : Γ.sc = scope) (hosc : Γ.osc = scope) (G : Gnd K mg Γ) (hx0 : Γ.xt.excs = []) (hl0 : Γ.xt.lams = []) (hk0 : Γ.xt.kfns = []) (he0 : Γ.xt.eqs = false)
    (fns : ∀ x m F', Γ.fns.lookup x = some (m, F') → CalK CX0 P w K mg base k x m F') {c : Cn} (hK : c.K = K) (hm : c.mg = mg) {cdv : Value} {A : Around} {outer : List PySem.Env} {s : Shared} {H : Hp} {E : XK}
    (hr : Room k (A.deeper (PyProof.Rows.envOfC qual scope s.heap.objs.size f cdv))) (hv0 : Γ.xt.fvs = [] ∧ Γ.xt.lls = [] ∧ Γ.xt.mks = [] ∧ Γ.xt.eqq = false := by exact ⟨rfl, rfl, rfl, rfl⟩) :
    Sat 0 Γ CX0 c (cxOf CX0 P w K mg base Γ.N qual scope f cdv A outer s H E).nox E where
  O := ⟨hK.symm, hm.symm, rfl, S.nd, by have := hr.un; show (A.deeper _).units + 100 < cLine; omega⟩
  N := rfl
  sc := hsc.symm
  bind := fun x hx => ⟨by rw [hosc] at hx; exact hx, .inl rfl⟩
  kindf := S.kind
  fns := fun x m F' h => (fns x m F' h _ hr).atC hK hm
  fvs := fun x m F' h => by rw [hv0.1] at h; cases h
  lls := fun l q m F' h => by rw [hv0.2.1] at h; cases h
  pass := fun _ _ _ _ _ _ _ h => h.elim
  nc := fun _ _ _ _ _ h => h
  blt := G.blt
  cons := fun x d h => by
    obtain ⟨u, v, a1, a2, a3⟩ := G.cons x d h
    exact ⟨u, v, a1, a2, fun R => a3 c R hK hm⟩
  flds := fun f Cs h C hC => by rw [hm]; exact G.flds f Cs h C hC
  kfns := fun x xs pm n F' h => by rw [hk0] at h; cases h
  isa := fun C hC => by rw [hm, hK]; exact G.isa C hC
  rai := .inl hx0
  lam := .inl ⟨hl0, hv0.2.2.1⟩
  neq := .inl he0
  eqq := .inl hv0.2.2.2
end
end Z
end T_UT06
section T_UT06b
namespace Z
open PySem L2
theorem plains_ints : ∀ ns : List Int, D.plains (ns.map D.int) = true
  | [] => rfl
  | n :: ns => by rw [List.map_cons, plains_cons, plains_ints ns]; rfl
theorem deeps_ints : ∀ ns : List Int, D.deeps (ns.map D.int) = 0
  | [] => rfl
  | n :: ns => by
    show max 0 (D.deeps (ns.map D.int)) = 0
    rw [deeps_ints ns]; rfl
theorem vint_inj : ∀ {a b : List Int}, a.map V.int = b.map V.int → a = b
  | [], [], _ => rfl
  | x :: a, y :: b, h => by
    rw [List.map_cons, List.map_cons] at h
    obtain ⟨h1, h2⟩ := List.cons.inj h
    rw [V.int.inj h1, vint_inj h2]
  | [], _ :: _, h => by cases h
  | _ :: _, [], h => by cases h
/-- the first of the large numbers is taken -/
theorem Dst.pop {c : Cn} {x y z : Addr} {H0 H : Hp} {n : Int} {ls : List Int} (h : Dst c x y z H0 H) (e : H y = some (.lst ((n :: ls).map V.int))) : Dst c x y z H0 (upd H y (.lst (((n :: ls).map V.int).eraseIdx 0))) := by
  obtain ⟨hd, ⟨r, t, ls', cs, h1, h2, h3, h4, h5, h6, h7, h8⟩, h9, h10, h11⟩ := h
  have : ls' = n :: ls := by
    rw [e] at h2
    have := HO.lst.inj (Option.some.inj h2)
    exact (vint_inj this).symm
  subst this
  refine ⟨hd, ⟨r, t, ls, cs, by rw [upd_ne h6]; exact h1, by rw [upd_same]; rfl, by rw [upd_ne h8.symm]; exact h3, by simp at h4; omega, h5, h6, h7, h8⟩, fun b o e n1 => by rw [upd_ne fun q => n1 (ws_in hd (.inr (.inl q)))]; exact h9 b o e n1, fun b e => upd_al b (h10 b e), tabs_put h11 e (fun _ q => nomatch q) (fun _ q => nomatch q) fun b hb => upd_ne hb⟩
end Z
end T_UT06b
section T_UT06c
namespace Z
open PySem L2
/-- abs -/
def absI (i : Int) : Int := if i < 0 then -i else i
def spBegun (K : PySem.W.Frag) : Sp := fun vs H Q _ => ∃ (a : Addr) (ns : List Int), vs = [.ref a] ∧ SqL K H a (ns.map V.int) ∧ ns.length ≤ 63 ∧ ∀ x y z H', DrawOk x y z H' → Same H H' → H x = none → H y = none → H z = none → Q (.ref x) H'
end Z
end T_UT06c
section T_UT06d
namespace Z
open PySem L2
abbrev CEnv := Env
/-- data alone -/
theorem RE.frzs {c : Cn} {Z : Addr → Prop} {σ : L2.St} {H : Hp} {ρ : Env} (hw : c.wok H) (hz : ∀ a, c.ws a → Z a) (za : ∀ a, Z a → Ob H a) (hl : ρ.length = σ.length) (ha : allF ρ) (hf : ∀ (i : Nat) d, ρ[i]? = some (some (.frz d)) → ∃ v, σ[i]? = some (some v) ∧ Rep c (Rz H Z) v d) : RE c Hn Z σ H ρ := by
  refine ⟨hl, fun i d h => ?_, fun i d h => absurd h (ha i d), fun i j d e v _ h _ _ => absurd h (ha i d), (fun b o e => by cases e), fun b h => absurd rfl h, hw, hz, za⟩
  obtain ⟨v, e, q⟩ := hf i d h
  exact ⟨v, e, q.to (Rz.mono fun a z => z.elim id fun ⟨i, d, h, _⟩ => absurd h (ha i d))⟩
theorem RE.get_int {c : Cn} {H0 : Hp} {Z : Addr → Prop} {σ : L2.St} {H : Hp} {ρ : Env} {i : Nat} {n : Int} (r : RE c H0 Z σ H ρ) (h : ρ[i]? = some (some (.frz (.int n)))) : σ[i]? = some (some (.int n)) := by
  obtain ⟨v, e, q⟩ := r.frz i _ h
  cases q
  exact e
theorem RE.get_opq {c : Cn} {H0 : Hp} {Z : Addr → Prop} {σ : L2.St} {H : Hp} {ρ : Env} {i : Nat} {v : V} (r : RE c H0 Z σ H ρ) (h : ρ[i]? = some (some (.frz (.opq v)))) : σ[i]? = some (some v) := by
  obtain ⟨v, e, q⟩ := r.frz i _ h
  cases q
  exact e
end Z
end T_UT06d
section T_UT06e
namespace Z
open PySem L2
end Z
end T_UT06e
section T_UT06g
namespace Z
open PySem L2
def F_sortedT : Fn := ⟨"F_sortedT", true, false, fun ds P _ => ∃ (ws : List (List Nat)) (d B : Nat), ds = [.lst (ws.map wordD)] ∧ ws.length < 64 ∧ (d = 0 → ws.length < 2) ∧ (∀ w ∈ ws, w.length = d ∧ ∀ a ∈ w, a < B) ∧ ∀ ws' : List (List Nat), ws'.Perm ws → ws'.Pairwise (fun x y => spt B x ≤ spt B y) → P (.lst (ws'.map wordD))⟩
theorem fl_sortedT : F_sortedT.fl = false := rfl
theorem fr_sortedT : F_sortedT.fr = true := rfl
end Z
end T_UT06g
section T_PT
namespace Z
open PySem L2
def pairsA (n : Nat) : List (Nat × Nat) := (List.range n).flatMap fun a => (List.range (n - (a + 1))).map fun b => (a, a + 1 + b)
def longN (n m : Nat) : Nat := (List.range 7).foldl (fun f l => if n ^ l ≤ m then l else f) 0
def sumBk (f : List Int) (t : Nat) : Nat → Int
  | 0 => 0
  | u + 1 => sumBk f t u + (f[t - u]?).getD 0
def cntW (again : Bool) (t : Nat) : Nat := if again then t + 1 else min t 1 + 1
def stepW (again : Bool) (L : Nat) (f : List Int) : List Int := (List.range (L + 1)).map fun t => sumBk f t (cntW again t)
def waysL (bs : List Bool) (L : Nat) : List Int := bs.foldl (fun f a => stepW a L f) (1 :: List.replicate L 0)
def lastW (n : Nat) (w : List Nat) : Nat := if w = [] then n - 1 else w.getLast?.getD 0
def growW (n : Nat) (ws : List (List Nat)) : List (List Nat) := ws.flatMap fun w => (List.range (lastW n w + 1)).map fun k => w ++ [k]
def fallW (n : Nat) : Nat → List (List Nat)
  | 0 => [[]]
  | L + 1 => growW n (fallW n L)
def goodW (bs : List Bool) (w : List Nat) : Bool := (w.zip (w.drop 1)).all fun q => !(decide (q.1 = q.2) && !((bs[q.1]?).getD true))
def fallF (bs : List Bool) (L : Nat) : List (List Nat) := (fallW bs.length L).filter (goodW bs)
def F_pick : Fn := ⟨"F_pick", false, false, fun ds P _ => ∃ xs : List D, ds = [.drw, .lst xs] ∧ (0 < xs.length ∧ xs.length < 1000000) ∧ ∀ x ∈ xs, P x⟩
theorem fl_pick : F_pick.fl = false := rfl
theorem fr_pick : F_pick.fr = false := rfl
def F_field : Fn := ⟨"F_field", false, false, fun ds P _ => ds = [.drw] ∧ ∀ p ∈ PRIMES, P (.int p)⟩
theorem fl_field : F_field.fl = false := rfl
theorem fr_field : F_field.fr = false := rfl
def F_many : Fn := ⟨"F_many", false, true, fun ds P _ => ∃ n l : Nat, ds = [.int n, .int l] ∧ n < 1000000 ∧ l < 1000000 ∧ P (.int ((n ^ l : Nat) : Int))⟩
theorem fl_many : F_many.fl = true := rfl
theorem fr_many : F_many.fr = false := rfl
def F_pairs : Fn := ⟨"F_pairs", false, false, fun ds P _ => ∃ n : Nat, ds = [.int n] ∧ n ≤ 9 ∧ P (.lst ((pairsA n).map fun q => .tup [.int q.1, .int q.2]))⟩
theorem fl_pairs : F_pairs.fl = false := rfl
theorem fr_pairs : F_pairs.fr = false := rfl
def F_longest : Fn := ⟨"F_longest", false, true, fun ds P _ => ∃ n m : Nat, ds = [.int n, .int m] ∧ n < 1000000 ∧ P (.int (longN n m))⟩
theorem fl_longest : F_longest.fl = true := rfl
theorem fr_longest : F_longest.fr = false := rfl
def F_ways : Fn := ⟨"F_ways", false, true, fun ds P _ => ∃ (bs : List Bool) (L : Nat), ds = [.lst (bs.map .bl), .int L] ∧ L ≤ 1000 ∧ P (.int (((waysL bs L)[L]?).getD 0))⟩
theorem fl_ways : F_ways.fl = true := rfl
theorem fr_ways : F_ways.fr = false := rfl
def F_falling : Fn := ⟨"F_falling", false, false, fun ds P _ => ∃ (bs : List Bool) (L : Nat), ds = [.lst (bs.map .bl), .int L] ∧ (1 ≤ bs.length ∧ bs.length ≤ 9) ∧ L ≤ 6 ∧ (fallF bs L).length < 64 ∧ ∀ ws : List (List Nat), ws.Perm (fallF bs L) → ws.Pairwise (fun x y => spt bs.length x ≤ spt bs.length y) → P (.lst (ws.map wordD))⟩
theorem fl_falling : F_falling.fl = false := rfl
theorem fr_falling : F_falling.fr = false := rfl
theorem fl_take : F_take.fl = false := rfl
theorem fr_take : F_take.fr = false := rfl
def c_pick : CB :=
  (.cons (.ret (.idx (.var 1) (.call F_take (.cons (.var 0) (.cons (.prim .len (.cons (.var 1) .nil)) .nil))))) .nil)
end Z
end T_PT
section T_PU
namespace Z
open PySem L2
theorem bn_zu : F_take.fl = false ∧ F_take.fr = false ∧ F_pick.fl = false ∧ F_pick.fr = false ∧ F_field.fl = false ∧ F_field.fr = false ∧ F_many.fl = true ∧ F_many.fr = false ∧ F_pairs.fl = false ∧ F_pairs.fr = false ∧ F_longest.fl = true ∧ F_longest.fr = false ∧ F_ways.fl = true ∧ F_ways.fr = false ∧ F_falling.fl = false ∧ F_falling.fr = false ∧ F_sortedT.fl = false ∧ F_sortedT.fr = true := ⟨fl_take, fr_take, fl_pick, fr_pick, fl_field, fr_field, fl_many, fr_many, fl_pairs, fr_pairs, fl_longest, fr_longest, fl_ways, fr_ways, fl_falling, fr_falling, fl_sortedT, fr_sortedT⟩
section
variable {P : D → Prop} {E : Xn → Prop}
theorem ev_pick {xs : List D} (hl : 0 < xs.length ∧ xs.length < 1000000) (hP : ∀ x ∈ xs, P x) : evF c_pick 2 false [.drw, .lst xs] P E := by
  unfold c_pick
  dsimp! only [bn_zu]
  refine ⟨xs.length, rfl, ⟨by omega, by omega⟩, fun r r0 r1 => ?_⟩
  have hr : r.toNat < xs.length := by omega
  dsimp! only [bn_zu, atD_int r0 (List.getElem?_eq_getElem hr)]
  exact hP _ (List.getElem_mem hr)
end
end Z
end T_PU
section T_QH
namespace Z
open PySem L2
def lstD (xs : List Int) : D := .lst (xs.map .int)
/-- rows of m numbers that are not too large -/
def Rws (m : Nat) (rows : List (List Int)) : Prop := ∀ r ∈ rows, r.length = m ∧ ∀ x ∈ r, -1000000 < x ∧ x < 1000000
/-- rows over p -/
def RwP (p : Int) (m : Nat) (rows : List (List Int)) : Prop := ∀ r ∈ rows, r.length = m ∧ ∀ x ∈ r, 0 ≤ x ∧ x < p
def Pl (xs : List D) : Prop := D.plains xs = true ∧ (D.lst xs).deep ≤ 60
def followL (p : Int) (xs ys : List Int) : List Int := xs.flatMap fun x => ys.map fun y => x * y % p
def caseD (p : Int) (n : Nat) (ts : List (List Int)) : D := .dct [(.inr "field", .int p), (.inr "letters", .int n), (.inr "rules", .lst (ts.map rowD))]
def CaseOk (p : Int) (n : Nat) (ts : List (List Int)) : Prop := p ∈ PRIMES ∧ (1 ≤ n ∧ n ≤ 9) ∧ ts.length ≤ n * n ∧ RwP p (n * n) ts ∧ Tid p (n * n) ts
def F_shuffled : Fn := ⟨"F_shuffled", false, false, fun ds P _ => ∃ xs : List D, ds = [.drw, .lst xs] ∧ xs.length < 1000000 ∧ Pl xs ∧ ∀ ys : List D, ys.Perm xs → P (.lst ys)⟩
theorem fl_shuffled : F_shuffled.fl = false := rfl
theorem fr_shuffled : F_shuffled.fr = false := rfl
def F_lundone : Fn := ⟨"F_lundone", false, false, fun ds P _ => ∃ (p k : Int), ds = [.int p, .int k] ∧ Prm p ∧ (0 < k ∧ k < p) ∧ ∀ i : Int, (0 < i ∧ i < p) → i * k % p = 1 → P (.int i)⟩
theorem fl_lundone : F_lundone.fl = false := rfl
theorem fr_lundone : F_lundone.fr = false := rfl
def F_single : Fn := ⟨"F_single", true, false, fun ds P _ => ∃ m s : Nat, ds = [.int m, .int s] ∧ m < 1000000 ∧ P (lstD (unitL m s))⟩
theorem fl_single : F_single.fl = false := rfl
theorem fr_single : F_single.fr = true := rfl
def F_lcleared : Fn := ⟨"F_lcleared", false, false, fun ds P _ => ∃ (p : Int) (m : Nat) (d : D) (xss : List (List Int)), ds = [.int p, d, .int m] ∧ Prm p ∧ m < 100000 ∧ isRows d xss ∧ xss.length < 100000 ∧ (∀ xs ∈ xss, xs.length = m) ∧ ∀ (h : HR) (ks : List Int), HdOf p m (xss.map (fewL p)) h → ks.Perm (aK h) → ks.Pairwise (· ≤ ·) → P (.tup [.lst ((tidyL m h ks).map lstD), .lst (ks.map .int)])⟩
theorem fl_lcleared : F_lcleared.fl = false := rfl
theorem fr_lcleared : F_lcleared.fr = false := rfl
def F_whole : Fn := ⟨"F_whole", false, false, fun ds P _ => ∃ (p : Int) (n : Nat), ds = [.drw, .int p, .int n] ∧ p ∈ PRIMES ∧ (1 ≤ n ∧ n ≤ 9) ∧ ∀ W V : List (List Int), W.length = n → RwP p n W → V.length = n → RwP p n V → UU p n (wAt W) (wAt V) → P (.tup [.lst (W.map lstD), .lst (V.map lstD)])⟩
theorem fl_whole : F_whole.fl = false := rfl
theorem fr_whole : F_whole.fr = false := rfl
def F_raw : Fn := ⟨"F_raw", false, false, fun ds P _ => ∃ (p : Int) (d : D) (xs : List Int), ds = [.drw, .int p, d] ∧ p ∈ PRIMES ∧ isRow d xs ∧ xs.length < 1000000 ∧ ∀ (d2 : D) (ys : List Int), isRow d2 ys → ys.length = xs.length → CgF p (lf ys) (lf xs) → P d2⟩
theorem fl_raw : F_raw.fl = false := rfl
theorem fr_raw : F_raw.fr = false := rfl
def F_word_here : Fn := ⟨"F_word_here", false, false, fun ds P _ => ∃ n l s : Nat, ds = [.int n, .int l, .int s] ∧ (1 ≤ n ∧ n ≤ 9) ∧ l ≤ 1000 ∧ P (wordD (wordL n l s))⟩
theorem fl_word_here : F_word_here.fl = false := rfl
theorem fr_word_here : F_word_here.fr = false := rfl
def F_followed : Fn := ⟨"F_followed", false, false, fun ds P _ => ∃ (p : Int) (d e : D) (xs ys : List Int), ds = [.int p, d, e] ∧ (2 ≤ p ∧ p < 1000) ∧ isRow d xs ∧ isRow e ys ∧ (∀ x ∈ xs, -1000000 < x ∧ x < 1000000) ∧ xs.length * ys.length < 1000000 ∧ (xs.length < 1000000 ∧ ys.length < 1000000) ∧ P (lstD (followL p xs ys))⟩
theorem fl_followed : F_followed.fl = false := rfl
theorem fr_followed : F_followed.fr = false := rfl
def F_letters_led : Fn := ⟨"F_letters_led", false, false, fun ds P _ => ∃ (p : Int) (n l : Nat) (d e : D) (xs : List Int) (W : List (List Int)), ds = [.int p, .int n, .int l, d, e] ∧ (2 ≤ p ∧ p < 1000) ∧ (1 ≤ n ∧ n ≤ 9) ∧ l ≤ 1000 ∧ isRow d xs ∧ isRows e W ∧ W.length = n ∧ Rws n W ∧ xs.length = n ^ l ∧ n ^ l < 100000 ∧ (∀ x ∈ xs, -1000000 < x ∧ x < 1000000) ∧ ∀ ys : List Int, ys.length = n ^ l → (∀ y ∈ ys, 0 ≤ y ∧ y < p) → P (lstD ys)⟩
theorem fl_letters_led : F_letters_led.fl = false := rfl
theorem fr_letters_led : F_letters_led.fr = false := rfl
def F_tidied : Fn := ⟨"F_tidied", false, false, fun ds P _ => ∃ (p : Int) (m : Nat) (d : D) (xss : List (List Int)), ds = [.int p, .int m, d] ∧ Prm p ∧ m < 100000 ∧ isRows d xss ∧ xss.length < 100000 ∧ (∀ xs ∈ xss, xs.length = m) ∧ ∀ ts : List (List Int), TidyOf p m xss ts → P (.lst (ts.map rowD))⟩
theorem fl_tidied : F_tidied.fl = false := rfl
theorem fr_tidied : F_tidied.fr = false := rfl
def F_at_words : Fn := ⟨"F_at_words", false, false, fun ds P _ => ∃ (n : Nat) (ps : List (Nat × Nat × Int)), ds = [.int n, .lst (ps.map tripD)] ∧ (1 ≤ n ∧ n ≤ 9) ∧ (∀ q ∈ ps, q.1 < n ∧ q.2.1 < n) ∧ P (lstD (pairL n ps))⟩
theorem fl_at_words : F_at_words.fl = false := rfl
theorem fr_at_words : F_at_words.fr = false := rfl
def F_web_rules : Fn := ⟨"F_web_rules", false, false, fun ds P _ => ∃ (p : Int) (n : Nat) (k : Int), ds = [.drw, .int p, .int n, .int k] ∧ p ∈ PRIMES ∧ (1 ≤ n ∧ n ≤ 9) ∧ ∀ rows : List (List Int), Rws (n * n) rows → rows.length ≤ 200 → P (.lst (rows.map lstD))⟩
theorem fl_web_rules : F_web_rules.fl = false := rfl
theorem fr_web_rules : F_web_rules.fr = false := rfl
def F_family_rules : Fn := ⟨"F_family_rules", false, false, fun ds P _ => ∃ (p : Int) (n : Nat) (k : Int), ds = [.drw, .int p, .int n, .int k] ∧ p ∈ PRIMES ∧ (1 ≤ n ∧ n ≤ 9) ∧ ∀ rows : List (List Int), Rws (n * n) rows → rows.length ≤ 200 → P (.lst (rows.map lstD))⟩
theorem fl_family_rules : F_family_rules.fl = false := rfl
theorem fr_family_rules : F_family_rules.fr = false := rfl
def F_loose_rules : Fn := ⟨"F_loose_rules", false, false, fun ds P _ => ∃ (p : Int) (n : Nat), ds = [.drw, .int p, .int n] ∧ p ∈ PRIMES ∧ (1 ≤ n ∧ n ≤ 9) ∧ ∀ rows : List (List Int), Rws (n * n) rows → rows.length ≤ 200 → P (.lst (rows.map lstD))⟩
theorem fl_loose_rules : F_loose_rules.fl = false := rfl
theorem fr_loose_rules : F_loose_rules.fr = false := rfl
def F_case_of : Fn := ⟨"F_case_of", false, false, fun ds P _ => ∃ (p : Int) (n : Nat) (d : D) (xss : List (List Int)), ds = [.int p, .int n, d] ∧ p ∈ PRIMES ∧ (1 ≤ n ∧ n ≤ 9) ∧ isRows d xss ∧ xss.length < 100000 ∧ (∀ xs ∈ xss, xs.length = n * n) ∧ ∀ ts : List (List Int), CaseOk p n ts → TidyOf p (n * n) xss ts → P (caseD p n ts)⟩
theorem fl_case_of : F_case_of.fl = false := rfl
theorem fr_case_of : F_case_of.fr = false := rfl
def F_a_case : Fn := ⟨"F_a_case", false, false, fun ds P _ => ∃ k : Nat, ds = [.drw, .int k] ∧ (1 ≤ k ∧ k ≤ 9) ∧ ∀ (p : Int) (n : Nat) (ts : List (List Int)), CaseOk p n ts → n ≤ k → P (caseD p n ts)⟩
theorem fl_a_case : F_a_case.fl = false := rfl
theorem fr_a_case : F_a_case.fr = false := rfl
def F_made_rules : Fn := ⟨"F_made_rules", false, false, fun ds P _ => ∃ (p : Int) (n : Nat) (ts : List (List Int)), ds = [.drw, caseD p n ts] ∧ CaseOk p n ts ∧ P (bookD p n ts)⟩
theorem fl_made_rules : F_made_rules.fl = false := rfl
theorem fr_made_rules : F_made_rules.fr = false := rfl
end Z
end T_QH
local macro_rules | `(tactic| simp_all! only [$ls,*]) => `(tactic| try simp -dsimp only [$ls,*, Z.fl_is_number, Z.fr_is_number, Z.fl_is_between, Z.fr_is_between, Z.fl_is_list, Z.fr_is_list, Z.fl_is_row, Z.fr_is_row, Z.fl_are_rows, Z.fr_are_rows, Z.fl_need_prime, Z.fr_need_prime, Z.fl_need_letters, Z.fr_need_letters, Z.fl_need_from, Z.fr_need_from, Z.fl_many_words, Z.fr_many_words, Z.fl_need_rows, Z.fr_need_rows, true_or, Z.fl_Rules, Z.fl_pair_row, Z.fr_pair_row, Z.fl_tidy_rows, Z.fr_tidy_rows, Z.fr_Rules, Z.fl_few, Z.fr_few, Z.fl_heads_of, Z.fr_heads_of, Z.fl_word_in, Z.fr_word_in, Z.fl_need_book, Z.fr_need_book, Z.fl_placed_few, Z.fr_placed_few, Z.fl_nothing_heads, Z.fr_nothing_heads, Z.fl_need_length, Z.fr_need_length, Z.fl_rest_spots, Z.fr_rest_spots, Z.fl_rest_words, Z.fr_rest_words, Z.fl_count, Z.fr_count, Z.fl_whole_row, Z.fr_whole_row, Z.fl_cleared, Z.fr_cleared, Z.fl_dark_rows, Z.fr_dark_rows, Z.fl_need_two_books, Z.fr_need_two_books, Z.fl_common_of, Z.fr_common_of, Z.fl_has_all, Z.fr_has_all, Z.fl_shadow_of, Z.fr_shadow_of, Z.fl_shadow, Z.fr_shadow, Z.fl_is_under, Z.fr_is_under, Z.fl_joined_rules, Z.fr_joined_rules, Z.fl_common_rules, Z.fr_common_rules, Z.fl_take, Z.fr_take, Z.fl_pick, Z.fr_pick, Z.fl_field, Z.fr_field, Z.fl_many, Z.fr_many, Z.fl_pairs, Z.fr_pairs, Z.fl_longest, Z.fr_longest, Z.fl_shuffled, Z.fr_shuffled, Z.fl_lundone, Z.fr_lundone, Z.fl_single, Z.fr_single, Z.fl_lcleared, Z.fr_lcleared, Z.fl_whole, Z.fr_whole, Z.fl_raw, Z.fr_raw, Z.fl_word_here, Z.fr_word_here, Z.fl_followed, Z.fr_followed, Z.fl_letters_led, Z.fr_letters_led, Z.fl_tidied, Z.fr_tidied, Z.fl_at_words, Z.fr_at_words, Z.fl_web_rules, Z.fr_web_rules, Z.fl_family_rules, Z.fr_family_rules, Z.fl_loose_rules, Z.fr_loose_rules, Z.fl_case_of, Z.fr_case_of, Z.fl_a_case, Z.fr_a_case, Z.fl_made_rules, Z.fr_made_rules, Z.w_nil, Z.w_cons, ↓Z.bx_ap, Z.op_co, ↓Z.co_s, ↓Z.z_isa, ↓Z.z_lam, ↓Z.z_caught, ↓Z.z_callk, ↓Z.z_j0, ↓Z.z_j1, Z.sh_nil, Z.sh_f, Z.sh_o, Z.sh_n, ↓Z.z_clr, Z.op_i, Z.op_xs, Z.op_bl, Z.op_in, Z.op_dc, Z.op_ch, Z.op_fl, Z.op_fr, Z.op_ow, Z.op_run, Z.op_ix, Z.op_ct, Z.op_rv, Z.op_sq, Z.op_en, Z.op_po, Z.op_pl, Z.op_ky, Z.op_zp, Z.op_ap, Z.op_ex, Z.op_se, Z.op_pr, Z.op_cl, Z.op_cs, Bool.false_eq_true, eq_self, ↓Z.xs_s, ↓Z.bl_s, ↓Z.in_s, ↓Z.dc_s, ↓Z.ch_s, ↓Z.iF_t, ↓Z.iF_f, ↓Z.fr_s, ↓Z.ow_s, Z.o_add, Z.o_sub, Z.o_lt, Z.o_le, Z.o_gt, Z.o_ge, Z.o_eq, Z.o_ne, ↓Z.o_mul, ↓Z.o_mod, ↓Z.o_fdiv, ↓Z.o_pow, ↓Z.o_addl, ↓Z.o_addt, ↓Z.o_mull, ↓Z.o_rept, ↓Z.o_reps, Z.k_int, Z.k_str, Z.gt_l, ↓Z.z_F, ↓Z.z_nil, ↓Z.z_cons, ↓Z.z_asg, ↓Z.z_unp, ↓Z.z_par2, ↓Z.z_par3, ↓Z.z_aug, ↓Z.z_app, ↓Z.z_ext, ↓Z.z_seti, ↓Z.z_augi, ↓Z.z_exp, ↓Z.z_ret, ↓Z.z_retn, ↓Z.z_ite, ↓Z.z_fseq, ↓Z.z_fkey, ↓Z.z_frng, ↓Z.z_frng1, ↓Z.z_fenum, ↓Z.z_fzip, ↓Z.z_whl, ↓Z.z_tst, ↓Z.z_rno, ↓Z.z_rone, ↓Z.z_cont, ↓Z.z_pass, ↓Z.z_never, ↓Z.z_var, ↓Z.z_lit, ↓Z.rd_f, ↓Z.rd_o, ↓Z.z_op, ↓Z.z_neg, ↓Z.z_not, ↓Z.z_chain, ↓Z.z_and, ↓Z.z_or, ↓Z.z_ife, ↓Z.z_lst, ↓Z.z_tup, ↓Z.z_dsp0, ↓Z.z_dspe, Z.pd_n, Z.pd_s, Z.pd_i, Option.map_some, ↓Z.z_idx, ↓Z.z_cut, ↓Z.z_rev, ↓Z.z_call, ↓Z.z_prim, ↓Z.z_get, ↓Z.z_popd, ↓Z.z_popl, ↓Z.z_fld, ↓Z.z_comp, ↓Z.z_comp2, ↓Z.z_trn, ↓Z.z_trn2, Z.no_own_nil, Z.no_own_cons, Z.kok_seq, Z.kok_rng, Z.kok_rng1, Z.kok_enum, Z.kok_zip, ↓Z.z_snil, ↓Z.z_scons, ↓Z.z_anil, ↓Z.z_acons, ↓Z.z_on, ↓Z.z_oo, ↓Z.z_cn, ↓Z.z_co, ↓Z.z_iseq, ↓Z.z_ikey, ↓Z.z_irng1, ↓Z.z_irng, ↓Z.z_ienum, ↓Z.z_izip, List.map_cons, List.map_nil, List.cons_append, List.nil_append, List.length_cons, List.length_nil, Nat.reduceSub, Nat.reduceAdd, List.replicate, List.getElem?_cons_zero, List.getElem?_cons_succ, ↓Z.ix_l, ↓Z.ix_t, ↓Z.ix_k, ↓Z.ix_s, ↓Z.ct_l, ↓Z.ct_t, ↓Z.rv_l, ↓Z.sq_l, Z.en_l, Z.en_t, Z.sq_r, ↓Z.sq_t, ↓Z.ky_f, ↓Z.ky_o, ↓Z.zp_l, ↓Z.zp_t, ↓Z.ap_l, ↓Z.ex_l, ↓Z.se_l, ↓Z.se_k, ↓Z.po_k, Z.io_o, Z.io_f, Z.io_n, Z.ik_o, Z.il_o, ↓Z.pr_ll, ↓Z.pr_lt, ↓Z.pr_lk, ↓Z.pr_tl, ↓Z.pr_tt, ↓Z.pr_sl, ↓Z.pr_st, ↓Z.pr_sk, ↓Z.pr_dk, ↓Z.pr_m2, ↓Z.pr_x2, ↓Z.pr_ii, ↓Z.pr_ib, List.set_cons_zero, List.set_cons_succ, ↓Z.c_c, ↓Z.c_n, ↓Z.c_o, ↓Z.s_on, ↓Z.s_fc, ↓Z.s_fn, ↓Z.s_fo, ↓Z.st_c, ↓Z.st_n, ↓Z.st_o, Z.no_c, Z.no_n, Z.frs_n, Z.frs_o, Z.stoods, Z.owns, true_and, and_true, false_and, or_true, if_true, if_false, reduceCtorEq, false_implies, implies_true, Z.sc_i, Z.sc_b, Z.sc_s, Z.sc_n, Z.sc_l, Z.sc_t, Z.sc_d, and_self, List.any_nil, List.any_cons, Bool.false_or, Bool.or_false, Bool.or_self, Bool.and_self, Bool.and_true, Bool.true_and, Bool.not_true, Bool.not_false, decide_true, decide_false, Z.bindT, Z.bindL])
section T_QI
namespace Z
open PySem L2
section
variable {p : Int} {n m : Nat} {h : HR} {xss yss t u : List (List Int)} {E : Xn → Prop} {P : D → Prop}
theorem plains_erase : ∀ {xs : List D} {j : Nat}, D.plains xs = true → D.plains (xs.eraseIdx j) = true
  | [], _, h => by simpa using h
  | x :: xs, 0, h => by
    rw [plains_cons] at h
    exact (Bool.and_eq_true_iff.mp h).2
  | x :: xs, j + 1, h => by
    rw [plains_cons] at h
    obtain ⟨a, b⟩ := Bool.and_eq_true_iff.mp h
    rw [List.eraseIdx_cons_succ, plains_cons, a, plains_erase b]; rfl
theorem deeps_erase : ∀ {xs : List D} {j : Nat}, D.deeps (xs.eraseIdx j) ≤ D.deeps xs
  | [], _ => by simp
  | x :: xs, 0 => by
    show D.deeps xs ≤ max x.deep (D.deeps xs)
    omega
  | x :: xs, j + 1 => by
    have := deeps_erase (xs := xs) (j := j)
    show max x.deep (D.deeps (xs.eraseIdx j)) ≤ max x.deep (D.deeps xs)
    omega
theorem Pl.erase {xs : List D} {j : Nat} (h : Pl xs) : Pl (xs.eraseIdx j) := by
  refine ⟨plains_erase h.1, ?_⟩
  have h1 := h.2
  have h2 := deeps_erase (xs := xs) (j := j)
  have e : ∀ l : List D, (D.lst l).deep = D.deeps l + 1 := fun l => by rw [D.deep]
  rw [e] at h1 ⊢
  omega
end
end Z
end T_QI
section T_QJ
namespace Z
open PySem L2
end Z
end T_QJ
section T_QK
namespace Z
open PySem L2
end Z
end T_QK
section T_QL
namespace Z
open PySem L2
end Z
end T_QL
section T_QL2
namespace Z
section
variable {p : Int} {m i : Nat} {xss ls ds : List (List Int)} {ks : List Int} {c r : List Int}
theorem lf_map {f : Int → Int} (h0 : f 0 = 0) (xs : List Int) (k : Int) : lf (xs.map f) k = f (lf xs k) := by
  unfold lf
  split
  · rw [List.getElem?_map]
    cases xs[k.toNat]? with
    | none => exact h0.symm
    | some y => rfl
  · exact h0.symm
/-- how far it is -/
structure ClrS (p : Int) (m : Nat) (xss ls ds : List (List Int)) (ks : List Int) (i : Nat) : Prop where
  Rl : RwP p m ls
  Rd : RwP p m ds
  kl : ks.length = ds.length
  kr : ∀ k ∈ ks, 0 ≤ k ∧ k < i
  srt : ks.Pairwise (· < ·)
  z : ∀ r ∈ ls, ∀ q : Int, q < i → lf r q = 0
  one : ∀ (j : Nat) k r, ks[j]? = some k → ds[j]? = some r → lf r k = 1
  zer : ∀ (j l : Nat) k r, ks[j]? = some k → ds[l]? = some r → j ≠ l → lf r k = 0
  led : ∀ (j : Nat) k r, ks[j]? = some k → ds[j]? = some r → ∀ q, q < k → lf r q = 0
  sp : ∀ f, Span p (lfG (ls ++ ds)) f ↔ Span p (lfG xss) f
theorem ClrS.start (hp : 0 < p) (hx : ∀ xs ∈ xss, xs.length = m) : ClrS p m xss (xss.map fun xs => xs.map fun x => x % p) [] [] 0 where
  Rl := fun r hr => by
    obtain ⟨xs, hxs, rfl⟩ := List.mem_map.mp hr
    refine ⟨by rw [List.length_map]; exact hx xs hxs, fun x hx => ?_⟩
    obtain ⟨y, _, rfl⟩ := List.mem_map.mp hx
    exact ⟨Int.emod_nonneg _ (by omega), Int.emod_lt_of_pos _ (by omega)⟩
  Rd := fun _ h => nomatch h
  kl := rfl
  kr := fun _ h => nomatch h
  srt := .nil
  z := fun r hr q hq => by unfold lf; rw [if_neg (by omega)]
  one := fun j k r h _ => by simp at h
  zer := fun j l k r h _ => by simp at h
  led := fun j k r h _ => by simp at h
  sp := fun f => by
    rw [List.append_nil]
    have e : ∀ xs : List Int, CgF p (lf (xs.map fun x => x % p)) (lf xs) := fun xs k => by
      rw [lf_map (f := fun x => x % p) (by simp)]; exact Cg.mod
    constructor
    · intro s
      refine s.trans fun g hg => ?_
      obtain ⟨ys, hy, rfl⟩ := hg
      obtain ⟨xs, hxs, rfl⟩ := List.mem_map.mp hy
      exact (Span.mem ⟨xs, hxs, rfl⟩).cg (e xs)
    · intro s
      refine s.trans fun g hg => ?_
      obtain ⟨xs, hxs, rfl⟩ := hg
      exact (Span.mem ⟨_, List.mem_map.mpr ⟨xs, hxs, rfl⟩, rfl⟩).cg fun k => (e xs k).symm
end
end Z
end T_QL2
section T_QM
namespace Z
open PySem L2
section
variable {p : Int} {n m : Nat} {h : HR} {xss yss t u : List (List Int)} {E : Xn → Prop} {P : D → Prop}
theorem RwP.erase {ls : List (List Int)} {j : Nat} (h : RwP p m ls) : RwP p m (ls.eraseIdx j) := fun r hr => h r (List.mem_of_mem_eraseIdx hr)
end
end Z
end T_QM
section T_QN
namespace Z
open PySem L2
section
variable {p : Int} {n m : Nat} {h : HR} {xss yss t u : List (List Int)} {E : Xn → Prop} {P : D → Prop}
theorem Rws.app {a b : List (List Int)} (h : Rws m a) (k : Rws m b) : Rws m (a ++ b) := fun r hr => (List.mem_append.mp hr).elim (h r) (k r)
theorem Rws.nil : Rws m [] := fun _ h => nomatch h
end
end Z
end T_QN
section T_QO
namespace Z
open PySem L2
section
variable {p : Int} {n m : Nat} {h : HR} {xss yss t u : List (List Int)} {E : Xn → Prop} {P : D → Prop}
theorem Rws.of {r : List Int} (h : Rws m [r]) : r.length = m ∧ ∀ x ∈ r, -1000000 < x ∧ x < 1000000 := h r List.mem_cons_self
end
end Z
end T_QO
section T_QR
namespace Z
open PySem L2
def ZB (Z0 : Addr → Prop) (D : Addr) (as : List Addr) : Addr → Prop := fun b => Z0 b ∨ b = D ∨ b ∈ as
/-- the heap: a list of one's own, and another one whose rows are one's own -/
structure HB (c : Cn) (H0 : Hp) (Z0 : Addr → Prop) (a D : Addr) (as : List Addr) (one back : List (List Int)) (H : Hp) : Prop where
  ext : ∀ b o, H0 b = some o → ¬ c.ws b → H b = some o
  al : ∀ b, H0 b ≠ none → H b ≠ none
  wok : c.wok H
  wz : ∀ b, c.ws b → Z0 b
  z0 : ∀ b, Z0 b → Ob H0 b
  na : ¬ ZB Z0 D as a
  a0 : H0 a = none
  d0 : H0 D = none
  top : TopAt c H (Rz H (Zp (ZB Z0 D as) a)) a (.lst (one.map lstD))
  hD : H D = some (.lst (as.map V.ref))
  row : ∀ (j : Nat) b, as[j]? = some b → ∃ r, back[j]? = some r ∧ H b = some (.lst (r.map V.int))
  len : as.length = back.length
  nd : as.Nodup
  ne : ∀ b ∈ as, H0 b = none ∧ b ≠ D
section
variable {c : Cn} {H0 H H' : Hp} {Z0 : Addr → Prop} {a D b x y z : Addr} {as : List Addr} {one back : List (List Int)} {σ σ' : L2.St} {p : Int} {n : Nat} {k s m l k' s' m' l' : Option Sl}
theorem HB.nws (h : HB c H0 Z0 a D as one back H) {b : Addr} (hb : H0 b = none) : ¬ c.ws b := fun w => (h.z0 b (h.wz b w)).1 hb
theorem HB.zal (h : HB c H0 Z0 a D as one back H) (b : Addr) (hb : ZB Z0 D as b) : Ob H b := by
  rcases hb with z | rfl | z
  · exact c.kob (h.z0 b z) h.ext h.wok
  · exact ob_at h.hD fun _ q => nomatch q
  · obtain ⟨j, hj⟩ := List.mem_iff_getElem?.mp z
    obtain ⟨_, _, h2⟩ := h.row j b hj
    exact ob_at h2 fun _ q => nomatch q
theorem Rz.keep {Z Z' : Addr → Prop} {b : Addr} {u : HO} (q : Rz H Z b u) (hz : ¬ Z' b) (k : ∀ o, H b = some o → H' b = some o) : Rz H' Z' b u :=
  ⟨hz, q.2.elim (fun e => .inl (k _ e)) fun ⟨d, o, e⟩ => .inr ⟨d, o, k _ e⟩⟩
theorem HB.look (h : HB c H0 Z0 a D as one back H) (k : ∀ b o, H b = some o → ¬ c.ws b → H' b = some o) (al : ∀ b, H b ≠ none → H' b ≠ none) (wk : c.wok H') : HB c H0 Z0 a D as one back H' := by
  refine ⟨fun b o e n => k b o (h.ext b o e n) n, fun b e => al b (h.al b e), wk, h.wz, h.z0, h.na, h.a0, h.d0, ?_, k _ _ h.hD (h.nws h.d0), fun j b e => ?_, h.len, h.nd, h.ne⟩
  · obtain ⟨xs, e, l, r⟩ := h.top
    exact ⟨xs, k _ _ e (h.nws h.a0), l, r.to fun u o q => q.keep q.1 fun o e => k u o e fun w => q.1 (.inl (.inl (h.wz u w)))⟩
  · obtain ⟨r, h1, h2⟩ := h.row j b e
    exact ⟨r, h1, k _ _ h2 (h.nws (h.ne b (List.mem_of_getElem? e)).1)⟩
/-- a row is changed -/
theorem HB.put {j : Nat} {r : List Int} (h : HB c H0 Z0 a D as one back H) (hb : as[j]? = some b) : HB c H0 Z0 a D as one (back.set j r) (upd H b (.lst (r.map V.int))) := by
  have hm := List.mem_of_getElem? hb
  obtain ⟨h0, hd⟩ := h.ne b hm
  have hab : a ≠ b := fun e => h.na (.inr (.inr (e ▸ hm)))
  obtain ⟨_, _, hbl⟩ := h.row j b hb
  refine ⟨fun u o e n => by rw [upd_ne (fun z => by rw [z, h0] at e; cases e)]; exact h.ext u o e n, fun u e => upd_al u (h.al u e), c.wdep H _ (fun u wu => upd_ne fun e => h.nws h0 (e ▸ wu)) (exk_at hbl fun _ q => nomatch q) h.wok, h.wz, h.z0, h.na, h.a0, h.d0, ?_, by rw [upd_ne hd.symm]; exact h.hD, fun i u e => ?_, by rw [List.length_set]; exact h.len, h.nd, h.ne⟩
  · obtain ⟨xs, e, l, q⟩ := h.top
    refine ⟨xs, by rw [upd_ne hab]; exact e, l, q.to fun u o q => q.keep q.1 fun o e => ?_⟩
    rw [upd_ne (fun z : u = b => q.1 (.inl (.inr (.inr (by rw [z]; exact hm)))))]
    exact e
  · have hjl : j < as.length := (List.getElem?_eq_some_iff.mp hb).1
    by_cases hij : j = i
    · subst hij
      rw [hb] at e; cases e
      exact ⟨r, by rw [List.getElem?_set_self (by rw [← h.len]; exact hjl)], upd_same⟩
    · obtain ⟨r', g1, g2⟩ := h.row i u e
      refine ⟨r', by rw [List.getElem?_set_ne hij]; exact g1, ?_⟩
      rw [upd_ne]
      · exact g2
      · intro z
        subst z
        have hkl : i < as.length := (List.getElem?_eq_some_iff.mp e).1
        have e1 : as[j] = as[i] := by
          have a1 := (List.getElem?_eq_some_iff.mp hb).2
          have a2 := (List.getElem?_eq_some_iff.mp e).2
          rw [a1, a2]
        exact hij ((List.getElem_inj h.nd).mp e1)
/-- a row more -/
theorem HB.snoc {r : List Int} (h : HB c H0 Z0 a D as one back H) (k : ∀ u o, H u = some o → ¬ c.ws u → H' u = some o) (al : ∀ u, H u ≠ none → H' u ≠ none) (wk : c.wok H') (h1 : H' b = some (.lst (r.map V.int))) (hb : H b = none) :
    HB c H0 Z0 a D (as ++ [b]) one (back ++ [r]) (upd H' D (.lst (as.map V.ref ++ [.ref b]))) := by
  have h' := h.look k al wk
  have h0 : H0 b = none := by
    cases e : H0 b with
    | none => rfl
    | some o => exact absurd hb (h.al b (by rw [e]; simp))
  have hn : b ∉ as := fun m => (h.zal b (.inr (.inr m))).1 hb
  have hd : b ≠ D := fun e => (h.zal b (.inr (.inl e))).1 hb
  have hba : b ≠ a := fun e => by
    obtain ⟨xs, g, _⟩ := h.top
    rw [← e, hb] at g; cases g
  have haD : a ≠ D := fun e => h.na (.inr (.inl e))
  have nD : ∀ {u}, H0 u ≠ none → u ≠ D := fun h' e => h' (by rw [e]; exact h.d0)
  have zz : ∀ u, ZB Z0 D (as ++ [b]) u → ZB Z0 D as u ∨ u = b := fun u z => by
    rcases z with z | z | z
    · exact .inl (.inl z)
    · exact .inl (.inr (.inl z))
    · rcases List.mem_append.mp z with z | z
      · exact .inl (.inr (.inr z))
      · exact .inr (by simpa using z)
  refine ⟨fun u o e n => by rw [upd_ne (nD (some_ne e))]; exact h'.ext u o e n, fun u e => upd_al u (h'.al u e), c.wdep H' _ (fun u wu => upd_ne fun e => h.nws h.d0 (e ▸ wu)) (exk_at h'.hD fun _ q => nomatch q) wk, h.wz, h.z0, fun z => ?_, h.a0, h.d0, ?_, by rw [upd_same, List.map_append]; rfl, fun j u e => ?_, by simp [h.len], ?_, fun u hu => ?_⟩
  · rcases zz a z with z | z
    · exact h.na z
    · exact hba z.symm
  · obtain ⟨xs, e, l, q⟩ := h.top
    refine ⟨xs, by rw [upd_ne haD]; exact k _ _ e (h.nws h.a0), l, q.to fun u o q => q.keep (fun z => ?_) fun o e => ?_⟩
    · rcases z with z | z
      · rcases zz u z with z | z
        · exact q.1 (.inl z)
        · exact q.sm (z ▸ hb)
      · exact q.1 (.inr z)
    · rw [upd_ne (fun z : u = D => q.1 (.inl (.inr (.inl z))))]
      exact k u o e fun w => q.1 (.inl (.inl (h.wz u w)))
  · rw [List.getElem?_append] at e
    split at e
    · rename_i hj
      obtain ⟨r', g1, g2⟩ := h'.row j u e
      refine ⟨r', ?_, by rw [upd_ne (h.ne u (List.mem_of_getElem? e)).2]; exact g2⟩
      rw [List.getElem?_append_left (by rw [← h.len]; exact hj)]
      exact g1
    · rename_i hj
      have hj2 : j - as.length = 0 := by
        have := (List.getElem?_eq_some_iff.mp e).1
        simp at this
        omega
      rw [hj2] at e
      simp at e
      subst e
      refine ⟨r, ?_, by rw [upd_ne hd]; exact h1⟩
      rw [List.getElem?_append_right (by rw [← h.len]; omega), ← h.len, hj2]
      rfl
  · rw [List.nodup_append]
    refine ⟨h.nd, by simp, fun x hx y hy e => ?_⟩
    rw [List.mem_singleton] at hy
    subst hy
    exact hn (e ▸ hx)
  · rcases List.mem_append.mp hu with z | z
    · exact h.ne u z
    · rw [List.mem_singleton] at z
      subst z
      exact ⟨h0, hd⟩
def ρw (p : Int) (n : Nat) (D : Addr) (one : List (List Int)) (k s m l : Option Sl) : CEnv := [some (.frz .drw), some (.frz (.int p)), some (.frz (.int n)), some (.own (.lst (one.map lstD))), some (.frz (.opq (.ref D))), none, k, s, m, none, l, none, none, none]
/-- a name of a number, or of nothing -/
def IS (σ : L2.St) (i : Nat) (s : Option Sl) : Prop := ∀ q, s = some q → ∃ v : Int, q = .frz (.int v) ∧ σ[i]? = some (some (.int v))
def IQ (s : Option Sl) : Prop := ∀ q, s = some q → ∃ v : Int, q = .frz (.int v)
theorem IS.iq {i : Nat} (h : IS σ i s) : IQ s := fun q e => by
  obtain ⟨v, h1, _⟩ := h q e
  exact ⟨v, h1⟩
theorem IQ.nil : IQ none := fun q e => by cases e
theorem IS.nil {i : Nat} : IS σ i none := fun q e => by cases e
theorem IQ.int {v : Int} : IQ (some (.frz (.int v))) := fun q e => by cases e; exact ⟨v, rfl⟩
theorem ρw_own (h6 : IQ k) (h7 : IQ s) (h8 : IQ m) (h10 : IQ l) {i : Nat} {d : Z.D} (h : (ρw p n D one k s m l)[i]? = some (some (.own d))) : i = 3 ∧ d = .lst (one.map lstD) := by
  have no : ∀ {q : Option Sl}, IQ q → some q ≠ some (some (.own d)) := fun {q} hq e => by
    cases e
    obtain ⟨v, e⟩ := hq _ rfl
    cases e
  match i, h with
  | 0, h => cases h
  | 1, h => cases h
  | 2, h => cases h
  | 3, h => cases h; exact ⟨rfl, rfl⟩
  | 4, h => cases h
  | 5, h => cases h
  | 6, h => exact absurd h (no h6)
  | 7, h => exact absurd h (no h7)
  | 8, h => exact absurd h (no h8)
  | 9, h => cases h
  | 10, h => exact absurd h (no h10)
  | 11, h => cases h
  | 12, h => cases h
  | 13, h => cases h
  | i + 14, h => simp [ρw] at h
/-- the frame -/
structure WS (c : Cn) (H0 : Hp) (Z0 : Addr → Prop) (x : Addr) (p : Int) (n : Nat) (D : Addr) (as : List Addr) (one back : List (List Int)) (σ : L2.St) (H : Hp) : Prop where
  hb : ∃ a, σ[3]? = some (some (.ref a)) ∧ HB c H0 Z0 a D as one back H
  len : σ.length = 14
  s0 : σ[0]? = some (some (.ref x))
  s1 : σ[1]? = some (some (.int p))
  s2 : σ[2]? = some (some (.int n))
  s4 : σ[4]? = some (some (.ref D))
theorem WS.set {i : Nat} {v : Option V} (w : WS c H0 Z0 x p n D as one back σ H) (hi : 4 < i) : WS c H0 Z0 x p n D as one back (σ.set i v) H := by
  obtain ⟨⟨a, e, h⟩, h1, h2, h3, h4, h5⟩ := w
  exact ⟨⟨a, by rw [List.getElem?_set_ne (by omega)]; exact e, h⟩, by rw [List.length_set]; exact h1, by rw [List.getElem?_set_ne (by omega)]; exact h2, by rw [List.getElem?_set_ne (by omega)]; exact h3, by rw [List.getElem?_set_ne (by omega)]; exact h4, by rw [List.getElem?_set_ne (by omega)]; exact h5⟩
theorem WS.re (hd : c.dr = some (x, y, z)) (w : WS c H0 Z0 x p n D as one back σ H) (h6 : IS σ 6 k) (h7 : IS σ 7 s) (h8 : IS σ 8 m) (h10 : IS σ 10 l) : RE c H0 (ZB Z0 D as) σ H (ρw p n D one k s m l) := by
  obtain ⟨⟨a, s3, h⟩, hl, s0, s1, s2, s4⟩ := w
  have fr : ∀ {j : Nat} {q : Option Sl} {d : Z.D} {R : Addr → HO → Prop}, IS σ j q → some q = some (some (.frz d)) → ∃ v, σ[j]? = some (some v) ∧ Rep c R v d := fun {j q d R} hq e => by
    cases e
    obtain ⟨v, e, e2⟩ := hq _ rfl
    cases e
    exact ⟨_, e2, .int v⟩
  have ow : ∀ b, Ow σ (ρw p n D one k s m l) b → b = a := fun b ⟨i, d, e1, e2⟩ => by
    obtain ⟨rfl, _⟩ := ρw_own h6.iq h7.iq h8.iq h10.iq e1
    rw [s3] at e2; cases e2; rfl
  refine ⟨by rw [hl]; rfl, fun i d e => ?_, fun i d e => ?_, fun i j d e v ne h1 h2 _ => ?_, h.ext, h.al, h.wok, fun b w => .inl (h.wz b w), h.zal⟩
  · match i, e with
    | 0, e => cases e; exact ⟨_, s0, .drw hd⟩
    | 1, e => cases e; exact ⟨_, s1, .int _⟩
    | 2, e => cases e; exact ⟨_, s2, .int _⟩
    | 3, e => cases e
    | 4, e => cases e; exact ⟨_, s4, .opq _⟩
    | 5, e => cases e
    | 6, e => exact fr h6 e
    | 7, e => exact fr h7 e
    | 8, e => exact fr h8 e
    | 9, e => cases e
    | 10, e => exact fr h10 e
    | 11, e => cases e
    | 12, e => cases e
    | 13, e => cases e
    | i + 14, e => simp [ρw] at e
  · obtain ⟨rfl, rfl⟩ := ρw_own h6.iq h7.iq h8.iq h10.iq e
    refine ⟨a, s3, h.na, h.a0, ?_⟩
    obtain ⟨xs, g1, g2, g3⟩ := h.top
    exact ⟨xs, g1, g2, g3.to fun u o q => q.keep (fun z => z.elim (fun z => q.1 (.inl z)) fun z => q.1 (.inr (ow u z))) fun _ e => e⟩
  · obtain ⟨rfl, _⟩ := ρw_own h6.iq h7.iq h8.iq h10.iq h1
    obtain ⟨rfl, _⟩ := ρw_own h6.iq h7.iq h8.iq h10.iq h2
    exact absurd rfl ne
theorem RE.get_drw2 {Z : Addr → Prop} {ρ : CEnv} {i : Nat} (hd : c.dr = some (x, y, z)) (r : RE c H0 Z σ H ρ) (h : ρ[i]? = some (some (.frz .drw))) : σ[i]? = some (some (.ref x)) := by
  obtain ⟨v, e, q⟩ := r.frz i _ h
  cases q with
  | drw q =>
    rw [hd] at q
    cases q
    exact e
/-- behind a statement of the core -/
theorem WS.of {one' : List (List Int)} (hd : c.dr = some (x, y, z)) (w : WS c H0 Z0 x p n D as one back σ H) (h6 : IQ k) (h7 : IQ s) (h8 : IQ m) (h10 : IQ l) (h6' : IQ k') (h7' : IQ s') (h8' : IQ m') (h10' : IQ l')
    (r : RE c H0 (ZB Z0 D as) σ' H' (ρw p n D one' k' s' m' l')) (st : Stp c.ws σ (ρw p n D one k s m l) H σ' (ρw p n D one' k' s' m' l') H') : WS c H0 Z0 x p n D as one' back σ' H' := by
  obtain ⟨⟨a, s3, h⟩, hl, s0, s1, s2, s4⟩ := w
  have kz : ∀ b o, ZB Z0 D as b → ¬ c.ws b → H b = some o → H' b = some o := fun b o zb nw e => st.keep b o e (by
    rintro (w | ⟨i, d, e1, e2⟩)
    · exact nw w
    · obtain ⟨rfl, _⟩ := ρw_own h6 h7 h8 h10 e1
      rw [s3] at e2; cases e2
      exact h.na zb)
  obtain ⟨a', s3', na', a0', top'⟩ := r.own 3 _ rfl
  refine ⟨⟨a', s3', r.ext, r.al, r.wok, h.wz, h.z0, na', a0', h.d0, ?_, kz _ _ (.inr (.inl rfl)) (h.nws h.d0) h.hD, fun j b e => ?_, h.len, h.nd, h.ne⟩, by rw [← r.len]; rfl, RE.get_drw2 (i := 0) hd r rfl, RE.get_int (i := 1) r rfl, RE.get_int (i := 2) r rfl, RE.get_opq (i := 4) r rfl⟩
  · obtain ⟨xs, g1, g2, g3⟩ := top'
    exact ⟨xs, g1, g2, g3.to fun u o q => q.keep (fun z => z.elim (fun z => q.1 (.inl z)) fun z => q.1 (.inr ⟨3, _, rfl, z ▸ s3'⟩)) fun _ e => e⟩
  · obtain ⟨r', g1, g2⟩ := h.row j b e
    exact ⟨r', g1, kz _ _ (.inr (.inr (List.mem_of_getElem? e))) (h.nws (h.ne b (List.mem_of_getElem? e)).1) g2⟩
/-- rows of n numbers below p -/
def Gd (p : Int) (n : Nat) (rows : List (List Int)) : Prop := rows.length = n ∧ RwP p n rows
end
end Z
end T_QR
section T_QP
namespace Z
open PySem L2
section
variable {p : Int} {n m : Nat} {h : HR} {xss yss t ts u : List (List Int)} {E : Xn → Prop} {P : D → Prop}
theorem IsRows.snoc : ∀ {ds : List D} {xss : List (List Int)} {d : D} {x : List Int}, IsRows ds xss → isRow d x → IsRows (ds ++ [d]) (xss ++ [x])
  | _, _, _, _, .nil, h => .cons h .nil
  | _, _, _, _, .cons a b, h => .cons a (IsRows.snoc b h)
end
end Z
end T_QP
section T_QS
namespace Z
open PySem L2
section
variable {c : Cn} {H0 H H' : Hp} {Z0 : Addr → Prop} {a D b x y z : Addr} {as : List Addr} {one back : List (List Int)} {σ σ' : L2.St} {p : Int} {n : Nat} {Dn : Ends} {K : PySem.W.Frag}
/-- a row of the first list is set -/
theorem Gd.set {rows : List (List Int)} {r : List Int} {j : Nat} (g : Gd p n rows) (hl : r.length = n) (hr : ∀ v ∈ r, 0 ≤ v ∧ v < p) : Gd p n (rows.set j r) :=
  ⟨by rw [List.length_set]; exact g.1, fun q hq => by
    rcases List.mem_or_eq_of_mem_set hq with z | z
    · exact g.2 q z
    · rw [z]; exact ⟨hl, hr⟩⟩
theorem Gd.at {rows : List (List Int)} {j : Nat} (g : Gd p n rows) (hj : j < n) : ∃ r, rows[j]? = some r ∧ r.length = n ∧ ∀ v ∈ r, 0 ≤ v ∧ v < p := by
  have hl := g.1
  refine ⟨rows[j], List.getElem?_eq_getElem (by omega), ?_⟩
  exact g.2 _ (List.getElem_mem _)
end
end Z
end T_QS
section T_QT
namespace Z
open PySem L2
section
variable {c : Cn} {H H' : Hp} {Z0 : Addr → Prop} {a D b x y z : Addr} {as : List Addr} {one back : List (List Int)} {σ σ' : L2.St} {p : Int} {n : Nat} {Dn : Ends} {K : PySem.W.Frag}
def units (n : Nat) : List (List Int) := (List.range n).map (unitL n)
end
end Z
end T_QT
section T_UT06p
namespace Z
open PySem L2
section
variable {P : Program} {w : World} {K : PySem.W.Frag} {mg : Str → Option Value} {base : Heap}
abbrev FNS (P : Program) (w : World) (K : PySem.W.Frag) (mg : Str → Option Value) (base : Heap) (k : Nat) (l : List (Str × Nat × Fn)) : Prop := ∀ x m F', l.lookup x = some (m, F') → CalK CX0 P w K mg base k x m F'
theorem fns_nil {k : Nat} : FNS P w K mg base k [] := fun x m F' e => by cases e
theorem fns_cons {k j m : Nat} {a : Str} {F : Fn} {l : List (Str × Nat × Fn)} (h : CalK CX0 P w K mg base j a m F) (hj : j ≤ k) (t : FNS P w K mg base k l) : FNS P w K mg base k ((a, m, F) :: l) := fun x m' F' e => by
  rw [List.lookup_cons] at e
  split at e
  · rename_i q
    cases e
    rw [eq_of_beq q]
    exact h.mono hj
  · exact t x m' F' e
/-- a def stands under its name -/
def Dn (K : PySem.W.Frag) (mg : Str → Option Value) (x : Str) (st : Stmt) : Prop := ∃ f fd, FunD K x x (defArgs st) (defBody st) (defScope st) [] [] f fd ∧ mg x = some (.ref f)
theorem cal_of {x : Str} {st : Stmt} {ps : List Str} {k nf n : Nat} {Γ : Ct} {cb : CB} {F : Fn} (D : Dn K mg x st) (S : FnScope Γ.N ps (defScope st)) (hsc : Γ.sc = defScope st) (hosc : Γ.osc = defScope st) (hc : cBs (cS nf Γ) (defBody st) = some cb) (G : Gnd K mg Γ) (hn : ps.length = n)
    (hb : ∀ f fd, FunD K x x (defArgs st) (defBody st) (defScope st) [] [] f fd → Binds K fd ps []) (fns : FNS P w K mg base k Γ.fns) (hF : ∀ ds P E, F.run ds P E → evF cb Γ.N.length F.fr ds P E) (hxt : Γ.xt.excs = [] ∧ Γ.xt.lams = [] ∧ Γ.xt.kfns = [] ∧ Γ.xt.eqs = false := by exact ⟨rfl, rfl, rfl, rfl⟩) (hv0 : Γ.xt.fvs = [] ∧ Γ.xt.lls = [] ∧ Γ.xt.mks = [] ∧ Γ.xt.eqq = false := by exact ⟨rfl, rfl, rfl, rfl⟩) : CalK CX0 P w K mg base (k + 1) x n F := by
  obtain ⟨f, fd, Fd, hm⟩ := D
  subst hn
  exact CalK.fn (def_ok Fd S hsc hosc hc hF G hxt.1 hxt.2.1 hxt.2.2.1 hxt.2.2.2 fns hv0) hm Fd.kp (hb _ _ Fd)
end
section
variable {c : Cn} {x y z : Addr} {σ : L2.St} {H : Hp} {Dn : Ends}
def ρL (n : Nat) : CEnv := none :: some (.frz .drw) :: List.replicate n none
theorem ρL_at {n i : Nat} {q : Sl} (h : (ρL n)[i]? = some (some q)) : i = 1 ∧ q = .frz .drw := by
  match i, h with
  | 0, h => cases h
  | 1, h => cases h; exact ⟨rfl, rfl⟩
  | i + 2, h =>
    have h : (List.replicate n (none : Option Sl))[i]? = some (some q) := h
    rw [List.getElem?_replicate] at h
    split at h <;> cases h
theorem RE.drw {H0 : Hp} {Z : Addr → Prop} {ρ : CEnv} {i : Nat} (hd : c.dr = some (x, y, z)) (r : RE c H0 Z σ H ρ) (h : ρ[i]? = some (some (.frz .drw))) : σ[i]? = some (some (.ref x)) := by
  obtain ⟨v, e, q⟩ := r.frz i _ h
  cases q with
  | drw q =>
    rw [hd] at q
    cases q
    exact e
end
theorem PSs.exC {X : Cx} {α : Type} {st : List Stmt} {p : α → Prop} {t : α → TS} (h : ∀ a, p a → PSs X st (t a)) : PSs X st (fun D σ H => ∃ a, p a ∧ t a D σ H) :=
  ⟨fun pins s σ H D I ⟨a, pa, q⟩ => (h a pa).run pins s σ H D I q⟩
end Z
end T_UT06p
section T_GR
namespace Z
open PySem L2
end Z
end T_GR
section T_EI
namespace Z
open PySem PySem.Spec PyProof.Rows L2
/-- what a def promises where A is all around -/
structure FnA (P : Program) (w : World) (K : PySem.W.Frag) (mg : Str → Option Value) (base : Heap) (CX : CXT) (A : Around) (f : Addr) (fd : FuncData) (ps : List Str) (sp : Sp) : Prop where
  len : ∀ vs H Q E, sp vs H Q E → vs.length = ps.length
  go : ∀ (o : List PySem.Env) (s : Shared) (H : Hp) (ar : Args) (us : List Value) (vs : List V) (Q : VK) (E : XK),
    Env0 P w K mg base A o s H → BindsTo s fd ar (ps.zip us) → Vals vs us → sp vs H Q E →
      codeAny (model P w) A (.call (.ref f) ar) (CR CX o P w H s Q E) s
section
variable {P : Program} {w : World} {K : PySem.W.Frag} {mg : Str → Option Value} {base : Heap} {CX : CXT} {A : Around} {f : Addr} {fd : FuncData} {ps : List Str} {sp : Sp} {k : Nat}
theorem FnA.of (F : FnOk P w K mg base CX k f fd ps sp) (hr : Room k A) : FnA P w K mg base CX A f fd ps sp :=
  ⟨F.len, fun o s H ar us vs Q E e b r h => F.run A o s H ar us vs Q E hr e b r h⟩
/-- the body shown in this surrounding alone -/
theorem FnP.okA {x qual : Str} {params : Arguments} {body : List Stmt} {scope : Scope} {dvs : List V} {kws : List (Str × V)} {N : List Str} (F : FunD K x qual params body scope dvs kws f fd) (S : FnScope N ps scope)
    (len : ∀ vs H Q E, sp vs H Q E → vs.length = ps.length) (room : Room (k + 1) A)
    (hb : ∀ (cv : Value) (o : List PySem.Env) (s : Shared) (H : Hp) (vs : List V) (Q : VK) (E : XK), (∃ oc od osl fd', K.lookup f = some ⟨oc, od, .func fd', osl⟩ ∧ fd'.code = cv) → Room k (A.deeper (envOfC qual scope s.heap.objs.size f cv)) → sp vs H Q E →
      ∃ t, PSs (cxOf CX P w K mg base N qual scope f cv A o s H E) body t ∧ t { nx := fun _ H1 => Q .non H1, rt := Q } (start N vs) H) : FnA P w K mg base CX A f fd ps sp := by
  obtain ⟨oc, od, dV, kV, doc, pm, an, cv, ct, osl, rfl, lk, hc, _, _⟩ := F.ex
  refine ⟨len, fun o s H ar us vs Q E e b rv h => ?_⟩
  have inK : K.In s.heap := e.mod.kin.keeps fun a u g => (e.bs a u g).1
  have nl : s.heap.NoLimit := e.mod.nolimit.keeps fun a u g => (e.bs a u g).1
  have kinds : ∀ q ∈ ps.zip us, scope.names.lookup q.1 = some .local ∨ (scope.names.lookup q.1 = some .cell ∧ ((cellsFrom (s.heap.objs.size + 1) scope.names []).lookup q.1).isSome = true) := by
    rintro ⟨n, v⟩ hq
    exact (S.par n (List.of_mem_zip hq).1).imp id fun z => ⟨z, PySem.W.cellsFrom_some _ _ _ (.inl z)⟩
  refine codeAny_call_function room.depth (inK _ _ lk) rfl S.co S.gen rfl (PySem.W.codeRec_of inK hc) (b _ _ _ _ ?_)
  refine wpAny_newFunctionEnv_cells S.kind kinds fun env he s2 hx => ?_
  subst he
  refine ⟨nl.keeps hx.toInCall.keep, codeAny_func ?_⟩
  obtain ⟨t, ht, ready⟩ := hb cv o s H vs Q E ⟨_, _, _, _, lk, rfl⟩ (room.deeper _) h
  have J0 : L2.Inv (cxOf CX P w K mg base N qual scope f cv A o s H E) [] (start N vs) H s2 := inv_start S room.hd e (len _ _ _ _ h) rv hx
  refine wpAny_mono (ht.run [] s2 (start N vs) H _ J0 ready) (fun way s3 got => ?_) fun _ _ got => got
  have out : ∀ {σ1 : L2.St} {H1 : Hp} {v : V} {u : Value}, L2.Inv (cxOf CX P w K mg base N qual scope f cv A o s H E) [] σ1 H1 s3 → RelV v u → Q v H1 → L2.CE o P w H s Q u s3 :=
    fun {σ1 H1 v u} J rel q => ⟨v, H1, J.os, J.bare, J.base, J.hok, rel, q⟩
  cases way with
  | ret u =>
    obtain ⟨v, σ1, H1, J, rel, q⟩ := got
    exact out J rel q
  | next =>
    obtain ⟨σ1, H1, J, q⟩ := got
    exact out (v := .non) (u := .none) J rfl q
  | brk =>
    obtain ⟨_, _, _, q⟩ := got
    exact q.elim
  | cont =>
    obtain ⟨_, _, _, q⟩ := got
    exact q.elim
section
variable {X : Cx} {EE : XK} {F : Fn} {x : Str} {n : Nat}
theorem after_fnK {pins : List (Addr × Obj)} {σ : L2.St} {H : Hp} {s : Shared} {Q : VK} {us : List Value} {vs : List V} {ar : Args} (G : FnA X.prog X.w X.K X.mg X.base CX X.A f fd ps sp) (hb : BindsTo s fd ar (ps.zip us)) (hx : Passes CX X EE)
    (I : L2.Inv X pins σ H s) (r : Vals vs us) (h : sp vs H Q EE) : wpAny (model X.prog X.w) X.A (call (.ref f) ar.pos ar.kw) (EP X pins σ Q) X.xe s := by
  refine wpAny_call (codeAny_mono (G.go X.stack s H ar us vs Q EE I.env0 hb r h) fun way s1 got => ?_)
  match way, got with
  | .error e, got => exact hx pins σ H s e s1 I got
  | .ok (.ret u), got => exact I.after got
  | .ok .next, got => exact got.elim
  | .ok .brk, got => exact got.elim
  | .ok .cont, got => exact got.elim
theorem after_fnA {pins : List (Addr × Obj)} {σ : L2.St} {H : Hp} {s : Shared} {Q : VK} {us : List Value} {vs : List V} (G : FnA X.prog X.w X.K X.mg X.base CX X.A f fd ps sp) (hb : Binds X.K fd ps []) (hx : Passes CX X EE)
    (I : L2.Inv X pins σ H s) (r : Vals vs us) (h : sp vs H Q EE) : wpAny (model X.prog X.w) X.A (call (.ref f) us) (EP X pins σ Q) X.xe s := by
  have lus : (us ++ []).length = ps.length := by rw [List.append_nil, ← r.length]; exact G.len _ _ _ _ h
  have bt := hb s us I.kIn lus
  rw [List.append_nil] at bt
  exact after_fnK (ar := ⟨us, []⟩) G bt hx I r h
theorem FT.fnA (G : FnA X.prog X.w X.K X.mg X.base CX X.A f fd ps (spF X.K X.mg n F)) (hm : X.mg x = some (.ref f)) (hk : PySem.W.keepIn X.K (.ref f) = true) (hb : Binds X.K fd ps []) (hp : Passes CX X EE) : FT X EE x n F := by
  refine ⟨fun {e es t p pos} hg hdb ha hst hpl => ⟨fun pins s σ H Q I h => ?_⟩, fun {p pos} hg hdb => ⟨fun pins s σ H Q I h => ?_⟩⟩
  · refine wpAny_Call_Name_kw (ld_glob I hg hm ?_ hdb)
    refine PySem.W.callWith_K (h₀ := X.base) I.ok.mod.kin hk (thn (ha.run pos pins s σ H _ I h) fun us s2 ⟨vs, H2, J, r, q⟩ => ⟨J.kIn, ?_⟩) hst hpl
    have q : spF X.K X.mg n F (vs ++ []) H2 Q EE := q
    rw [List.append_nil] at q
    exact after_fnA G hb hp J r q
  · refine wpAny_Call_Name_kw (ld_glob I hg hm ?_ hdb)
    exact PySem.W.callWith_K0 I.kIn hk (after_fnA G hb hp I .nil h)
def permU (pm : List Nat) (ws : List Value) : List Value := pm.map fun i => (ws[i]?).getD .none
/-- how a call by keywords alone binds -/
def KBnd (K : PySem.W.Frag) (fd : FuncData) (ps ks : List Str) (pm : List Nat) : Prop := ∀ (s : Shared) (ws : List Value), K.In s.heap → ws.length = ks.length → BindsTo s fd ⟨[], ks.zip ws⟩ (ps.zip (permU pm ws))
theorem permV_vals {zs : List V} {ws : List Value} (r : Vals zs ws) : ∀ {pm : List Nat} {vs : List V}, permV pm zs = some vs → Vals vs (permU pm ws) := by
  intro pm
  unfold permV permU
  induction pm with
  | nil => intro vs h; simp at h; subst h; exact .nil
  | cons i pm ih =>
    intro vs h
    rw [List.mapM_cons] at h
    cases hv : zs[i]? with
    | none => rw [hv] at h; cases h
    | some v =>
      rw [hv] at h
      cases hm : List.mapM (fun i => zs[i]?) pm with
      | none => rw [hm] at h; cases h
      | some vr =>
        rw [hm] at h
        cases h
        obtain ⟨u, hu, ru⟩ := L2.Vals.get r hv
        refine .cons ?_ (ih hm)
        show RelV v ((ws[i]?).getD .none)
        rw [hu]
        exact ru
theorem FTK.fnA {ks : List Str} {pm : List Nat} (G : FnA X.prog X.w X.K X.mg X.base CX X.A f fd ps (spF X.K X.mg n F)) (hm : X.mg x = some (.ref f)) (hk : PySem.W.keepIn X.K (.ref f) = true) (hb : KBnd X.K fd ps ks pm) (hp : Passes CX X EE) : FTK X EE x ks pm n F := by
  refine ⟨fun {kws tk p pos} hg hdb hkw hall hks hpl => ⟨fun pins s σ H Q I h => ?_⟩⟩
  refine wpAny_Call_Name_kw (ld_glob I hg hm ?_ hdb)
  refine PySem.W.callWith_KW0 (h₀ := X.base) I.ok.mod.kin hk hall (thn (hkw.run pos pins s σ H _ I h) fun ws s2 ⟨zs, H2, J, rz, l2, vs, e1, q⟩ => ⟨J.kIn, ?_⟩) hpl
  rw [hks]
  exact after_fnK (ar := ⟨[], ks.zip ws⟩) G (hb s2 ws J.kIn (rz.length.symm.trans l2)) hp J (permV_vals rz e1) q
end
abbrev CX1 (P : Program) (w : World) : CXT := L2.CX P w
def CalX (P : Program) (w : World) (K : PySem.W.Frag) (mg : Str → Option Value) (base : Heap) (k : Nat) (x : Str) (n : Nat) (F : Fn) : Prop := ∀ A : Around, Room k A → A.guards = some [] → Cal (CX1 P w) P w K mg base A x n F
def CalXW (P : Program) (w : World) (K : PySem.W.Frag) (mg : Str → Option Value) (base : Heap) (k : Nat) (x : Str) (ks : List Str) (pm : List Nat) (n : Nat) (F : Fn) : Prop := ∀ A : Around, Room k A → A.guards = some [] → CalW (CX1 P w) P w K mg base A x ks pm n F
def FnG (P : Program) (w : World) (K : PySem.W.Frag) (mg : Str → Option Value) (base : Heap) (k : Nat) (f : Addr) (fd : FuncData) (ps : List Str) (sp : Sp) : Prop := ∀ A : Around, Room k A → A.guards = some [] → FnA P w K mg base (CX1 P w) A f fd ps sp
variable {x : Str} {n : Nat} {F : Fn}
theorem CalX.mono {j : Nat} (h : CalX P w K mg base k x n F) (hk : k ≤ j) : CalX P w K mg base j x n F := fun A r g => h A (r.mono hk) g
theorem CalXW.mono {j : Nat} {ks : List Str} {pm : List Nat} (h : CalXW P w K mg base k x ks pm n F) (hk : k ≤ j) : CalXW P w K mg base j x ks pm n F := fun A r g => h A (r.mono hk) g
theorem pass00 {X : Cx} {EE : XK} : Passes CX0 X EE := fun _ _ _ _ _ _ _ h => h.elim
/-- what raises nothing -/
theorem CalK.up (h : CalK CX0 P w K mg base k x n F) : CalX P w K mg base k x n F := fun A r _ X EE e1 e2 e3 e4 e5 e6 _ => h A r X EE e1 e2 e3 e4 e5 e6 pass00
theorem CalX.fn (G : FnG P w K mg base k f fd ps (spF K mg n F)) (hm : mg x = some (.ref f)) (hk : PySem.W.keepIn K (.ref f) = true) (hb : Binds K fd ps []) : CalX P w K mg base k x n F := by
  intro A hr hg X EE e1 e2 e3 e4 e5 e6 hp
  subst e1 e2 e3 e4 e5 e6
  exact FT.fnA (G _ hr hg) hm hk hb hp
/-- what a name may hold -/
def CalXV (P : Program) (w : World) (K : PySem.W.Frag) (mg : Str → Option Value) (base : Heap) (k : Nat) (x : Str) (n : Nat) (F : Fn) : Prop := ∀ A : Around, Room k A → A.guards = some [] → ∀ c : Cn, c.K = K → c.mg = mg → CalV c (CX1 P w) P w K mg base A x n F
theorem CalXV.mono {j : Nat} (h : CalXV P w K mg base k x n F) (hk : k ≤ j) : CalXV P w K mg base j x n F := fun A r g => h A (r.mono hk) g
theorem CalXV.fn (G : FnG P w K mg base k f fd ps (spF K mg n F)) (hm : mg x = some (.ref f)) (hk : PySem.W.keepIn K (.ref f) = true) (hb : Binds K fd ps []) : CalXV P w K mg base k x n F := by
  intro A hr hg c hK hmc X EE e1 e2 e3 e4 e5 e6 hp f' hf'
  subst e1 e2 e3 e4 e5 e6
  rw [hm] at hf'
  cases hf'
  exact ⟨hk, fun {pins σ H s Q us vs} I r h => after_fnA (G _ hr hg) hb hp I r (spC.F hK hmc h)⟩
theorem CalXW.fn {ks : List Str} {pm : List Nat} (G : FnG P w K mg base k f fd ps (spF K mg n F)) (hm : mg x = some (.ref f)) (hk : PySem.W.keepIn K (.ref f) = true) (hb : KBnd K fd ps ks pm) : CalXW P w K mg base k x ks pm n F := by
  intro A hr hg X EE e1 e2 e3 e4 e5 e6 hp
  subst e1 e2 e3 e4 e5 e6
  exact FTK.fnA (G _ hr hg) hm hk hb hp
theorem FnOk.g (G : FnOk P w K mg base CX0 k f fd ps sp) : FnG P w K mg base k f fd ps sp := fun A hr _ =>
  ⟨G.len, fun o s H ar us vs Q E e b r h => codeAny_mono (G.run A o s H ar us vs Q E hr e b r h) fun way s1 got => by
    match way, got with
    | .error e, got => exact (show False from got).elim
    | .ok .next, got => exact got.elim
    | .ok .brk, got => exact got.elim
    | .ok .cont, got => exact got.elim
    | .ok (.ret u), got => exact got⟩
/-- one of two promises -/
def Fn.or (F G : Fn) : Fn := { F with run := fun ds P E => F.run ds P E ∨ G.run ds P E }
theorem FnG.or {F G : Fn} (hr : F.fr = G.fr) (a : FnG P w K mg base k f fd ps (spF K mg n F)) (b : FnG P w K mg base k f fd ps (spF K mg n G)) : FnG P w K mg base k f fd ps (spF K mg n (F.or G)) := fun A r g => by
  refine ⟨fun vs H Q E h => ?_, fun o s H ar us vs Q E e bb rr h => ?_⟩
  · obtain ⟨c, Z, ds, Pd, Ex, h1, h2, h3, h4, h5, h6, h7, h8, h9⟩ := h
    rcases h8 with h8 | h8
    · exact (a A r g).len vs H Q E ⟨c, Z, ds, Pd, Ex, h1, h2, h3, h4, h5, h6, h7, h8, h9⟩
    · refine (b A r g).len vs H Q E ⟨c, Z, ds, Pd, Ex, h1, h2, h3, h4, h5, h6, h7, h8, ?_⟩
      rw [← hr]; exact h9
  · obtain ⟨c, Z, ds, Pd, Ex, h1, h2, h3, h4, h5, h6, h7, h8, h9⟩ := h
    rcases h8 with h8 | h8
    · exact (a A r g).go o s H ar us vs Q E e bb rr ⟨c, Z, ds, Pd, Ex, h1, h2, h3, h4, h5, h6, h7, h8, h9⟩
    · refine (b A r g).go o s H ar us vs Q E e bb rr ⟨c, Z, ds, Pd, Ex, h1, h2, h3, h4, h5, h6, h7, h8, ?_⟩
      rw [← hr]; exact h9
/-- == of rule books may be asked, at a level -/
def EqH (P : Program) (w : World) (K : PySem.W.Frag) (mg : Str → Option Value) (base : Heap) (k : Nat) : Prop := ∀ A : Around, Room k A → A.guards = some [] → ∀ (X : Cx) (EE : XK), X.prog = P → X.w = w → X.K = K → X.mg = mg → X.base = base → X.A = A → Passes (CX1 P w) X EE →
  ∃ r, OpR X (compareOp .Eq) r ∧ ∀ c : Cn, c.K = K → c.mg = mg → ∀ H0, R2ok c H0 (op2 .eqI) r
theorem EqH.mono {j : Nat} (h : EqH P w K mg base k) (hk : k ≤ j) : EqH P w K mg base j := fun A r g => h A (r.mono hk) g
/-- THE RULE for a def that may raise -/
theorem def_okX {x qual : Str} {params : Arguments} {body : List Stmt} {scope : Scope} {kws : List (Str × V)} {nf : Nat} {Γ : Ct} {cb : CB} (Fd : FunD K x qual params body scope [] kws f fd) (S : FnScope Γ.N ps scope)
    (hsc : Γ.sc = scope) (hosc : Γ.osc = scope) (hc : cBs (cS nf Γ) body = some cb) (hF : ∀ ds P E, F.run ds P E → evF cb Γ.N.length F.fr ds P E) (G : Gnd K mg Γ) (hl0 : Γ.xt.lams = []) (he0 : Γ.xt.eqs = false)
    (hex : Γ.xt.excs = [] ∨ (1 ≤ k ∧ ∀ C ∈ Γ.xt.excs, RaiC P K mg C))
    (fns : ∀ x m F', Γ.fns.lookup x = some (m, F') → CalX P w K mg base k x m F') (kfns : ∀ x xs pm n F', kLook Γ.xt.kfns x xs = some (pm, n, F') → pm.length = n ∧ CalXW P w K mg base k x xs pm n F') (hv0 : Γ.xt.fvs = [] ∧ Γ.xt.lls = [] ∧ Γ.xt.mks = [] := by exact ⟨rfl, rfl, rfl⟩) (heq : Γ.xt.eqq = false ∨ EqH P w K mg base k := by exact .inl rfl) : FnG P w K mg base (k + 1) f fd ps (spF K mg ps.length F) := by
  intro A hr hg
  refine FnP.okA Fd S (fun vs H Q E h => ?_) hr fun cdv outer s H vs Q E _ hr h => ?_
  · obtain ⟨_, _, _, _, _, _, _, hl, _⟩ := h
    exact hl
  · obtain ⟨c, Z, ds, Pd, Ex, hK, hm, hl, hw, hz, za, l, hrun, hQ, hE⟩ := h
    have O : XOk c (cxOf (CX1 P w) P w K mg base Γ.N qual scope f cdv A outer s H E) := ⟨hK.symm, hm.symm, rfl, S.nd, by have := hr.un; show (A.deeper _).units + 100 < cLine; omega⟩
    have tk : Takes (cxOf (CX1 P w) P w K mg base Γ.N qual scope f cdv A outer s H E) (fun cls d _ H' => E cls d H') := takes_of rfl rfl rfl rfl
    have St : Sat 0 Γ (CX1 P w) c (cxOf (CX1 P w) P w K mg base Γ.N qual scope f cdv A outer s H E) E := {
      O := O
      N := rfl
      sc := hsc.symm
      bind := fun x hx => ⟨by rw [hosc] at hx; exact hx, .inl rfl⟩
      kindf := S.kind
      fns := fun x m F' h => (fns x m F' h _ hr hg).atC hK hm
      fvs := fun x m F' h => by rw [hv0.1] at h; cases h
      lls := fun l q m F' h => by rw [hv0.2.1] at h; cases h
      pass := passes_call tk fun _ _ _ _ h => h
      nc := fun l H s e s' ⟨_, _, _, _, _, _, _, _, _, _, _, _, h⟩ => h
      blt := G.blt
      cons := fun x d h => by
        obtain ⟨u, v, a1, a2, a3⟩ := G.cons x d h
        exact ⟨u, v, a1, a2, fun R => a3 c R hK hm⟩
      flds := fun f Cs h C hC => by rw [hm]; exact G.flds f Cs h C hC
      kfns := fun x xs pm n F' h => ⟨(kfns x xs pm n F' h).1, (kfns x xs pm n F' h).2 _ hr hg⟩
      isa := fun C hC => by rw [hm, hK]; exact G.isa C hC
      rai := hex.imp id fun ⟨h1, h2⟩ => ⟨hr.mono h1, tk, fun C hC => by rw [hm, hK]; exact h2 C hC⟩
      lam := .inl ⟨hl0, hv0.2.2⟩
      neq := .inl he0
      eqq := heq.imp id fun h => by
        obtain ⟨r, a1, a2⟩ := h _ hr hg (cxOf (CX1 P w) P w K mg base Γ.N qual scope f cdv A outer s H E) E rfl rfl rfl rfl rfl rfl (passes_call tk fun _ _ _ _ h => h)
        exact ⟨r, a1, a2 c hK hm⟩ }
    have hX : XS c H Ex E := fun x cls od H' hx k1 k2 wk q => hE x cls od H' hx k1 k2 wk q
    exact ⟨trBs c H Ex cb, cBs_ok (cS_ok nf St (passes_of rfl) hX) hc, body_ok (Γ := Γ) (hF _ _ _ hrun) hw hz za l hQ⟩
end
end Z
end T_EI
section T_GB
namespace Z
open PySem PySem.Spec PyProof.Rows L2
end Z
end T_GB
section T_EJ
namespace Z
open PySem PySem.Spec PyProof.Rows L2
/-- the script, if it is not written, and the tables are held -/
def trk (K : PySem.W.Frag) (cs : List (Addr × Addr)) (a : Addr) (ob : Obj) (l : HO) : Hp := fun b => if b = a ∧ K.lookup a = none then some (.frz ob l) else if b ∈ cs.map Prod.snd then some (.tbl #[]) else none
section
variable {P : Program} {w : World} {K : PySem.W.Frag} {mg mb : Str → Option Value} {base : Heap} {CX : CXT} {f a : Addr} {fd : FuncData} {sp : Sp} {k : Nat} {x : Str} {s : Shared} {cs : List (Addr × Addr)} {ob : Obj} {l : HO}
theorem trk_of {b : Addr} {u : HO} (h : trk K cs a ob l b = some u) : (b = a ∧ K.lookup a = none ∧ u = .frz ob l) ∨ (b ∈ cs.map Prod.snd ∧ u = .tbl #[]) := by
  unfold trk at h
  split at h
  · rename_i q
    cases h
    exact .inl ⟨q.1, q.2, rfl⟩
  · split at h
    · rename_i q
      cases h
      exact .inr ⟨q, rfl⟩
    · cases h
theorem law_callU {vs : List Value} {ns : List Int} (KX : K.In s.heap) (hns : s.heap.Ns mainGlobals mg) (hb : s.heap.Ns builtinsNs mb) (hbb : ∀ y : Str, y ≠ "__name__" → mb y = bootBuiltins y)
    (nl : s.heap.NoLimit) (hg : s.gens = #[]) (tabs : ∀ p ∈ cs, s.heap.get? p.2 = some { cls := .none, data := .fields #[] } ∧ K.lookup p.2 = none ∧ PySem.W.CodeHd s.heap p.1 p.2)
    (bi : ∃ (m : Addr) (o : Obj), mg "__builtins__" = some (.ref m) ∧ m ≠ builtinsNs ∧ s.heap.get? m = some o ∧ o.cls = .type "module" ∧ o.dict = some builtinsNs ∧ o.data = .plain)
    (ha : s.heap.get? a = some { cls := .type "list", data := .seq vs.toArray }) (hi : IntsAre vs ns) (hl : ns.length ≤ sizeLine)
    (F : ∀ b : Heap, K.In b → b.Ns mainGlobals mg → (∀ p ∈ cs, LamX.TabB b mg p.1 p.2) → FnA P w K mg b CX callerA f fd [x] sp) (bind : ∀ (s : Shared) (u : Value), BindsTo s fd ⟨[u], []⟩ [(x, u)])
    (hsp : ∀ H : Hp, (∀ p ∈ cs, H p.2 = some (.tbl #[])) → SqL K H a (ns.map V.int) → sp [.ref a] H (fun v _ => v = .bl true) fun _ _ _ => False) (no : ∀ H e s2, CX [] H s (fun _ _ _ => False) e s2 → False) :
    codeAny (model P w) callerA (.call (.ref f) ⟨[.ref a], []⟩) (fun way s2 => way = .ok (.ret (.bool true)) ∧ OldK s.heap s2.heap ∧ s2.os = s.os ∧ AllBare s2.gens) s := by
  have rel := vals_ints hi
  have same := hi.length
  obtain ⟨H, eH⟩ : ∃ H, H = trk K cs a { cls := .type "list", data := .seq vs.toArray } (.lst (ns.map V.int)) := ⟨_, rfl⟩
  have atT : ∀ {b : Addr}, b ∈ cs.map Prod.snd → s.heap.get? b = some { cls := .none, data := .fields #[] } := fun {b} q => by
    obtain ⟨p, hp, rfl⟩ := List.mem_map.mp q
    exact (tabs p hp).1
  have apart : a ∉ cs.map Prod.snd := fun q => by
    have z := atT q
    rw [ha] at z
    have : Data.seq vs.toArray _ = Data.fields #[] := congrArg Obj.data (Option.some.inj z)
    cases this
  have held : ∀ p ∈ cs, H p.2 = some (.tbl #[]) := fun p hp => by
    have m : p.2 ∈ cs.map Prod.snd := List.mem_map_of_mem hp
    rw [eH]
    unfold trk
    rw [if_neg (fun q : p.2 = a ∧ K.lookup a = none => apart (by rw [← q.1]; exact m)), if_pos m]
  have seen : ∀ {b : Addr} {u : HO}, H b = some u → (b = a ∧ K.lookup a = none ∧ u = .frz { cls := .type "list", data := .seq vs.toArray } (.lst (ns.map V.int))) ∨ (b ∈ cs.map Prod.snd ∧ u = .tbl #[]) := fun {b u} e => trk_of (by rw [← eH]; exact e)
  have sq : SqL K H a (ns.map V.int) := by
    cases q : K.lookup a with
    | none => exact .inl (.inr ⟨{ cls := .type "list", data := .seq vs.toArray }, by rw [eH]; exact if_pos ⟨rfl, q⟩⟩)
    | some o =>
      have e := KX a o q
      rw [ha] at e
      cases e
      exact .inr ⟨_, vs.toArray, _, q, rfl, rfl, rfl, by rw [List.size_toArray, same]; exact hl, by simpa using rel⟩
  have good : HOk P w H s.heap := fun b u e => by
    rcases seen e with ⟨q1, _, q2⟩ | ⟨q1, q2⟩
    · subst q1 q2
      exact ⟨ha, by rw [List.length_map]; exact hl, vs, _, rel, ha⟩
    · subst q2
      exact atT q1
  -- what is neither a list nor an empty table is not held
  have out : ∀ {b : Addr} {o : Obj}, s.heap.get? b = some o → (∀ v n, o.data ≠ .seq v n) → o.data ≠ .fields #[] → (hidT s.heap H).get? b = some o := fun {b o} e n1 n2 => by
    refine hidT_get e ?_
    cases q : H b with
    | none => rfl
    | some u =>
      rcases seen q with ⟨z, _⟩ | ⟨z, _⟩
      · rw [z, ha] at e
        cases e
        exact absurd rfl (n1 _ _)
      · rw [atT z] at e
        cases e
        exact absurd rfl n2
  have names : ∀ {b : Addr} {m : Str → Option Value}, s.heap.Ns b m → (hidT s.heap H).Ns b m := by
    rintro b m ⟨o, es, ep, e, dd, r⟩
    exact ⟨o, es, ep, out e (fun _ _ z => by rw [dd] at z; cases z) (fun z => by rw [dd] at z; cases z), dd, r⟩
  have KB : K.In (hidT s.heap H) := fun b o e => hidT_get (KX b o e) (by
    cases q : H b with
    | none => rfl
    | some u =>
      rcases seen q with ⟨z, n, _⟩ | ⟨z, _⟩
      · rw [z, n] at e
        cases e
      · obtain ⟨p, hp, rfl⟩ := List.mem_map.mp z
        rw [(tabs p hp).2.1] at e
        cases e)
  have lim : (hidT s.heap H).NoLimit := by
    obtain ⟨mc, l1, l2⟩ := nl
    exact ⟨mc, names l1, l2⟩
  have M : L2.Mod K mg (hidT s.heap H) := ⟨KB, names hns, ⟨mb, names hb, hbb⟩, lim⟩
  have noG : ∀ {b : Addr} {o : Obj}, s.heap.get? b = some o → (∀ es ep, o.data ≠ .dict es ep) → b ≠ mainGlobals := fun {b o} e n q => by
    obtain ⟨o2, es, ep, e2, dd, _⟩ := hns
    rw [q, e2] at e
    cases e
    exact n _ _ dd
  have TB : ∀ p ∈ cs, LamX.TabB (hidT s.heap H) mg p.1 p.2 := fun p hp => by
    obtain ⟨t1, _, t3⟩ := tabs p hp
    refine ⟨?_, ?_, fun z => noG t1 (fun _ _ q => nomatch q) z.symm⟩
    · obtain ⟨o, us, file, tf, flags, tg, inF, text, tt, e1, r1, r2, r3, rest⟩ := t3
      refine ⟨o, us, file, tf, flags, tg, inF, text, tt, out e1 (fun _ _ z => by rw [r2] at z; cases z) (fun z => ?_), r1, r2, r3, rest⟩
      rw [r2] at z
      cases z
      simp at r3
    · obtain ⟨m, o, b1, b2, b3, b4, b5, b6⟩ := bi
      refine ⟨m, o, b1, b2, noG b3 (fun _ _ q => by rw [b6] at q; cases q), fun q => ?_, out b3 (fun _ _ z => by rw [b6] at z; cases z) (fun z => by rw [b6] at z; cases z), b4, b5, b6⟩
      rw [q, t1] at b3
      cases b3
      cases b6
  have E : Env0 P w K mg (hidT s.heap H) callerA [] s H :=
    ⟨rfl, M, fun _ _ e => of_hidT e, Nat.le_of_eq (hidT_size _ _), trivial, (fun d z => nomatch (show d ∈ ([] : List Addr) from z)), good, .of_eq hg⟩
  have run := (F _ KB (names hns) TB).go [] s H ⟨[.ref a], []⟩ [.ref a] [.ref a] _ _ E (bind s (.ref a)) (.cons rfl .nil) (hsp H held sq)
  refine codeAny_mono run fun way s2 got => ?_
  match way, got with
  | .error e, got => exact (no H e s2 got).elim
  | .ok .next, got => exact False.elim got
  | .ok .brk, got => exact False.elim got
  | .ok .cont, got => exact False.elim got
  | .ok (.ret u), got =>
    obtain ⟨v, H2, os, bare, un, good2, rv, q⟩ := got
    obtain rfl : v = .bl true := q
    obtain rfl : u = Value.bool true := rv
    have kept : ∀ b o, b ∉ cs.map Prod.snd → s.heap.get? b = some o → s2.heap.get? b = some o := fun b o nb e => by
      cases q : H b with
      | none => exact un.keep b o e q (fun y => nomatch (show b ∈ ([] : List Addr) from y)) (by simp)
      | some u =>
        rcases seen q with ⟨_, _, z⟩ | ⟨z, _⟩
        · subst z
          obtain ⟨e1, _⟩ := good b _ q
          obtain ⟨e2, _⟩ := good2 b _ (un.frzs b _ _ q)
          rw [e] at e1
          cases e1
          exact e2
        · exact absurd z nb
    have more : ∀ p ∈ cs, ∃ v : Array Value, s2.heap.get? p.2 = some { cls := .none, data := .fields v } := fun p hp => by
      obtain ⟨v, z⟩ := un.tbls p.2 #[] (held p hp)
      exact ⟨_, good2 p.2 _ z⟩
    refine ⟨rfl, ⟨fun b o e => ?_, fun b o e => ?_⟩, os, bare⟩
    all_goals by_cases m : b ∈ cs.map Prod.snd
    · obtain ⟨p, hp, rfl⟩ := List.mem_map.mp m
      obtain ⟨t1, _, t3⟩ := tabs p hp
      obtain ⟨v, hv⟩ := more p hp
      rw [t1] at e
      cases e
      exact .inr (.inl ⟨(t3.tab t1).isCodeTable, rfl, #[], v, rfl, by rw [Array.empty_append]; exact hv⟩)
    · exact .inl (kept b o m e)
    · obtain ⟨p, hp, rfl⟩ := List.mem_map.mp m
      obtain ⟨v, hv⟩ := more p hp
      exact ⟨_, hv⟩
    · exact ⟨o, kept b o m e⟩
/-- the goal that the head leaves -/
theorem walk_ofU {l : PySem.W.OpenLaw} {n : Nat} {q : Program} {loose : List Str} {XP : (Str → Option Value) → Heap → Prop} {YP : World → Heap → Prop} {d : DefRec} {CX : World → CXT} (hn : l.most = some n) (hn2 : n ≤ sizeLine) (hdf : d.params.defaults = [])
    (F : ∀ (w : World) (mg : Str → Option Value) (fa : Addr) (h : Heap), YP w h → h.Ns mainGlobals mg → mg d.name = some (.ref fa) →
      ∃ (K : PySem.W.Frag) (fd : FuncData) (sp : Sp) (cs : List (Addr × Addr)), K.In h ∧ (∀ p ∈ cs, h.get? p.2 = some { cls := .none, data := .fields #[] } ∧ K.lookup p.2 = none ∧ PySem.W.CodeHd h p.1 p.2) ∧ (∀ (s : Shared) (u : Value), BindsTo s fd ⟨[u], []⟩ [(x, u)]) ∧
        (∀ (H : Hp) (a : Addr) (ns : List Int), ns.length ≤ n → (∀ p ∈ cs, H p.2 = some (.tbl #[])) → SqL K H a (ns.map V.int) → sp [.ref a] H (fun v _ => v = .bl true) fun _ _ _ => False) ∧
        ∀ b : Heap, K.In b → b.Ns mainGlobals mg → (∀ p ∈ cs, LamX.TabB b mg p.1 p.2) → FnA l.prog w K mg b (CX w) callerA fa fd [x] sp)
    (no : ∀ (w : World) (H : Hp) (s : Shared) (e : Value) (s2 : Shared), CX w [] H s (fun _ _ _ => False) e s2 → False) : PySem.W.WalkO q loose XP YP l.row.toRowW d [] (fun f vs => PySem.call f vs) := by
  refine Att.attach_callB hn hdf fun w s0 s mg mb fa o pm cd doc a vs ns G Y ho hd hc hm hobj hints hlen hbits hg => ?_
  obtain ⟨K, fd, sp, cs, KX, tabs, b, hsp, hF⟩ := F w mg fa _ Y G.T.g hm
  exact law_callU KX G.T.g G.T.b G.T.builtins G.T.nolimit hg tabs G.T.bmain hobj hints (Nat.le_trans hlen hn2) hF b (fun H ht sq => hsp H a ns hlen ht sq) fun H e s2 => no w H s e s2
end
end Z
end T_EJ
section T_EL
namespace Z
open PySem PySem.Spec PyProof.Rows L2
section
variable {K : PySem.W.Frag} {h : Heap} {mg : Str → Option Value} {P : Program}
theorem dq {p : Prop} [Decidable p] (h : decide p = true) : p := of_decide_eq_true h
theorem bn {a b : Bool} (h : (a && b) = true) : a = true ∧ b = true := by simpa using h
/-- the first facts of getset __class__, told once -/
theorem exB_ok {C : Addr} (e : exB K C = true) : ExI K C := by
  obtain ⟨e1, e⟩ := bn e
  obtain ⟨e2, e⟩ := bn e
  obtain ⟨e3, e⟩ := bn e
  obtain ⟨e4, e5⟩ := bn e
  obtain ⟨c1, c⟩ := bn e1
  obtain ⟨c2, c⟩ := bn c
  obtain ⟨c3, c4⟩ := bn c
  exact ⟨e2, dq e3, dq e4, dq e5, dq c1, dq c2, dq c3, dq c4⟩
theorem inB_ok {x : Str} (e : inB K x = true) : InI K (He.ga K x) := by
  obtain ⟨e1, e2⟩ := bn e
  obtain ⟨c1, c⟩ := bn e1
  obtain ⟨c2, c⟩ := bn c
  obtain ⟨c3, c4⟩ := bn c
  exact ⟨He.cls_ok e2, dq c1, dq c2, dq c3, dq c4⟩
/-- the classes that the module knows -/
structure Know (K : PySem.W.Frag) (mg : Str → Option Value) (es is : List Str) : Prop where
  fe : ∀ x, isExc x = true → x ∈ es ∨ mg x = none
  fi : ∀ x, insN.contains x = true → x ∈ is ∨ mg x = none
  fg : ∀ x, x ∈ es ∨ x ∈ is → mg x = some (.ref (He.ga K x))
theorem Know.ref {es is : List Str} (N : Know K mg es is) {x : Str} {a : Addr} (h : x ∈ es ∨ x ∈ is) (e : mg x = some (.ref a)) : a = He.ga K x := by
  rw [N.fg x h] at e
  cases e
  rfl
theorem isa_by {es is : List Str} {C : Str} (N : Know K mg es is) (hC : C ∈ es ∨ C ∈ is) (e : isaB K es is C = true) : IsaC K mg C := by
  obtain ⟨e1, e⟩ := bn e
  obtain ⟨e2, e3⟩ := bn e
  refine ⟨.ref (He.ga K C), .ref (He.ga K C), .inl ⟨_, rfl, rfl, N.fg C hC⟩, fun T hT => dq (List.all_eq_true.mp e1 T hT), fun x a hx hm => ?_, fun x a hx hm => ?_⟩
  · rcases N.fi x hx with q | q
    · obtain rfl := N.ref (.inr q) hm
      obtain ⟨a1, a2⟩ := bn (List.all_eq_true.mp e2 x q)
      exact ⟨inB_ok a1, dq a2⟩
    · rw [q] at hm; cases hm
  · rcases N.fe x hx with q | q
    · obtain rfl := N.ref (.inl q) hm
      obtain ⟨a1, a2⟩ := bn (List.all_eq_true.mp e3 x q)
      exact ⟨exB_ok a1, dq a2⟩
    · rw [q] at hm; cases hm
/-- except RuleError: every error of the package is taken -/
theorem hex_by {es is : List Str} (N : Know K mg es is) (e : hexB K es = true) : ∀ C Ci, isExc C = true → mg C = some (.ref Ci) → PySem.W.exmOne K (.ref Ci) (.ref (He.ga K "RuleError")) = some true := fun x a hx hm => by
  rcases N.fe x hx with q | q
  · obtain rfl := N.ref (.inl q) hm
    exact dq (List.all_eq_true.mp e x q)
  · rw [q] at hm; cases hm
/-- an attribute of an error -/
theorem fld_exc {es is : List Str} {f x : Str} (N : Know K mg es is) (hx : x ∈ es) (hi : isExc x = true) (e : fldB K f x = true) : FldC K mg f x := by
  obtain ⟨e1, e2⟩ := bn e
  exact ⟨_, N.fg x (.inl hx), ⟨fun z => (by rw [hi] at z; cases z), fun _ => ⟨xfB_ok e1, dq e2⟩⟩⟩
/-- an error without an attribute is raised -/
theorem rai_plain {es is : List Str} {C : Str} (N : Know K mg es is) (hC : C ∈ es) (hi : isExc C = true) (ha : hasAt C = false) (hd : (C == ("__debug__" : Str)) = false) (e : raiB K (He.ga K C) = true) : RaiC P K mg C := by
  obtain ⟨e1, e⟩ := bn e
  obtain ⟨e2, e⟩ := bn e
  obtain ⟨e3, e4⟩ := bn e
  exact ⟨⟨_, N.fg C (.inl hC), hi, hd, fun _ => ⟨e1, e2, dq e3, dq e4⟩, fun z => by rw [ha] at z; cases z⟩⟩
/-- a class of the package over ValueError -/
theorem clsB_ok {C : Addr} (e : clsB K C = true) : ∃ nm q N bs bm sn sub ab col dd k0 k1 k2 k3 k5, K.lookup C = some (excClassObj nm q C N bs bm true sn sub ab col dd k0 k1 k2 k3 k5 "ValueError.__new__") ∧ PySem.HandSPX.refsVE bm = true := by
  unfold clsB at e
  split at e
  · rename_i dd cd sl q
    split at e
    · rename_i C' bm k0 k1 k2 k3 n k5 hm hs
      obtain ⟨e1, e⟩ := bn e
      obtain ⟨e2, e⟩ := bn e
      obtain ⟨e3, e⟩ := bn e
      obtain ⟨e4, e5⟩ := bn e
      obtain rfl := dq e1
      obtain rfl := dq e2
      obtain ⟨nm, bs, mro, ns, qn, hd, sn, sub, ab, col, del⟩ := cd
      simp only at hm e3 e4
      rw [Bool.not_eq_true'] at e3
      subst hm e3 e4
      obtain ⟨l⟩ := sl
      simp only at hs
      subst hs
      exact ⟨nm, qn, ns, bs, bm, sn, sub, ab, col, dd, k0, k1, k2, k3, k5, q, e5⟩
    · cases e
  · cases e
/-- an own __init__ of an error: as it is written -/
theorem noneB_ok {v : Value} (h : noneB v = true) : v = .none := by
  unfold noneB at h
  split at h
  · rfl
  · cases h
/-- the function's own part -/
theorem sup_by {es is : List Str} {x arg txt : Str} {t : SupT} (N : Know K mg es is) (e : supB2 P K x t.qual = true) (v : Hy.supV K x = t.val) (hs : mg "super" = none) (top : (P.main.scope.names.lookup ("super" : Str)).isSome = false)
    (bd : ∀ (doc pm : Value) (an : Option Addr) (ct : Value) (cd cc : Addr) (qn : Str) (a b : Value), bindArgs (PySem.W.ksFn "__init__" qn t.params t.body t.scope .none .none doc pm an (.ref cd) ct cc) ⟨[a, b], []⟩ = pure [(("self" : Str), a), (arg, b)] ∧ bindArgs (PySem.W.ksFn "__init__" qn t.params t.body t.scope .none .none doc pm an (.ref cd) ct cc) ⟨[a], [(attrOf x, b)]⟩ = pure [(("self" : Str), a), (arg, b)])
    (par : ∃ ar, (t.params.posonlyargs ++ t.params.args).head? = some ar ∧ ar.arg = "self") (txtB : ∃ q1 q2 q3 q4 q5 q6 q7 q8 q9 q10 k0, t.body = supB (attrOf x) arg txt q1 q2 q3 q4 q5 q6 q7 q8 q9 q10 k0 ∧ (q3.endLine == q5.line) = true)
    (sc : t.scope.kind = .function ∧ t.scope.isCoroutine = false ∧ t.scope.isGenerator = false ∧ (∀ y ∈ t.scope.names, y.2 ≠ .cell) ∧ t.scope.names.lookup ("self" : Str) = some .local ∧ t.scope.names.lookup arg = some .local ∧
      t.scope.names.lookup ("super" : Str) = some .globalImplicit ∧ t.scope.names.lookup ("__class__" : Str) = some .free ∧ (arg == ("__debug__" : Str)) = false ∧ (arg == ("self" : Str)) = false) : SupC P K mg (He.ga K x) (attrOf x) := by
  obtain ⟨e1, e⟩ := bn e
  obtain ⟨e2, e⟩ := bn e
  obtain ⟨e3, e⟩ := bn e
  obtain ⟨e4, e⟩ := bn e
  obtain ⟨e5, e⟩ := bn e
  obtain ⟨e6, e⟩ := bn e
  obtain ⟨e7, e⟩ := bn e
  obtain ⟨e8, e⟩ := bn e
  obtain ⟨e9, e⟩ := bn e
  obtain ⟨e10, e⟩ := bn e
  obtain ⟨e11, e⟩ := bn e
  obtain ⟨e12, e⟩ := bn e
  obtain ⟨e13, e14⟩ := bn e
  refine ⟨clsB_ok e1, dq e2, dq e3, e4, dq e5, dq e6, dq e7, dq e8, dq e9, dq e10, e11, hs, top, ?_⟩
  unfold Hy.supV SupT.val at v
  unfold fnB at e14
  split at v
  · rename_i oc od fd osl q
    rw [q] at e14
    obtain ⟨fn, fq, fp, fb, fs, fg, fc, fdf, fkd, fdoc, fpm, fan, fcode, fct, fbi⟩ := fd
    simp only [Option.some.injEq, Prod.mk.injEq] at v
    obtain ⟨rfl, rfl, rfl, rfl, rfl, rfl, hc, rfl⟩ := v
    split at e14
    · rename_i od2 fd2 osl2 q2
      cases q2
      simp only at e14
      obtain ⟨z1, e15⟩ := bn e14
      obtain ⟨z2, e16⟩ := bn e15
      clear e14 e15
      obtain rfl := noneB_ok z1
      obtain rfl := noneB_ok z2
      clear z1 z2
      split at e16
      · rename_i cd nm cc
        simp only [List.map_cons, List.map_nil, List.cons.injEq, and_true] at hc
        subst hc
        obtain ⟨b1, b⟩ := bn e16
        obtain ⟨b2, b3⟩ := bn b
        split at b2
        · rename_i oc2 od3 vs sl q3
          split at b2
          · rename_i file tf q4
            split at b3
            · rename_i oc4 od4 D sl4 q5
              obtain rfl := dq b3
              exact ⟨_, cd, cc, _, _, t.qual, t.params, t.body, t.scope, _, _, _, _, _, _, _, arg, txt, dq e12, dq e13, q, b1, ⟨_, _, vs, _, file, tf, q3, q4, b2⟩, ⟨_, _, _, q5⟩, fun qn doc pm an a b => bd _ _ _ _ _ _ _ _ _, par, txtB, sc⟩
            · cases b3
          · cases b2
        · cases b2
      · cases e16
    · cases e14
  · cases v
/-- an error with an attribute is raised -/
theorem rai_sup {es is : List Str} {C : Str} (N : Know K mg es is) (hC : C ∈ es) (hi : isExc C = true) (ha : hasAt C = true) (hd : (C == ("__debug__" : Str)) = false) (T : SupC P K mg (He.ga K C) (attrOf C)) : RaiC P K mg C :=
  ⟨⟨_, N.fg C (.inl hC), hi, hd, fun z => (by rw [ha] at z; cases z), fun _ => T⟩⟩
end
end Z
end T_EL
section T_EM
namespace Z
open PySem L2
abbrev FNX (P : Program) (w : World) (K : PySem.W.Frag) (mg : Str → Option Value) (base : Heap) (k : Nat) (l : List (Str × Nat × Fn)) : Prop := ∀ x m F', l.lookup x = some (m, F') → CalX P w K mg base k x m F'
abbrev KNX (P : Program) (w : World) (K : PySem.W.Frag) (mg : Str → Option Value) (base : Heap) (k : Nat) (l : List (Str × List Str × List Nat × Nat × Fn)) : Prop := ∀ x xs pm n F', kLook l x xs = some (pm, n, F') → pm.length = n ∧ CalXW P w K mg base k x xs pm n F'
section
variable {P : Program} {w : World} {K : PySem.W.Frag} {mg : Str → Option Value} {base : Heap}
abbrev LLX (P : Program) (w : World) (K : PySem.W.Frag) (mg : Str → Option Value) (base : Heap) (k : Nat) (ll : List (LamT × Str × Nat × Fn)) : Prop := ∀ l q m F', (l, q, m, F') ∈ ll → ∀ A : Around, Room k A → A.guards = some [] → ∀ c : Cn, c.K = K → c.mg = mg → CalL c (CX1 P w) P w K mg base A l q m F'
theorem llx_nil {k : Nat} : LLX P w K mg base k [] := fun _ _ _ _ e => nomatch e
abbrev FVX (P : Program) (w : World) (K : PySem.W.Frag) (mg : Str → Option Value) (base : Heap) (k : Nat) (l : List (Str × Nat × Fn)) : Prop := ∀ x m F', l.lookup x = some (m, F') → CalXV P w K mg base k x m F'
theorem fvx_nil {k : Nat} : FVX P w K mg base k [] := fun x m F' e => by cases e
theorem fnx_nil {k : Nat} : FNX P w K mg base k [] := fun x m F' e => by cases e
theorem fnx_cons {k j m : Nat} {a : Str} {F : Fn} {l : List (Str × Nat × Fn)} (h : CalX P w K mg base j a m F) (hj : j ≤ k) (t : FNX P w K mg base k l) : FNX P w K mg base k ((a, m, F) :: l) := fun x m' F' e => by
  rw [List.lookup_cons] at e
  split at e
  · rename_i q
    cases e
    rw [eq_of_beq q]
    exact h.mono hj
  · exact t x m' F' e
theorem knx_nil {k : Nat} : KNX P w K mg base k [] := fun x xs pm n F' e => by cases e
theorem knx_cons {k j n : Nat} {a : Str} {ks : List Str} {pm : List Nat} {F : Fn} {l : List (Str × List Str × List Nat × Nat × Fn)} (h : CalXW P w K mg base j a ks pm n F) (hp : pm.length = n) (hj : j ≤ k) (t : KNX P w K mg base k l) : KNX P w K mg base k ((a, ks, pm, n, F) :: l) := fun x xs pm' n' F' e => by
  unfold kLook at e
  split at e
  · rename_i q
    rw [Bool.and_eq_true] at q
    obtain rfl := of_decide_eq_true q.1
    obtain rfl := of_decide_eq_true q.2
    cases e
    exact ⟨hp, h.mono hj⟩
  · exact t x xs pm' n' F' e
theorem FNS.up {k : Nat} {l : List (Str × Nat × Fn)} (h : FNS P w K mg base k l) : FNX P w K mg base k l := fun x m F' e => (h x m F' e).up
/-- what may be called where frames keep these tables -/
def CalT (P : Program) (w : World) (K : PySem.W.Frag) (mg : Str → Option Value) (base : Heap) (T : List (Addr × Str)) (k : Nat) (x : Str) (n : Nat) (F : Fn) : Prop := ∀ A : Around, Room k A → A.guards = some [] → ∀ c : Cn, c.K = K → c.mg = mg → c.xs.tb = T → CalC c (CX1 P w) P w K mg base A x n F
abbrev FNT (P : Program) (w : World) (K : PySem.W.Frag) (mg : Str → Option Value) (base : Heap) (T : List (Addr × Str)) (k : Nat) (l : List (Str × Nat × Fn)) : Prop := ∀ x m F', l.lookup x = some (m, F') → CalT P w K mg base T k x m F'
theorem CalX.t {k n : Nat} {x : Str} {F : Fn} {T : List (Addr × Str)} (h : CalX P w K mg base k x n F) : CalT P w K mg base T k x n F := fun A r g c hK hm _ => (h A r g).atC hK hm
theorem CalT.mono {j k n : Nat} {x : Str} {F : Fn} {T : List (Addr × Str)} (h : CalT P w K mg base T k x n F) (hk : k ≤ j) : CalT P w K mg base T j x n F := fun A r g => h A (r.mono hk) g
theorem fnt_nil {k : Nat} {T : List (Addr × Str)} : FNT P w K mg base T k [] := fun x m F' e => by cases e
theorem fnt_cons {k j m : Nat} {a : Str} {F : Fn} {l : List (Str × Nat × Fn)} {T : List (Addr × Str)} (h : CalT P w K mg base T j a m F) (hj : j ≤ k) (t : FNT P w K mg base T k l) : FNT P w K mg base T k ((a, m, F) :: l) := fun x m' F' e => by
  rw [List.lookup_cons] at e
  split at e
  · rename_i q
    cases e
    rw [eq_of_beq q]
    exact h.mono hj
  · exact t x m' F' e
/-- the name that a frame's lambdas bear -/
def lamQ (qual : Str) : Str := qual ++ ".<locals>." ++ "<lambda>"
end
/-- what a law promises, its tables being empty -/
def spLawT (K : PySem.W.Frag) (Ts : List Addr) : Sp := fun vs H Q _ => ∃ (a : Addr) (ns : List Int), vs = [.ref a] ∧ SqL K H a (ns.map V.int) ∧ ns.length ≤ 63 ∧ (∀ Pt ∈ Ts, H Pt = some (.tbl #[])) ∧ ∀ H', Q (.bl true) H'
end Z
end T_EM
section T_EN
namespace Z
open PySem
end Z
end T_EN
section T_EO
namespace Z
open PySem L2
section
variable {P : Program} {w : World} {K : PySem.W.Frag} {mg : Str → Option Value} {base : Heap}
abbrev GoX (P : Program) (w : World) (K : PySem.W.Frag) (mg : Str → Option Value) (base : Heap) (k : Nat) (x : Str) (st : Stmt) (ps : List Str) (F : Fn) : Prop := ∀ f fd, FunD K x x (defArgs st) (defBody st) (defScope st) [] [] f fd → FnG P w K mg base k f fd ps (spF K mg ps.length F)
/-- a def that may raise -/
theorem goX {x : Str} {st : Stmt} {ps : List Str} {k nf : Nat} {Γ : Ct} {cb : CB} {F : Fn} (S : FnScope Γ.N ps (defScope st)) (hsc : Γ.sc = defScope st) (hosc : Γ.osc = defScope st) (hc : cBs (cS nf Γ) (defBody st) = some cb) (G : Gnd K mg Γ)
    (fns : FNX P w K mg base k Γ.fns) (hF : ∀ ds P E, F.run ds P E → evF cb Γ.N.length F.fr ds P E) (hex : Γ.xt.excs = [] ∨ (1 ≤ k ∧ ∀ C ∈ Γ.xt.excs, RaiC P K mg C)) (hl : Γ.xt.lams = [] := by rfl) (he : Γ.xt.eqs = false := by rfl) (kfns : KNX P w K mg base k Γ.xt.kfns := by exact knx_nil) (hv0 : Γ.xt.fvs = [] ∧ Γ.xt.lls = [] ∧ Γ.xt.mks = [] := by exact ⟨rfl, rfl, rfl⟩) (heq : Γ.xt.eqq = false ∨ EqH P w K mg base k := by exact .inl rfl) : GoX P w K mg base (k + 1) x st ps F :=
  fun f fd Fd => def_okX Fd S hsc hosc hc hF G hl he hex fns kfns hv0 heq
theorem GoX.mono {x : Str} {st : Stmt} {ps : List Str} {k j : Nat} {F : Fn} (h : GoX P w K mg base k x st ps F) (hk : k ≤ j) : GoX P w K mg base j x st ps F := fun f fd Fd A r g => h f fd Fd A (r.mono hk) g
theorem GoX.or {x : Str} {st : Stmt} {ps : List Str} {k : Nat} {F G : Fn} (a : GoX P w K mg base k x st ps F) (b : GoX P w K mg base k x st ps G) (hr : F.fr = G.fr := by rfl) : GoX P w K mg base k x st ps (F.or G) := fun f fd Fd => FnG.or hr (a f fd Fd) (b f fd Fd)
theorem GoX.cal {x : Str} {st : Stmt} {ps : List Str} {k n : Nat} {F : Fn} (h : GoX P w K mg base k x st ps F) (D : Dn K mg x st) (hn : ps.length = n) (hb : ∀ f fd, FunD K x x (defArgs st) (defBody st) (defScope st) [] [] f fd → Binds K fd ps []) : CalX P w K mg base k x n F := by
  obtain ⟨f, fd, Fd, hm⟩ := D
  subst hn
  exact CalX.fn (h f fd Fd) hm Fd.kp (hb _ _ Fd)
end
end Z
end T_EO
section T_EP
namespace Z
open PySem PySem.Spec PyProof.Rows L2
/-- the text of an error's own __init__, as a test -/
def supT (attr arg : Str) : List Stmt → Bool
  | [.Expr (.Call (.Attribute (.Call (.Name a _) [] [] _) b q3) [.Constant (.str _) _ _] [] q5) _, .Assign [.Attribute (.Name c _) d _] (.Name e _) _] =>
    decide (a = "super") && (decide (b = "__init__") && (decide (c = "self") && (decide (d = attr) && (decide (e = arg) && (q3.endLine == q5.line)))))
  | _ => false
theorem supT_ok {attr arg : Str} {b : List Stmt} (h : supT attr arg b = true) : ∃ txt, ∃ q1 q2 q3 q4 q5 q6 q7 q8 q9 q10 k0, b = supB attr arg txt q1 q2 q3 q4 q5 q6 q7 q8 q9 q10 k0 ∧ (q3.endLine == q5.line) = true := by
  unfold supT at h
  split at h
  · simp only [Bool.and_eq_true, decide_eq_true_eq] at h
    obtain ⟨h1, h2, h3, h4, h5, h6⟩ := h
    subst h1 h2 h3 h4 h5
    exact ⟨_, _, _, _, _, _, _, _, _, _, _, _, rfl, h6⟩
  · cases h
/-- the list of the modules is a dict that nobody changes -/
theorem smB_ok {F : PySem.W.Frag} (h : smB F = true) : ∃ o, F.lookup sysModules = some o ∧ o.cls = .type "dict" := by
  unfold smB at h
  split at h
  · rename_i q
    exact ⟨_, q, rfl⟩
  · cases h
end Z
end T_EP
section T_EX1
namespace PySem
namespace HandSPX
section
variable {M : Model} {A : Around} {E : Value → Shared → Prop} {h : Heap} {g : Array GenState} {d : Drawn} {t : Nat} {os : OsState} {kws : List (Str × Value)}
variable {nm q : Str} {C N : Addr} {bs bm bmB : List Value} {hdct : Bool} {sn : List Str} {sub : List Value} {ab : Bool} {col : Option Bool} {dd : Option Addr} {k0 k1 k2 k3 k5 : Option Value} {B newId initId : String}
theorem check_new_kw (F : ExcBaseFacts B newId initId bmB) (hT : ∀ X : String, bm.contains (.type X) = bmB.contains (.type X)) {Q : Unit → Shared → Prop}
    (hC : h.get? C = some (excClassObj nm q C N bs bm hdct sn sub ab col dd k0 k1 k2 k3 k5 newId)) (hq : Q () ⟨h, g, d, t, os⟩) : wpAny M A (checkBuiltinCall newId ⟨[.ref C], kws⟩) Q E ⟨h, g, d, t, os⟩ := by
  have hcont : (Value.ref C :: bm).contains (.type B) = true := by rw [List.contains_cons, hT, F.hasB, Bool.or_true]
  have hstar := F.noStar
  simp only [checkBuiltinCall, F.newKind, F.newSplit, F.newRow]
  repeat (first | refine wpAny_loadPart_at hC ?_ | (refine wpAny_isSubtype_exc hC ?_; rw [hcont]) | refine wpAny_staticBase_exc hC ?_ | refine wpAny_madeBy_exc hC ?_ | simp only [bne_self_eq_false, Bool.false_eq_true, if_false] | wp_step)
  exact hq
end
section
variable {prog : Program} {w : World} {A : Around} {E : Value → Shared → Prop} {R : Result → Shared → Prop} {h : Heap} {g : Array GenState} {d : Drawn} {t : Nat} {os : OsState} {kws : List (Str × Value)}
variable {nm q : Str} {C N : Addr} {bs bm bmB : List Value} {hdct : Bool} {sn : List Str} {sub : List Value} {ab : Bool} {col : Option Bool} {dd : Option Addr} {k0 k1 k2 k3 k5 : Option Value} {B newId initId : String}
theorem new_own_kw (F : ExcBaseFacts B newId initId bmB) (hT : ∀ X : String, bm.contains (.type X) = bmB.contains (.type X))
    (hC : h.get? C = some (excClassObj nm q C N bs bm hdct sn sub ab col dd k0 k1 k2 k3 k5 newId))
    (hq : R (.ok (.ret (.ref (h.objs.size + 1)))) ⟨(h.push { cls := .type "tuple", data := .seq #[] }).push
      { cls := .ref C, data := .fields #[.ref h.objs.size, .none, .none, .none, .bool false, .none] }, g, d, t, os⟩) :
    codeAny (model prog w) A (.builtin newId ⟨[.ref C], kws⟩) R ⟨h, g, d, t, os⟩ := by
  have hends := F.ends
  have hcB : (Value.ref C :: bm).contains (.type B) = true := by rw [List.contains_cons, hT, F.hasB, Bool.or_true]
  have hcA : (Value.ref C :: bm).contains (.type "AttributeError") = false := by rw [List.contains_cons, hT, F.noAttr]; rfl
  have hcN : (Value.ref C :: bm).contains (.type "NameError") = false := by rw [List.contains_cons, hT, F.noName]; rfl
  refine codeAny_builtinAt F.entry ?_
  unfold Builtin.«BaseException.__new__»
  refine wpAt_bind ?_
  show wpAt _ _ _ (stack >>= _) _ _ _
  refine wpAt_bind (wpAt_stack fun p below => wpAt_of_wpAny ?_)
  wp_walk
  refine wpAt_of_wpAny ?_
  rw [F.owner]
  repeat (first | with_reducible refine wpAny_madeHere_exc F.canon hC ?_ | with_reducible refine wpAny_loadPart_at hC ?_ | (with_reducible refine wpAny_isSubtype_exc hC ?_; first | rw [hcB] | rw [hcA] | rw [hcN]) | wp_step)
  show R _ _
  rw [Heap.size_push]
  exact hq
theorem type_call_kw (F : ExcBaseFacts B newId initId bmB) (hT : ∀ X : String, bm.contains (.type X) = bmB.contains (.type X)) {fI : Addr} {Q : Fin → Shared → Prop}
    (hC : h.get? C = some (excClassObj nm q C N bs bm hdct sn sub ab col dd k0 k1 k2 k3 k5 newId))
    (hi : W.Looks (model prog w) h (typeLookup (.ref C) "__init__") (some (.ref fI))) (hb : ∀ self, W.Looks (model prog w) h (bindSpecial (.ref fI) self) (.ref fI, [self]))
    (hq : codeAny (model prog w) A (.call (.ref fI) ⟨[.ref (h.objs.size + 1)], kws⟩)
      (fun r s' => match r with | .ok (.ret v) => v = .none ∧ Q (.done (.ret (.ref (h.objs.size + 1)))) s' | .ok _ => False | .error e => E e s')
      ⟨(h.push (W.kdv_tup [])).push (excO C h.objs.size), g, d, t, os⟩) :
    wpAny (model prog w) A (Builtin.«type.__call__» ⟨[.ref C], kws⟩) Q E ⟨h, g, d, t, os⟩ := by
  repeat (first | with_reducible refine wpAny_loadPart_at hC ?_ | with_reducible refine wpAny_madeBy_exc hC ?_ | wp_step)
  refine codeAny_call_builtin_code (Code.quiet_builtin _ F.quiet) (check_new_kw F hT hC ?_)
  refine new_own_kw F hT hC ?_
  show wpAny _ _ _ _ _ _
  have k : ∀ b o, h.get? b = some o → ((h.push (W.kdv_tup [])).push (excO C h.objs.size)).get? b = some o := fun b o e => Heap.get?_push_of_some _ (Heap.get?_push_of_some _ e)
  have hC₁ := k _ _ hC
  have hget : ((h.push (W.kdv_tup [])).push (excO C h.objs.size)).get? (h.objs.size + 1) = some (excO C h.objs.size) := by heap_get
  have hcC : (Value.ref C :: bm).contains (.ref C) = true := by simp
  have i1 := hi.keeps k
  have b1 := (hb (.ref (h.objs.size + 1))).keeps k
  unfold isInstance
  repeat (first | with_reducible refine wpAny_loadPart_at hget ?_ | (with_reducible refine wpAny_isSubtype_exc hC₁ ?_; rw [hcC]) | wp_step)
  show wpAny _ _ (typeLookup (.ref C) _) _ _ _
  refine i1.at ?_
  refine wpAny_holding (wpAny_bind (b1.at ?_))
  refine wpAny_bind (wpAny_call (codeAny_mono hq fun r s' z => ?_))
  rcases r with e | (v | _ | _ | _) <;> first | exact z | exact z.elim | skip
  obtain ⟨rfl, z⟩ := z
  first
    | exact wpAny_pure (wpAny_pure z)
    | (wp_walk; exact z)
theorem call_own_kw (F : ExcBaseFacts B newId initId bmB) (hT : ∀ X : String, bm.contains (.type X) = bmB.contains (.type X)) {fI : Addr}
    (hC : h.get? C = some (excClassObj nm q C N bs bm hdct sn sub ab col dd k0 k1 k2 k3 k5 newId))
    (hi : W.Looks (model prog w) h (typeLookup (.ref C) "__init__") (some (.ref fI))) (hb : ∀ self, W.Looks (model prog w) h (bindSpecial (.ref fI) self) (.ref fI, [self]))
    (hq : codeAny (model prog w) (A.under (.builtin "type.__call__" ⟨[.ref C], kws⟩)) (.call (.ref fI) ⟨[.ref (h.objs.size + 1)], kws⟩) (W.InitBack (h.objs.size + 1) R)
      ⟨(h.push (W.kdv_tup [])).push (excO C h.objs.size), g, d, t, os⟩) :
    codeAny (model prog w) A (.call (.ref C) ⟨[], kws⟩) R ⟨h, g, d, t, os⟩ := by
  have f1 := tc_lookup
  have f2 := tc_bind (.ref C)
  have hTy : (⟨h, g, d, t, os⟩ : Shared).TypeIs (.ref C) "type" := ⟨_, hC, rfl⟩
  refine codeAny_of_tree ?_
  show wpAny _ _ (callAny (.ref C) _) _ _ _
  repeat (any_goals (first | assumption | with_reducible refine wpAny_loadPart_at hC ?_ | wp_step))
  refine ⟨rfl, ?_⟩
  refine codeAny_call_builtin_at (Code.quiet_builtin _ (by decide +kernel)) entry_typeCall (wpAny_check_type_call_sub hC (type_call_kw F hT hC hi hb ?_))
  refine codeAny_mono hq fun r s' z => ?_
  rcases r with e | (v | _ | _ | _) <;> exact z
end
end HandSPX
end PySem
end T_EX1
section T_EX
namespace Z
open PySem PySem.Spec PyProof.Rows L2 PySem.HandSPX
section
variable {X : Cx} {pins : List (Addr × Obj)} {σ : L2.St} {H1 : Hp} {s1 : Shared} {u : Value} {v : V} {C : Addr} {attr : Str} {k : Nat}
/-- what was made is held as a value -/
theorem mk_ep {Q : VK} (h : MkP X pins σ (fun cls d H' => ∀ a, H' a = none → Q (.ref a) (upd H' a (ExV a cls d))) u s1) : EP X pins σ Q u s1 := by
  obtain ⟨a, oe, vs, sI, H', cls, d, rfl, J, k, hne, ha, hz, hd, h1, na, os, ag, r, q⟩ := h
  have J2 := J.laidN (h' := s1.heap) (t' := s1.toks) (a := a) (o := ExV a cls d) k hne na (exV_ok ha ⟨hz.1, hz.2⟩ hd)
  exact ⟨.ref a, _, ⟨J2.ok, by rw [os]; exact J2.os, ag, J2.base, J2.loc, J2.cell, J2.free, J2.freeC, J2.pin, J2.hok, J2.len⟩, rfl, q a na⟩
theorem call_exc0 {Q : XK} (q : PySem.W.excIn X.K C [.type "ValueError", .type "Exception", .type "BaseException", .type "object"] "ValueError.__new__" = true) (r : Raises X (.ref C)) (I1 : L2.Inv X pins σ H1 s1) (q1 : Q (.ref C) none H1) :
    wpAny (model X.prog X.w) X.A (call (.ref C) [u]) (MkP X pins σ Q) X.xe s1 := by
  obtain ⟨bm, N, nm, qn, bs, hdct, sn, sub, ab, col, dd, k0, k1, k2, k3, k5, mN, hC, hN, hni, T⟩ := exc_obj I1.kIn q
  refine wpAny_call_exc_subT F.excBase_ValueError T hC hN hni (fun h' e hm => ?_) (by show 1 ≤ sizeLine; rw [sizeLine_eq]; omega)
  exact mk_of I1 hm r q1 (I1.hok.gone hm.new)
theorem call_sup {Q : XK} (T : SupC X.prog X.K X.mg C attr) (hr : Room (k + 1) X.A) (I1 : L2.Inv X pins σ H1 s1) (ru : RelV v u) (q1 : ∀ dx, H1 dx = none → Q (.ref C) (some dx) (upd H1 dx (.xd [(attr, v)]))) :
    wpAny (model X.prog X.w) X.A (call (.ref C) [u]) (MkP X pins σ Q) X.xe s1 := by
  obtain ⟨nm, q, N, bs, bm, sn, sub, ab, col, dd, k0, k1, k2, k3, k5, hC, hbm⟩ := T.cls
  obtain ⟨hp, g, dr, tk, os⟩ := s1
  have up : ∀ b o, hp.get? b = some o → ((hp.push (PySem.W.kdv_tup [u])).push (PySem.HandSPX.excO C hp.objs.size)).get? b = some o := fun b o e => Heap.get?_push_of_some _ (Heap.get?_push_of_some _ e)
  have hget : ((hp.push (PySem.W.kdv_tup [u])).push (PySem.HandSPX.excO C hp.objs.size)).get? (hp.objs.size + 1) = some (PySem.HandSPX.excO C hp.objs.size) := by heap_get
  have noB : X.base.get? (hp.objs.size + 1) = none := by
    cases e : X.base.get? (hp.objs.size + 1) with
    | none => rfl
    | some o => exact absurd (Nat.lt_of_succ_lt (Heap.lt_size (I1.bk _ _ e))) (Nat.lt_irrefl _)
  have hz : X.base.objs.size ≤ ((hp.push (PySem.W.kdv_tup [u])).push (PySem.HandSPX.excO C hp.objs.size)).objs.size := by
    rw [Heap.size_push, Heap.size_push]
    have := Nat.le_trans I1.ok.bsz I1.sz
    have : X.base.objs.size ≤ hp.objs.size := this
    omega
  obtain ⟨fI, hfI, tfI, _⟩ := sup_init (P := X.prog) (w := X.w) (A := X.A) (R := fun _ _ => True) (s := ⟨(hp.push (PySem.W.kdv_tup [u])).push (PySem.HandSPX.excO C hp.objs.size), g, dr, tk, os⟩) T I1.mod (v := u) (.inl ⟨rfl, rfl⟩) (fun b o e => up b o (I1.bk b o e)) hz hget noB hr.depth fun _ _ _ _ _ => True.intro
  refine wpAny_call (PySem.HandSPX.call_own F.excBase_ValueError (fun Y => PySem.HandSPX.refsVE_contains Y bm hbm) (I1.kIn _ _ hC) (PySem.W.looks_findIn I1.kIn hfI) (fun self => PySem.W.bind_fn I1.kIn self tfI) (by rw [sizeLine_eq]; exact (by decide : 1 ≤ 16777216)) ?_)
  obtain ⟨fI2, hfI2, _, run⟩ := sup_init (P := X.prog) (w := X.w) (A := X.A.under (.builtin "type.__call__" ⟨.ref C :: [u], []⟩)) (R := fun r s' => (r = .ok (.ret .none)) ∧ ∃ h' tk' dx t1, s' = ⟨h', g, dr, tk', os⟩ ∧ InitBy ((hp.push (PySem.W.kdv_tup [u])).push (PySem.HandSPX.excO C hp.objs.size)) h' (hp.objs.size + 1) C dx t1 attr u) (s := ⟨(hp.push (PySem.W.kdv_tup [u])).push (PySem.HandSPX.excO C hp.objs.size), g, dr, tk, os⟩) T I1.mod (v := u) (.inl ⟨rfl, rfl⟩)
    (fun b o e => up b o (I1.bk b o e)) hz hget noB (hr.make C [u] []).depth fun h' tk' dx t1 ib => ⟨rfl, h', tk', dx, t1, rfl, ib⟩
  rw [hfI] at hfI2
  cases hfI2
  refine codeAny_mono run fun r s' got => ?_
  obtain ⟨rfl, h', tk', dx, t1, rfl, ib⟩ := got
  have hdx : dx ≠ hp.objs.size + 1 := ib.ne
  have hbig : hp.objs.size ≤ dx := by
    have q1 := ib.big
    rw [Heap.size_push, Heap.size_push] at q1
    have q2 : hp.objs.size + 1 + 1 ≤ dx := q1
    exact Nat.le_trans (Nat.le_add_right hp.objs.size 2) q2
  have gk : ∀ b, b ≠ hp.objs.size + 1 → ∀ o, h'.get? b = some o → (PySem.W.hideAll h' [hp.objs.size + 1]).get? b = some o := fun b hb o e => PySem.W.hideAll_get _ e (by simpa using hb)
  have kk : ∀ b o, hp.get? b = some o → (PySem.W.hideAll h' [hp.objs.size + 1]).get? b = some o := fun b o e => by
    have hb : b ≠ hp.objs.size + 1 := Nat.ne_of_lt (Nat.lt_of_lt_of_le (Heap.lt_size e) (Nat.le_succ _))
    exact gk b hb o (ib.keep b o hb (up b o e))
  have ns : (PySem.W.hideAll h' [hp.objs.size + 1]).Ns1 dx (fun y => if y = attr then some u else none) := by
    obtain ⟨o, es, ep, e1, e2⟩ := ib.ns
    exact ⟨o, es, ep, gk dx hdx o e1, e2⟩
  have I2 := I1.laid (t' := tk') (a := dx) (o := .xd [(attr, v)]) (h' := PySem.W.hideAll h' [hp.objs.size + 1]) kk hbig ⟨_, ns, fun f => relO_one ru⟩
  have na : upd H1 dx (.xd [(attr, v)]) (hp.objs.size + 1) = none := by
    rw [upd_ne (Ne.symm hdx)]
    exact I1.hok.fresh (Nat.le_succ _)
  refine ⟨rfl, hp.objs.size + 1, _, _, ⟨PySem.W.hideAll h' [hp.objs.size + 1], g, dr, tk', os⟩, _, .ref C, some dx, rfl, I2, fun b o e => PySem.W.of_hideAll _ e, PySem.W.hideAll_none _ (by simp), ib.obj, ⟨rfl, rfl⟩, rfl, rfl, na, rfl, I1.bare, raises_own T.exC T.tyC, q1 dx (I1.hok.fresh hbig)⟩
theorem call_supk {Q : XK} (T : SupC X.prog X.K X.mg C attr) (hr : Room (k + 1) X.A) (I1 : L2.Inv X pins σ H1 s1) (ru : RelV v u) (q1 : ∀ dx, H1 dx = none → Q (.ref C) (some dx) (upd H1 dx (.xd [(attr, v)]))) :
    wpAny (model X.prog X.w) X.A (call (.ref C) [] [(attr, u)]) (MkP X pins σ Q) X.xe s1 := by
  obtain ⟨nm, q, N, bs, bm, sn, sub, ab, col, dd, k0, k1, k2, k3, k5, hC, hbm⟩ := T.cls
  obtain ⟨hp, g, dr, tk, os⟩ := s1
  have up : ∀ b o, hp.get? b = some o → ((hp.push (PySem.W.kdv_tup [])).push (PySem.HandSPX.excO C hp.objs.size)).get? b = some o := fun b o e => Heap.get?_push_of_some _ (Heap.get?_push_of_some _ e)
  have hget : ((hp.push (PySem.W.kdv_tup [])).push (PySem.HandSPX.excO C hp.objs.size)).get? (hp.objs.size + 1) = some (PySem.HandSPX.excO C hp.objs.size) := by heap_get
  have noB : X.base.get? (hp.objs.size + 1) = none := by
    cases e : X.base.get? (hp.objs.size + 1) with
    | none => rfl
    | some o => exact absurd (Nat.lt_of_succ_lt (Heap.lt_size (I1.bk _ _ e))) (Nat.lt_irrefl _)
  have hz : X.base.objs.size ≤ ((hp.push (PySem.W.kdv_tup [])).push (PySem.HandSPX.excO C hp.objs.size)).objs.size := by
    rw [Heap.size_push, Heap.size_push]
    have := Nat.le_trans I1.ok.bsz I1.sz
    have : X.base.objs.size ≤ hp.objs.size := this
    omega
  obtain ⟨fI, hfI, tfI, _⟩ := sup_init (P := X.prog) (w := X.w) (A := X.A) (R := fun _ _ => True) (s := ⟨(hp.push (PySem.W.kdv_tup [])).push (PySem.HandSPX.excO C hp.objs.size), g, dr, tk, os⟩) T I1.mod (v := u) (.inr ⟨rfl, rfl⟩) (fun b o e => up b o (I1.bk b o e)) hz hget noB hr.depth fun _ _ _ _ _ => True.intro
  refine wpAny_call (call_own_kw F.excBase_ValueError (fun Y => PySem.HandSPX.refsVE_contains Y bm hbm) (I1.kIn _ _ hC) (PySem.W.looks_findIn I1.kIn hfI) (fun self => PySem.W.bind_fn I1.kIn self tfI) ?_)
  obtain ⟨fI2, hfI2, _, run⟩ := sup_init (P := X.prog) (w := X.w) (A := X.A.under (.builtin "type.__call__" ⟨[.ref C], [(attr, u)]⟩)) (R := fun r s' => (r = .ok (.ret .none)) ∧ ∃ h' tk' dx t1, s' = ⟨h', g, dr, tk', os⟩ ∧ InitBy ((hp.push (PySem.W.kdv_tup [])).push (PySem.HandSPX.excO C hp.objs.size)) h' (hp.objs.size + 1) C dx t1 attr u) (s := ⟨(hp.push (PySem.W.kdv_tup [])).push (PySem.HandSPX.excO C hp.objs.size), g, dr, tk, os⟩) T I1.mod (v := u) (.inr ⟨rfl, rfl⟩)
    (fun b o e => up b o (I1.bk b o e)) hz hget noB (hr.make C [] [(attr, u)]).depth fun h' tk' dx t1 ib => ⟨rfl, h', tk', dx, t1, rfl, ib⟩
  rw [hfI] at hfI2
  cases hfI2
  refine codeAny_mono run fun r s' got => ?_
  obtain ⟨rfl, h', tk', dx, t1, rfl, ib⟩ := got
  have hdx : dx ≠ hp.objs.size + 1 := ib.ne
  have hbig : hp.objs.size ≤ dx := by
    have q1 := ib.big
    rw [Heap.size_push, Heap.size_push] at q1
    have q2 : hp.objs.size + 1 + 1 ≤ dx := q1
    exact Nat.le_trans (Nat.le_add_right hp.objs.size 2) q2
  have gk : ∀ b, b ≠ hp.objs.size + 1 → ∀ o, h'.get? b = some o → (PySem.W.hideAll h' [hp.objs.size + 1]).get? b = some o := fun b hb o e => PySem.W.hideAll_get _ e (by simpa using hb)
  have kk : ∀ b o, hp.get? b = some o → (PySem.W.hideAll h' [hp.objs.size + 1]).get? b = some o := fun b o e => by
    have hb : b ≠ hp.objs.size + 1 := Nat.ne_of_lt (Nat.lt_of_lt_of_le (Heap.lt_size e) (Nat.le_succ _))
    exact gk b hb o (ib.keep b o hb (up b o e))
  have ns : (PySem.W.hideAll h' [hp.objs.size + 1]).Ns1 dx (fun y => if y = attr then some u else none) := by
    obtain ⟨o, es, ep, e1, e2⟩ := ib.ns
    exact ⟨o, es, ep, gk dx hdx o e1, e2⟩
  have I2 := I1.laid (t' := tk') (a := dx) (o := .xd [(attr, v)]) (h' := PySem.W.hideAll h' [hp.objs.size + 1]) kk hbig ⟨_, ns, fun f => relO_one ru⟩
  have na : upd H1 dx (.xd [(attr, v)]) (hp.objs.size + 1) = none := by
    rw [upd_ne (Ne.symm hdx)]
    exact I1.hok.fresh (Nat.le_succ _)
  refine ⟨rfl, hp.objs.size + 1, _, _, ⟨PySem.W.hideAll h' [hp.objs.size + 1], g, dr, tk', os⟩, _, .ref C, some dx, rfl, I2, fun b o e => PySem.W.of_hideAll _ e, PySem.W.hideAll_none _ (by simp), ib.obj, ⟨rfl, rfl⟩, rfl, rfl, na, rfl, I1.bare, raises_own T.exC T.tyC, q1 dx (I1.hok.fresh hbig)⟩
end
def excF (n : String) (C : Str) : Fn := ⟨n, false, false, fun ds P _ => ∃ d, ds = [d] ∧ P (excD (C, if hasAt C = true then some d else none))⟩
section
variable {P : Program} {w : World} {K : PySem.W.Frag} {mg : Str → Option Value} {base : Heap} {C n : Str} {nm : String}
theorem exc_in {Ca : Addr} {vs : List V} {H1 : Hp} {Q : VK} {EE : XK} (hm : mg C = some (.ref Ca)) (ix : isExc C = true) (h : spF K mg 1 (excF nm C) vs H1 Q EE) :
    (hasAt C = false → ∀ a, H1 a = none → Q (.ref a) (upd H1 a (ExV a (.ref Ca) none))) ∧
    (hasAt C = true → ∀ v, vs = [v] → ∀ dx, H1 dx = none → ∀ a, upd H1 dx (.xd [(attrOf C, v)]) a = none → Q (.ref a) (upd (upd H1 dx (.xd [(attrOf C, v)])) a (ExV a (.ref Ca) (some dx)))) := by
  obtain ⟨c, Z, ds, Pd, Ex, hK, hm', hl, hw, hz, za, l, ⟨d, rfl, hP⟩, hQ, hE⟩ := h
  refine ⟨fun q a ha => ?_, fun q v hv dx hdx a ha => ?_⟩
  · rw [q, if_neg (by decide)] at hP
    have ke : ∀ b, H1 b ≠ none → upd H1 a (ExV a (.ref Ca) none) b = H1 b := fun b h => upd_ne fun e => h (by rw [e]; exact ha)
    refine hQ _ (.ref a) _ hP (fun b o e _ => by rw [ke b (some_ne e)]; exact e) (fun b e => by rw [ke b e]; exact e) (c.wdep H1 _ (fun b w => ke b (c.wal H1 b hw w)) (fun b φ e => by rw [ke b (some_ne e)]; exact e) hw) ?_
    show Rep c (Rz _ Z) (.ref a) (.exc C [])
    exact .exc0 (by rw [hm']; exact hm) ix ⟨fun z => (za a z).1 ha, .inl upd_same⟩
  · subst hv
    rw [q, if_pos rfl] at hP
    have nad : a ≠ dx := fun e => by rw [e, upd_same] at ha; cases ha
    have ha' : H1 a = none := by rw [upd_ne nad] at ha; exact ha
    have ke : ∀ b, H1 b ≠ none → upd (upd H1 dx (.xd [(attrOf C, v)])) a (ExV a (.ref Ca) (some dx)) b = H1 b := fun b h => by rw [upd_ne fun e => h (by rw [e]; exact ha'), upd_ne fun e => h (by rw [e]; exact hdx)]
    refine hQ _ (.ref a) _ hP (fun b o e _ => by rw [ke b (some_ne e)]; exact e) (fun b e => by rw [ke b e]; exact e) (c.wdep H1 _ (fun b w => ke b (c.wal H1 b hw w)) (fun b φ e => by rw [ke b (some_ne e)]; exact e) hw) ?_
    cases l with
    | cons rv _ =>
      show Rep c (Rz _ Z) (.ref a) (.exc C [(attrOf C, d)])
      exact .exc1 (by rw [hm']; exact hm) ix ⟨fun z => (za a z).1 ha', .inl upd_same⟩ ⟨fun z => (za dx z).1 hdx, .inl (by rw [upd_ne nad.symm, upd_same])⟩ (.cons _ (rv.to fun b u q => ⟨q.1, by rw [ke b q.sm]; exact q.2⟩) .nil)
theorem run_exc {X : Cx} {pins : List (Addr × Obj)} {σ : L2.St} {H1 : Hp} {s1 : Shared} {us : List Value} {vs : List V} {Q : VK} {EE : XK} {Ca : Addr} (hm : X.mg C = some (.ref Ca)) (ix : isExc C = true)
    (g1 : hasAt C = false → PySem.W.excIn X.K Ca [.type "ValueError", .type "Exception", .type "BaseException", .type "object"] "ValueError.__new__" = true ∧ Raises X (.ref Ca)) (g2 : hasAt C = true → SupC X.prog X.K X.mg Ca (attrOf C)) (hr : Room 1 X.A)
    (I1 : L2.Inv X pins σ H1 s1) (r : Vals vs us) (q : spF X.K X.mg 1 (excF nm C) vs H1 Q EE) : wpAny (model X.prog X.w) X.A (call (.ref Ca) us) (EP X pins σ Q) X.xe s1 := by
  obtain ⟨a0, a1⟩ := exc_in hm ix q
  have hl : vs.length = 1 := by obtain ⟨_, _, _, _, _, _, _, hl, _⟩ := q; exact hl
  cases r with
  | nil => cases hl
  | cons ru r2 => cases r2 with
    | cons _ _ => simp at hl
    | nil =>
      cases q2 : hasAt C with
      | false => exact thn (call_exc0 (Q := fun cls d H' => ∀ a, H' a = none → Q (.ref a) (upd H' a (ExV a cls d))) (g1 q2).1 (g1 q2).2 I1 (a0 q2)) fun u s2 h => mk_ep h
      | true => exact thn (call_sup (k := 0) (Q := fun cls d H' => ∀ a, H' a = none → Q (.ref a) (upd H' a (ExV a cls d))) (g2 q2) hr I1 ru fun dx hdx => a1 q2 _ rfl dx hdx) fun u s2 h => mk_ep h
theorem run_exck {X : Cx} {pins : List (Addr × Obj)} {σ : L2.St} {H1 : Hp} {s1 : Shared} {us : List Value} {vs : List V} {Q : VK} {EE : XK} {Ca : Addr} (hm : X.mg C = some (.ref Ca)) (ix : isExc C = true)
    (hat : hasAt C = true) (g2 : SupC X.prog X.K X.mg Ca (attrOf C)) (hr : Room 1 X.A)
    (I1 : L2.Inv X pins σ H1 s1) (r : Vals vs us) (q : spF X.K X.mg 1 (excF nm C) vs H1 Q EE) : wpAny (model X.prog X.w) X.A (call (.ref Ca) [] ([attrOf C].zip us)) (EP X pins σ Q) X.xe s1 := by
  obtain ⟨a0, a1⟩ := exc_in hm ix q
  have hl : vs.length = 1 := by obtain ⟨_, _, _, _, _, _, _, hl, _⟩ := q; exact hl
  cases r with
  | nil => cases hl
  | cons ru r2 => cases r2 with
    | cons _ _ => simp at hl
    | nil => exact thn (call_supk (k := 0) (Q := fun cls d H' => ∀ a, H' a = none → Q (.ref a) (upd H' a (ExV a cls d))) g2 hr I1 ru fun dx hdx => a1 hat _ rfl dx hdx) fun u s2 h => mk_ep h
theorem exc_kp {K : PySem.W.Frag} {Ca : Addr} (g1 : hasAt C = false → PySem.W.keepIn K (.ref Ca) = true) (g2 : hasAt C = true → PySem.W.keepIn K (.ref Ca) = true) : PySem.W.keepIn K (.ref Ca) = true := by
  cases q : hasAt C with
  | false => exact g1 q
  | true => exact g2 q
/-- C(e): the error as a value -/
theorem calX_exc (G : RaiC P K mg C) : CalX P w K mg base 1 C 1 (excF nm C) := by
  intro A hr hgd X EE e1 e2 e3 e4 e5 e6 hp
  subst e1 e2 e3 e4 e5 e6
  obtain ⟨Ca, hm, ix, hdb, g1, g2⟩ := G.ex
  have kp : PySem.W.keepIn X.K (.ref Ca) = true := exc_kp (fun q => (g1 q).2.1) fun q => (g2 q).kC
  refine ⟨fun {e es t p pos} hg hdb ha hst hpl => ⟨fun pins s σ H Q I h => ?_⟩, fun {p pos} hg hdb => ⟨fun pins s σ H Q I h => ?_⟩⟩
  · refine PySem.wpAny_Call_Name_kw (ld_glob I hg hm ?_ hdb)
    refine PySem.W.callWith_K (h₀ := X.base) I.ok.mod.kin kp (thn (ha.run pos pins s σ H _ I h) fun us s1 ⟨vs, H1, I1, r, q⟩ => ⟨I1.kIn, ?_⟩) hst hpl
    have q : spF X.K X.mg 1 (excF nm C) (vs ++ []) H1 Q EE := q
    rw [List.append_nil] at q
    exact run_exc hm ix (fun z => ⟨(g1 z).1, raises_own (g1 z).2.2.1 (g1 z).2.2.2⟩) g2 hr I1 r q
  · obtain ⟨_, _, _, _, _, _, _, hl, _⟩ := h
    cases hl
/-- C(attr=e) -/
theorem calX_exck (G : RaiC P K mg C) (hat : hasAt C = true) : CalXW P w K mg base 1 C [attrOf C] [0] 1 (excF nm C) := by
  intro A hr hgd X EE e1 e2 e3 e4 e5 e6 hp
  subst e1 e2 e3 e4 e5 e6
  obtain ⟨Ca, hm, ix, hdb, g1, g2⟩ := G.ex
  refine ⟨fun {kws tk p pos} hg hdb hk hall hks hpl => ⟨fun pins s σ H Q I h => ?_⟩⟩
  refine PySem.wpAny_Call_Name_kw (ld_glob I hg hm ?_ hdb)
  refine PySem.W.callWith_KW0 (h₀ := X.base) I.ok.mod.kin (g2 hat).kC hall (thn (hk.run pos pins s σ H _ I h) fun ws s2 ⟨zs, H2, I2, rz, hl, vs, hpm, q⟩ => ⟨I2.kIn, ?_⟩) hpl
  rw [hks]
  have e : vs = zs := by
    match zs, hl with
    | [v], _ => cases hpm; rfl
  subst e
  exact run_exck hm ix hat (g2 hat) hr I2 rz q
end
end Z
end T_EX
section T_YA
namespace Z
open PySem L2
def F_RuleError : Fn := excF "F_RuleError" "RuleError"
theorem fl_RuleError : F_RuleError.fl = false := rfl
theorem fr_RuleError : F_RuleError.fr = false := rfl
theorem run_RuleError {d : D} {P : D → Prop} {E : Xn → Prop} : RUN F_RuleError [d] P E = P (.exc "RuleError" []) := propext ⟨fun ⟨_, e, h⟩ => by cases e; exact h, fun h => ⟨d, rfl, h⟩⟩
def F_BadPrime : Fn := excF "F_BadPrime" "BadPrime"
theorem fl_BadPrime : F_BadPrime.fl = false := rfl
theorem fr_BadPrime : F_BadPrime.fr = false := rfl
theorem run_BadPrime {d : D} {P : D → Prop} {E : Xn → Prop} : RUN F_BadPrime [d] P E = P (.exc "BadPrime" []) := propext ⟨fun ⟨_, e, h⟩ => by cases e; exact h, fun h => ⟨d, rfl, h⟩⟩
def F_BadWord : Fn := excF "F_BadWord" "BadWord"
theorem fl_BadWord : F_BadWord.fl = false := rfl
theorem fr_BadWord : F_BadWord.fr = false := rfl
theorem run_BadWord {d : D} {P : D → Prop} {E : Xn → Prop} : RUN F_BadWord [d] P E = P (.exc "BadWord" []) := propext ⟨fun ⟨_, e, h⟩ => by cases e; exact h, fun h => ⟨d, rfl, h⟩⟩
def F_BadRow : Fn := excF "F_BadRow" "BadRow"
theorem fl_BadRow : F_BadRow.fl = false := rfl
theorem fr_BadRow : F_BadRow.fr = false := rfl
theorem run_BadRow {d : D} {P : D → Prop} {E : Xn → Prop} : RUN F_BadRow [d] P E = P (.exc "BadRow" []) := propext ⟨fun ⟨_, e, h⟩ => by cases e; exact h, fun h => ⟨d, rfl, h⟩⟩
def F_BadTable : Fn := excF "F_BadTable" "BadTable"
theorem fl_BadTable : F_BadTable.fl = false := rfl
theorem fr_BadTable : F_BadTable.fr = false := rfl
theorem run_BadTable {d : D} {P : D → Prop} {E : Xn → Prop} : RUN F_BadTable [d] P E = P (.exc "BadTable" []) := propext ⟨fun ⟨_, e, h⟩ => by cases e; exact h, fun h => ⟨d, rfl, h⟩⟩
def F_NotAlike : Fn := excF "F_NotAlike" "NotAlike"
theorem fl_NotAlike : F_NotAlike.fl = false := rfl
theorem fr_NotAlike : F_NotAlike.fr = false := rfl
theorem run_NotAlike {d : D} {P : D → Prop} {E : Xn → Prop} : RUN F_NotAlike [d] P E = P (.exc "NotAlike" []) := propext ⟨fun ⟨_, e, h⟩ => by cases e; exact h, fun h => ⟨d, rfl, h⟩⟩
def F_BadMap : Fn := excF "F_BadMap" "BadMap"
theorem fl_BadMap : F_BadMap.fl = false := rfl
theorem fr_BadMap : F_BadMap.fr = false := rfl
theorem run_BadMap {d : D} {P : D → Prop} {E : Xn → Prop} : RUN F_BadMap [d] P E = P (.exc "BadMap" []) := propext ⟨fun ⟨_, e, h⟩ => by cases e; exact h, fun h => ⟨d, rfl, h⟩⟩
def F_NotFull : Fn := excF "F_NotFull" "NotFull"
theorem fl_NotFull : F_NotFull.fl = false := rfl
theorem fr_NotFull : F_NotFull.fr = false := rfl
theorem run_NotFull {d : D} {P : D → Prop} {E : Xn → Prop} : RUN F_NotFull [d] P E = P (.exc "NotFull" []) := propext ⟨fun ⟨_, e, h⟩ => by cases e; exact h, fun h => ⟨d, rfl, h⟩⟩
def F_BadLower : Fn := excF "F_BadLower" "BadLower"
theorem fl_BadLower : F_BadLower.fl = false := rfl
theorem fr_BadLower : F_BadLower.fr = false := rfl
theorem run_BadLower {d : D} {P : D → Prop} {E : Xn → Prop} : RUN F_BadLower [d] P E = P (.exc "BadLower" []) := propext ⟨fun ⟨_, e, h⟩ => by cases e; exact h, fun h => ⟨d, rfl, h⟩⟩
def F_BadOrder : Fn := excF "F_BadOrder" "BadOrder"
theorem fl_BadOrder : F_BadOrder.fl = false := rfl
theorem fr_BadOrder : F_BadOrder.fr = false := rfl
theorem run_BadOrder {d : D} {P : D → Prop} {E : Xn → Prop} : RUN F_BadOrder [d] P E = P (.exc "BadOrder" []) := propext ⟨fun ⟨_, e, h⟩ => by cases e; exact h, fun h => ⟨d, rfl, h⟩⟩
def F_NotTidy : Fn := excF "F_NotTidy" "NotTidy"
theorem fl_NotTidy : F_NotTidy.fl = false := rfl
theorem fr_NotTidy : F_NotTidy.fr = false := rfl
theorem run_NotTidy {d : D} {P : D → Prop} {E : Xn → Prop} : RUN F_NotTidy [d] P E = P (.exc "NotTidy" []) := propext ⟨fun ⟨_, e, h⟩ => by cases e; exact h, fun h => ⟨d, rfl, h⟩⟩
def F_BadWeb : Fn := excF "F_BadWeb" "BadWeb"
theorem fl_BadWeb : F_BadWeb.fl = false := rfl
theorem fr_BadWeb : F_BadWeb.fr = false := rfl
theorem run_BadWeb {d : D} {P : D → Prop} {E : Xn → Prop} : RUN F_BadWeb [d] P E = P (.exc "BadWeb" []) := propext ⟨fun ⟨_, e, h⟩ => by cases e; exact h, fun h => ⟨d, rfl, h⟩⟩
def F_BadCells : Fn := excF "F_BadCells" "BadCells"
theorem fl_BadCells : F_BadCells.fl = false := rfl
theorem fr_BadCells : F_BadCells.fr = false := rfl
theorem run_BadCells {d : D} {P : D → Prop} {E : Xn → Prop} : RUN F_BadCells [d] P E = P (.exc "BadCells" []) := propext ⟨fun ⟨_, e, h⟩ => by cases e; exact h, fun h => ⟨d, rfl, h⟩⟩
def F_BadStart : Fn := excF "F_BadStart" "BadStart"
theorem fl_BadStart : F_BadStart.fl = false := rfl
theorem fr_BadStart : F_BadStart.fr = false := rfl
theorem run_BadStart {d : D} {P : D → Prop} {E : Xn → Prop} : RUN F_BadStart [d] P E = P (.exc "BadStart" []) := propext ⟨fun ⟨_, e, h⟩ => by cases e; exact h, fun h => ⟨d, rfl, h⟩⟩
def F_BadDeed : Fn := excF "F_BadDeed" "BadDeed"
theorem fl_BadDeed : F_BadDeed.fl = false := rfl
theorem fr_BadDeed : F_BadDeed.fr = false := rfl
theorem run_BadDeed {d : D} {P : D → Prop} {E : Xn → Prop} : RUN F_BadDeed [d] P E = P (.exc "BadDeed" []) := propext ⟨fun ⟨_, e, h⟩ => by cases e; exact h, fun h => ⟨d, rfl, h⟩⟩
def F_BadName : Fn := excF "F_BadName" "BadName"
theorem fl_BadName : F_BadName.fl = false := rfl
theorem fr_BadName : F_BadName.fr = false := rfl
theorem run_BadName {d : D} {P : D → Prop} {E : Xn → Prop} : RUN F_BadName [d] P E = P (.exc "BadName" []) := propext ⟨fun ⟨_, e, h⟩ => by cases e; exact h, fun h => ⟨d, rfl, h⟩⟩
def F_BadLive : Fn := excF "F_BadLive" "BadLive"
theorem fl_BadLive : F_BadLive.fl = false := rfl
theorem fr_BadLive : F_BadLive.fr = false := rfl
theorem run_BadLive {d : D} {P : D → Prop} {E : Xn → Prop} : RUN F_BadLive [d] P E = P (.exc "BadLive" []) := propext ⟨fun ⟨_, e, h⟩ => by cases e; exact h, fun h => ⟨d, rfl, h⟩⟩
def F_NothingLeft : Fn := excF "F_NothingLeft" "NothingLeft"
theorem fl_NothingLeft : F_NothingLeft.fl = false := rfl
theorem fr_NothingLeft : F_NothingLeft.fr = false := rfl
theorem run_NothingLeft {d : D} {P : D → Prop} {E : Xn → Prop} : RUN F_NothingLeft [d] P E = P (.exc "NothingLeft" []) := propext ⟨fun ⟨_, e, h⟩ => by cases e; exact h, fun h => ⟨d, rfl, h⟩⟩
def F_BadNumber : Fn := excF "F_BadNumber" "BadNumber"
theorem fl_BadNumber : F_BadNumber.fl = false := rfl
theorem fr_BadNumber : F_BadNumber.fr = false := rfl
theorem run_BadNumber {d : D} {P : D → Prop} {E : Xn → Prop} : RUN F_BadNumber [d] P E = P (.exc "BadNumber" [("part", d)]) := propext ⟨fun ⟨_, e, h⟩ => by cases e; exact h, fun h => ⟨d, rfl, h⟩⟩
def F_BadBook : Fn := excF "F_BadBook" "BadBook"
theorem fl_BadBook : F_BadBook.fl = false := rfl
theorem fr_BadBook : F_BadBook.fr = false := rfl
theorem run_BadBook {d : D} {P : D → Prop} {E : Xn → Prop} : RUN F_BadBook [d] P E = P (.exc "BadBook" [("part", d)]) := propext ⟨fun ⟨_, e, h⟩ => by cases e; exact h, fun h => ⟨d, rfl, h⟩⟩
def F_TooMany : Fn := excF "F_TooMany" "TooMany"
theorem fl_TooMany : F_TooMany.fl = false := rfl
theorem fr_TooMany : F_TooMany.fr = false := rfl
theorem run_TooMany {d : D} {P : D → Prop} {E : Xn → Prop} : RUN F_TooMany [d] P E = P (.exc "TooMany" [("most", d)]) := propext ⟨fun ⟨_, e, h⟩ => by cases e; exact h, fun h => ⟨d, rfl, h⟩⟩
def F_NoWatch : Fn := excF "F_NoWatch" "NoWatch"
theorem fl_NoWatch : F_NoWatch.fl = false := rfl
theorem fr_NoWatch : F_NoWatch.fr = false := rfl
theorem run_NoWatch {d : D} {P : D → Prop} {E : Xn → Prop} : RUN F_NoWatch [d] P E = P (.exc "NoWatch" [("name", d)]) := propext ⟨fun ⟨_, e, h⟩ => by cases e; exact h, fun h => ⟨d, rfl, h⟩⟩
def F_NoMark : Fn := excF "F_NoMark" "NoMark"
theorem fl_NoMark : F_NoMark.fl = false := rfl
theorem fr_NoMark : F_NoMark.fr = false := rfl
theorem run_NoMark {d : D} {P : D → Prop} {E : Xn → Prop} : RUN F_NoMark [d] P E = P (.exc "NoMark" [("name", d)]) := propext ⟨fun ⟨_, e, h⟩ => by cases e; exact h, fun h => ⟨d, rfl, h⟩⟩
def F_BadText : Fn := excF "F_BadText" "BadText"
theorem fl_BadText : F_BadText.fl = false := rfl
theorem fr_BadText : F_BadText.fr = false := rfl
theorem run_BadText {d : D} {P : D → Prop} {E : Xn → Prop} : RUN F_BadText [d] P E = P (.exc "BadText" [("at", d)]) := propext ⟨fun ⟨_, e, h⟩ => by cases e; exact h, fun h => ⟨d, rfl, h⟩⟩
theorem fx_BadBook {d : D} {Q : D → Prop} : FLD ["BadBook", "BadNumber"] (.exc "BadBook" [("part", d)]) "part" Q = Q d := propext ⟨fun ⟨C, fs, d1, hC, h, hl, q⟩ => by
  rcases h with ⟨_, h⟩ | ⟨_, h⟩
  · cases h
  · cases h
    rw [List.lookup_cons_self] at hl
    cases hl
    exact q, fun q => ⟨_, _, d, by decide, .inr ⟨by decide +kernel, rfl⟩, List.lookup_cons_self, q⟩⟩
theorem fx_BadNumber {d : D} {Q : D → Prop} : FLD ["BadBook", "BadNumber"] (.exc "BadNumber" [("part", d)]) "part" Q = Q d := propext ⟨fun ⟨C, fs, d1, hC, h, hl, q⟩ => by
  rcases h with ⟨_, h⟩ | ⟨_, h⟩
  · cases h
  · cases h
    rw [List.lookup_cons_self] at hl
    cases hl
    exact q, fun q => ⟨_, _, d, by decide, .inr ⟨by decide +kernel, rfl⟩, List.lookup_cons_self, q⟩⟩
theorem fx_TooMany {d : D} {Q : D → Prop} : FLD ["TooMany"] (.exc "TooMany" [("most", d)]) "most" Q = Q d := propext ⟨fun ⟨C, fs, d1, hC, h, hl, q⟩ => by
  rcases h with ⟨_, h⟩ | ⟨_, h⟩
  · cases h
  · cases h
    rw [List.lookup_cons_self] at hl
    cases hl
    exact q, fun q => ⟨_, _, d, by decide, .inr ⟨by decide +kernel, rfl⟩, List.lookup_cons_self, q⟩⟩
theorem fx_NoWatch {d : D} {Q : D → Prop} : FLD ["NoWatch", "NoMark"] (.exc "NoWatch" [("name", d)]) "name" Q = Q d := propext ⟨fun ⟨C, fs, d1, hC, h, hl, q⟩ => by
  rcases h with ⟨_, h⟩ | ⟨_, h⟩
  · cases h
  · cases h
    rw [List.lookup_cons_self] at hl
    cases hl
    exact q, fun q => ⟨_, _, d, by decide, .inr ⟨by decide +kernel, rfl⟩, List.lookup_cons_self, q⟩⟩
theorem fx_NoMark {d : D} {Q : D → Prop} : FLD ["NoWatch", "NoMark"] (.exc "NoMark" [("name", d)]) "name" Q = Q d := propext ⟨fun ⟨C, fs, d1, hC, h, hl, q⟩ => by
  rcases h with ⟨_, h⟩ | ⟨_, h⟩
  · cases h
  · cases h
    rw [List.lookup_cons_self] at hl
    cases hl
    exact q, fun q => ⟨_, _, d, by decide, .inr ⟨by decide +kernel, rfl⟩, List.lookup_cons_self, q⟩⟩
theorem fx_BadText {d : D} {Q : D → Prop} : FLD ["BadText"] (.exc "BadText" [("at", d)]) "at" Q = Q d := propext ⟨fun ⟨C, fs, d1, hC, h, hl, q⟩ => by
  rcases h with ⟨_, h⟩ | ⟨_, h⟩
  · cases h
  · cases h
    rw [List.lookup_cons_self] at hl
    cases hl
    exact q, fun q => ⟨_, _, d, by decide, .inr ⟨by decide +kernel, rfl⟩, List.lookup_cons_self, q⟩⟩
theorem permD1 {d : D} {Q : List D → Prop} : ExS (permD [0] [d]) Q = Q [d] := propext ⟨fun ⟨_, e, h⟩ => by cases e; exact h, fun h => ⟨_, rfl, h⟩⟩
def KINDS : List Str := ["BadPrime", "BadWord", "BadRow", "BadTable", "NotAlike", "BadMap", "NotFull", "BadLower", "BadOrder", "NotTidy", "BadWeb", "BadCells", "BadStart", "BadDeed", "BadName", "BadLive", "NothingLeft", "BadNumber", "BadBook", "TooMany", "NoWatch", "NoMark", "BadText"]
def AT6 : List (Str × Str) := [("BadNumber", "part"), ("BadBook", "part"), ("TooMany", "most"), ("NoWatch", "name"), ("NoMark", "name"), ("BadText", "at")]
def PL17 : List Str := ["BadPrime", "BadWord", "BadRow", "BadTable", "NotAlike", "BadMap", "NotFull", "BadLower", "BadOrder", "NotTidy", "BadWeb", "BadCells", "BadStart", "BadDeed", "BadName", "BadLive", "NothingLeft"]
def ANY : List D := [.non, .bl false, .int (-5), .int (10 ^ 45), .str "", .str "wide", .str "two words", .lst [], .lst [.tup [.int 0, .int 2]], .tup [], .tup [.int 4], .dct [], .dct [(.inr "a", .tup [.int 1])], .lst [.lst [.non]]]
def pyA : D → PyData
  | .dct [] => .dict []
  | .dct _ => .dict [(.str "a", .tuple [.int 1])]
  | d => toPy d
def shwA (d : D) : Str := (PyData.list [pyA d, pyA d]).shown
def F_reprA : Fn := ⟨"F_reprA", false, false, fun ds P _ => ∃ d, ds = [.lst [d, d]] ∧ d ∈ ANY ∧ P (.str (shwA d))⟩
theorem fl_reprA : F_reprA.fl = false := rfl
theorem fr_reprA : F_reprA.fr = false := rfl
def isK (K C : Str) : Bool := decide (C = K) || (decide (K = "RuleError") || decide (K = "ValueError"))
theorem isa_e {K C : Str} {fs : List (Str × D)} : isaD K (.exc C fs) = some (isK K C) := rfl
def kindsB (C : Str) : List Bool := KINDS.map fun K => isK K C
theorem kinds_at : ∀ i < 23, kindsB (KINDS.getD i "") = (List.range 23).map fun k => decide (k = i) := by decide +kernel
theorem kinds_no : kindsB "RuleError" = List.replicate 23 false := by decide +kernel
def F_any : Fn := ⟨"F_any", false, false, fun ds P _ => ds = [.drw] ∧ ∀ d ∈ ANY, P d⟩
def F_kinds : Fn := ⟨"F_kinds", false, false, fun ds P _ => ∃ C fs, ds = [.exc C fs] ∧ P (.lst ((kindsB C).map .bl))⟩
def F_plain_errors : Fn := ⟨"F_plain_errors", false, false, fun ds P _ => ∃ x, ds = [.str x] ∧ P (.lst (PL17.map fun C => .exc C []))⟩
def triD (d : D) (q : Str × Str) : D := .tup [.exc q.1 [(q.2, d)], d, d]
def F_errors_of : Fn := ⟨"F_errors_of", false, false, fun ds P _ => ∃ d, ds = [d] ∧ P (.lst (AT6.map (triD d)))⟩
theorem fl_any : F_any.fl = false := rfl
theorem fr_any : F_any.fr = false := rfl
theorem fl_kinds : F_kinds.fl = false := rfl
theorem fr_kinds : F_kinds.fr = false := rfl
theorem fl_plain_errors : F_plain_errors.fl = false := rfl
theorem fr_plain_errors : F_plain_errors.fr = false := rfl
theorem fl_errors_of : F_errors_of.fl = false := rfl
theorem fr_errors_of : F_errors_of.fr = false := rfl
def c_any : CB :=
  (.cons (.asg 1 false (.lst (.cons (.lit .non) (.cons (.lit (.bl false)) (.cons (.neg (.lit (.int (5)))) (.cons (.op .pow (.lit (.int (10))) (.lit (.int (45)))) (.cons (.lit (.str "")) (.cons (.lit (.str "wide")) (.cons (.lit (.str "two words")) (.cons (.lst .nil) (.cons (.lst (.cons (.tup (.cons (.lit (.int (0))) (.cons (.lit (.int (2))) .nil))) .nil)) (.cons (.tup .nil) (.cons (.tup (.cons (.lit (.int (4))) .nil)) (.cons (.dsp [] .nil) (.cons (.dspe (.cons (.lit (.str "a")) (.cons (.tup (.cons (.lit (.int (1))) .nil)) .nil))) (.cons (.lst (.cons (.lst (.cons (.lit .non) .nil)) .nil)) .nil))))))))))))))))
  (.cons (.ret (.call F_pick (.cons (.var 0) (.cons (.var 1) .nil)))) .nil))
def c_kinds : CB :=
  (.cons (.asg 1 false (.lst .nil))
  (.cons (.asg 1 false (.op .add (.var 1) (.lst (.cons (.isa (.var 0) "BadPrime") (.cons (.isa (.var 0) "BadWord") (.cons (.isa (.var 0) "BadRow") .nil))))))
  (.cons (.asg 1 false (.op .add (.var 1) (.lst (.cons (.isa (.var 0) "BadTable") (.cons (.isa (.var 0) "NotAlike") (.cons (.isa (.var 0) "BadMap") .nil))))))
  (.cons (.asg 1 false (.op .add (.var 1) (.lst (.cons (.isa (.var 0) "NotFull") (.cons (.isa (.var 0) "BadLower") (.cons (.isa (.var 0) "BadOrder") .nil))))))
  (.cons (.asg 1 false (.op .add (.var 1) (.lst (.cons (.isa (.var 0) "NotTidy") (.cons (.isa (.var 0) "BadWeb") (.cons (.isa (.var 0) "BadCells") .nil))))))
  (.cons (.asg 1 false (.op .add (.var 1) (.lst (.cons (.isa (.var 0) "BadStart") (.cons (.isa (.var 0) "BadDeed") (.cons (.isa (.var 0) "BadName") .nil))))))
  (.cons (.asg 1 false (.op .add (.var 1) (.lst (.cons (.isa (.var 0) "BadLive") (.cons (.isa (.var 0) "NothingLeft") (.cons (.isa (.var 0) "BadNumber") .nil))))))
  (.cons (.asg 1 false (.op .add (.var 1) (.lst (.cons (.isa (.var 0) "BadBook") (.cons (.isa (.var 0) "TooMany") (.cons (.isa (.var 0) "NoWatch") .nil))))))
  (.cons (.asg 1 false (.op .add (.var 1) (.lst (.cons (.isa (.var 0) "NoMark") (.cons (.isa (.var 0) "BadText") .nil)))))
  (.cons (.ret (.var 1)) .nil))))))))))
def c_plain_errors : CB :=
  (.cons (.asg 1 false (.lst .nil))
  (.cons (.asg 1 false (.op .add (.var 1) (.lst (.cons (.call F_BadPrime (.cons (.var 0) .nil)) (.cons (.call F_BadWord (.cons (.var 0) .nil)) (.cons (.call F_BadRow (.cons (.var 0) .nil)) (.cons (.call F_BadTable (.cons (.var 0) .nil)) .nil)))))))
  (.cons (.asg 1 false (.op .add (.var 1) (.lst (.cons (.call F_NotAlike (.cons (.var 0) .nil)) (.cons (.call F_BadMap (.cons (.var 0) .nil)) (.cons (.call F_NotFull (.cons (.var 0) .nil)) (.cons (.call F_BadLower (.cons (.var 0) .nil)) .nil)))))))
  (.cons (.asg 1 false (.op .add (.var 1) (.lst (.cons (.call F_BadOrder (.cons (.var 0) .nil)) (.cons (.call F_NotTidy (.cons (.var 0) .nil)) (.cons (.call F_BadWeb (.cons (.var 0) .nil)) (.cons (.call F_BadCells (.cons (.var 0) .nil)) .nil)))))))
  (.cons (.asg 1 false (.op .add (.var 1) (.lst (.cons (.call F_BadStart (.cons (.var 0) .nil)) (.cons (.call F_BadDeed (.cons (.var 0) .nil)) (.cons (.call F_BadName (.cons (.var 0) .nil)) (.cons (.call F_BadLive (.cons (.var 0) .nil)) .nil)))))))
  (.cons (.asg 1 false (.op .add (.var 1) (.lst (.cons (.call F_NothingLeft (.cons (.var 0) .nil)) .nil))))
  (.cons (.ret (.var 1)) .nil)))))))
def c_errors_of : CB :=
  (.cons (.asg 1 true (.lst .nil))
  (.cons (.app 1 (.tup (.cons (.call F_BadNumber (.cons (.var 0) .nil)) (.cons (.fld ["BadBook", "BadNumber"] (.call F_BadNumber (.cons (.var 0) .nil)) "part") (.cons (.fld ["BadBook", "BadNumber"] (.callk F_BadNumber [0] (.cons (.var 0) .nil)) "part") .nil)))))
  (.cons (.app 1 (.tup (.cons (.call F_BadBook (.cons (.var 0) .nil)) (.cons (.fld ["BadBook", "BadNumber"] (.call F_BadBook (.cons (.var 0) .nil)) "part") (.cons (.fld ["BadBook", "BadNumber"] (.callk F_BadBook [0] (.cons (.var 0) .nil)) "part") .nil)))))
  (.cons (.app 1 (.tup (.cons (.call F_TooMany (.cons (.var 0) .nil)) (.cons (.fld ["TooMany"] (.call F_TooMany (.cons (.var 0) .nil)) "most") (.cons (.fld ["TooMany"] (.callk F_TooMany [0] (.cons (.var 0) .nil)) "most") .nil)))))
  (.cons (.app 1 (.tup (.cons (.call F_NoWatch (.cons (.var 0) .nil)) (.cons (.fld ["NoWatch", "NoMark"] (.call F_NoWatch (.cons (.var 0) .nil)) "name") (.cons (.fld ["NoWatch", "NoMark"] (.callk F_NoWatch [0] (.cons (.var 0) .nil)) "name") .nil)))))
  (.cons (.app 1 (.tup (.cons (.call F_NoMark (.cons (.var 0) .nil)) (.cons (.fld ["NoWatch", "NoMark"] (.call F_NoMark (.cons (.var 0) .nil)) "name") (.cons (.fld ["NoWatch", "NoMark"] (.callk F_NoMark [0] (.cons (.var 0) .nil)) "name") .nil)))))
  (.cons (.app 1 (.tup (.cons (.call F_BadText (.cons (.var 0) .nil)) (.cons (.fld ["BadText"] (.call F_BadText (.cons (.var 0) .nil)) "at") (.cons (.fld ["BadText"] (.callk F_BadText [0] (.cons (.var 0) .nil)) "at") .nil)))))
  (.cons (.ret (.var 1)) .nil))))))))
def b00_0 : CS :=
  (.par [(2, false), (3, false)] (.cons (.call F_pick (.cons (.var 1) (.cons (.lst (.cons (.lit (.str "")) (.cons (.lit (.str "w")) (.cons (.lit (.str "nothing of the kind")) .nil)))) .nil))) (.cons (.call F_any (.cons (.var 1) .nil)) .nil)))
def b00_1 : CS :=
  (.asg 4 false (.call F_errors_of (.cons (.var 3) .nil)))
def b00_2 : CS :=
  (.asg 5 false (.op .add (.call F_plain_errors (.cons (.var 2) .nil)) (.comp [9] (.idx (.var 9) (.lit (.int (0)))) (.one 9) (.seq (.var 4)) .no)))
def b00_3 : CS :=
  (.for_ (.tup [6, 7]) (.enum (.var 5))
    (.cons (.ite (.op .ne (.call F_kinds (.cons (.var 7) .nil)) (.comp [10] (.op .eq (.var 10) (.var 6)) (.one 10) (.rng1 (.lit (.int (23)))) .no))
      (.cons (.ret (.lit (.bl false))) .nil) .nil)
    (.cons (.ite (.or (.not (.isa (.var 7) "RuleError")) (.not (.isa (.var 7) "ValueError")))
      (.cons (.ret (.lit (.bl false))) .nil) .nil) .nil)))
def b00_4 : CS :=
  (.ite (.op .ne (.comp [9] (.lit (.int (1))) (.one 9) (.seq (.var 4)) (.one (.op .ne (.call F_reprA (.cons (.lst (.cons (.idx (.var 9) (.lit (.int (1)))) (.cons (.idx (.var 9) (.lit (.int (2)))) .nil))) .nil)) (.call F_reprA (.cons (.lst (.cons (.var 3) (.cons (.var 3) .nil))) .nil))))) (.lst .nil))
    (.cons (.ret (.lit (.bl false))) .nil) .nil)
def b00_5 : CS :=
  (.asg 8 false (.call F_RuleError (.cons (.lit (.str "w")) .nil)))
def b00_6 : CS :=
  (.ret (.and (.op .notin (.lit (.bl true)) (.call F_kinds (.cons (.var 8) .nil))) (.isa (.var 8) "ValueError")))
def b00 : CB := (.cons b00_0 (.cons b00_1 (.cons b00_2 (.cons b00_3 (.cons b00_4 (.cons b00_5 (.cons b00_6 .nil)))))))
theorem bn_zH : F_RuleError.fl = false ∧ F_RuleError.fr = false ∧ F_BadPrime.fl = false ∧ F_BadPrime.fr = false ∧ F_BadWord.fl = false ∧ F_BadWord.fr = false ∧ F_BadRow.fl = false ∧ F_BadRow.fr = false ∧ F_BadTable.fl = false ∧ F_BadTable.fr = false ∧ F_NotAlike.fl = false ∧ F_NotAlike.fr = false ∧ F_BadMap.fl = false ∧ F_BadMap.fr = false ∧ F_NotFull.fl = false ∧ F_NotFull.fr = false ∧ F_BadLower.fl = false ∧ F_BadLower.fr = false ∧ F_BadOrder.fl = false ∧ F_BadOrder.fr = false ∧ F_NotTidy.fl = false ∧ F_NotTidy.fr = false ∧ F_BadWeb.fl = false ∧ F_BadWeb.fr = false ∧ F_BadCells.fl = false ∧ F_BadCells.fr = false ∧ F_BadStart.fl = false ∧ F_BadStart.fr = false ∧ F_BadDeed.fl = false ∧ F_BadDeed.fr = false ∧ F_BadName.fl = false ∧ F_BadName.fr = false ∧ F_BadLive.fl = false ∧ F_BadLive.fr = false ∧ F_NothingLeft.fl = false ∧ F_NothingLeft.fr = false ∧ F_BadNumber.fl = false ∧ F_BadNumber.fr = false ∧ F_BadBook.fl = false ∧ F_BadBook.fr = false ∧ F_TooMany.fl = false ∧ F_TooMany.fr = false ∧ F_NoWatch.fl = false ∧ F_NoWatch.fr = false ∧ F_NoMark.fl = false ∧ F_NoMark.fr = false ∧ F_BadText.fl = false ∧ F_BadText.fr = false := ⟨fl_RuleError, fr_RuleError, fl_BadPrime, fr_BadPrime, fl_BadWord, fr_BadWord, fl_BadRow, fr_BadRow, fl_BadTable, fr_BadTable, fl_NotAlike, fr_NotAlike, fl_BadMap, fr_BadMap, fl_NotFull, fr_NotFull, fl_BadLower, fr_BadLower, fl_BadOrder, fr_BadOrder, fl_NotTidy, fr_NotTidy, fl_BadWeb, fr_BadWeb, fl_BadCells, fr_BadCells, fl_BadStart, fr_BadStart, fl_BadDeed, fr_BadDeed, fl_BadName, fr_BadName, fl_BadLive, fr_BadLive, fl_NothingLeft, fr_NothingLeft, fl_BadNumber, fr_BadNumber, fl_BadBook, fr_BadBook, fl_TooMany, fr_TooMany, fl_NoWatch, fr_NoWatch, fl_NoMark, fr_NoMark, fl_BadText, fr_BadText⟩
section
variable {P : D → Prop} {E : Xn → Prop} {d : D} {C x : Str} {fs : List (Str × D)}
theorem ev_kinds (hP : P (.lst ((kindsB C).map .bl))) : evF c_kinds 2 false [.exc C fs] P E := by
  unfold c_kinds
  dsimp! only [bn_zu, bn_zH, ↓Z.run_RuleError, ↓Z.run_BadPrime, ↓Z.run_BadWord, ↓Z.run_BadRow, ↓Z.run_BadTable, ↓Z.run_NotAlike, ↓Z.run_BadMap, ↓Z.run_NotFull, ↓Z.run_BadLower, ↓Z.run_BadOrder, ↓Z.run_NotTidy, ↓Z.run_BadWeb, ↓Z.run_BadCells, ↓Z.run_BadStart, ↓Z.run_BadDeed, ↓Z.run_BadName, ↓Z.run_BadLive, ↓Z.run_NothingLeft, ↓Z.run_BadNumber, ↓Z.run_BadBook, ↓Z.run_TooMany, ↓Z.run_NoWatch, ↓Z.run_NoMark, ↓Z.run_BadText, ↓Z.fx_BadBook, ↓Z.fx_BadNumber, ↓Z.fx_TooMany, ↓Z.fx_NoWatch, ↓Z.fx_NoMark, ↓Z.fx_BadText, ↓Z.permD1, isa_e]
  exact ⟨by decide, by decide, by decide, by decide, by decide, by decide, by decide, by decide, hP⟩
theorem ev_plain_errors (hP : P (.lst (PL17.map fun C => .exc C []))) : evF c_plain_errors 2 false [.str x] P E := by
  unfold c_plain_errors
  dsimp! only [bn_zu, bn_zH, ↓Z.run_RuleError, ↓Z.run_BadPrime, ↓Z.run_BadWord, ↓Z.run_BadRow, ↓Z.run_BadTable, ↓Z.run_NotAlike, ↓Z.run_BadMap, ↓Z.run_NotFull, ↓Z.run_BadLower, ↓Z.run_BadOrder, ↓Z.run_NotTidy, ↓Z.run_BadWeb, ↓Z.run_BadCells, ↓Z.run_BadStart, ↓Z.run_BadDeed, ↓Z.run_BadName, ↓Z.run_BadLive, ↓Z.run_NothingLeft, ↓Z.run_BadNumber, ↓Z.run_BadBook, ↓Z.run_TooMany, ↓Z.run_NoWatch, ↓Z.run_NoMark, ↓Z.run_BadText, ↓Z.fx_BadBook, ↓Z.fx_BadNumber, ↓Z.fx_TooMany, ↓Z.fx_NoWatch, ↓Z.fx_NoMark, ↓Z.fx_BadText, ↓Z.permD1]
  exact ⟨by decide, by decide, by decide, by decide, by decide, hP⟩
theorem ev_errors_of (hP : P (.lst (AT6.map (triD d)))) : evF c_errors_of 2 false [d] P E := by
  unfold c_errors_of
  dsimp! only [bn_zu, bn_zH, ↓Z.run_RuleError, ↓Z.run_BadPrime, ↓Z.run_BadWord, ↓Z.run_BadRow, ↓Z.run_BadTable, ↓Z.run_NotAlike, ↓Z.run_BadMap, ↓Z.run_NotFull, ↓Z.run_BadLower, ↓Z.run_BadOrder, ↓Z.run_NotTidy, ↓Z.run_BadWeb, ↓Z.run_BadCells, ↓Z.run_BadStart, ↓Z.run_BadDeed, ↓Z.run_BadName, ↓Z.run_BadLive, ↓Z.run_NothingLeft, ↓Z.run_BadNumber, ↓Z.run_BadBook, ↓Z.run_TooMany, ↓Z.run_NoWatch, ↓Z.run_NoMark, ↓Z.run_BadText, ↓Z.fx_BadBook, ↓Z.fx_BadNumber, ↓Z.fx_TooMany, ↓Z.fx_NoWatch, ↓Z.fx_NoMark, ↓Z.fx_BadText, ↓Z.permD1]
  exact ⟨by decide, by decide, by decide, by decide, by decide, by decide, hP⟩
theorem ev_any (hP : ∀ d ∈ ANY, P d) : evF c_any 2 false [.drw] P E := by
  unfold c_any
  dsimp! only [bn_zu, bn_zH, ↓Z.run_RuleError, ↓Z.run_BadPrime, ↓Z.run_BadWord, ↓Z.run_BadRow, ↓Z.run_BadTable, ↓Z.run_NotAlike, ↓Z.run_BadMap, ↓Z.run_NotFull, ↓Z.run_BadLower, ↓Z.run_BadOrder, ↓Z.run_NotTidy, ↓Z.run_BadWeb, ↓Z.run_BadCells, ↓Z.run_BadStart, ↓Z.run_BadDeed, ↓Z.run_BadName, ↓Z.run_BadLive, ↓Z.run_NothingLeft, ↓Z.run_BadNumber, ↓Z.run_BadBook, ↓Z.run_TooMany, ↓Z.run_NoWatch, ↓Z.run_NoMark, ↓Z.run_BadText, ↓Z.fx_BadBook, ↓Z.fx_BadNumber, ↓Z.fx_TooMany, ↓Z.fx_NoWatch, ↓Z.fx_NoMark, ↓Z.fx_BadText, ↓Z.permD1]
  refine ⟨⟨by omega, by omega, by omega⟩, by omega, _, rfl, ⟨by simp, by simp⟩, fun x hx => ?_⟩
  dsimp! only [bn_zu, bn_zH, ↓Z.run_RuleError, ↓Z.run_BadPrime, ↓Z.run_BadWord, ↓Z.run_BadRow, ↓Z.run_BadTable, ↓Z.run_NotAlike, ↓Z.run_BadMap, ↓Z.run_NotFull, ↓Z.run_BadLower, ↓Z.run_BadOrder, ↓Z.run_NotTidy, ↓Z.run_BadWeb, ↓Z.run_BadCells, ↓Z.run_BadStart, ↓Z.run_BadDeed, ↓Z.run_BadName, ↓Z.run_BadLive, ↓Z.run_NothingLeft, ↓Z.run_BadNumber, ↓Z.run_BadBook, ↓Z.run_TooMany, ↓Z.run_NoWatch, ↓Z.run_NoMark, ↓Z.run_BadText, ↓Z.fx_BadBook, ↓Z.fx_BadNumber, ↓Z.fx_TooMany, ↓Z.fx_NoWatch, ↓Z.fx_NoMark, ↓Z.fx_BadText, ↓Z.permD1]
  exact hP x hx
theorem plains_bl : ∀ l : List Bool, D.plains (l.map D.bl) = true
  | [] => rfl
  | b :: l => by rw [List.map_cons, plains_cons, plains_bl l]; rfl
theorem deeps_bl : ∀ l : List Bool, D.deeps (l.map D.bl) = 0
  | [] => by simp [D.deeps]
  | b :: l => by rw [List.map_cons, D.deeps, deeps_bl l]; simp [D.deep]
theorem eqDs_bl : ∀ l : List Bool, eqDs (l.map D.bl) (l.map D.bl) = true
  | [] => by simp [eqDs]
  | b :: l => by rw [List.map_cons, eqDs, eqDs_bl l]; simp [eqD]
theorem ne_bls (l : List Bool) : op2 .ne (.lst (l.map D.bl)) (.lst (l.map D.bl)) = some (.bl false, .cln) := by
  have e : op2 .ne (.lst (l.map D.bl)) (.lst (l.map D.bl)) = if D.plains (l.map D.bl) && D.plains (l.map D.bl) && decide ((D.lst (l.map D.bl)).deep ≤ 60) && decide ((D.lst (l.map D.bl)).deep ≤ 60) then some (.bl (!eqDs (l.map D.bl) (l.map D.bl)), .cln) else none := by
    simp only [op2, D.plain, eqD]
    rfl
  have d : (D.lst (l.map D.bl)).deep ≤ 60 := by rw [D.deep, deeps_bl]; omega
  rw [e, plains_bl, decide_eq_true d, eqDs_bl]
  rfl
theorem fm_none0 {α : Type} : ∀ (l : List α), l.filterMap (fun _ => (none : Option D)) = []
  | [] => rfl
  | a :: l => by rw [List.filterMap_cons]; exact fm_none0 l
theorem ne_strA {d : D} (h : d ∈ ANY) : op2 .ne (.str (shwA d)) (.str (shwA d)) = some (.bl false, .cln) := by
  simp only [ANY, List.mem_cons, List.not_mem_nil, or_false] at h
  rcases h with rfl | rfl | rfl | rfl | rfl | rfl | rfl | rfl | rfl | rfl | rfl | rfl | rfl | rfl <;> kernel_rfl
theorem notin_no : op2 .notin (.bl true) (.lst ((kindsB "RuleError").map D.bl)) = some (.bl true, .cln) := by
  rw [kinds_no]
  kernel_rfl
def errsD (d : D) : List D := (PL17.map fun C => .exc C []) ++ AT6.map fun q => .exc q.1 [(q.2, d)]
def nameD : D → Str
  | .exc C _ => C
  | _ => ""
theorem errs_names (d : D) : (errsD d).map nameD = KINDS := rfl
theorem errs_len (d : D) : (errsD d).length = 23 := rfl
theorem errs_exc {d e : D} (h : e ∈ errsD d) : ∃ C fs, e = .exc C fs := by
  rcases List.mem_append.mp h with h | h
  · obtain ⟨C, _, rfl⟩ := List.mem_map.mp h
    exact ⟨_, _, rfl⟩
  · obtain ⟨q, _, rfl⟩ := List.mem_map.mp h
    exact ⟨_, _, rfl⟩
theorem errs_at {d x : D} {i : Nat} (h : (enumD 0 (errsD d))[i]? = some x) : i < 23 ∧ ∃ fs, x = .tup [.int (i : Nat), .exc (KINDS.getD i "") fs] := by
  have hl : i < 23 := by
    have := (List.getElem?_eq_some_iff.mp h).1
    rw [enum_len, errs_len] at this
    exact this
  have he : (errsD d)[i]? = some ((errsD d)[i]'(by rw [errs_len]; exact hl)) := List.getElem?_eq_getElem _
  have := enum_get 0 he
  rw [h] at this
  cases this
  obtain ⟨C, fs, e⟩ := errs_exc (List.mem_of_getElem? he)
  have hn : KINDS[i]? = some C := by
    rw [← errs_names d, List.getElem?_map, he, e]
    rfl
  refine ⟨hl, fs, ?_⟩
  rw [e, List.getD_eq_getElem?_getD, hn, Nat.zero_add]
  rfl
theorem isK_r {C : Str} : isK "RuleError" C = true := by
  unfold isK
  rw [decide_eq_true (rfl : ("RuleError" : Str) = "RuleError")]
  simp
theorem isK_v {C : Str} : isK "ValueError" C = true := by
  unfold isK
  rw [decide_eq_true (rfl : ("ValueError" : Str) = "ValueError")]
  simp
theorem ne_nn0 : op2 .ne (.lst []) (.lst []) = some (.bl false, .cln) := by kernel_rfl
theorem at3_0 {a b c : D} {Q : D → Prop} : ExS (atD [a, b, c] 0) Q = Q a := propext ⟨fun ⟨_, e, h⟩ => by cases e; exact h, fun h => ⟨_, rfl, h⟩⟩
theorem at3_1 {a b c : D} {Q : D → Prop} : ExS (atD [a, b, c] 1) Q = Q b := propext ⟨fun ⟨_, e, h⟩ => by cases e; exact h, fun h => ⟨_, rfl, h⟩⟩
theorem at3_2 {a b c : D} {Q : D → Prop} : ExS (atD [a, b, c] 2) Q = Q c := propext ⟨fun ⟨_, e, h⟩ => by cases e; exact h, fun h => ⟨_, rfl, h⟩⟩
theorem ev_b00 {K : Kn} (hK : ∀ ρ, K.rt (.bl true) .cln ρ) : evB noX b00 [none, some (.frz .drw), none, none, none, none, none, none, none, none, none] K := by
  unfold b00 b00_0 b00_1 b00_2 b00_3 b00_4 b00_5 b00_6
  have fE : F_any.fl = false ∧ F_any.fr = false := ⟨rfl, rfl⟩
  dsimp! only [bn_zu, bn_zH, ↓Z.run_RuleError, ↓Z.run_BadPrime, ↓Z.run_BadWord, ↓Z.run_BadRow, ↓Z.run_BadTable, ↓Z.run_NotAlike, ↓Z.run_BadMap, ↓Z.run_NotFull, ↓Z.run_BadLower, ↓Z.run_BadOrder, ↓Z.run_NotTidy, ↓Z.run_BadWeb, ↓Z.run_BadCells, ↓Z.run_BadStart, ↓Z.run_BadDeed, ↓Z.run_BadName, ↓Z.run_BadLive, ↓Z.run_NothingLeft, ↓Z.run_BadNumber, ↓Z.run_BadBook, ↓Z.run_TooMany, ↓Z.run_NoWatch, ↓Z.run_NoMark, ↓Z.run_BadText, ↓Z.fx_BadBook, ↓Z.fx_BadNumber, ↓Z.fx_TooMany, ↓Z.fx_NoWatch, ↓Z.fx_NoMark, ↓Z.fx_BadText, ↓Z.permD1, fl_any, fr_any, fl_errors_of, fr_errors_of, fl_plain_errors, fr_plain_errors]
  refine ⟨_, rfl, ⟨by simp, by simp⟩, fun x hx => ?_⟩
  obtain ⟨y, rfl⟩ : ∃ y, x = .str y := by
    simp only [List.mem_cons, List.not_mem_nil, or_false] at hx
    rcases hx with rfl | rfl | rfl <;> exact ⟨_, rfl⟩
  refine ⟨rfl, fun d hd => ?_⟩
  refine ⟨_, rfl, ?_⟩
  refine ⟨_, rfl, ?_⟩
  dsimp! only [bn_zu, bn_zH, ↓Z.run_RuleError, ↓Z.run_BadPrime, ↓Z.run_BadWord, ↓Z.run_BadRow, ↓Z.run_BadTable, ↓Z.run_NotAlike, ↓Z.run_BadMap, ↓Z.run_NotFull, ↓Z.run_BadLower, ↓Z.run_BadOrder, ↓Z.run_NotTidy, ↓Z.run_BadWeb, ↓Z.run_BadCells, ↓Z.run_BadStart, ↓Z.run_BadDeed, ↓Z.run_BadName, ↓Z.run_BadLive, ↓Z.run_NothingLeft, ↓Z.run_BadNumber, ↓Z.run_BadBook, ↓Z.run_TooMany, ↓Z.run_NoWatch, ↓Z.run_NoMark, ↓Z.run_BadText, ↓Z.fx_BadBook, ↓Z.fx_BadNumber, ↓Z.fx_TooMany, ↓Z.fx_NoWatch, ↓Z.fx_NoMark, ↓Z.fx_BadText, ↓Z.permD1]
  refine cmp_mapA (triD d) (fun q => .exc q.1 [(q.2, d)]) (fun q hq K hK => ?_) (by decide) ?_
  · unfold triD
    dsimp! only [bn_zu, bn_zH, ↓Z.run_RuleError, ↓Z.run_BadPrime, ↓Z.run_BadWord, ↓Z.run_BadRow, ↓Z.run_BadTable, ↓Z.run_NotAlike, ↓Z.run_BadMap, ↓Z.run_NotFull, ↓Z.run_BadLower, ↓Z.run_BadOrder, ↓Z.run_NotTidy, ↓Z.run_BadWeb, ↓Z.run_BadCells, ↓Z.run_BadStart, ↓Z.run_BadDeed, ↓Z.run_BadName, ↓Z.run_BadLive, ↓Z.run_NothingLeft, ↓Z.run_BadNumber, ↓Z.run_BadBook, ↓Z.run_TooMany, ↓Z.run_NoWatch, ↓Z.run_NoMark, ↓Z.run_BadText, ↓Z.fx_BadBook, ↓Z.fx_BadNumber, ↓Z.fx_TooMany, ↓Z.fx_NoWatch, ↓Z.fx_NoMark, ↓Z.fx_BadText, ↓Z.permD1, ↓at3_0]
    exact hK
  dsimp! only [bn_zu, bn_zH, ↓Z.run_RuleError, ↓Z.run_BadPrime, ↓Z.run_BadWord, ↓Z.run_BadRow, ↓Z.run_BadTable, ↓Z.run_NotAlike, ↓Z.run_BadMap, ↓Z.run_NotFull, ↓Z.run_BadLower, ↓Z.run_BadOrder, ↓Z.run_NotTidy, ↓Z.run_BadWeb, ↓Z.run_BadCells, ↓Z.run_BadStart, ↓Z.run_BadDeed, ↓Z.run_BadName, ↓Z.run_BadLive, ↓Z.run_NothingLeft, ↓Z.run_BadNumber, ↓Z.run_BadBook, ↓Z.run_TooMany, ↓Z.run_NoWatch, ↓Z.run_NoMark, ↓Z.run_BadText, ↓Z.fx_BadBook, ↓Z.fx_BadNumber, ↓Z.fx_TooMany, ↓Z.fx_NoWatch, ↓Z.fx_NoMark, ↓Z.fx_BadText, ↓Z.permD1]
  refine ⟨show 17 + 6 ≤ big by decide, ?_⟩
  show forL _ _ (enumD 0 (errsD d)) [none, some (.frz .drw), some (.frz (.str y)), some (.frz d), some (.frz (.lst (AT6.map (triD d)))), some (.frz (.lst (errsD d))), none, none, none, none, none] _
  refine for_inv (fun _ ρ => ∃ s6 s7, ρ = [none, some (.frz .drw), some (.frz (.str y)), some (.frz d), some (.frz (.lst (AT6.map (triD d)))), some (.frz (.lst (errsD d))), s6, s7, none, none, none]) ⟨_, _, rfl⟩ ?_ ?_
  · rintro i x ρ K' hx ⟨s6, s7, rfl⟩ rt hnx _
    obtain ⟨hi, fs, rfl⟩ := errs_at hx
    dsimp! only [bn_zu, bn_zH, ↓Z.run_RuleError, ↓Z.run_BadPrime, ↓Z.run_BadWord, ↓Z.run_BadRow, ↓Z.run_BadTable, ↓Z.run_NotAlike, ↓Z.run_BadMap, ↓Z.run_NotFull, ↓Z.run_BadLower, ↓Z.run_BadOrder, ↓Z.run_NotTidy, ↓Z.run_BadWeb, ↓Z.run_BadCells, ↓Z.run_BadStart, ↓Z.run_BadDeed, ↓Z.run_BadName, ↓Z.run_BadLive, ↓Z.run_NothingLeft, ↓Z.run_BadNumber, ↓Z.run_BadBook, ↓Z.run_TooMany, ↓Z.run_NoWatch, ↓Z.run_NoMark, ↓Z.run_BadText, ↓Z.fx_BadBook, ↓Z.fx_BadNumber, ↓Z.fx_TooMany, ↓Z.fx_NoWatch, ↓Z.fx_NoMark, ↓Z.fx_BadText, ↓Z.permD1, fl_kinds, fr_kinds]
    refine ⟨_, _, rfl, ?_⟩
    dsimp! only [bn_zu, bn_zH, ↓Z.run_RuleError, ↓Z.run_BadPrime, ↓Z.run_BadWord, ↓Z.run_BadRow, ↓Z.run_BadTable, ↓Z.run_NotAlike, ↓Z.run_BadMap, ↓Z.run_NotFull, ↓Z.run_BadLower, ↓Z.run_BadOrder, ↓Z.run_NotTidy, ↓Z.run_BadWeb, ↓Z.run_BadCells, ↓Z.run_BadStart, ↓Z.run_BadDeed, ↓Z.run_BadName, ↓Z.run_BadLive, ↓Z.run_NothingLeft, ↓Z.run_BadNumber, ↓Z.run_BadBook, ↓Z.run_TooMany, ↓Z.run_NoWatch, ↓Z.run_NoMark, ↓Z.run_BadText, ↓Z.fx_BadBook, ↓Z.fx_BadNumber, ↓Z.fx_TooMany, ↓Z.fx_NoWatch, ↓Z.fx_NoMark, ↓Z.fx_BadText, ↓Z.permD1]
    refine ⟨by decide, by decide, ?_⟩
    rw [show Int.toNat 23 = 23 from rfl, rng_eq]
    refine cmp_mapA _ (fun (k : Nat) => .bl (decide (k = i))) (fun k hk K hK => ?_) (by decide) ?_
    · dsimp! only [bn_zu, bn_zH, ↓Z.run_RuleError, ↓Z.run_BadPrime, ↓Z.run_BadWord, ↓Z.run_BadRow, ↓Z.run_BadTable, ↓Z.run_NotAlike, ↓Z.run_BadMap, ↓Z.run_NotFull, ↓Z.run_BadLower, ↓Z.run_BadOrder, ↓Z.run_NotTidy, ↓Z.run_BadWeb, ↓Z.run_BadCells, ↓Z.run_BadStart, ↓Z.run_BadDeed, ↓Z.run_BadName, ↓Z.run_BadLive, ↓Z.run_NothingLeft, ↓Z.run_BadNumber, ↓Z.run_BadBook, ↓Z.run_TooMany, ↓Z.run_NoWatch, ↓Z.run_NoMark, ↓Z.run_BadText, ↓Z.fx_BadBook, ↓Z.fx_BadNumber, ↓Z.fx_TooMany, ↓Z.fx_NoWatch, ↓Z.fx_NoMark, ↓Z.fx_BadText, ↓Z.permD1]
      rw [decide_eq_decide.mpr (show ((k : Int) = (i : Int)) ↔ k = i by omega)]
      exact hK
    rw [show ((List.range 23).map fun k => D.bl (decide (k = i))) = (kindsB (KINDS.getD i "")).map D.bl by rw [kinds_at i hi, List.map_map]; rfl]
    dsimp! only [bn_zu, bn_zH, ↓Z.run_RuleError, ↓Z.run_BadPrime, ↓Z.run_BadWord, ↓Z.run_BadRow, ↓Z.run_BadTable, ↓Z.run_NotAlike, ↓Z.run_BadMap, ↓Z.run_NotFull, ↓Z.run_BadLower, ↓Z.run_BadOrder, ↓Z.run_NotTidy, ↓Z.run_BadWeb, ↓Z.run_BadCells, ↓Z.run_BadStart, ↓Z.run_BadDeed, ↓Z.run_BadName, ↓Z.run_BadLive, ↓Z.run_NothingLeft, ↓Z.run_BadNumber, ↓Z.run_BadBook, ↓Z.run_TooMany, ↓Z.run_NoWatch, ↓Z.run_NoMark, ↓Z.run_BadText, ↓Z.fx_BadBook, ↓Z.fx_BadNumber, ↓Z.fx_TooMany, ↓Z.fx_NoWatch, ↓Z.fx_NoMark, ↓Z.fx_BadText, ↓Z.permD1, ne_bls, isa_e, isK_r, isK_v]
    exact hnx _ ⟨_, _, rfl⟩
  · rintro ρ ⟨s6, s7, rfl⟩
    dsimp! only [bn_zu, bn_zH, ↓Z.run_RuleError, ↓Z.run_BadPrime, ↓Z.run_BadWord, ↓Z.run_BadRow, ↓Z.run_BadTable, ↓Z.run_NotAlike, ↓Z.run_BadMap, ↓Z.run_NotFull, ↓Z.run_BadLower, ↓Z.run_BadOrder, ↓Z.run_NotTidy, ↓Z.run_BadWeb, ↓Z.run_BadCells, ↓Z.run_BadStart, ↓Z.run_BadDeed, ↓Z.run_BadName, ↓Z.run_BadLive, ↓Z.run_NothingLeft, ↓Z.run_BadNumber, ↓Z.run_BadBook, ↓Z.run_TooMany, ↓Z.run_NoWatch, ↓Z.run_NoMark, ↓Z.run_BadText, ↓Z.fx_BadBook, ↓Z.fx_BadNumber, ↓Z.fx_TooMany, ↓Z.fx_NoWatch, ↓Z.fx_NoMark, ↓Z.fx_BadText, ↓Z.permD1]
    refine cmp_mapL (triD d) (fun _ => none) (fun q hq K hK => ?_) (by decide) ?_
    · unfold triD
      dsimp! only [bn_zu, bn_zH, ↓Z.run_RuleError, ↓Z.run_BadPrime, ↓Z.run_BadWord, ↓Z.run_BadRow, ↓Z.run_BadTable, ↓Z.run_NotAlike, ↓Z.run_BadMap, ↓Z.run_NotFull, ↓Z.run_BadLower, ↓Z.run_BadOrder, ↓Z.run_NotTidy, ↓Z.run_BadWeb, ↓Z.run_BadCells, ↓Z.run_BadStart, ↓Z.run_BadDeed, ↓Z.run_BadName, ↓Z.run_BadLive, ↓Z.run_NothingLeft, ↓Z.run_BadNumber, ↓Z.run_BadBook, ↓Z.run_TooMany, ↓Z.run_NoWatch, ↓Z.run_NoMark, ↓Z.run_BadText, ↓Z.fx_BadBook, ↓Z.fx_BadNumber, ↓Z.fx_TooMany, ↓Z.fx_NoWatch, ↓Z.fx_NoMark, ↓Z.fx_BadText, ↓Z.permD1, fl_reprA, fr_reprA, ↓at3_1, ↓at3_2]
      refine ⟨_, rfl, hd, ?_⟩
      dsimp! only [bn_zu, bn_zH, ↓Z.run_RuleError, ↓Z.run_BadPrime, ↓Z.run_BadWord, ↓Z.run_BadRow, ↓Z.run_BadTable, ↓Z.run_NotAlike, ↓Z.run_BadMap, ↓Z.run_NotFull, ↓Z.run_BadLower, ↓Z.run_BadOrder, ↓Z.run_NotTidy, ↓Z.run_BadWeb, ↓Z.run_BadCells, ↓Z.run_BadStart, ↓Z.run_BadDeed, ↓Z.run_BadName, ↓Z.run_BadLive, ↓Z.run_NothingLeft, ↓Z.run_BadNumber, ↓Z.run_BadBook, ↓Z.run_TooMany, ↓Z.run_NoWatch, ↓Z.run_NoMark, ↓Z.run_BadText, ↓Z.fx_BadBook, ↓Z.fx_BadNumber, ↓Z.fx_TooMany, ↓Z.fx_NoWatch, ↓Z.fx_NoMark, ↓Z.fx_BadText, ↓Z.permD1, fl_reprA, fr_reprA, ↓at3_1, ↓at3_2]
      refine ⟨_, rfl, hd, ?_⟩
      dsimp! only [bn_zu, bn_zH, ↓Z.run_RuleError, ↓Z.run_BadPrime, ↓Z.run_BadWord, ↓Z.run_BadRow, ↓Z.run_BadTable, ↓Z.run_NotAlike, ↓Z.run_BadMap, ↓Z.run_NotFull, ↓Z.run_BadLower, ↓Z.run_BadOrder, ↓Z.run_NotTidy, ↓Z.run_BadWeb, ↓Z.run_BadCells, ↓Z.run_BadStart, ↓Z.run_BadDeed, ↓Z.run_BadName, ↓Z.run_BadLive, ↓Z.run_NothingLeft, ↓Z.run_BadNumber, ↓Z.run_BadBook, ↓Z.run_TooMany, ↓Z.run_NoWatch, ↓Z.run_NoMark, ↓Z.run_BadText, ↓Z.fx_BadBook, ↓Z.fx_BadNumber, ↓Z.fx_TooMany, ↓Z.fx_NoWatch, ↓Z.fx_NoMark, ↓Z.fx_BadText, ↓Z.permD1, ne_strA hd]
      exact hK
    rw [List.nil_append, fm_none0]
    dsimp! only [bn_zu, bn_zH, ↓Z.run_RuleError, ↓Z.run_BadPrime, ↓Z.run_BadWord, ↓Z.run_BadRow, ↓Z.run_BadTable, ↓Z.run_NotAlike, ↓Z.run_BadMap, ↓Z.run_NotFull, ↓Z.run_BadLower, ↓Z.run_BadOrder, ↓Z.run_NotTidy, ↓Z.run_BadWeb, ↓Z.run_BadCells, ↓Z.run_BadStart, ↓Z.run_BadDeed, ↓Z.run_BadName, ↓Z.run_BadLive, ↓Z.run_NothingLeft, ↓Z.run_BadNumber, ↓Z.run_BadBook, ↓Z.run_TooMany, ↓Z.run_NoWatch, ↓Z.run_NoMark, ↓Z.run_BadText, ↓Z.fx_BadBook, ↓Z.fx_BadNumber, ↓Z.fx_TooMany, ↓Z.fx_NoWatch, ↓Z.fx_NoMark, ↓Z.fx_BadText, ↓Z.permD1, ne_nn0, fl_kinds, fr_kinds]
    refine ⟨_, _, rfl, ?_⟩
    dsimp! only [bn_zu, bn_zH, ↓Z.run_RuleError, ↓Z.run_BadPrime, ↓Z.run_BadWord, ↓Z.run_BadRow, ↓Z.run_BadTable, ↓Z.run_NotAlike, ↓Z.run_BadMap, ↓Z.run_NotFull, ↓Z.run_BadLower, ↓Z.run_BadOrder, ↓Z.run_NotTidy, ↓Z.run_BadWeb, ↓Z.run_BadCells, ↓Z.run_BadStart, ↓Z.run_BadDeed, ↓Z.run_BadName, ↓Z.run_BadLive, ↓Z.run_NothingLeft, ↓Z.run_BadNumber, ↓Z.run_BadBook, ↓Z.run_TooMany, ↓Z.run_NoWatch, ↓Z.run_NoMark, ↓Z.run_BadText, ↓Z.fx_BadBook, ↓Z.fx_BadNumber, ↓Z.fx_TooMany, ↓Z.fx_NoWatch, ↓Z.fx_NoMark, ↓Z.fx_BadText, ↓Z.permD1, notin_no, isa_e, isK_v]
    exact hK _
end
end Z
end T_YA
section T_YB
namespace Z
open PySem PySem.Spec PyProof.Rows L2
theorem any_ok {d : D} (h : d ∈ ANY) : (PyData.list [pyA d, pyA d]).showable = true ∧ (PyData.list [pyA d, pyA d]).depth ≤ 60 ∧ (PyData.list [pyA d, pyA d]).shown.length ≤ 1000 := by
  simp only [ANY, List.mem_cons, List.not_mem_nil, or_false] at h
  rcases h with rfl | rfl | rfl | rfl | rfl | rfl | rfl | rfl | rfl | rfl | rfl | rfl | rfl | rfl <;> exact ⟨by decide +kernel, by decide +kernel, by decide +kernel⟩
section
variable {X : Cx} {pins : List (Addr × Obj)} {σ : L2.St} {H : Hp} {s : Shared} {c : Cn} {Z : Addr → Prop}
theorem reads_t1 {v : V} {u : Value} (I : L2.Inv X pins σ H s) (hK : c.K = X.K) (r : Rep c (Rz H Z) v (.tup [.int 1])) (ru : RelV v u) : Reads s.heap u (.tuple [.int 1]) [] := by
  have go : ∀ {x : Addr} {xs : List V} {u : Value}, SqT X.K H x xs → RepL c (Rz H Z) xs [.int 1] → RelV (.ref x) u → Reads s.heap u (.tuple [.int 1]) [] := fun hs q e => by
    cases e
    obtain ⟨its, rv, ⟨o, ho, hc, n, hd⟩, _⟩ := I.tuple hs
    cases q with
    | cons a q =>
      cases q
      cases a
      cases rv with
      | cons r1 rv =>
        cases rv
        obtain ⟨t, rfl⟩ := r1
        exact .tuple ho hc hd (.cons (as := []) (.int 1 t) .nil)
  cases r with
  | tup rz zz q => exact go (SqT.of (Rz.get rfl rz)) q ru
  | ktup k zz q => exact go (.inr (by rw [← hK]; exact k)) q ru
theorem reads_d0 {v : V} {u : Value} (I : L2.Inv X pins σ H s) (r : Rep c (Rz H Z) v (.dct [])) (ru : RelV v u) : ∃ as, Reads s.heap u (.dict []) as ∧ sysModules ∉ as := by
  cases r with
  | @dct x ks _ rz zz lk =>
    obtain ⟨_, nsm, vs, kv, o, es, ep, ho, hc, hd, hk, hp, _⟩ := dk_rd I.hok (rz.2.elim .inl fun q => .inr q.2)
    obtain rfl : u = .ref x := ru
    generalize hes : es.toList = el at hp
    cases lk
    cases kv
    cases hp
    refine ⟨_, Reads.dict (as := []) (bs := []) ho hc.1 hd (by rw [hes]; exact .nil) (by rw [hes]; exact .nil), ?_⟩
    simp only [List.append_nil, List.mem_cons, List.not_mem_nil, or_false]
    exact fun e => by rw [← e] at nsm; simp at nsm
theorem reads_d1 {v : V} {u : Value} (I : L2.Inv X pins σ H s) (hK : c.K = X.K) (r : Rep c (Rz H Z) v (.dct [(.inr "a", .tup [.int 1])])) (ru : RelV v u) : ∃ as, Reads s.heap u (.dict [(.str "a", .tuple [.int 1])]) as ∧ sysModules ∉ as := by
  cases r with
  | @dct x ks _ rz zz lk =>
    obtain ⟨_, nsm, vs, kv, o, es, ep, ho, hc, hd, hk, hp, _⟩ := dk_rd I.hok (rz.2.elim .inl fun q => .inr q.2)
    obtain rfl : u = .ref x := ru
    cases lk with
    | cons k1 a1 lk =>
    cases lk
    cases kv with
    | cons e1 kv =>
    cases kv
    generalize hes : es.toList = el at hp
    cases hp with
    | cons p1 q1 hp =>
    cases hp
    have key : ∀ {k : Key} {y : Str} {v : Value}, (mixKind X.prog X.w).is k v = true → Sum.inr y = k → ∃ t, v = .str y t := fun {k y v} h e => by
      subst e
      rcases keyIs_shape (show keyIs (Sum.inr y) v = true from h) with ⟨i, t, e, _⟩ | ⟨z, t, e, rfl⟩
      · cases e
      · cases e; exact ⟨t, rfl⟩
    obtain ⟨t1, k1⟩ := key p1 e1.1
    refine ⟨_, Reads.dict (kvs := [(.str "a", .tuple [.int 1])]) (as := []) (bs := []) ho hc.1 hd ?_ ?_, ?_⟩
    · rw [hes]
      simp only [List.map_cons, List.map_nil, k1]
      exact .cons (as := []) (.str _ t1) .nil
    · rw [hes]
      simp only [List.map_cons, List.map_nil, q1]
      exact .cons (as := []) (reads_t1 I hK a1 e1.2) .nil
    · simp only [List.append_nil, List.mem_cons, List.not_mem_nil, or_false]
      exact fun e => by rw [← e] at nsm; simp at nsm
theorem reads_any {d : D} {v : V} {u : Value} (I : L2.Inv X pins σ H s) (hK : c.K = X.K) (hd : d ∈ ANY) (r : Rep c (Rz H Z) v d) (ru : RelV v u) : ∃ as, Reads s.heap u (pyA d) as ∧ ((pyA d).hasDict = true → sysModules ∉ as) := by
  have pl : ∀ {d : D}, d.plain = true → (toPy d).hasDict = false → Rep c (Rz H Z) v d → ∃ as, Reads s.heap u (toPy d) as ∧ ((toPy d).hasDict = true → sysModules ∉ as) := fun {d} h1 h2 r => by
    have dp := Rep.dp (fun _ _ e q => Rz.get e q) d _ h1 r
    rw [hK] at dp
    obtain ⟨as, rd⟩ := Dp.reads I _ _ _ dp ru
    exact ⟨as, rd, fun q => by rw [h2] at q; cases q⟩
  simp only [ANY, List.mem_cons, List.not_mem_nil, or_false] at hd
  rcases hd with rfl | rfl | rfl | rfl | rfl | rfl | rfl | rfl | rfl | rfl | rfl | rfl | rfl | rfl
  case inr.inr.inr.inr.inr.inr.inr.inr.inr.inr.inr.inl => obtain ⟨as, h1, h2⟩ := reads_d0 I r ru; exact ⟨as, h1, fun _ => h2⟩
  case inr.inr.inr.inr.inr.inr.inr.inr.inr.inr.inr.inr.inl => obtain ⟨as, h1, h2⟩ := reads_d1 I hK r ru; exact ⟨as, h1, fun _ => h2⟩
  all_goals exact pl (by decide +kernel) (by decide +kernel) r
theorem repr_okA {EE : XK} (hg : X.A.guards = some []) (hu : X.A.units + 100 < cLine) (sm : ∃ o, X.K.lookup sysModules = some o ∧ o.cls = .type "dict") : CallR X (.builtin "repr") (fun vs H Q => spF X.K X.mg 1 F_reprA (vs ++ []) H Q EE) := by
  intro pins s σ H vs us Q I r h
  obtain ⟨c, Z, ds, Pd, Ex, hK, hm, hl, hw, hz, za, l, ⟨d, rfl, hd, hrun⟩, hQ, hE⟩ := h
  rw [List.append_nil] at l hl
  cases l with
  | cons a b =>
  cases b
  cases a with
  | @lst x xs _ rz zz lq =>
  obtain ⟨u, rfl, ru⟩ := vals1 r
  obtain rfl : u = .ref x := ru
  obtain ⟨its, rv, ⟨o3, n3, ho3, hc3, _, hd3⟩, _⟩ := I.list (SqL.of (Rz.get rfl rz))
  cases lq with
  | cons a1 lq =>
  cases lq with
  | cons a2 lq =>
  cases lq
  cases rv with
  | cons r1 rv =>
  cases rv with
  | cons r2 rv =>
  cases rv
  obtain ⟨as1, R1, n1⟩ := reads_any I hK hd a1 r1
  obtain ⟨as2, R2, n2⟩ := reads_any I hK hd a2 r2
  obtain ⟨k1, k2, k3⟩ := any_ok hd
  have nb : x ≠ sysModules := fun e => by
    obtain ⟨om, hm1, hm2⟩ := sm
    have := I.kIn _ _ hm1
    rw [← e, ho3] at this
    cases this
    rw [hc3] at hm2
    exact absurd hm2 (by decide)
  have R : Reads s.heap (.ref x) (.list [pyA d, pyA d]) (x :: (as1 ++ (as2 ++ []))) := Reads.list ho3 hc3 hd3 (.cons R1 (.cons R2 .nil))
  refine repr_of_reads' R k1 (fun q => ?_) hg (by omega) (fun _ _ e => e) (fun h' u tk hk => ?_) (by rw [sizeLine_eq]; omega)
  · have q : (pyA d).hasDict = true := by
      rw [PyData.hasDict, PyData.hasDictAll, PyData.hasDictAll, PyData.hasDictAll] at q
      simpa using q
    simp only [List.mem_append, List.mem_cons, List.not_mem_nil, or_false, not_or]
    exact ⟨fun e => nb e.symm, n1 q, n2 q⟩
  · exact ⟨.str _, H, I.kept hk, ⟨_, rfl⟩, hQ _ _ H hrun (fun _ _ e _ => e) (fun _ e => e) hw (.str _)⟩
theorem cal_reprA {P : Program} {w : World} {K : PySem.W.Frag} {mg : Str → Option Value} {base : Heap} {A : Around} (gs : mg "repr" = none) (sm : ∃ o, K.lookup sysModules = some o ∧ o.cls = .type "dict") (hg : A.guards = some []) (hu : A.units + 100 < cLine) : Cal CX0 P w K mg base A "repr" 1 F_reprA := by
  intro X EE e1 e2 e3 e4 e5 e6 hp
  subst e1 e2 e3 e4 e5 e6
  refine ⟨fun {e es t p pos} hgl hdb ha hst hpl => ?_, fun {p pos} hgl hdb => ⟨fun pins s σ H Q I h => ?_⟩⟩
  · exact pe_callB (repr_okA hg hu sm) hgl gs (by decide +kernel) ha (by decide) hdb hst hpl
  · obtain ⟨_, _, _, _, _, _, _, hl, _⟩ := h
    cases hl
theorem calX_reprA {P : Program} {w : World} {K : PySem.W.Frag} {mg : Str → Option Value} {base : Heap} (gs : mg "repr" = none) (sm : ∃ o, K.lookup sysModules = some o ∧ o.cls = .type "dict") : CalX P w K mg base 1 "repr" 1 F_reprA := fun A r g X EE e1 e2 e3 e4 e5 e6 _ => cal_reprA gs sm g (by have := r.un; omega) X EE e1 e2 e3 e4 e5 e6 pass00
end
/-- what is told of the errors, where none is caught -/
structure XF0 (P : Program) (K : PySem.W.Frag) (mg : Str → Option Value) (clss excs : List Str) : Prop where
  isa : ∀ C ∈ clss, IsaC K mg C ∧ (C == ("__debug__" : Str)) = false
  rai : ∀ C ∈ excs, RaiC P K mg C
  hex : ∀ C Ci, isExc C = true → mg C = some (.ref Ci) → PySem.W.exmOne K (.ref Ci) (.ref (He.ga K "RuleError")) = some true
section
variable {K : PySem.W.Frag} {mg : Str → Option Value} {es is : List Str}
theorem isaV_by (N : Know K mg es is) (hn : mg "ValueError" = none) (e : isaVB K es is = true) : IsaC K mg "ValueError" := by
  obtain ⟨e1, e⟩ := bn e
  obtain ⟨e2, e3⟩ := bn e
  refine ⟨.ty "ValueError", .type "ValueError", .inr ⟨rfl, rfl, rfl, hn⟩, fun T hT => dq (List.all_eq_true.mp e1 T hT), fun x a hx hm => ?_, fun x a hx hm => ?_⟩
  · rcases N.fi x hx with q | q
    · obtain rfl := N.ref (.inr q) hm
      obtain ⟨a1, a2⟩ := bn (List.all_eq_true.mp e2 x q)
      have hne : decide (x = "ValueError") = false := decide_eq_false fun e => by rw [e] at hx; exact absurd hx (by decide +kernel)
      rw [hne]
      exact ⟨inB_ok a1, dq a2⟩
    · rw [q] at hm; cases hm
  · rcases N.fe x hx with q | q
    · obtain rfl := N.ref (.inl q) hm
      obtain ⟨a1, a2⟩ := bn (List.all_eq_true.mp e3 x q)
      have ht : (decide (x = "ValueError") || (decide (("ValueError" : Str) = "RuleError") || decide (("ValueError" : Str) = "ValueError"))) = true := by
        rw [decide_eq_true (rfl : ("ValueError" : Str) = "ValueError")]
        simp
      rw [ht]
      exact ⟨exB_ok a1, dq a2⟩
    · rw [q] at hm; cases hm
end
section
variable {c : Cn} {x y z : Addr} {σ : L2.St} {H : Hp} {Dn : Ends}
/-- a law without turns -/
theorem law_read {cb : CB} {n : Nat} (hd : c.dr = some (x, y, z)) (hl : σ.length = n + 2) (h1 : σ[1]? = some (some (.ref x))) (hw : c.wok H) (hev : evB noX cb (ρL n) ⟨fun _ => False, fun d k _ => d = .bl true ∧ k = .cln, fun _ => False⟩)
    (k : ∀ H', Dn.rt (.bl true) H') : trBs c Hn noX cb Dn σ H := by
  refine ⟨c.ws, ρL n, _, RE.frzs hw (fun _ h => h) (fun a h => c.wob H a hw h) (by rw [hl]; simp [ρL]) (fun i d h => ?_) (fun i d h => ?_), hev, fun _ _ _ q => q.elim, fun d kd ρ' v σ' H' e r' s' vr => ?_, fun _ _ _ q => q.elim⟩
  · obtain ⟨_, e⟩ := ρL_at h
    cases e
  · obtain ⟨rfl, e⟩ := ρL_at h
    cases e
    exact ⟨_, h1, .drw hd⟩
  · obtain ⟨rfl, rfl⟩ := e
    have vr : Rep c (Rz H' (full c.ws σ' ρ')) v (.bl true) := vr
    cases vr
    exact k H'
end
end Z
end T_YB
section T_PW
namespace Z
end Z
end T_PW
section T_RB
namespace Z
end Z
end T_RB
section T_RC
namespace Z
open PySem L2
end Z
end T_RC
section T_SB
namespace Z
section
variable {p : Int} {n m N L W B A a b : Nat} {t u c v : List (List Int)} {f g x : Fu} {h h' : HR}
def Ind (p : Int) (V : Fu → Prop) (ks : List Int) : Prop := ks.Nodup ∧ ∀ k ∈ ks, ∃ f, V f ∧ Cg p (f k) 1 ∧ ∀ j ∈ ks, j ≠ k → Cg p (f j) 0
theorem Ind.mono {V V' : Fu → Prop} {ks : List Int} (h : Ind p V ks) (s : ∀ f, V f → V' f) : Ind p V' ks := ⟨h.1, fun k hk => let ⟨f, a, b⟩ := h.2 k hk; ⟨f, s f a, b⟩⟩
end
end Z
end T_SB
section T_SC
namespace Z
end Z
end T_SC
section T_SA
namespace Z
open PySem L2
end Z
end T_SA
section T_SD
namespace Z
open PySem L2
end Z
end T_SD
section T_SE
namespace Z
open PySem L2
end Z
end T_SE
section T_SF
namespace Z
open PySem L2
def gr (B b : Nat) (x : Int) : List Int := List.replicate b 0 ++ [x] ++ List.replicate (B - b - 1) 0
end Z
end T_SF
section T_EQ
namespace Z
open PySem PySem.Spec PyProof.Rows L2
mutual
/-- data without a lambda's object -/
def D.noclo : D → Bool
  | .lst xs | .tup xs => D.noclos xs
  | .dct kvs => D.noclok kvs
  | .ins _ fs | .exc _ fs => D.noclof fs
  | .clo _ => false
  | _ => true
def D.noclos : List D → Bool
  | [] => true
  | x :: xs => x.noclo && D.noclos xs
def D.noclok : List (Key × D) → Bool
  | [] => true
  | x :: xs => x.2.noclo && D.noclok xs
def D.noclof : List (Str × D) → Bool
  | [] => true
  | x :: xs => x.2.noclo && D.noclof xs
end
section
variable {c c' : Cn} {R : Addr → HO → Prop}
theorem Rep.re (hK : c'.K = c.K) (hm : c'.mg = c.mg) (hd : c'.dr = c.dr) {v : V} {d : D} (r : Rep c R v d) : d.noclo = true → Rep c' R v d := by
  refine Rep.rec (motive_1 := fun v d _ => d.noclo = true → Rep c' R v d) (motive_2 := fun v d _ => D.noclos d = true → RepL c' R v d) (motive_3 := fun v d _ => D.noclok d = true → RepK c' R v d) (motive_4 := fun v d _ => D.noclof d = true → RepF c' R v d)
    (fun _ => .non) (fun b _ => .bl b) (fun i _ => .int i) (fun x _ => .str x) (fun r z _ l h => .lst r z (l (by rw [D.noclo] at h; exact h))) (fun r z _ l h => .tup r z (l (by rw [D.noclo] at h; exact h))) (fun r z _ l h => .ktup (by rw [hK]; exact r) z (l (by rw [D.noclo] at h; exact h)))
    (fun r z _ l h => .dct r z (l (by rw [D.noclo] at h; exact h))) (fun m r _ l h => .ins (by rw [hm]; exact m) r (l (by rw [D.noclo] at h; exact h))) (fun e _ => .drw (by rw [hd]; exact e)) (fun v _ => .opq v) (fun lo hi r _ => .rng lo hi r) (fun m i r _ => .exc0 (by rw [hm]; exact m) i r) (fun m i r r2 _ l h => .exc1 (by rw [hm]; exact m) i r r2 (l (by rw [D.noclo] at h; exact h))) (fun e r r2 h => by simp [D.noclo] at h) (fun e _ => .fnv (by rw [hm]; exact e)) (fun r r2 _ => .lamc r r2)
    (fun _ => .nil) (fun _ _ a b h => ?_) (fun _ => .nil) (fun k _ _ _ _ _ _ a b h => ?_) (fun _ => .nil) (fun k _ _ _ _ _ _ a b h => ?_) r
  · rw [D.noclos, Bool.and_eq_true] at h
    exact .cons (a h.1) (b h.2)
  · rw [D.noclok, Bool.and_eq_true] at h
    exact .cons k (a h.1) (b h.2)
  · rw [D.noclof, Bool.and_eq_true] at h
    exact .cons k (a h.1) (b h.2)
theorem RepL.re (hK : c'.K = c.K) (hm : c'.mg = c.mg) (hd : c'.dr = c.dr) : ∀ {vs : List V} {ds : List D}, RepL c R vs ds → D.noclos ds = true → RepL c' R vs ds
  | _, _, .nil, _ => .nil
  | _, _, .cons a b, h => by
    rw [D.noclos, Bool.and_eq_true] at h
    exact .cons (a.re hK hm hd h.1) (RepL.re hK hm hd b h.2)
end
/-- a def's promise where frames keep these tables -/
def spFT (T : List (Addr × Str)) (K : PySem.W.Frag) (mg : Str → Option Value) (n : Nat) (F : Fn) : Sp := fun vs H Q E => ∃ c : Cn, c.K = K ∧ c.mg = mg ∧ c.xs.tb = T ∧ spC c n F vs H Q E
def FnT (P : Program) (w : World) (K : PySem.W.Frag) (mg : Str → Option Value) (base : Heap) (T : List (Addr × Str)) (k : Nat) (f : Addr) (fd : FuncData) (ps : List Str) (n : Nat) (F : Fn) : Prop := ∀ A : Around, Room k A → A.guards = some [] → FnA P w K mg base (CX1 P w) A f fd ps (spFT T K mg n F)
section
variable {P : Program} {w : World} {K : PySem.W.Frag} {mg : Str → Option Value} {base : Heap} {f : Addr} {fd : FuncData} {ps : List Str} {T : List (Addr × Str)} {k n : Nat} {F : Fn} {x : Str}
theorem CalT.fn (G : FnT P w K mg base T k f fd ps n F) (hm : mg x = some (.ref f)) (hk : PySem.W.keepIn K (.ref f) = true) (hb : Binds K fd ps []) : CalT P w K mg base T k x n F := by
  intro A hr hg c hK hmc hT X EE e1 e2 e3 e4 e5 e6 hp
  subst e1 e2 e3 e4 e5 e6
  have G := G _ hr hg
  refine FTc.of (sp := spFT T X.K X.mg n F) (fun vs H Q h => ⟨c, hK, hmc, hT, h⟩) (fun {e es t p pos} hg hdb ha hst hpl => ⟨fun pins s σ H Q I h => ?_⟩) (fun {p pos} hg hdb => ⟨fun pins s σ H Q I h => ?_⟩)
  · refine wpAny_Call_Name_kw (ld_glob I hg hm ?_ hdb)
    refine PySem.W.callWith_K (h₀ := X.base) I.ok.mod.kin hk (thn (ha.run pos pins s σ H _ I h) fun us s2 ⟨vs, H2, J, r, q⟩ => ⟨J.kIn, ?_⟩) hst hpl
    have q : spFT T X.K X.mg n F (vs ++ []) H2 Q EE := q
    rw [List.append_nil] at q
    exact after_fnA G hb hp J r q
  · refine wpAny_Call_Name_kw (ld_glob I hg hm ?_ hdb)
    exact PySem.W.callWith_K0 I.kIn hk (after_fnA G hb hp I .nil h)
end
end Z
end T_EQ
section T_ES
namespace Z
open PySem PySem.Spec PyProof.Rows L2
section
variable {P : Program} {w : World} {K : PySem.W.Frag} {mg : Str → Option Value} {base : Heap}
/-- a law's frame, no lambdas being there -/
theorem sat_law0 {qual : Str} {scope : Scope} {f : Addr} {cdv : Value} {ps : List Str} {k lv : Nat} {Γ : Ct} (S : FnScope Γ.N ps scope) (hsc : Γ.sc = scope) (hosc : Γ.osc = scope) (G : Gnd K mg Γ) (hx0 : Γ.xt.excs = []) (hlv : lv + 2 ≤ k) {T : List (Addr × Str)} (fns : FNT P w K mg base T lv Γ.fns) (kfns : KNX P w K mg base lv Γ.xt.kfns) (fvs : FVX P w K mg base lv Γ.xt.fvs) (lls : LLX P w K mg base lv Γ.xt.lls) (hq0 : Γ.xt.mks = [] ∧ Γ.xt.eqq = false)
    (lams : Γ.xt.lams = []) {c : Cn} (hK : c.K = K) (hm : c.mg = mg) (hT : c.xs.tb = T) {A : Around} {outer : List PySem.Env} {s : Shared} {H : Hp} {E : XK}
    (hr : Room k (A.deeper (PyProof.Rows.envOfC qual scope s.heap.objs.size f cdv))) (hg : A.guards = some []) (neq : Γ.xt.eqs = false ∨ ∃ r, OpR (cxOf (CX1 P w) P w K mg base Γ.N qual scope f cdv A outer s H E) (compareOp .NotEq) r ∧ ∀ H0, R2ok c H0 (op2 .neI) r) :
    Sat lv Γ (CX1 P w) c (cxOf (CX1 P w) P w K mg base Γ.N qual scope f cdv A outer s H E) E where
  O := ⟨hK.symm, hm.symm, rfl, S.nd, by have := hr.un; show (A.deeper _).units + 100 < cLine; omega⟩
  N := rfl
  sc := hsc.symm
  bind := fun x hx => ⟨by rw [hosc] at hx; exact hx, .inl rfl⟩
  kindf := S.kind
  fns := fun x m F' h => (fns x m F' h).mono (by omega : lv ≤ k) _ hr hg c hK hm hT
  kfns := fun x xs pm n F' h => ⟨(kfns x xs pm n F' h).1, ((kfns x xs pm n F' h).2.mono (by omega : lv ≤ k)) _ hr hg⟩
  fvs := fun x m F' h => (fvs x m F' h).mono (by omega : lv ≤ k) _ hr hg c hK hm
  lls := fun l q m F' h => lls l q m F' h _ (hr.mono (by omega : lv ≤ k)) hg c hK hm
  pass := passes_call (takes_of rfl rfl rfl rfl) fun _ _ _ _ h => h
  nc := fun l H s e s' ⟨_, _, _, _, _, _, _, _, _, _, _, _, h⟩ => h
  blt := G.blt
  cons := fun x d h => by
    obtain ⟨u, v, a1, a2, a3⟩ := G.cons x d h
    exact ⟨u, v, a1, a2, fun R => a3 c R hK hm⟩
  flds := fun f Cs h C hC => by rw [hm]; exact G.flds f Cs h C hC
  isa := fun C hC => by rw [hm, hK]; exact G.isa C hC
  rai := .inl hx0
  neq := neq
  eqq := .inl hq0.2
  lam := .inl ⟨lams, hq0.1⟩
end
end Z
end T_ES
section T_ZR
namespace Z
open PySem PySem.Spec PyProof.Rows
open L2
end Z
end T_ZR
section T_QU
namespace Z
open PySem L2
end Z
end T_QU
section T_ER
namespace Z
open PySem PySem.Spec PyProof.Rows L2
/-- nothing that changes -/
def Cn.bare (K : PySem.W.Frag) (mg : Str → Option Value) : Cn := ⟨K, mg, none, CnX.no⟩
/-- two objects that are told to be equal -/
def BkR (K : PySem.W.Frag) (mg : Str → Option Value) (a b : Addr) (H : Hp) : Prop := ∃ d e, insEq d e = some true ∧ Rep (Cn.bare K mg) (Rz H fun _ => False) (.ref a) d ∧ Rep (Cn.bare K mg) (Rz H fun _ => False) (.ref b) e
theorem rz_ext {H H' : Hp} (e : L2.Ext H H') : ∀ a u, Rz H (fun _ => False) a u → Rz H' (fun _ => False) a u := fun a u h => ⟨id, h.2.elim (fun z => .inl (e _ _ z)) fun ⟨q, o, z⟩ => .inr ⟨q, o, e _ _ z⟩⟩
theorem BkR.ext {K : PySem.W.Frag} {mg : Str → Option Value} (a b : Addr) (H H' : Hp) (e : L2.Ext H H') (h : BkR K mg a b H) : BkR K mg a b H' := by
  obtain ⟨d, g, i, r1, r2⟩ := h
  exact ⟨d, g, i, r1.to (rz_ext e), r2.to (rz_ext e)⟩
end Z
end T_ER
section T_K00a
namespace K00
open PySem L2 Z
def cons : List (Str × D) := []
def flds : List (Str × List Str) := [("part", ["BadBook", "BadNumber"]), ("most", ["TooMany"]), ("name", ["NoWatch", "NoMark"]), ("at", ["BadText"])]
abbrev FnP (K : PySem.W.Frag) (x : Str) (st : Stmt) (f : Addr) (fd : FuncData) : Prop := FunD K x x (defArgs st) (defBody st) (defScope st) [] [] f fd
section
variable {P : Program} {w : World} {K : PySem.W.Frag} {mg : Str → Option Value} {base : Heap} {f fT : Addr} {fd fdT : FuncData}
def g_mix : Ct := ⟨["_law_draw", "_law_turn", "_law_found", "_law_great", "_law_blend", "_law_grain"], dsc 27, dsc 27, [], [], cons, flds, [], CtX.no⟩
theorem sc_mix : FnScope g_mix.N ["_law_draw"] (defScope (top 27)) := ⟨rfl, rfl, rfl, by decide +kernel, rfl, by decide +kernel, by decide +kernel⟩
theorem k_mix : cBs (cS 60 g_mix) (dbd 27).tail = some c_mixR := by kernel_rfl
theorem ok_mix {k : Nat} (Fd : FnP K "_law_mixed" (top 27) f fd) (G : Gnd K mg g_mix) : FnOk P w K mg base CX0 (k + 1) f fd ["_law_draw"] (spF K mg 1 F_mixed) := by
  refine Fd.ok sc_mix (fun vs H Q E h => ?_) fun cdv A outer s H vs Q E hr h => ?_
  · obtain ⟨_, _, _, _, _, _, _, hl, _⟩ := h
    exact hl
  · obtain ⟨c, Z, ds, Pd, Ex, hK, hm, hl, hw, hz, za, l, ⟨rfl, hrun⟩, hQ, hE⟩ := h
    obtain ⟨x, y, z, rfl, hd⟩ := drw_args l
    have St := sat_def (P := P) (w := w) (base := base) (qual := "_law_mixed") (f := f) (cdv := cdv) (outer := outer) (s := s) (H := H) (E := E) sc_mix rfl rfl G rfl rfl rfl rfl (fun x m F' h => by cases h) (c := c.nd) hK hm hr
    have hu := hu_of hr
    refine ⟨_, PSs.nox (pss_cons (ps_dput hu (pv 0) pe_str (pe_op op_add (pe_dget hu (pv 0) pe_str (fun _ _ => rfl)) pe_int) rfl) (cBs_ok (cS_ok 60 St .never XS.noX (H0 := Hn)) k_mix)), ?_⟩
    obtain ⟨r, t, ls, cs, h1, h2, h3, h4, h5, n1, n2, n3⟩ := hw.1 _ _ _ hd
    have D0 : Dst c x y z H H := .refl hw hd
    refine ⟨_, rfl, x, .int t, rfl, DGet.k (k := .inr "turn") h1, _, _, rfl, rfl, ?_⟩
    obtain ⟨H1, p1, ok1, e1⟩ := (hw.1 _ _ _ hd).turn (t + 1)
    refine ⟨_, rfl, x, H1, rfl, p1, ?_⟩
    have D1 := D0.put ok1 e1
    obtain ⟨r, t, ls, cs, j1, j2, j3, j4, j5, j6, j7, j8, rep⟩ := ok1.rep (c := c)
    refine ⟨No, [some (.frz (drwData r t ls cs)), none, none, none, none, none], ⟨fun _ => False, fun d k ρ => ∃ n, d = .int n, fun _ => False⟩, RE.look rfl (fun i d h => ?_) (fun i d h => ?_), ev_mixR fun n ρ' => ⟨n, rfl⟩, ⟨fun _ _ _ q => q.elim, fun d k ρ' v σ' H' q r' s' v' => ?_, fun _ _ _ q => q.elim⟩⟩
    · match i, h with
      | 0, h => cases h
      | 1, h => cases h
      | 2, h => cases h
      | 3, h => cases h
      | 4, h => cases h
      | 5, h => cases h
      | n + 6, h => simp at h
    · match i, h with
      | 0, h => cases h; exact ⟨_, rfl, rep⟩
      | 1, h => cases h
      | 2, h => cases h
      | 3, h => cases h
      | 4, h => cases h
      | 5, h => cases h
      | n + 6, h => simp at h
    · obtain ⟨n, rfl⟩ := q
      obtain rfl := v'.weak.int r'
      have D2 : Dst c x y z H H' := D1.look s' (fun i d h => by
        match i, h with
        | 0, h => cases h
        | 1, h => cases h
        | 2, h => cases h
        | 3, h => cases h
        | 4, h => cases h
        | 5, h => cases h
        | n + 6, h => simp at h)
      obtain ⟨e1, e2⟩ := D2.ext
      exact hQ _ _ _ (hrun n) e1 D2.al e2 (show Ret c Z H H' false (.int n) (.int n) from .int n)
end
end K00
namespace K00
open PySem L2 Z
section
variable {P : Program} {w : World} {K : PySem.W.Frag} {mg : Str → Option Value} {base : Heap} {f fM : Addr} {fd fdM : FuncData}
theorem sc_take : FnScope ["_law_draw", "_law_amount", "_law_found"] ["_law_draw", "_law_amount"] (defScope (top 28)) := ⟨rfl, rfl, rfl, by decide +kernel, rfl, by decide +kernel, by decide +kernel⟩
theorem ok_take {k : Nat} (Fd : FnP K "_law_take" (top 28) f fd) (FM : FnP K "_law_mixed" (top 27) fM fdM) (gM : mg "_law_mixed" = some (.ref fM)) (gi : mg "int" = none) (GM : FnOk P w K mg base CX0 (k + 1) fM fdM ["_law_draw"] (spF K mg 1 F_mixed)) :
    FnOk P w K mg base CX0 (k + 2) f fd ["_law_draw", "_law_amount"] (spF K mg 2 F_take) := by
  have bM : Binds K fdM ["_law_draw"] [] := FM.bindsN fun _ _ _ _ _ _ us hl => match us, hl with | [_], _ => rfl
  refine Fd.ok sc_take (fun vs H Q E h => ?_) fun cdv A outer s H vs Q E hr h => ?_
  · obtain ⟨_, _, _, _, _, _, _, hl, _⟩ := h
    exact hl
  · obtain ⟨c, Z, ds, Pd, Ex, hK, hm, hl, hw, hz, za, l, ⟨n, rfl, ⟨n0, n1⟩, hrun⟩, hQ, hE⟩ := h
    obtain ⟨x, y, z, rfl, hd⟩ := drw_args2 l
    have hu := hu_of hr
    have hu64 : (A.deeper (PyProof.Rows.envOfC "_law_take" (defScope (top 28)) s.heap.objs.size f cdv)).units + 64 < cLine := by have := hr.un; omega
    refine ⟨_, PSs.nox (pss_cons (ps_if (pt_cmpR op_eq (pe_dget hu (pv 0) pe_str (fun _ _ => rfl)) pe_int (nomark _))
        (pss_one (ps_dput hu (pv 0) pe_str (pe_ifExp (pt_cmpR (op_neD hu64) (pe_dget hu (pv 0) pe_str (fun _ _ => rfl)) (pe_lst pa_nil) (nomark _))
          (pe_bm PySem.F.plainAttrs_list PySem.F.slot_list_pop PySem.F.type_list_pop mt_popAt (pe_dget hu (pv 0) pe_str (fun _ _ => rfl)) (pa_cons pe_int pa_nil))
          (pe_call GM hr rfl gM FM.kp bM .nil pass0 (pa_cons (pv 0) pa_nil))) rfl)) pss_nil)
      (pss_cons (ps_set (i := 2) sc_take.nd rfl (.inl rfl) (pe_op op_mod (pe_callTy call_int1 rfl gi PyProof.Rows.boot_int (pa_cons (pe_dget hu (pv 0) pe_str (fun _ _ => rfl)) pa_nil)) (pv 1)))
      (pss_cons (ps_dput hu (pv 0) pe_str (pe_op op_fdiv (pe_callTy call_int1 rfl gi PyProof.Rows.boot_int (pa_cons (pe_dget hu (pv 0) pe_str (fun _ _ => rfl)) pa_nil)) (pv 1)) rfl)
      (pss_one (ps_ret (pv 2)))))), ?_⟩
    have D0 : Dst c x y z H H := .refl hw hd
    -- what follows the first statement
    have fin : ∀ H1, Dst c x y z H H1 → ∀ D, D.rt = Q → tSeq (tAsg (tOp (rI (fun _ j => 0 < j) fun i j => .int (i % j)) (tCB (fun xs H Q => (∃ i, xs = [.int i] ∧ Q (.int i) H) ∨ ∃ k, xs = [.bl k] ∧ Q (.int (if k then 1 else 0)) H) (tCons (tDGet (tVar 0) (tC (.str "rest"))) tNil)) (tVar 1)) (gName 2))
        (tSeq (sDPut (tVar 0) (tC (.str "rest")) (tOp (rI CDiv fun i j => .int (i / j)) (tCB (fun xs H Q => (∃ i, xs = [.int i] ∧ Q (.int i) H) ∨ ∃ k, xs = [.bl k] ∧ Q (.int (if k then 1 else 0)) H) (tCons (tDGet (tVar 0) (tC (.str "rest"))) tNil)) (tVar 1))) (tRet (tVar 2))) D [some (.ref x), some (.int n), none] H1 := by
      intro H1 D1 D eD
      obtain ⟨r, t, ls, cs, h1, _⟩ := D1.ok
      refine ⟨_, rfl, x, .int r, rfl, DGet.k (k := .inr "rest") h1, .inl ⟨r, rfl, _, rfl, _, _, rfl, rfl, n0, ?_⟩⟩
      refine ⟨_, rfl, x, .int r, rfl, DGet.k (k := .inr "rest") h1, .inl ⟨r, rfl, _, rfl, _, _, rfl, rfl, ⟨n0, n1⟩, ?_⟩⟩
      obtain ⟨H2, p2, ok2, e2⟩ := D1.ok.rest (r / n)
      refine ⟨_, rfl, x, H2, rfl, p2, _, rfl, ?_⟩
      have D2 := D1.put ok2 e2
      obtain ⟨e3, e4⟩ := D2.ext
      show D.rt (.int (r % n)) H2
      rw [eD]
      exact hQ _ _ _ (hrun _ (Int.emod_nonneg _ (by omega)) (Int.emod_lt_of_pos _ n0)) e3 D2.al e4 (show Ret c Z H H2 false (.int _) (.int _) from .int _)
    obtain ⟨r, t, ls, cs, h1, h2, h3, h4, h5, n1, n2, n3⟩ := hw.1 _ _ _ hd
    refine ⟨_, rfl, x, .int r, rfl, DGet.k (k := .inr "rest") h1, rfl, _, rfl, ?_⟩
    by_cases hr0 : r = 0
    · subst hr0
      show (if decide (V.int 0 = V.int 0) = true then (_ : Prop) else _)
      rw [if_pos (by rfl)]
      refine ⟨_, rfl, x, .ref y, rfl, DGet.k (k := .inr "large") h1, ?_⟩
      refine ⟨by show 0 ≤ sizeLine; decide, fun p hp => ?_⟩
      have D1 : Dst c x y z H (upd H p (.lst [])) := D0.new hp
      have ny : y ≠ p := fun e => by rw [e, hp] at h2; cases h2
      have nx : x ≠ p := fun e => by rw [e, hp] at h1; cases h1
      have q1 : upd H p (.lst []) x = some (.dK (drwD y z 0 t)) := by rw [upd_ne nx]; exact h1
      have q2 : upd H p (.lst []) y = some (.lst (ls.map V.int)) := by rw [upd_ne ny]; exact h2
      have pl : (D.lst (ls.map .int)).plain = true := by rw [D.plain]; exact plains_ints ls
      have dp : (D.lst (ls.map .int)).deep ≤ 60 := by rw [D.deep, deeps_ints]; omega
      have rep : Rep c (fun a u => upd H p (.lst []) a = some u) (.ref y) (.lst (ls.map .int)) := .lst q2 (by simpa using h4) (ints_rep ls)
      have rep0 : Rep c (fun a u => upd H p (.lst []) a = some u) (.ref p) (.lst []) := .lst upd_same (Nat.zero_le _) .nil
      have g1 := Rep.dp (H := upd H p (.lst [])) (fun _ _ _ h => h) _ _ pl rep
      have g2 := Rep.dp (H := upd H p (.lst [])) (fun _ _ _ h => h) _ _ rfl rep0
      rw [hK] at g1 g2
      refine ⟨_, _, g1, g2, shaped_toPy pl dp, shaped_toPy rfl (by decide), !ls.isEmpty, ?_, ?_⟩
      · rw [eqv_toPy _ _ pl rfl]
        cases ls <;> rfl
      · cases hl : ls with
        | nil =>
          subst hl
          show tCall (spF K mg 1 F_mixed) [] L2.E0 (tCons (tVar 0) tNil) _ _ _
          refine ⟨_, rfl, ?_⟩
          have zl : ∀ a, Z a → Ob (upd H p (.lst [])) a := fun a q => ob_upd (za a q) (ob_at upd_same fun _ q => nomatch q)
          have wk : c.wok (upd H p (.lst [])) := (D1.ext).2
          refine ⟨c, Z, [.drw], (fun d => ∃ r' : Int, d = .int r'), noX, hK, hm, rfl, wk, hz, zl, .cons (.drw hd) .nil, ⟨rfl, fun r => ⟨r, rfl⟩⟩, fun d v H' hP k1 k2 wk' q => ?_, fun _ _ _ _ h => h.elim⟩
          obtain ⟨r', rfl⟩ := hP
          have D2 := D1.of k1 k2 wk'
          have q : Rep c _ v (.int r') := q
          cases q
          obtain ⟨H3, p3, ok3, e3⟩ := D2.ok.rest r'
          refine ⟨_, rfl, x, H3, rfl, p3, ?_⟩
          exact fin H3 (D2.put ok3 e3) _ rfl
        | cons n' ls' =>
          subst hl
          rw [if_pos (show (!(n' :: ls').isEmpty) = true from rfl)]
          refine ⟨_, rfl, x, .ref y, rfl, DGet.k (k := .inr "large") q1, .inl ⟨rfl, _, SqL.of q2⟩, y, _, 0, 0, .int n', rfl, rfl, q2, by decide, by decide, by simp [seqIndex?], rfl, ?_⟩
          have D2 := D1.pop q2
          obtain ⟨H3, p3, ok3, e3⟩ := D2.ok.rest n'
          refine ⟨_, rfl, x, H3, rfl, p3, ?_⟩
          exact fin H3 (D2.put ok3 e3) _ rfl
    · show (if decide (V.int r = V.int 0) = true then (_ : Prop) else _)
      rw [if_neg (by simpa using hr0)]
      exact fin H D0 _ rfl
end
end K00
namespace K00
open PySem L2 Z
section
variable {P : Program} {w : World} {K : PySem.W.Frag} {mg : Str → Option Value} {base : Heap} {f : Addr} {fd : FuncData}
theorem sc_begun : FnScope ["_law_script", "_law_large", "_law_grain"] ["_law_script"] (defScope (top 26)) := ⟨rfl, rfl, rfl, by decide +kernel, rfl, by decide +kernel, by decide +kernel⟩
theorem ok_begun (Fd : FnP K "_law_begun" (top 26) f fd) (ga : mg "abs" = none) : FnOk P w K mg base CX0 1 f fd ["_law_script"] (spBegun K) := by
  refine Fd.ok sc_begun (fun vs H Q E h => ?_) fun cdv A outer s H vs Q E hr h => ?_
  · obtain ⟨a, ns, rfl, _⟩ := h
    rfl
  · obtain ⟨a, ns, rfl, hS, hlen, hQ⟩ := h
    have nd := sc_begun.nd
    refine ⟨_, PSs.nox (pss_cons (ps_setLc (i := 1) (own := [("_law_grain", 2)]) (g := gName 2) rfl nd rfl rfl (sw_true rfl rfl rfl (by decide +kernel)) (pi_list (pv 0)) (blkOk_by (N := ["_law_script", "_law_large", "_law_grain"]) (sc := defScope (top 26)) (by decide +kernel))
        (fun _ _ _ _ _ => pg_name (i := 2) nd rfl (Or.inl rfl))
        (fun _ _ _ _ _ => pts_one (pt_cmpR op_ge (pe_callB call_abs rfl ga PyProof.Rows.boot_abs (pa_cons (pv 2) pa_nil)) (pe_op op_pow pe_int pe_int) (nomark _)))
        (fun _ _ _ _ _ => pe_op op_sub (pe_callB call_abs rfl ga PyProof.Rows.boot_abs (pa_cons (pv 2) pa_nil)) (pe_op op_pow pe_int pe_int)))
      (pss_one (ps_ret (pe_disp (pps_cons pe_str (pv 1) (pps_cons pe_str pe_int (pps_cons pe_str
        (pe_lc (own := [("_law_grain", 2)]) (g := gName 2) (tt := tYes) rfl nd (pi_list (pv 0)) (blkOk_by (N := ["_law_script", "_law_large", "_law_grain"]) (sc := defScope (top 26)) (by decide +kernel))
          (fun _ _ _ _ _ => pg_name (i := 2) nd rfl (Or.inl rfl)) (fun _ _ _ _ _ => pts_nil) (fun _ _ _ _ _ => pe_callB call_abs rfl ga PyProof.Rows.boot_abs (pa_cons (pv 2) pa_nil)))
        (pps_cons pe_str pe_int pps_nil)))) rfl rfl (by simp) (by decide))))), ?_⟩
    refine ⟨_, rfl, a, rfl, ⟨_, hS⟩, fun y hy => ?_⟩
    refine lc_list (xs := ns.map V.int) (fun i H' => ∃ ls : List Int, ls.length ≤ i ∧ Same H H' ∧ H' y = some (.lst (ls.map V.int))) ⟨[], Nat.le_refl _, fun b o e => upd_keep hy b o e, by rw [upd_same]; rfl⟩ (fun i H' _ ⟨_, _, k, _⟩ => k.seq hS) ?_ ?_
    · rintro i v H' hv ⟨ls, hls, k, e⟩
      rw [List.getElem?_map] at hv
      obtain ⟨n, hn, rfl⟩ := Option.map_eq_some_iff.mp hv
      have hi : i < ns.length := (List.getElem?_eq_some_iff.mp hn).1
      refine ⟨rfl, _, rfl, n, rfl, _, _, rfl, rfl, ⟨by decide, by decide, by decide⟩, _, _, rfl, rfl, _, rfl, ?_⟩
      by_cases c : (10 : Int) ^ (18 : Int).toNat ≤ absI n
      · show (if decide ((10 : Int) ^ (18 : Int).toNat ≤ absI n) = true then (_ : Prop) else _)
        rw [if_pos (decide_eq_true c)]
        refine ⟨_, rfl, n, rfl, _, _, rfl, rfl, ⟨by decide, by decide, by decide⟩, _, _, rfl, rfl, _, e, by have : sizeLine = 16777216 := sizeLine_eq; simp; omega, ls ++ [absI n - 10 ^ (18 : Int).toNat], by simp; omega, fun b o q => ?_, by rw [upd_same, List.map_append]; rfl⟩
        have : b ≠ y := fun z => by rw [z, hy] at q; cases q
        rw [upd_ne this]; exact k b o q
      · show (if decide ((10 : Int) ^ (18 : Int).toNat ≤ absI n) = true then (_ : Prop) else _)
        rw [if_neg (by simpa using c)]
        exact ⟨ls, by omega, k, e⟩
    · rintro H1 ⟨ls, hls, k1, e1⟩
      have hll : ls.length ≤ 63 := by simp at hls; omega
      intro x hx
      refine ⟨_, rfl, ?_⟩
      have n1 : y ≠ x := fun z => by rw [z, hx] at e1; cases e1
      refine ⟨_, rfl, ?_⟩
      have k2 : Same H (upd H1 x (.dK [])) := k1.trans fun b o q => upd_keep hx b o q
      refine ⟨a, rfl, ⟨_, k2.seq hS⟩, fun z hz => ?_⟩
      have n2 : x ≠ z := fun q => by rw [← q, upd_same] at hz; cases hz
      have n3 : y ≠ z := fun q => by rw [← q, upd_ne n1, e1] at hz; cases hz
      refine lc_list (xs := ns.map V.int) (fun i H' => ∃ cs : List Int, cs.length ≤ i ∧ Same (upd H1 x (.dK [])) H' ∧ H' z = some (.lst (cs.map V.int))) ⟨[], Nat.le_refl _, fun b o e => upd_keep hz b o e, by rw [upd_same]; rfl⟩ (fun i H' _ ⟨_, _, k, _⟩ => (k2.trans k).seq hS) ?_ ?_
      · rintro i v H' hv ⟨cs, hcs, k, e⟩
        rw [List.getElem?_map] at hv
        obtain ⟨n, hn, rfl⟩ := Option.map_eq_some_iff.mp hv
        have hi : i < ns.length := (List.getElem?_eq_some_iff.mp hn).1
        refine ⟨rfl, ?_⟩
        unfold tYes
        dsimp only
        rw [if_pos rfl]
        refine ⟨_, rfl, n, rfl, _, e, by have : sizeLine = 16777216 := sizeLine_eq; simp; omega, cs ++ [absI n], by simp; omega, fun b o q => ?_, by rw [upd_same, List.map_append]; rfl⟩
        have : b ≠ z := fun w => by rw [w, hz] at q; cases q
        rw [upd_ne this]; exact k b o q
      · rintro H2 ⟨cs, hcs, k3, e3⟩
        have hcl : cs.length ≤ 63 := by simp at hcs; omega
        have ex : H2 x = some (.dK []) := k3 x _ upd_same
        have ey : H2 y = some (.lst (ls.map V.int)) := k3 y _ (by rw [upd_ne n1]; exact e1)
        refine ⟨ex, drwD y z 0 0, rfl, by show 4 ≤ 15; decide, ?_⟩
        have hxH : H x = none := by
          cases q : H x with
          | none => rfl
          | some o => rw [k1 x o q] at hx; cases hx
        refine hQ x y z _ ⟨0, 0, ls, cs, upd_same, by rw [upd_ne n1]; exact ey, by rw [upd_ne n2.symm]; exact e3, ?_, ?_, n1.symm, n2, n3⟩ (fun b o q => ?_) hxH hy ?_
        · have : sizeLine = 16777216 := sizeLine_eq; omega
        · have : sizeLine = 16777216 := sizeLine_eq; omega
        · have : b ≠ x := fun w => by rw [w, hxH] at q; cases q
          rw [upd_ne this]
          exact (k2.trans k3) b o q
        · cases q : H z with
          | none => rfl
          | some o => rw [k2 z o q] at hz; cases hz
end
end K00
namespace K00
open PySem L2 Z
def passS : Stmt := .Pass ⟨0, 0, 0, 0⟩
end K00
end T_K00a
section T_K00l
namespace K00
open PySem L2 Z
def g_law : Ct := ⟨["_law_script", "_law_draw", "_law_words_here", "_law_each", "_law_threes_here", "_law_errors_here", "_law_spot", "_law_error", "_law_base_here", "_law_item", "_law_k"], dsc 34, dsc 34, [], [("_law_pick", 2, F_pick), ("_law_any", 1, F_any), ("_law_kinds", 1, F_kinds), ("_law_plain_errors", 1, F_plain_errors), ("_law_errors_of", 1, F_errors_of), ("repr", 1, F_reprA), ("RuleError", 1, F_RuleError)], cons, flds, [], ⟨["RuleError", "ValueError"], [], [], [], "_law_caught", false, [], [], [], "", false⟩⟩
theorem sc_law : FnScope g_law.N ["_law_script"] (defScope (top 34)) := ⟨rfl, rfl, rfl, by decide +kernel, rfl, by decide +kernel, by decide +kernel⟩
def lawB (i : Nat) : Stmt := (dbd 34).getD (i + 1) passS
theorem k_b0 : cS 60 g_law (lawB 0) = some b00_0 := by kernel_rfl
theorem k_b1 : cS 60 g_law (lawB 1) = some b00_1 := by kernel_rfl
theorem k_b2 : cS 60 g_law (lawB 2) = some b00_2 := by kernel_rfl
theorem k_b3 : cS 60 g_law (lawB 3) = some b00_3 := by kernel_rfl
theorem k_b4 : cS 60 g_law (lawB 4) = some b00_4 := by kernel_rfl
theorem k_b5 : cS 60 g_law (lawB 5) = some b00_5 := by kernel_rfl
theorem k_b6 : cS 60 g_law (lawB 6) = some b00_6 := by kernel_rfl
theorem law_for : (dbd 34).drop 1 = [lawB 0, lawB 1, lawB 2, lawB 3, lawB 4, lawB 5, lawB 6] := by kernel_rfl
section
variable {P : Program} {w : World} {K : PySem.W.Frag} {mg : Str → Option Value} {base : Heap} {f : Addr} {cdv : Value} {A : Around} {outer : List PySem.Env} {s : Shared} {H0 : Hp} {E : XK}
abbrev lawX (P : Program) (w : World) (K : PySem.W.Frag) (mg : Str → Option Value) (base : Heap) (f : Addr) (cdv : Value) (A : Around) (outer : List PySem.Env) (s : Shared) (H0 : Hp) (E : XK) : Cx := cxOf (CX1 P w) P w K mg base g_law.N "law" (defScope (top 34)) f cdv A outer s H0 E
theorem ok_body {c : Cn} {n lv : Nat} (St : Sat lv g_law (CX1 P w) c (lawX P w K mg base f cdv A outer s H0 E) E) (hK : c.K = K) (hm : c.mg = mg) (hr : Room (n + 1) (lawX P w K mg base f cdv A outer s H0 E).A) (gr : mg "range" = none) : PSs (lawX P w K mg base f cdv A outer s H0 E) ((dbd 34).drop 1) (trBs c Hn noX b00) := by
  have S := cS_ok 60 St (passes_of rfl) (XS.noX (c := c)) (H0 := Hn)
  have SE := cE_ok 60 St (XS.noX (c := c)) (H0 := Hn)
  have nd := sc_law.nd
  rw [law_for]
  exact b_cons (S _ _ k_b0) (b_cons (S _ _ k_b1) (b_cons (S _ _ k_b2) (b_cons (S _ _ k_b3) (b_cons (S _ _ k_b4) (b_cons (S _ _ k_b5) (b_cons (S _ _ k_b6) b_nil))))))
end
section
variable {P : Program} {w : World} {K : PySem.W.Frag} {mg : Str → Option Value} {base : Heap} {f fB : Addr} {fd fdB : FuncData}
theorem ok_law {k lv : Nat} {A : Around} (Fd : FnP K "law" (top 34) f fd) (FB : FnP K "_law_begun" (top 26) fB fdB) (gB : mg "_law_begun" = some (.ref fB)) (ga : mg "abs" = none) (gr : mg "range" = none) (gm : mg "min" = none) (gl : mg "len" = none) (G : Gnd K mg g_law)
    {T : List (Addr × Str)} (fns : FNT P w K mg base T lv g_law.fns) (kfns : KNX P w K mg base lv g_law.xt.kfns) (fvs : FVX P w K mg base lv g_law.xt.fvs) (lls : LLX P w K mg base lv g_law.xt.lls) (hlv : lv + 2 ≤ k + 1)
    (hA : Room (k + 2) A) (hg : A.guards = some []) :
    FnA P w K mg base (CX1 P w) A f fd ["_law_script"] (spLawT K (T.map (·.1))) := by
  have GB : FnOk P w K mg base CX0 (k + 1) fB fdB ["_law_script"] (spBegun K) := FnOk.mono (ok_begun FB ga) (by omega)
  have bB : Binds K fdB ["_law_script"] [] := FB.bindsN fun _ _ _ _ _ _ us hl => match us, hl with | [_], _ => rfl
  refine FnP.okA Fd sc_law (fun vs H Q E h => ?_) hA fun cdv outer s H vs Q E hcv hr h => ?_
  · obtain ⟨a, ns, rfl, _⟩ := h
    rfl
  · obtain ⟨a, ns, rfl, hS, hlen, hT, hQ⟩ := h
    have nd := sc_law.nd
    obtain ⟨xs0, hxs0⟩ : ∃ xs0 : CnX, xs0 = ⟨T, [], (PyProof.Rows.envOfC "law" (defScope (top 34)) s.heap.objs.size f cdv).cells, lamQ "law"⟩ := ⟨_, rfl⟩
    have St := fun (c : Cn) (h : c.K = K ∧ c.mg = mg ∧ c.xs = xs0) => sat_law0 (P := P) (w := w) (base := base) (qual := "law") (f := f) (cdv := cdv) (outer := outer) (s := s) (H := H) (E := E) sc_law rfl rfl G rfl hlv fns kfns fvs lls ⟨rfl, rfl⟩ rfl (c := c) h.1 h.2.1 (by rw [h.2.2, hxs0]) hr hg (.inl rfl)
    refine ⟨_, pss_cons (ps_set (i := 1) nd rfl (by first | exact .inl rfl | exact .inr rfl) (pe_call GB hr rfl gB FB.kp bB .nil pass0 (pa_cons (pv 0) pa_nil)))
      (PSs.exC (p := fun c : Cn => c.K = K ∧ c.mg = mg ∧ c.xs = xs0) fun c h => ok_body (St c h) h.1 h.2.1 hr gr), ?_⟩
    refine ⟨_, rfl, a, ns, rfl, hS, hlen, fun x y z H' D0 hs hx hy hz => ?_⟩
    refine ⟨⟨K, mg, some (x, y, z), xs0⟩, ⟨rfl, rfl, rfl⟩, law_read (x := x) (y := y) (z := z) (n := 9) rfl rfl rfl ⟨(fun x' y' z' e => by cases e; exact D0), fun p hp => by
          have hp : p ∈ xs0.tb := hp
          rw [hxs0] at hp
          exact LamX.TabS.nil (hs p.1 _ (hT p.1 (List.mem_map_of_mem hp)))⟩ (ev_b00 fun ρ => ⟨rfl, rfl⟩) fun H1 => hQ H1⟩
end
end K00
end T_K00l
section T_K00p
namespace K00
open PySem L2 Z
structure All (K : PySem.W.Frag) (mg : Str → Option Value) : Prop where
  blt : ∀ x ∈ blts, mg x = none
  rep : mg "repr" = none
  con : ∀ x d, cons.lookup x = some d → ∃ u v, mg x = some u ∧ RelV v u ∧ ∀ (c : Cn) R, c.K = K → c.mg = mg → Rep c R v d
  fld : ∀ f Cs, flds.lookup f = some Cs → ∀ C ∈ Cs, FldC K mg f C
  dn : ∀ i x, (i, x) ∈ defs1 ++ defs2 → Dn K mg x (top i)
  glo : ∀ q ∈ defs1 ++ defs2, mg q.2 = some (.ref (He.fAd K (q.2, none)))
  sm : ∃ o, K.lookup sysModules = some o ∧ o.cls = .type "dict"
  lawA : mg "law" = some (.ref (He.fAd K ("law", none)))
theorem All.gnd {K : PySem.W.Frag} {mg : Str → Option Value} {Γ : Ct} (A : All K mg) (h1 : Γ.cons = cons) (h2 : Γ.flds = flds) (h3 : Γ.xt.clss = [] := by rfl) : Gnd K mg Γ := ⟨A.blt, by rw [h1]; exact A.con, by rw [h2]; exact A.fld, fun C hC => by rw [h3] at hC; cases hC⟩
def xclss : List Str := ["BadPrime", "BadWord", "BadRow", "BadTable", "NotAlike", "BadMap", "NotFull", "BadLower", "BadOrder", "NotTidy", "BadWeb", "BadCells", "BadStart", "BadDeed", "BadName", "BadLive", "NothingLeft", "BadNumber", "BadBook", "TooMany", "NoWatch", "NoMark", "BadText", "RuleError", "ValueError"]
def xexcs : List Str := ["RuleError", "BadPrime", "BadWord", "BadRow", "BadTable", "NotAlike", "BadMap", "NotFull", "BadLower", "BadOrder", "NotTidy", "BadWeb", "BadCells", "BadStart", "BadDeed", "BadName", "BadLive", "NothingLeft", "BadNumber", "BadBook", "TooMany", "NoWatch", "NoMark", "BadText"]
theorem All.gndX {P : Program} {K : PySem.W.Frag} {mg : Str → Option Value} {Γ : Ct} (A : All K mg) (B : XF0 P K mg xclss xexcs) (h1 : Γ.cons = cons) (h2 : Γ.flds = flds) (h3 : ∀ C ∈ Γ.xt.clss, C ∈ xclss) : Gnd K mg Γ := ⟨A.blt, by rw [h1]; exact A.con, by rw [h2]; exact A.fld, fun C hC => B.isa C (h3 C hC)⟩
section
variable {P : Program} {w : World} {K : PySem.W.Frag} {mg : Str → Option Value} {base : Heap}
theorem cal__law_take (A : All K mg) : CalK CX0 P w K mg base 2 "_law_take" 2 F_take := by
  obtain ⟨f, fd, Fd, hm⟩ := A.dn 28 "_law_take" (by decide +kernel)
  obtain ⟨fM, fdM, FM, gM⟩ := A.dn 27 "_law_mixed" (by decide +kernel)
  exact CalK.fn (ok_take Fd FM gM (A.blt "int" (by decide +kernel)) (ok_mix FM (A.gnd rfl rfl))) hm Fd.kp (Fd.bindsN fun _ _ _ _ _ _ us hl => match us, hl with | [_, _], _ => rfl)
theorem cal_reprA (A : All K mg) (B : XF0 P K mg xclss xexcs) : CalX P w K mg base 1 "repr" 1 F_reprA := Z.calX_reprA A.rep A.sm
theorem cal_RuleError (A : All K mg) (B : XF0 P K mg xclss xexcs) : CalX P w K mg base 1 "RuleError" 1 F_RuleError := Z.calX_exc (B.rai "RuleError" (by decide +kernel))
theorem cal_BadPrime (A : All K mg) (B : XF0 P K mg xclss xexcs) : CalX P w K mg base 1 "BadPrime" 1 F_BadPrime := Z.calX_exc (B.rai "BadPrime" (by decide +kernel))
theorem cal_BadWord (A : All K mg) (B : XF0 P K mg xclss xexcs) : CalX P w K mg base 1 "BadWord" 1 F_BadWord := Z.calX_exc (B.rai "BadWord" (by decide +kernel))
theorem cal_BadRow (A : All K mg) (B : XF0 P K mg xclss xexcs) : CalX P w K mg base 1 "BadRow" 1 F_BadRow := Z.calX_exc (B.rai "BadRow" (by decide +kernel))
theorem cal_BadTable (A : All K mg) (B : XF0 P K mg xclss xexcs) : CalX P w K mg base 1 "BadTable" 1 F_BadTable := Z.calX_exc (B.rai "BadTable" (by decide +kernel))
theorem cal_NotAlike (A : All K mg) (B : XF0 P K mg xclss xexcs) : CalX P w K mg base 1 "NotAlike" 1 F_NotAlike := Z.calX_exc (B.rai "NotAlike" (by decide +kernel))
theorem cal_BadMap (A : All K mg) (B : XF0 P K mg xclss xexcs) : CalX P w K mg base 1 "BadMap" 1 F_BadMap := Z.calX_exc (B.rai "BadMap" (by decide +kernel))
theorem cal_NotFull (A : All K mg) (B : XF0 P K mg xclss xexcs) : CalX P w K mg base 1 "NotFull" 1 F_NotFull := Z.calX_exc (B.rai "NotFull" (by decide +kernel))
theorem cal_BadLower (A : All K mg) (B : XF0 P K mg xclss xexcs) : CalX P w K mg base 1 "BadLower" 1 F_BadLower := Z.calX_exc (B.rai "BadLower" (by decide +kernel))
theorem cal_BadOrder (A : All K mg) (B : XF0 P K mg xclss xexcs) : CalX P w K mg base 1 "BadOrder" 1 F_BadOrder := Z.calX_exc (B.rai "BadOrder" (by decide +kernel))
theorem cal_NotTidy (A : All K mg) (B : XF0 P K mg xclss xexcs) : CalX P w K mg base 1 "NotTidy" 1 F_NotTidy := Z.calX_exc (B.rai "NotTidy" (by decide +kernel))
theorem cal_BadWeb (A : All K mg) (B : XF0 P K mg xclss xexcs) : CalX P w K mg base 1 "BadWeb" 1 F_BadWeb := Z.calX_exc (B.rai "BadWeb" (by decide +kernel))
theorem cal_BadCells (A : All K mg) (B : XF0 P K mg xclss xexcs) : CalX P w K mg base 1 "BadCells" 1 F_BadCells := Z.calX_exc (B.rai "BadCells" (by decide +kernel))
theorem cal_BadStart (A : All K mg) (B : XF0 P K mg xclss xexcs) : CalX P w K mg base 1 "BadStart" 1 F_BadStart := Z.calX_exc (B.rai "BadStart" (by decide +kernel))
theorem cal_BadDeed (A : All K mg) (B : XF0 P K mg xclss xexcs) : CalX P w K mg base 1 "BadDeed" 1 F_BadDeed := Z.calX_exc (B.rai "BadDeed" (by decide +kernel))
theorem cal_BadName (A : All K mg) (B : XF0 P K mg xclss xexcs) : CalX P w K mg base 1 "BadName" 1 F_BadName := Z.calX_exc (B.rai "BadName" (by decide +kernel))
theorem cal_BadLive (A : All K mg) (B : XF0 P K mg xclss xexcs) : CalX P w K mg base 1 "BadLive" 1 F_BadLive := Z.calX_exc (B.rai "BadLive" (by decide +kernel))
theorem cal_NothingLeft (A : All K mg) (B : XF0 P K mg xclss xexcs) : CalX P w K mg base 1 "NothingLeft" 1 F_NothingLeft := Z.calX_exc (B.rai "NothingLeft" (by decide +kernel))
theorem cal_BadNumber (A : All K mg) (B : XF0 P K mg xclss xexcs) : CalX P w K mg base 1 "BadNumber" 1 F_BadNumber := Z.calX_exc (B.rai "BadNumber" (by decide +kernel))
theorem calW_BadNumber (A : All K mg) (B : XF0 P K mg xclss xexcs) : CalXW P w K mg base 1 "BadNumber" ["part"] [0] 1 F_BadNumber := by
  have h := Z.calX_exck (w := w) (base := base) (nm := "F_BadNumber") (B.rai "BadNumber" (by decide +kernel)) (by decide +kernel)
  rw [show attrOf "BadNumber" = "part" by decide +kernel] at h
  exact h
theorem cal_BadBook (A : All K mg) (B : XF0 P K mg xclss xexcs) : CalX P w K mg base 1 "BadBook" 1 F_BadBook := Z.calX_exc (B.rai "BadBook" (by decide +kernel))
theorem calW_BadBook (A : All K mg) (B : XF0 P K mg xclss xexcs) : CalXW P w K mg base 1 "BadBook" ["part"] [0] 1 F_BadBook := by
  have h := Z.calX_exck (w := w) (base := base) (nm := "F_BadBook") (B.rai "BadBook" (by decide +kernel)) (by decide +kernel)
  rw [show attrOf "BadBook" = "part" by decide +kernel] at h
  exact h
theorem cal_TooMany (A : All K mg) (B : XF0 P K mg xclss xexcs) : CalX P w K mg base 1 "TooMany" 1 F_TooMany := Z.calX_exc (B.rai "TooMany" (by decide +kernel))
theorem calW_TooMany (A : All K mg) (B : XF0 P K mg xclss xexcs) : CalXW P w K mg base 1 "TooMany" ["most"] [0] 1 F_TooMany := by
  have h := Z.calX_exck (w := w) (base := base) (nm := "F_TooMany") (B.rai "TooMany" (by decide +kernel)) (by decide +kernel)
  rw [show attrOf "TooMany" = "most" by decide +kernel] at h
  exact h
theorem cal_NoWatch (A : All K mg) (B : XF0 P K mg xclss xexcs) : CalX P w K mg base 1 "NoWatch" 1 F_NoWatch := Z.calX_exc (B.rai "NoWatch" (by decide +kernel))
theorem calW_NoWatch (A : All K mg) (B : XF0 P K mg xclss xexcs) : CalXW P w K mg base 1 "NoWatch" ["name"] [0] 1 F_NoWatch := by
  have h := Z.calX_exck (w := w) (base := base) (nm := "F_NoWatch") (B.rai "NoWatch" (by decide +kernel)) (by decide +kernel)
  rw [show attrOf "NoWatch" = "name" by decide +kernel] at h
  exact h
theorem cal_NoMark (A : All K mg) (B : XF0 P K mg xclss xexcs) : CalX P w K mg base 1 "NoMark" 1 F_NoMark := Z.calX_exc (B.rai "NoMark" (by decide +kernel))
theorem calW_NoMark (A : All K mg) (B : XF0 P K mg xclss xexcs) : CalXW P w K mg base 1 "NoMark" ["name"] [0] 1 F_NoMark := by
  have h := Z.calX_exck (w := w) (base := base) (nm := "F_NoMark") (B.rai "NoMark" (by decide +kernel)) (by decide +kernel)
  rw [show attrOf "NoMark" = "name" by decide +kernel] at h
  exact h
theorem cal_BadText (A : All K mg) (B : XF0 P K mg xclss xexcs) : CalX P w K mg base 1 "BadText" 1 F_BadText := Z.calX_exc (B.rai "BadText" (by decide +kernel))
theorem calW_BadText (A : All K mg) (B : XF0 P K mg xclss xexcs) : CalXW P w K mg base 1 "BadText" ["at"] [0] 1 F_BadText := by
  have h := Z.calX_exck (w := w) (base := base) (nm := "F_BadText") (B.rai "BadText" (by decide +kernel)) (by decide +kernel)
  rw [show attrOf "BadText" = "at" by decide +kernel] at h
  exact h
def g__law_pick : Ct := ⟨["_law_draw", "_law_some"], dsc 29, dsc 29, [], [("_law_take", 2, F_take)], cons, flds, [], CtX.no⟩
theorem sc__law_pick : FnScope g__law_pick.N ["_law_draw", "_law_some"] (defScope (top 29)) := ⟨rfl, rfl, rfl, by decide +kernel, rfl, by decide +kernel, by decide +kernel⟩
theorem k__law_pick : cBs (cS 60 g__law_pick) (dbd 29) = some c_pick := by kernel_rfl
theorem cal__law_pick (A : All K mg) : CalK CX0 P w K mg base 3 "_law_pick" 2 F_pick :=
  cal_of (A.dn 29 "_law_pick" (by decide +kernel)) sc__law_pick rfl rfl k__law_pick (A.gnd rfl rfl) (by decide) (fun _ _ Fd => Fd.bindsN fun _ _ _ _ _ _ us hl => match us, hl with | [_, _], _ => rfl) (fns_cons (cal__law_take A) (by decide) fns_nil) <| fun ds P E h => by
    obtain ⟨_, rfl, h0, h1⟩ := h
    exact ev_pick h0 h1
def g__law_any : Ct := ⟨["_law_draw", "_law_some"], dsc 30, dsc 30, [], [("_law_pick", 2, F_pick)], cons, flds, [], CtX.no⟩
theorem sc__law_any : FnScope g__law_any.N ["_law_draw"] (defScope (top 30)) := ⟨rfl, rfl, rfl, by decide +kernel, rfl, by decide +kernel, by decide +kernel⟩
theorem k__law_any : cBs (cS 60 g__law_any) (dbd 30) = some c_any := by kernel_rfl
theorem cal__law_any (A : All K mg) : CalK CX0 P w K mg base 4 "_law_any" 1 F_any :=
  cal_of (A.dn 30 "_law_any" (by decide +kernel)) sc__law_any rfl rfl k__law_any (A.gnd rfl rfl) (by decide) (fun _ _ Fd => Fd.bindsN fun _ _ _ _ _ _ us hl => match us, hl with | [_], _ => rfl) (fns_cons (cal__law_pick A) (by decide) fns_nil) <| fun ds P E h => by
    obtain ⟨rfl, h0⟩ := h
    exact ev_any h0
def g_F_kinds : Ct := ⟨["_law_error", "_law_found"], dsc 31, dsc 31, [], [], cons, flds, [], ⟨["BadPrime", "BadWord", "BadRow", "BadTable", "NotAlike", "BadMap", "NotFull", "BadLower", "BadOrder", "NotTidy", "BadWeb", "BadCells", "BadStart", "BadDeed", "BadName", "BadLive", "NothingLeft", "BadNumber", "BadBook", "TooMany", "NoWatch", "NoMark", "BadText"], [], [], [], "", false, [], [], [], "", false⟩⟩
theorem sc_F_kinds : FnScope g_F_kinds.N ["_law_error"] (defScope (top 31)) := ⟨rfl, rfl, rfl, by decide +kernel, rfl, by decide +kernel, by decide +kernel⟩
theorem k_F_kinds : cBs (cS 60 g_F_kinds) (dbd 31) = some c_kinds := by kernel_rfl
theorem go_F_kinds (A : All K mg) (B : XF0 P K mg xclss xexcs) : GoX P w K mg base 1 "_law_kinds" (top 31) ["_law_error"] F_kinds :=
  goX sc_F_kinds rfl rfl k_F_kinds (A.gndX B rfl rfl (by decide +kernel : ∀ C ∈ (["BadPrime", "BadWord", "BadRow", "BadTable", "NotAlike", "BadMap", "NotFull", "BadLower", "BadOrder", "NotTidy", "BadWeb", "BadCells", "BadStart", "BadDeed", "BadName", "BadLive", "NothingLeft", "BadNumber", "BadBook", "TooMany", "NoWatch", "NoMark", "BadText"] : List Str), C ∈ xclss)) fnx_nil (hex := (.inl rfl)) fun ds P E h => by
    obtain ⟨_, _, rfl, h0⟩ := h
    exact ev_kinds h0
theorem cal_F_kinds (A : All K mg) (B : XF0 P K mg xclss xexcs) : CalX P w K mg base 1 "_law_kinds" 1 F_kinds := (go_F_kinds A B).cal (A.dn 31 "_law_kinds" (by decide +kernel)) (by decide) (fun _ _ Fd => Fd.bindsN fun _ _ _ _ _ _ us hl => match us, hl with | [_], _ => rfl)
def g_F_plain_errors : Ct := ⟨["_law_words_here", "_law_found"], dsc 32, dsc 32, [], [("BadPrime", 1, F_BadPrime), ("BadWord", 1, F_BadWord), ("BadRow", 1, F_BadRow), ("BadTable", 1, F_BadTable), ("NotAlike", 1, F_NotAlike), ("BadMap", 1, F_BadMap), ("NotFull", 1, F_NotFull), ("BadLower", 1, F_BadLower), ("BadOrder", 1, F_BadOrder), ("NotTidy", 1, F_NotTidy), ("BadWeb", 1, F_BadWeb), ("BadCells", 1, F_BadCells), ("BadStart", 1, F_BadStart), ("BadDeed", 1, F_BadDeed), ("BadName", 1, F_BadName), ("BadLive", 1, F_BadLive), ("NothingLeft", 1, F_NothingLeft)], cons, flds, [], ⟨[], [], [], [], "", false, [], [], [], "", false⟩⟩
theorem sc_F_plain_errors : FnScope g_F_plain_errors.N ["_law_words_here"] (defScope (top 32)) := ⟨rfl, rfl, rfl, by decide +kernel, rfl, by decide +kernel, by decide +kernel⟩
theorem k_F_plain_errors : cBs (cS 60 g_F_plain_errors) (dbd 32) = some c_plain_errors := by kernel_rfl
theorem go_F_plain_errors (A : All K mg) (B : XF0 P K mg xclss xexcs) : GoX P w K mg base 2 "_law_plain_errors" (top 32) ["_law_words_here"] F_plain_errors :=
  goX sc_F_plain_errors rfl rfl k_F_plain_errors (A.gndX B rfl rfl (by decide +kernel : ∀ C ∈ ([] : List Str), C ∈ xclss)) (fnx_cons (cal_BadPrime A B) (by decide) (fnx_cons (cal_BadWord A B) (by decide) (fnx_cons (cal_BadRow A B) (by decide) (fnx_cons (cal_BadTable A B) (by decide) (fnx_cons (cal_NotAlike A B) (by decide) (fnx_cons (cal_BadMap A B) (by decide) (fnx_cons (cal_NotFull A B) (by decide) (fnx_cons (cal_BadLower A B) (by decide) (fnx_cons (cal_BadOrder A B) (by decide) (fnx_cons (cal_NotTidy A B) (by decide) (fnx_cons (cal_BadWeb A B) (by decide) (fnx_cons (cal_BadCells A B) (by decide) (fnx_cons (cal_BadStart A B) (by decide) (fnx_cons (cal_BadDeed A B) (by decide) (fnx_cons (cal_BadName A B) (by decide) (fnx_cons (cal_BadLive A B) (by decide) (fnx_cons (cal_NothingLeft A B) (by decide) fnx_nil))))))))))))))))) (hex := (.inl rfl)) fun ds P E h => by
    obtain ⟨_, rfl, h0⟩ := h
    exact ev_plain_errors h0
theorem cal_F_plain_errors (A : All K mg) (B : XF0 P K mg xclss xexcs) : CalX P w K mg base 2 "_law_plain_errors" 1 F_plain_errors := (go_F_plain_errors A B).cal (A.dn 32 "_law_plain_errors" (by decide +kernel)) (by decide) (fun _ _ Fd => Fd.bindsN fun _ _ _ _ _ _ us hl => match us, hl with | [_], _ => rfl)
def g_F_errors_of : Ct := ⟨["_law_each", "_law_found"], dsc 33, dsc 33, [1], [("BadNumber", 1, F_BadNumber), ("BadBook", 1, F_BadBook), ("TooMany", 1, F_TooMany), ("NoWatch", 1, F_NoWatch), ("NoMark", 1, F_NoMark), ("BadText", 1, F_BadText)], cons, flds, [], ⟨[], [], [("BadNumber", ["part"], [0], 1, F_BadNumber), ("BadBook", ["part"], [0], 1, F_BadBook), ("TooMany", ["most"], [0], 1, F_TooMany), ("NoWatch", ["name"], [0], 1, F_NoWatch), ("NoMark", ["name"], [0], 1, F_NoMark), ("BadText", ["at"], [0], 1, F_BadText)], [], "", false, [], [], [], "", false⟩⟩
theorem sc_F_errors_of : FnScope g_F_errors_of.N ["_law_each"] (defScope (top 33)) := ⟨rfl, rfl, rfl, by decide +kernel, rfl, by decide +kernel, by decide +kernel⟩
theorem k_F_errors_of : cBs (cS 60 g_F_errors_of) (dbd 33) = some c_errors_of := by kernel_rfl
theorem go_F_errors_of (A : All K mg) (B : XF0 P K mg xclss xexcs) : GoX P w K mg base 2 "_law_errors_of" (top 33) ["_law_each"] F_errors_of :=
  goX sc_F_errors_of rfl rfl k_F_errors_of (A.gndX B rfl rfl (by decide +kernel : ∀ C ∈ ([] : List Str), C ∈ xclss)) (fnx_cons (cal_BadNumber A B) (by decide) (fnx_cons (cal_BadBook A B) (by decide) (fnx_cons (cal_TooMany A B) (by decide) (fnx_cons (cal_NoWatch A B) (by decide) (fnx_cons (cal_NoMark A B) (by decide) (fnx_cons (cal_BadText A B) (by decide) fnx_nil)))))) (hex := (.inl rfl)) (kfns := (knx_cons (calW_BadNumber A B) rfl (by decide) (knx_cons (calW_BadBook A B) rfl (by decide) (knx_cons (calW_TooMany A B) rfl (by decide) (knx_cons (calW_NoWatch A B) rfl (by decide) (knx_cons (calW_NoMark A B) rfl (by decide) (knx_cons (calW_BadText A B) rfl (by decide) knx_nil))))))) fun ds P E h => by
    obtain ⟨_, rfl, h0⟩ := h
    exact ev_errors_of h0
theorem cal_F_errors_of (A : All K mg) (B : XF0 P K mg xclss xexcs) : CalX P w K mg base 2 "_law_errors_of" 1 F_errors_of := (go_F_errors_of A B).cal (A.dn 33 "_law_errors_of" (by decide +kernel)) (by decide) (fun _ _ Fd => Fd.bindsN fun _ _ _ _ _ _ us hl => match us, hl with | [_], _ => rfl)
theorem law_ok {f : Addr} (A : All K mg) (B : XF0 P K mg xclss xexcs) (hf : mg "law" = some (.ref f))  (nd : ([] : List Addr).Nodup) : ∃ fd, FnP K "law" (top 34) f fd ∧ ∀ base, FnA P w K mg base (CX1 P w) callerA f fd ["_law_script"] (spLawT K []) := by
  have ef : He.fAd K ("law", none) = f := by
    have e := A.lawA
    rw [hf] at e
    cases e
    rfl
  obtain ⟨f', fd, Fd, hm⟩ := A.dn 34 "law" (by decide +kernel)
  rw [hf] at hm
  cases hm
  obtain ⟨fB, fdB, FB, gB⟩ := A.dn 26 "_law_begun" (by decide +kernel)
  obtain ⟨T, eT⟩ : ∃ T : List (Addr × Str), T = [] := ⟨_, rfl⟩
  have e1 : T.map (·.1) = [] := by rw [eT]; rfl
  have ndT : (T.map (·.1)).Nodup := by rw [e1]; exact nd
  refine ⟨fd, Fd, fun base => ?_⟩
  rw [← e1]
  exact ok_law (k := 5) (lv := 4) Fd FB gB (A.blt "abs" (by decide +kernel)) (A.blt "range" (by decide +kernel)) (A.blt "min" (by decide +kernel)) (A.blt "len" (by decide +kernel)) (A.gndX B rfl rfl (by decide +kernel)) 
    (fnt_cons (cal__law_pick A).up.t (by decide) (fnt_cons (cal__law_any A).up.t (by decide) (fnt_cons (cal_F_kinds A B).t (by decide) (fnt_cons (cal_F_plain_errors A B).t (by decide) (fnt_cons (cal_F_errors_of A B).t (by decide) (fnt_cons (cal_reprA A B).t (by decide) (fnt_cons (cal_RuleError A B).t (by decide) fnt_nil))))))) knx_nil fvx_nil llx_nil (by decide) ⟨rfl, by decide, by decide⟩ rfl
end
end K00
end T_K00p
section T_K00q
namespace K00
open PySem PySem.Spec PyProof.Rows L2
section
variable {K : PySem.W.Frag} {h : Heap} {mg : Str → Option Value}
theorem facts_ok (X : K.In h) (G : h.Ns mainGlobals mg) (hx : xt K = true) (hs : cs.map (Hy.supV K) = sv) (c : He.SaysD fa fn K) : All K mg ∧ Z.XF0 R.prog K mg xclss xexcs := by
  have fr2 : ∀ x ∈ blt0 ++ frees, mg x = none := fun x hx => He.free_ok X G (c.facts (f := .free x) (List.mem_append_right _ (List.mem_map_of_mem hx)))
  have fr : ∀ x ∈ Z.blts, mg x = none := fun x hx => fr2 x (List.mem_append_left _ hx)
  have gl : ∀ q ∈ defs1 ++ defs2, mg q.2 = some (.ref (He.ga K q.2)) := fun q hq => He.glo_ok X G (c.facts (f := .glo q.2) (List.mem_append_left _ (List.mem_append_left _ (List.mem_append_right _ (by rw [← List.map_append]; exact List.mem_map_of_mem hq)))))
  have gx : ∀ x ∈ es ++ is, mg x = some (.ref (He.ga K x)) := fun x hx => He.glo_ok X G (c.facts (f := .glo x) (List.mem_append_left _ (List.mem_append_right _ (List.mem_map_of_mem hx))))
  have hsm := (Z.bn hx).1
  have hx := (Z.bn hx).2
  have hve := (Z.bn hx).1
  have hx := (Z.bn hx).2
  obtain ⟨hx, hy⟩ := Z.bn hx
  obtain ⟨y1, hy⟩ := Z.bn hy
  obtain ⟨y2, hy⟩ := Z.bn hy
  obtain ⟨y3, hy⟩ := Z.bn hy
  obtain ⟨y4, y5⟩ := Z.bn hy
  have sU0 : Hy.supV K "BadNumber" = tU0.val := (List.cons.inj hs).1
  have sU1 : Hy.supV K "BadBook" = tU1.val := (List.cons.inj (List.cons.inj hs).2).1
  have sU2 : Hy.supV K "TooMany" = tU2.val := (List.cons.inj (List.cons.inj (List.cons.inj hs).2).2).1
  have sU3 : Hy.supV K "NoWatch" = tU3.val := (List.cons.inj (List.cons.inj (List.cons.inj (List.cons.inj hs).2).2).2).1
  have sU4 : Hy.supV K "NoMark" = tU4.val := (List.cons.inj (List.cons.inj (List.cons.inj (List.cons.inj (List.cons.inj hs).2).2).2).2).1
  have sU5 : Hy.supV K "BadText" = tU5.val := (List.cons.inj (List.cons.inj (List.cons.inj (List.cons.inj (List.cons.inj (List.cons.inj hs).2).2).2).2).2).1
  have N : Z.Know K mg es is := ⟨fun x hx => by
      have m : x ∈ Z.errN := by unfold Z.isExc at hx; simpa using hx
      rcases (by decide +kernel : ∀ x ∈ Z.errN, x ∈ es ∨ x ∈ frees) x m with q | q
      · exact .inl q
      · exact .inr (fr2 x (List.mem_append_right _ q)), fun x hx => by
      have m : x ∈ Z.insN := by simpa using hx
      rcases (by decide +kernel : ∀ x ∈ Z.insN, x ∈ is ∨ x ∈ frees) x m with q | q
      · exact .inl q
      · exact .inr (fr2 x (List.mem_append_right _ q)), fun x hx => gx x (List.mem_append.mpr hx)⟩
  have A : All K mg := by
    refine ⟨fr, fr2 "repr" (by decide +kernel), fun x d e => ?_, fun f Cs e C hC => ?_, fun i x hi => ?_, gl, Z.smB_ok hsm, gl (34, "law") (by decide +kernel)⟩
    · unfold cons at e
      cases e
    · unfold flds at e
      rw [List.lookup_cons] at e
      split at e
      · rename_i q
        cases e
        rw [eq_of_beq q]
        have hC2 := hC
        simp only [List.mem_cons, List.not_mem_nil, or_false] at hC2
        rcases hC2 with rfl | rfl
        · exact Z.fld_exc N (by decide +kernel) (by decide +kernel) (Z.dq (decide_eq_true (List.all_eq_true.mp y4 ("part", "BadBook") (by decide +kernel))))
        · exact Z.fld_exc N (by decide +kernel) (by decide +kernel) (Z.dq (decide_eq_true (List.all_eq_true.mp y4 ("part", "BadNumber") (by decide +kernel))))
      rw [List.lookup_cons] at e
      split at e
      · rename_i q
        cases e
        rw [eq_of_beq q]
        have hC2 := hC
        simp only [List.mem_cons, List.not_mem_nil, or_false] at hC2
        rcases hC2 with rfl
        · exact Z.fld_exc N (by decide +kernel) (by decide +kernel) (Z.dq (decide_eq_true (List.all_eq_true.mp y4 ("most", "TooMany") (by decide +kernel))))
      rw [List.lookup_cons] at e
      split at e
      · rename_i q
        cases e
        rw [eq_of_beq q]
        have hC2 := hC
        simp only [List.mem_cons, List.not_mem_nil, or_false] at hC2
        rcases hC2 with rfl | rfl
        · exact Z.fld_exc N (by decide +kernel) (by decide +kernel) (Z.dq (decide_eq_true (List.all_eq_true.mp y4 ("name", "NoWatch") (by decide +kernel))))
        · exact Z.fld_exc N (by decide +kernel) (by decide +kernel) (Z.dq (decide_eq_true (List.all_eq_true.mp y4 ("name", "NoMark") (by decide +kernel))))
      rw [List.lookup_cons] at e
      split at e
      · rename_i q
        cases e
        rw [eq_of_beq q]
        have hC2 := hC
        simp only [List.mem_cons, List.not_mem_nil, or_false] at hC2
        rcases hC2 with rfl
        · exact Z.fld_exc N (by decide +kernel) (by decide +kernel) (Z.dq (decide_eq_true (List.all_eq_true.mp y4 ("at", "BadText") (by decide +kernel))))
      cases e
    · obtain ⟨fd, F⟩ := c.defs (d := dOf i x) ((by
        unfold fn
        rw [← List.map_append]
        exact List.mem_map.mpr ⟨(i, x), hi, rfl⟩))
      exact ⟨_, fd, F, gl (i, x) hi⟩
  refine ⟨A, ⟨fun C hC => ⟨by
    by_cases hv : C = "ValueError"
    · subst hv
      exact Z.isaV_by N (fr2 "ValueError" (by decide +kernel)) hve
    · exact Z.isa_by N ((by decide +kernel : ∀ C ∈ xclss, C ≠ "ValueError" → C ∈ es ∨ C ∈ is) C hC hv) (List.all_eq_true.mp y1 C ((by decide +kernel : ∀ C ∈ xclss, C ≠ "ValueError" → C ∈ (["BadPrime", "BadWord", "BadRow", "BadTable", "NotAlike", "BadMap", "NotFull", "BadLower", "BadOrder", "NotTidy", "BadWeb", "BadCells", "BadStart", "BadDeed", "BadName", "BadLive", "NothingLeft", "BadNumber", "BadBook", "TooMany", "NoWatch", "NoMark", "BadText", "RuleError"] : List Str)) C hC hv)), (by decide +kernel : ∀ C ∈ xclss, (C == ("__debug__" : Str)) = false) C hC⟩, fun C hC => ?_, Z.hex_by N y5⟩⟩
  · rcases (by decide +kernel : ∀ C ∈ xexcs, C ∈ (["RuleError", "BadPrime", "BadWord", "BadRow", "BadTable", "NotAlike", "BadMap", "NotFull", "BadLower", "BadOrder", "NotTidy", "BadWeb", "BadCells", "BadStart", "BadDeed", "BadName", "BadLive", "NothingLeft"] : List Str) ∨ C = "BadNumber" ∨ C = "BadBook" ∨ C = "TooMany" ∨ C = "NoWatch" ∨ C = "NoMark" ∨ C = "BadText") C hC with q | rfl | rfl | rfl | rfl | rfl | rfl
    · exact Z.rai_plain N ((by decide +kernel : ∀ C ∈ (["RuleError", "BadPrime", "BadWord", "BadRow", "BadTable", "NotAlike", "BadMap", "NotFull", "BadLower", "BadOrder", "NotTidy", "BadWeb", "BadCells", "BadStart", "BadDeed", "BadName", "BadLive", "NothingLeft"] : List Str), C ∈ es) C q) ((by decide +kernel : ∀ C ∈ (["RuleError", "BadPrime", "BadWord", "BadRow", "BadTable", "NotAlike", "BadMap", "NotFull", "BadLower", "BadOrder", "NotTidy", "BadWeb", "BadCells", "BadStart", "BadDeed", "BadName", "BadLive", "NothingLeft"] : List Str), Z.isExc C = true) C q) ((by decide +kernel : ∀ C ∈ (["RuleError", "BadPrime", "BadWord", "BadRow", "BadTable", "NotAlike", "BadMap", "NotFull", "BadLower", "BadOrder", "NotTidy", "BadWeb", "BadCells", "BadStart", "BadDeed", "BadName", "BadLive", "NothingLeft"] : List Str), Z.hasAt C = false) C q) ((by decide +kernel : ∀ C ∈ (["RuleError", "BadPrime", "BadWord", "BadRow", "BadTable", "NotAlike", "BadMap", "NotFull", "BadLower", "BadOrder", "NotTidy", "BadWeb", "BadCells", "BadStart", "BadDeed", "BadName", "BadLive", "NothingLeft"] : List Str), (C == ("__debug__" : Str)) = false) C q) (List.all_eq_true.mp y2 C q)
    · obtain ⟨txt, hb⟩ := Z.supT_ok (show Z.supT (Z.attrOf "BadNumber") "part" (tU0.body) = true by kernel_rfl)
      exact Z.rai_sup N (by decide +kernel) (by decide +kernel) (by decide +kernel) (by decide +kernel) (Z.sup_by (x := "BadNumber") (arg := "part") (txt := txt) (t := tU0) N (List.all_eq_true.mp y3 ("BadNumber", "BadNumber.__init__") (by decide +kernel)) sU0 (fr2 "super" (by decide +kernel)) (by decide +kernel)
        (fun doc pm an ct cd cc qn a b => ⟨by kernel_rfl, by kernel_rfl⟩) ⟨_, rfl, rfl⟩ hb ⟨rfl, rfl, rfl, by decide +kernel, by decide +kernel, by decide +kernel, by decide +kernel, by decide +kernel, by decide +kernel, by decide +kernel⟩)
    · obtain ⟨txt, hb⟩ := Z.supT_ok (show Z.supT (Z.attrOf "BadBook") "part" (tU1.body) = true by kernel_rfl)
      exact Z.rai_sup N (by decide +kernel) (by decide +kernel) (by decide +kernel) (by decide +kernel) (Z.sup_by (x := "BadBook") (arg := "part") (txt := txt) (t := tU1) N (List.all_eq_true.mp y3 ("BadBook", "BadBook.__init__") (by decide +kernel)) sU1 (fr2 "super" (by decide +kernel)) (by decide +kernel)
        (fun doc pm an ct cd cc qn a b => ⟨by kernel_rfl, by kernel_rfl⟩) ⟨_, rfl, rfl⟩ hb ⟨rfl, rfl, rfl, by decide +kernel, by decide +kernel, by decide +kernel, by decide +kernel, by decide +kernel, by decide +kernel, by decide +kernel⟩)
    · obtain ⟨txt, hb⟩ := Z.supT_ok (show Z.supT (Z.attrOf "TooMany") "most" (tU2.body) = true by kernel_rfl)
      exact Z.rai_sup N (by decide +kernel) (by decide +kernel) (by decide +kernel) (by decide +kernel) (Z.sup_by (x := "TooMany") (arg := "most") (txt := txt) (t := tU2) N (List.all_eq_true.mp y3 ("TooMany", "TooMany.__init__") (by decide +kernel)) sU2 (fr2 "super" (by decide +kernel)) (by decide +kernel)
        (fun doc pm an ct cd cc qn a b => ⟨by kernel_rfl, by kernel_rfl⟩) ⟨_, rfl, rfl⟩ hb ⟨rfl, rfl, rfl, by decide +kernel, by decide +kernel, by decide +kernel, by decide +kernel, by decide +kernel, by decide +kernel, by decide +kernel⟩)
    · obtain ⟨txt, hb⟩ := Z.supT_ok (show Z.supT (Z.attrOf "NoWatch") "name" (tU3.body) = true by kernel_rfl)
      exact Z.rai_sup N (by decide +kernel) (by decide +kernel) (by decide +kernel) (by decide +kernel) (Z.sup_by (x := "NoWatch") (arg := "name") (txt := txt) (t := tU3) N (List.all_eq_true.mp y3 ("NoWatch", "NoWatch.__init__") (by decide +kernel)) sU3 (fr2 "super" (by decide +kernel)) (by decide +kernel)
        (fun doc pm an ct cd cc qn a b => ⟨by kernel_rfl, by kernel_rfl⟩) ⟨_, rfl, rfl⟩ hb ⟨rfl, rfl, rfl, by decide +kernel, by decide +kernel, by decide +kernel, by decide +kernel, by decide +kernel, by decide +kernel, by decide +kernel⟩)
    · obtain ⟨txt, hb⟩ := Z.supT_ok (show Z.supT (Z.attrOf "NoMark") "name" (tU4.body) = true by kernel_rfl)
      exact Z.rai_sup N (by decide +kernel) (by decide +kernel) (by decide +kernel) (by decide +kernel) (Z.sup_by (x := "NoMark") (arg := "name") (txt := txt) (t := tU4) N (List.all_eq_true.mp y3 ("NoMark", "NoMark.__init__") (by decide +kernel)) sU4 (fr2 "super" (by decide +kernel)) (by decide +kernel)
        (fun doc pm an ct cd cc qn a b => ⟨by kernel_rfl, by kernel_rfl⟩) ⟨_, rfl, rfl⟩ hb ⟨rfl, rfl, rfl, by decide +kernel, by decide +kernel, by decide +kernel, by decide +kernel, by decide +kernel, by decide +kernel, by decide +kernel⟩)
    · obtain ⟨txt, hb⟩ := Z.supT_ok (show Z.supT (Z.attrOf "BadText") "at" (tU5.body) = true by kernel_rfl)
      exact Z.rai_sup N (by decide +kernel) (by decide +kernel) (by decide +kernel) (by decide +kernel) (Z.sup_by (x := "BadText") (arg := "at") (txt := txt) (t := tU5) N (List.all_eq_true.mp y3 ("BadText", "BadText.__init__") (by decide +kernel)) sU5 (fr2 "super" (by decide +kernel)) (by decide +kernel)
        (fun doc pm an ct cd cc qn a b => ⟨by kernel_rfl, by kernel_rfl⟩) ⟨_, rfl, rfl⟩ hb ⟨rfl, rfl, rfl, by decide +kernel, by decide +kernel, by decide +kernel, by decide +kernel, by decide +kernel, by decide +kernel, by decide +kernel⟩)
end
end K00
end T_K00q
open PySem PySem.W PySem.Calls PyProof.Rows
theorem PySem.Challenge.cw_ruleshadows_k00_errors_of_all_parts_holds : PySem.Challenge.rw_ruleshadows_k00_errors_of_all_parts.Holds := by
  w_on; o_law
  refine HandSHeadRun.head_any (r := OpenLaw.row PySem.Challenge.rw_ruleshadows_k00_errors_of_all_parts) (q := view (OpenLaw.row PySem.Challenge.rw_ruleshadows_k00_errors_of_all_parts).prog [34]) (H := K00.hk) (ob := K00.ob) (M := 8000) (loose := K00.loose) (d := HandSHeadRun.topDef (OpenLaw.row PySem.Challenge.rw_ruleshadows_k00_errors_of_all_parts).prog 34) (kwd := []) K00.ob_eq
    (by kernel_rfl) (fun s => by kernel_rfl) K00.run (by kernel_rfl) (by kernel_rfl) (by kernel_rfl) (by rfl) (by first | assumption | decide +kernel) (by decide +kernel) ⟨rfl, rfl, rfl, rfl, rfl, by decide +kernel⟩ ?hw ?hc
  case hw => w_witness2
  case hc =>
    refine Z.walk_ofU (l := PySem.Challenge.rw_ruleshadows_k00_errors_of_all_parts) (n := 63) (x := "_law_script") (CX := fun w => Z.CX1 (PySem.Challenge.rw_ruleshadows_k00_errors_of_all_parts).prog w) rfl (by decide) (by kernel_rfl) ?F (fun _ _ _ _ _ z => by obtain ⟨_, _, _, _, _, _, _, _, _, _, _, _, h⟩ := z; exact h)
    intro w mg fa h Y G hmg0
    obtain ⟨K, KX, hx, hl, hs, c⟩ := Y
    have hmg : mg ("law" : PySem.Str) = some (.ref fa) := by
      have e : (HandSHeadRun.topDef (OpenLaw.row PySem.Challenge.rw_ruleshadows_k00_errors_of_all_parts).prog 34).name = ("law" : PySem.Str) := by kernel_rfl
      rw [← e]
      exact hmg0
    obtain ⟨A, B⟩ := K00.facts_ok KX G hx hs c

    have nd : ([] : List Addr).Nodup := by simp
    obtain ⟨fd, Fd, ok⟩ := K00.law_ok (w := w) A B hmg  nd
    have b := L2.FunD.bindsA (ps := ["_law_script"]) Fd fun _ _ _ _ _ _ us hl => match us, hl with | [_], _ => rfl
    refine ⟨K, fd, Z.spLawT K [], [], KX, fun p hp => ?_, fun s v => b s [v] rfl, fun H a ns hl ht hS => ⟨a, ns, rfl, hS, hl, fun Q hQ => ?_, fun _ => rfl⟩, fun base _ _ TB => ok base ⟩
    · cases hp

    · cases hQ
