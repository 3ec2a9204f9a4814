import PyProof.Rows.All
import HandS.ForMost
import HandS.Lambda
import HandS.ForExc
import HandS.IsInst
import HandS.Flow
import HandS.Wide
import HandS.Deep
import HandS.Style
import HandS.TupAny
import HandS.SortInts
import HandS.Zip
import HandS.ExcIs
import HandS.ExcField
import HandS.WordsDict
import HandS.SetFor
import HandS.Strs
import HandS.More
import HandS.ExcOwn
import PyProof.TupleOfSeq
import HandS.Conv
import HandS.Small
import HandS.Ends
import HandS.Words
import HandS.WordsExc
import HandS.TupMul
import HandS.MakeKwOnly
import HandS.Defaults
import HandS.ClsMeth
import HandS.Iter
import PyProof.ReprRoads
import PyProof.FactsAll.dict_1
import PyProof.EqKinds
import PyProof.Rows.StrJoinMade
import HandS.ExcInit
import KE.KExcInit
import KE.KExcLine
import KE.RegKIsAll
import KE.RegKTryMore
import HandS.OwnEq
import HandS.SlotsOwn
import HandS.RaiseMore
import KE.KDictPairs
import KE.GoesEnum
import HandS.TupLe
import HandS.NamedTupSort
import HandS.DictTup
import KE.KSortTup
import HandS.Head2
import HandS.HeadHook2
import HandS.HeadEnd
import HandS.FStr
import KE.SortKeyHeap
import KE.DataMinKey
import HandS.EndBits
import KE.KSortKey
import PyProof.Rows.RuleN_abs
import PyProof.FactsAll.bool_1
import PyProof.InstNe
import HandS.SortKw
import HandS.RevRange
import KE.KUnpackStar
import KE.DatumOrd
import KE.GoesEnumKw
import PyProof.SumAny
import HandS.MapJoin
import KE.KCallOwn
import PyProof.StrOps2
import PyProof.Rows.Range3
import HandS.DictSub
import PySem.Challenge.RW_twofree_k02_refusals_made
set_option Elab.async false
set_option linter.all false
set_option maxRecDepth 100000
namespace Z
open PySem L2
def gb (K : PySem.W.Frag) : Bool := K.all fun p => match p.2.cls with
 | .type s => s != "list"
 | _ => true
end Z
set_option maxHeartbeats 4000000
set_option maxHeartbeats 4000000
set_option maxHeartbeats 4000000
set_option maxHeartbeats 4000000
set_option maxHeartbeats 4000000
namespace Z
open PySem L2 PySem.Spec PyProof.Rows
def l4 (s : Stmt) : List Stmt := match s with
 | .ClassDef (body := b) .. => b
 | _ => []
def bW (s : Stmt) (j : Nat) : Stmt := (l4 s).getD j (.Pass ⟨0, 0, 0, 0⟩)
end Z
set_option maxHeartbeats 4000000
set_option maxHeartbeats 4000000
set_option maxHeartbeats 4000000
namespace Z
open PySem L2 PySem.Spec PyProof.Rows
def gH (g : Addr → Option Obj) (as : List Addr) : List Addr := as.flatMap fun a => match g a with
 | some o => He.refsD o
 | none => []
def asZ (g : Addr → Option Obj) : List Addr :=
 let l1 := gH g [mainGlobals]
 let l2 := gH g l1
 let l3 := gH g (l2.eraseDups)
 mainGlobals :: cStatics :: (l1 ++ l2.eraseDups ++ l3 ++ gH g l3)
abbrev Fl : Type := List (List (PySem.W.Frag → Bool))
def ik (fl : Fl) (K : PySem.W.Frag) : Bool := fl.all fun l => l.all fun f => f K
def obsZ (fl : Fl) (fn : List He.DefD) (K : PySem.W.Frag) : He.AlD := ((ik fl K) && fn.all fun d => d.ok K, fn.map fun d => He.fnW K d.at_)
def valZ (fn : List He.DefD) : He.AlD := (true, fn.map He.DefD.val)
def gm (fl : Fl) (fn : List He.DefD) (K : PySem.W.Frag) : Prop := obsZ fl fn K = valZ fn
def i8 (fl : Fl) (fn : List He.DefD) (g : Addr → Option Obj) : He.AlD := obsZ fl fn (He.frG g (asZ g))
def ie (fl : Fl) (fn : List He.DefD) : PySem.W.Hook where
 α := He.AlD
 obs := fun s => i8 fl fn s.heap.get?
 val := fun _ => valZ fn
 says := fun _ h => ∃ K : PySem.W.Frag, K.In h ∧ gm fl fn K
 of := fun _ _ e => ⟨_, He.frG_in, e⟩
 keeps := fun _ _ _ ⟨K, hK, c⟩ k => ⟨K, PySem.W.Frag.In.keeps hK k, c⟩
theorem kr {fl : Fl} {fn : List He.DefD} {g : Addr → Option Obj} {s : Shared} (h : ∀ a, g a = s.heap.get? a) : i8 fl fn g = (ie fl fn).obs s := by
 have e : g = s.heap.get? := funext h
 rw [e] <;> rfl
def conB (K : PySem.W.Frag) (x : Str) (vs : List V) : Bool := decide (PySem.W.nsIn K mainGlobals x = some (some (.ref (He.ga K x)))) && (match K.lookup (He.ga K x) with
 | some ⟨.type c, _, .seq its _, _⟩ => decide (c = "tuple") && He.relAll vs its.toList
 | _ => false)
def fcB (K : PySem.W.Frag) (C : Addr) (m : Str) (u : Value) : Bool := match PySem.W.findCls K (.ref C) (.type "type") m with
 | some (.val v) => decide (v = u)
 | _ => false
end Z
set_option maxHeartbeats 4000000
set_option maxHeartbeats 4000000
namespace Z
open PySem PySem.W L2
variable {K : Frag} {C D : Addr} {c n d m t : String}
def fA (K : Frag) (c n : String) : Bool := decide (findIn K (.ref (He.ga K (Str.ofString c))) (Str.ofString n) = some none)
def fB (K : Frag) (c n d m : String) : Bool := decide (findIn K (.ref (He.ga K (Str.ofString c))) (Str.ofString n) = some (some (.ref (He.ma K (He.ga K (Str.ofString d)) (Str.ofString m)))))
def fC (K : Frag) (n : String) : Bool := decide (nsIn K mainGlobals (Str.ofString n) = some (some (.ref (He.ga K (Str.ofString n)))))
def fE (K : Frag) (c t : String) : Bool := decide (kitOne K (.ref (He.ga K (Str.ofString c))) (.type t) = some false)
def fF (K : Frag) (c n b : String) : Bool := decide (findIn K (.ref (He.ga K (Str.ofString c))) (Str.ofString n) = some (some (.builtin b)))
def fG (K : Frag) (n : String) : Bool := decide (nsIn K mainGlobals (Str.ofString n) = some none)
end Z
set_option maxHeartbeats 4000000
namespace Z
open PySem L2 PySem.Spec PyProof.Rows
def fcT (K : PySem.W.Frag) (b : String) (u : Value) : Bool := match PySem.W.findCls K (.type b) (.type "type") "__init__" with
 | some (.val v) => decide (v = u)
 | _ => false
end Z
namespace Z
open PySem L2 PySem.Spec PyProof.Rows
theorem kq {f1 f2 : Fl} {n1 n2 : List He.DefD} {K : PySem.W.Frag} (h1 : obsZ f1 n1 K = valZ n1) (h2 : obsZ f2 n2 K = valZ n2) : obsZ (f1 ++ f2) (n1 ++ n2) K = valZ (n1 ++ n2) := by
 have a1 : (ik f1 K && n1.all fun d => d.ok K) = true := congrArg (fun z : He.AlD => z.1) h1
 have a2 : (ik f2 K && n2.all fun d => d.ok K) = true := congrArg (fun z : He.AlD => z.1) h2
 have b1 : n1.map (fun d => He.fnW K d.at_) = n1.map He.DefD.val := congrArg (fun z : He.AlD => z.2) h1
 have b2 : n2.map (fun d => He.fnW K d.at_) = n2.map He.DefD.val := congrArg (fun z : He.AlD => z.2) h2
 rw [Bool.and_eq_true] at a1 a2
 have c1 : (ik (f1 ++ f2) K && (n1 ++ n2).all fun d => d.ok K) = true := by
  unfold ik at a1 a2 ⊢
  rw [List.all_append, List.all_append, a1.1, a1.2, a2.1, a2.2]; rfl
 have c2 : (n1 ++ n2).map (fun d => He.fnW K d.at_) = (n1 ++ n2).map He.DefD.val := by rw [List.map_append, List.map_append, b1, b2]
 show ((ik (f1 ++ f2) K && (n1 ++ n2).all fun d => d.ok K), (n1 ++ n2).map fun d => He.fnW K d.at_) = (true, (n1 ++ n2).map He.DefD.val)
 rw [c1, c2]
abbrev obZ (fl : Fl) (fn : List He.DefD) (s : PySem.W.SharedT) : He.AlD := i8 fl fn (HandSHeadRun.getT s)
end Z
set_option maxHeartbeats 4000000
set_option maxHeartbeats 4000000
set_option maxHeartbeats 4000000
set_option maxHeartbeats 4000000
set_option maxHeartbeats 4000000
namespace Z
open PySem PySem.W L2
section
variable {K : Frag} {c d t : String}
def fT (K : Frag) (t c : String) : Bool := decide (kitOne K (.type t) (.ref (He.ga K (Str.ofString c))) = some false)
def fU (K : Frag) (c d : String) : Bool := decide (kitOne K (.ref (He.ga K (Str.ofString c))) (.ref (He.ga K (Str.ofString d))) = some true)
def fV (K : Frag) (c d : String) : Bool := decide (kitOne K (.ref (He.ga K (Str.ofString c))) (.ref (He.ga K (Str.ofString d))) = some false)
end
end Z
set_option maxHeartbeats 4000000
set_option maxHeartbeats 4000000
set_option maxHeartbeats 4000000
set_option maxHeartbeats 4000000
set_option maxHeartbeats 4000000
set_option maxHeartbeats 4000000
set_option maxHeartbeats 4000000
set_option maxHeartbeats 4000000
set_option maxHeartbeats 4000000
set_option maxHeartbeats 4000000
set_option maxHeartbeats 2000000
set_option maxHeartbeats 2000000
set_option maxHeartbeats 2000000
set_option maxHeartbeats 2000000
namespace Z
open PySem L2 PySem.Spec PyProof.Rows
def n0 (r : PySem.W.OpenRow) (n : List He.DefD) (ob : PySem.W.SharedT → He.AlD) (M : Nat) (w : World) : Prop :=
 ∀ os : OsState, (HandSHeadRun.endF (HandSHeadRun.stepQ (HandSHeadRun.denQ HandSHeadRun.tabQ) r.prog w) M r.prog w os).map ob = some (valZ n)
theorem g4 {r : PySem.W.OpenRow} {q : Program} {M : Nat} {loose : List PySem.Str} {w : World} {f1 f2 : Fl} {n1 n2 : List He.DefD}
  (h1 : HandSHeadRun.RunEq r q (ie f1 n1) (obZ f1 n1) M loose w) (h2 : n0 r n2 (obZ f2 n2) M w) :
  HandSHeadRun.RunEq r q (ie (f1 ++ f2) (n1 ++ n2)) (obZ (f1 ++ f2) (n1 ++ n2)) M loose w := by
 intro os
 have z1 := h1 os
 have z2 := h2 os
 obtain ⟨s, e, g1⟩ := Option.map_eq_some_iff.mp z1
 rw [e, Option.map_some] at z2
 have k4 : obZ f2 n2 s = valZ n2 := Option.some.inj z2
 rw [e, Option.map_some]
 have k1 := (Prod.mk.inj g1).1
 have k2 := (Prod.mk.inj (Prod.mk.inj g1).2).1
 have k3 : obZ f1 n1 s = valZ n1 := (Prod.mk.inj (Prod.mk.inj g1).2).2
 have k5 : obZ (f1 ++ f2) (n1 ++ n2) s = valZ (n1 ++ n2) := kq k3 k4
 exact congrArg some (Prod.ext k1 (Prod.ext k2 k5))
end Z
set_option maxHeartbeats 4000000
set_option maxHeartbeats 4000000
set_option maxHeartbeats 4000000
set_option maxHeartbeats 4000000
set_option maxHeartbeats 4000000
set_option maxHeartbeats 4000000
set_option maxHeartbeats 4000000
set_option maxHeartbeats 4000000
set_option maxHeartbeats 4000000
set_option maxHeartbeats 4000000
set_option maxHeartbeats 4000000
namespace K02
open PySem L2 Z PySem.Spec PyProof.Rows
def top (i : Nat) : Stmt := PySem.Challenge.pw_twofree_k02_refusals_made.main.body.getD i (.Pass ⟨0, 0, 0, 0⟩)
abbrev aw : Stmt := top 23
abbrev aL : Stmt := bW (top 2) 0
abbrev aH : Stmt := bW (top 3) 0
abbrev az : Stmt := bW (top 4) 0
abbrev aP : Stmt := bW (top 5) 0
abbrev aG : Stmt := bW (top 6) 0
abbrev aB : Stmt := bW (top 7) 0
abbrev aO : Stmt := bW (top 8) 0
abbrev av : Stmt := bW (top 9) 0
abbrev aF : Stmt := bW (top 10) 0
abbrev ay : Stmt := bW (top 15) 0
abbrev aA : Stmt := bW (top 18) 0
abbrev aI : Stmt := bW (top 19) 0
abbrev aC : Stmt := bW (top 16) 0
abbrev aT : Stmt := top 25
abbrev aK : Stmt := top 24
abbrev aE : Stmt := top 26
abbrev aD : Stmt := top 27
abbrev cw : Stmt := top 28
abbrev dd0 : He.DefD := ⟨("_law_numbers", none), "_law_numbers", "_law_numbers", defArgs aw, defBody aw, defScope aw, [], []⟩
abbrev dd1 : He.DefD := ⟨("NoSet", some "__init__"), "__init__", "NoSet.__init__", defArgs aL, defBody aL, defScope aL, [], []⟩
abbrev dd2 : He.DefD := ⟨("NoRule", some "__init__"), "__init__", "NoRule.__init__", defArgs aH, defBody aH, defScope aH, [], []⟩
abbrev dd3 : He.DefD := ⟨("NotFree", some "__init__"), "__init__", "NotFree.__init__", defArgs az, defBody az, defScope az, [], []⟩
abbrev dd4 : He.DefD := ⟨("Free", some "__init__"), "__init__", "Free.__init__", defArgs aP, defBody aP, defScope aP, [], []⟩
abbrev dd5 : He.DefD := ⟨("NoSize", some "__init__"), "__init__", "NoSize.__init__", defArgs aG, defBody aG, defScope aG, [], []⟩
abbrev dd6 : He.DefD := ⟨("NoRules", some "__init__"), "__init__", "NoRules.__init__", defArgs aB, defBody aB, defScope aB, [], []⟩
abbrev dd7 : He.DefD := ⟨("Tied", some "__init__"), "__init__", "Tied.__init__", defArgs aO, defBody aO, defScope aO, [], []⟩
abbrev dd8 : He.DefD := ⟨("NoArrows", some "__init__"), "__init__", "NoArrows.__init__", defArgs av, defBody av, defScope av, [], []⟩
abbrev dd9 : He.DefD := ⟨("NoText", some "__init__"), "__init__", "NoText.__init__", defArgs aF, defBody aF, defScope aF, [], []⟩
abbrev pM : He.DefD := ⟨("TooMany", some "__init__"), "__init__", "TooMany.__init__", defArgs ay, defBody ay, defScope ay, [], []⟩
abbrev pL : He.DefD := ⟨("NoThing", some "__init__"), "__init__", "NoThing.__init__", defArgs aA, defBody aA, defScope aA, [], []⟩
abbrev pK : He.DefD := ⟨("NoName", some "__init__"), "__init__", "NoName.__init__", defArgs aI, defBody aI, defScope aI, [], []⟩
abbrev pJ : He.DefD := ⟨("NoDeeds", some "__init__"), "__init__", "NoDeeds.__init__", defArgs aC, defBody aC, defScope aC, [], []⟩
abbrev pI : He.DefD := ⟨("_law_all", none), "_law_all", "_law_all", defArgs aT, defBody aT, defScope aT, [], []⟩
abbrev pH : He.DefD := ⟨("_law_kinds", none), "_law_kinds", "_law_kinds", defArgs aK, defBody aK, defScope aK, [], []⟩
abbrev pG : He.DefD := ⟨("_law_fields", none), "_law_fields", "_law_fields", defArgs aE, defBody aE, defScope aE, [], []⟩
abbrev pF : He.DefD := ⟨("_law_raised", none), "_law_raised", "_law_raised", defArgs aD, defBody aD, defScope aD, [], []⟩
abbrev pE : He.DefD := ⟨("law", none), "law", "law", defArgs cw, defBody cw, defScope cw, [], []⟩
def nJ : List He.DefD := ([dd0, dd1, dd2, dd3, dd4, dd5, dd6] : List He.DefD)
def nH : List He.DefD := ([dd7, dd8, dd9, pM, pL, pK, pJ] : List He.DefD)
def nG : List He.DefD := ([pI, pH, pG, pF, pE] : List He.DefD)
abbrev fnl : List He.DefD := nJ ++ nH ++ nG
def fk0 : List (PySem.W.Frag → Bool) := [fun K => gb K, fun K => fC K "Free", fun K => fC K "NoArrows", fun K => fC K "NoDeed", fun K => fC K "NoDeeds", fun K => fC K "NoHues", fun K => fC K "NoName", fun K => fC K "NoOrder", fun K => fC K "NoRow", fun K => fC K "NoRule", fun K => fC K "NoRules", fun K => fC K "NoSet", fun K => fC K "NoSize", fun K => fC K "NoText", fun K => fC K "NoThing", fun K => fC K "NoWorths", fun K => fC K "NotFree", fun K => fC K "Tied", fun K => fC K "TooMany", fun K => fC K "Unlike", fun K => fC K "FreeError", fun K => fC K "_law_numbers", fun K => fB K "NoSet" "__init__" "NoSet" "__init__", fun K => fB K "NoRule" "__init__" "NoRule" "__init__", fun K => fB K "NotFree" "__init__" "NotFree" "__init__"]
def fk1 : List (PySem.W.Frag → Bool) := [fun K => fB K "Free" "__init__" "Free" "__init__", fun K => fB K "NoSize" "__init__" "NoSize" "__init__", fun K => fB K "NoRules" "__init__" "NoRules" "__init__", fun K => fB K "Tied" "__init__" "Tied" "__init__", fun K => fB K "NoArrows" "__init__" "NoArrows" "__init__", fun K => fB K "NoText" "__init__" "NoText" "__init__", fun K => fB K "TooMany" "__init__" "TooMany" "__init__", fun K => fB K "NoThing" "__init__" "NoThing" "__init__", fun K => fB K "NoName" "__init__" "NoName" "__init__", fun K => fB K "NoDeeds" "__init__" "NoDeeds" "__init__", fun K => fC K "_law_all", fun K => fC K "_law_kinds", fun K => fC K "_law_fields", fun K => fC K "_law_raised", fun K => fC K "law", fun K => decide (PySem.W.specialIn K (.builtin "object.__class__") "__get__" = some (some (.builtin "getset_descriptor.__get__"))), fun K => decide (PySem.W.takesIn K (.builtin "object.__class__") = some true), fun K => fF K "NoDeed" "__getattribute__" "BaseException.__getattribute__", fun K => fA K "NoDeed" "__getattr__", fun K => decide (PySem.W.subIn K (.ref (He.ga K "NoDeed")) (.type "BaseException") = some true), fun K => PySem.W.hasDictIn K (He.ga K "NoDeed"), fun K => fF K "NoDeed" "__class__" "object.__class__", fun K => decide (PySem.W.mroIn K (He.ga K "NoDeed") (.type "object") = some true), fun K => PySem.W.excIn K (He.ga K "NoDeed") [.type "LookupError", .type "Exception", .type "BaseException", .type "object"] "LookupError.__new__", fun K => decide (PySem.W.typeIn K (.ref (He.ga K "NoDeed")) = some (.type "type"))]
def fk2 : List (PySem.W.Frag → Bool) := [fun K => PySem.W.keepIn K (.ref (He.ga K "NoDeed")), fun K => fA K "NoDeed" "many", fun K => fA K "NoDeed" "name", fun K => fA K "NoDeed" "number", fun K => fA K "NoDeed" "part", fun K => fA K "NoDeed" "row", fun K => fA K "NoDeed" "size", fun K => fA K "NoDeed" "thing", fun K => fA K "NoDeed" "things", fun K => fF K "NoHues" "__getattribute__" "BaseException.__getattribute__", fun K => fA K "NoHues" "__getattr__", fun K => decide (PySem.W.subIn K (.ref (He.ga K "NoHues")) (.type "BaseException") = some true), fun K => PySem.W.hasDictIn K (He.ga K "NoHues"), fun K => fF K "NoHues" "__class__" "object.__class__", fun K => decide (PySem.W.mroIn K (He.ga K "NoHues") (.type "object") = some true), fun K => PySem.W.excIn K (He.ga K "NoHues") [.type "Exception", .type "BaseException", .type "object"] "Exception.__new__", fun K => decide (PySem.W.typeIn K (.ref (He.ga K "NoHues")) = some (.type "type")), fun K => PySem.W.keepIn K (.ref (He.ga K "NoHues")), fun K => fA K "NoHues" "many", fun K => fA K "NoHues" "name", fun K => fA K "NoHues" "number", fun K => fA K "NoHues" "part", fun K => fA K "NoHues" "row", fun K => fA K "NoHues" "size", fun K => fA K "NoHues" "thing"]
def fk3 : List (PySem.W.Frag → Bool) := [fun K => fA K "NoHues" "things", fun K => fF K "NoOrder" "__getattribute__" "BaseException.__getattribute__", fun K => fA K "NoOrder" "__getattr__", fun K => decide (PySem.W.subIn K (.ref (He.ga K "NoOrder")) (.type "BaseException") = some true), fun K => PySem.W.hasDictIn K (He.ga K "NoOrder"), fun K => fF K "NoOrder" "__class__" "object.__class__", fun K => decide (PySem.W.mroIn K (He.ga K "NoOrder") (.type "object") = some true), fun K => PySem.W.excIn K (He.ga K "NoOrder") [.type "Exception", .type "BaseException", .type "object"] "Exception.__new__", fun K => decide (PySem.W.typeIn K (.ref (He.ga K "NoOrder")) = some (.type "type")), fun K => PySem.W.keepIn K (.ref (He.ga K "NoOrder")), fun K => fA K "NoOrder" "many", fun K => fA K "NoOrder" "name", fun K => fA K "NoOrder" "number", fun K => fA K "NoOrder" "part", fun K => fA K "NoOrder" "row", fun K => fA K "NoOrder" "size", fun K => fA K "NoOrder" "thing", fun K => fA K "NoOrder" "things", fun K => fF K "NoRow" "__getattribute__" "BaseException.__getattribute__", fun K => fA K "NoRow" "__getattr__", fun K => decide (PySem.W.subIn K (.ref (He.ga K "NoRow")) (.type "BaseException") = some true), fun K => PySem.W.hasDictIn K (He.ga K "NoRow"), fun K => fF K "NoRow" "__class__" "object.__class__", fun K => decide (PySem.W.mroIn K (He.ga K "NoRow") (.type "object") = some true), fun K => PySem.W.excIn K (He.ga K "NoRow") [.type "Exception", .type "BaseException", .type "object"] "Exception.__new__"]
def fk4 : List (PySem.W.Frag → Bool) := [fun K => decide (PySem.W.typeIn K (.ref (He.ga K "NoRow")) = some (.type "type")), fun K => PySem.W.keepIn K (.ref (He.ga K "NoRow")), fun K => fA K "NoRow" "many", fun K => fA K "NoRow" "name", fun K => fA K "NoRow" "number", fun K => fA K "NoRow" "part", fun K => fA K "NoRow" "row", fun K => fA K "NoRow" "size", fun K => fA K "NoRow" "thing", fun K => fA K "NoRow" "things", fun K => fF K "NoWorths" "__getattribute__" "BaseException.__getattribute__", fun K => fA K "NoWorths" "__getattr__", fun K => decide (PySem.W.subIn K (.ref (He.ga K "NoWorths")) (.type "BaseException") = some true), fun K => PySem.W.hasDictIn K (He.ga K "NoWorths"), fun K => fF K "NoWorths" "__class__" "object.__class__", fun K => decide (PySem.W.mroIn K (He.ga K "NoWorths") (.type "object") = some true), fun K => PySem.W.excIn K (He.ga K "NoWorths") [.type "Exception", .type "BaseException", .type "object"] "Exception.__new__", fun K => decide (PySem.W.typeIn K (.ref (He.ga K "NoWorths")) = some (.type "type")), fun K => PySem.W.keepIn K (.ref (He.ga K "NoWorths")), fun K => fA K "NoWorths" "many", fun K => fA K "NoWorths" "name", fun K => fA K "NoWorths" "number", fun K => fA K "NoWorths" "part", fun K => fA K "NoWorths" "row", fun K => fA K "NoWorths" "size"]
def fk5 : List (PySem.W.Frag → Bool) := [fun K => fA K "NoWorths" "thing", fun K => fA K "NoWorths" "things", fun K => fF K "Unlike" "__getattribute__" "BaseException.__getattribute__", fun K => fA K "Unlike" "__getattr__", fun K => decide (PySem.W.subIn K (.ref (He.ga K "Unlike")) (.type "BaseException") = some true), fun K => PySem.W.hasDictIn K (He.ga K "Unlike"), fun K => fF K "Unlike" "__class__" "object.__class__", fun K => decide (PySem.W.mroIn K (He.ga K "Unlike") (.type "object") = some true), fun K => PySem.W.excIn K (He.ga K "Unlike") [.type "Exception", .type "BaseException", .type "object"] "Exception.__new__", fun K => decide (PySem.W.typeIn K (.ref (He.ga K "Unlike")) = some (.type "type")), fun K => PySem.W.keepIn K (.ref (He.ga K "Unlike")), fun K => fA K "Unlike" "many", fun K => fA K "Unlike" "name", fun K => fA K "Unlike" "number", fun K => fA K "Unlike" "part", fun K => fA K "Unlike" "row", fun K => fA K "Unlike" "size", fun K => fA K "Unlike" "thing", fun K => fA K "Unlike" "things", fun K => fF K "Free" "__getattribute__" "BaseException.__getattribute__", fun K => fA K "Free" "__getattr__", fun K => decide (PySem.W.subIn K (.ref (He.ga K "Free")) (.type "BaseException") = some true), fun K => PySem.W.hasDictIn K (He.ga K "Free"), fun K => fF K "Free" "__class__" "object.__class__", fun K => decide (PySem.W.mroIn K (He.ga K "Free") (.type "object") = some true)]
def fk6 : List (PySem.W.Frag → Bool) := [fun K => PySem.W.excInitIn K (He.ga K "Free") [.type "Exception", .type "BaseException", .type "object"] "Exception.__new__", fun K => PySem.W.excOver K (He.ga K "Free") [.type "Exception", .type "BaseException", .type "object"], fun K => fF K "Free" "__setattr__" "object.__setattr__", fun K => decide (PySem.W.typeIn K (.ref (He.ga K "Free")) = some (.type "type")), fun K => PySem.W.keepIn K (.ref (He.ga K "Free")), fun K => decide (PySem.W.typeIn K (.ref (He.ma K (He.ga K "Free") "__init__")) = some (.type "function")), fun K => PySem.W.readsIn K (He.ga K "FreeError") (.type "type"), fun K => decide (PySem.W.specialIn K (.ref (He.ga K "FreeError")) "__getattribute__" = some (some (.builtin "type.__getattribute__"))), fun K => fcB K (He.ga K "FreeError") "__init__" (.builtin "Exception.__init__"), fun K => fA K "Free" "many", fun K => fA K "Free" "name", fun K => fA K "Free" "number", fun K => fA K "Free" "part", fun K => fA K "Free" "row", fun K => fA K "Free" "size", fun K => fA K "Free" "thing", fun K => fA K "Free" "things", fun K => fA K "Free" "things", fun K => fF K "NoArrows" "__getattribute__" "BaseException.__getattribute__", fun K => fA K "NoArrows" "__getattr__", fun K => decide (PySem.W.subIn K (.ref (He.ga K "NoArrows")) (.type "BaseException") = some true), fun K => PySem.W.hasDictIn K (He.ga K "NoArrows"), fun K => fF K "NoArrows" "__class__" "object.__class__", fun K => decide (PySem.W.mroIn K (He.ga K "NoArrows") (.type "object") = some true), fun K => PySem.W.excInitIn K (He.ga K "NoArrows") [.type "Exception", .type "BaseException", .type "object"] "Exception.__new__"]
def fk7 : List (PySem.W.Frag → Bool) := [fun K => PySem.W.excOver K (He.ga K "NoArrows") [.type "Exception", .type "BaseException", .type "object"], fun K => fF K "NoArrows" "__setattr__" "object.__setattr__", fun K => decide (PySem.W.typeIn K (.ref (He.ga K "NoArrows")) = some (.type "type")), fun K => PySem.W.keepIn K (.ref (He.ga K "NoArrows")), fun K => decide (PySem.W.typeIn K (.ref (He.ma K (He.ga K "NoArrows") "__init__")) = some (.type "function")), fun K => PySem.W.readsIn K (He.ga K "FreeError") (.type "type"), fun K => decide (PySem.W.specialIn K (.ref (He.ga K "FreeError")) "__getattribute__" = some (some (.builtin "type.__getattribute__"))), fun K => fcB K (He.ga K "FreeError") "__init__" (.builtin "Exception.__init__"), fun K => fA K "NoArrows" "many", fun K => fA K "NoArrows" "name", fun K => fA K "NoArrows" "number", fun K => fA K "NoArrows" "part", fun K => fA K "NoArrows" "row", fun K => fA K "NoArrows" "size", fun K => fA K "NoArrows" "thing", fun K => fA K "NoArrows" "things", fun K => fA K "NoArrows" "part", fun K => fF K "NoDeeds" "__getattribute__" "BaseException.__getattribute__", fun K => fA K "NoDeeds" "__getattr__", fun K => decide (PySem.W.subIn K (.ref (He.ga K "NoDeeds")) (.type "BaseException") = some true), fun K => PySem.W.hasDictIn K (He.ga K "NoDeeds"), fun K => fF K "NoDeeds" "__class__" "object.__class__", fun K => decide (PySem.W.mroIn K (He.ga K "NoDeeds") (.type "object") = some true), fun K => PySem.W.excInitIn K (He.ga K "NoDeeds") [.type "Exception", .type "BaseException", .type "object"] "Exception.__new__", fun K => PySem.W.excOver K (He.ga K "NoDeeds") [.type "Exception", .type "BaseException", .type "object"]]
def fk8 : List (PySem.W.Frag → Bool) := [fun K => fF K "NoDeeds" "__setattr__" "object.__setattr__", fun K => decide (PySem.W.typeIn K (.ref (He.ga K "NoDeeds")) = some (.type "type")), fun K => PySem.W.keepIn K (.ref (He.ga K "NoDeeds")), fun K => decide (PySem.W.typeIn K (.ref (He.ma K (He.ga K "NoDeeds") "__init__")) = some (.type "function")), fun K => PySem.W.readsIn K (He.ga K "FreeError") (.type "type"), fun K => decide (PySem.W.specialIn K (.ref (He.ga K "FreeError")) "__getattribute__" = some (some (.builtin "type.__getattribute__"))), fun K => fcB K (He.ga K "FreeError") "__init__" (.builtin "Exception.__init__"), fun K => fA K "NoDeeds" "many", fun K => fA K "NoDeeds" "name", fun K => fA K "NoDeeds" "number", fun K => fA K "NoDeeds" "part", fun K => fA K "NoDeeds" "row", fun K => fA K "NoDeeds" "size", fun K => fA K "NoDeeds" "thing", fun K => fA K "NoDeeds" "things", fun K => fA K "NoDeeds" "number", fun K => fF K "NoName" "__getattribute__" "BaseException.__getattribute__", fun K => fA K "NoName" "__getattr__", fun K => decide (PySem.W.subIn K (.ref (He.ga K "NoName")) (.type "BaseException") = some true), fun K => PySem.W.hasDictIn K (He.ga K "NoName"), fun K => fF K "NoName" "__class__" "object.__class__", fun K => decide (PySem.W.mroIn K (He.ga K "NoName") (.type "object") = some true), fun K => PySem.W.excInitIn K (He.ga K "NoName") [.type "KeyError", .type "LookupError", .type "Exception", .type "BaseException", .type "object"] "LookupError.__new__", fun K => PySem.W.excOver K (He.ga K "NoName") [.type "KeyError", .type "LookupError", .type "Exception", .type "BaseException", .type "object"], fun K => fF K "NoName" "__setattr__" "object.__setattr__"]
def fk9 : List (PySem.W.Frag → Bool) := [fun K => decide (PySem.W.typeIn K (.ref (He.ga K "NoName")) = some (.type "type")), fun K => PySem.W.keepIn K (.ref (He.ga K "NoName")), fun K => decide (PySem.W.typeIn K (.ref (He.ma K (He.ga K "NoName") "__init__")) = some (.type "function")), fun K => fG K "KeyError", fun K => fcT K "KeyError" (.builtin "KeyError.__init__"), fun K => fA K "NoName" "many", fun K => fA K "NoName" "name", fun K => fA K "NoName" "number", fun K => fA K "NoName" "part", fun K => fA K "NoName" "row", fun K => fA K "NoName" "size", fun K => fA K "NoName" "thing", fun K => fA K "NoName" "things", fun K => fA K "NoName" "name", fun K => fF K "NoRule" "__getattribute__" "BaseException.__getattribute__", fun K => fA K "NoRule" "__getattr__", fun K => decide (PySem.W.subIn K (.ref (He.ga K "NoRule")) (.type "BaseException") = some true), fun K => PySem.W.hasDictIn K (He.ga K "NoRule"), fun K => fF K "NoRule" "__class__" "object.__class__", fun K => decide (PySem.W.mroIn K (He.ga K "NoRule") (.type "object") = some true), fun K => PySem.W.excInitIn K (He.ga K "NoRule") [.type "Exception", .type "BaseException", .type "object"] "Exception.__new__", fun K => PySem.W.excOver K (He.ga K "NoRule") [.type "Exception", .type "BaseException", .type "object"], fun K => fF K "NoRule" "__setattr__" "object.__setattr__", fun K => decide (PySem.W.typeIn K (.ref (He.ga K "NoRule")) = some (.type "type")), fun K => PySem.W.keepIn K (.ref (He.ga K "NoRule"))]
def fk10 : List (PySem.W.Frag → Bool) := [fun K => decide (PySem.W.typeIn K (.ref (He.ma K (He.ga K "NoRule") "__init__")) = some (.type "function")), fun K => PySem.W.readsIn K (He.ga K "FreeError") (.type "type"), fun K => decide (PySem.W.specialIn K (.ref (He.ga K "FreeError")) "__getattribute__" = some (some (.builtin "type.__getattribute__"))), fun K => fcB K (He.ga K "FreeError") "__init__" (.builtin "Exception.__init__"), fun K => fA K "NoRule" "many", fun K => fA K "NoRule" "name", fun K => fA K "NoRule" "number", fun K => fA K "NoRule" "part", fun K => fA K "NoRule" "row", fun K => fA K "NoRule" "size", fun K => fA K "NoRule" "thing", fun K => fA K "NoRule" "things", fun K => fA K "NoRule" "part", fun K => fA K "NoRule" "number", fun K => fF K "NoRules" "__getattribute__" "BaseException.__getattribute__", fun K => fA K "NoRules" "__getattr__", fun K => decide (PySem.W.subIn K (.ref (He.ga K "NoRules")) (.type "BaseException") = some true), fun K => PySem.W.hasDictIn K (He.ga K "NoRules"), fun K => fF K "NoRules" "__class__" "object.__class__", fun K => decide (PySem.W.mroIn K (He.ga K "NoRules") (.type "object") = some true), fun K => PySem.W.excInitIn K (He.ga K "NoRules") [.type "Exception", .type "BaseException", .type "object"] "Exception.__new__", fun K => PySem.W.excOver K (He.ga K "NoRules") [.type "Exception", .type "BaseException", .type "object"], fun K => fF K "NoRules" "__setattr__" "object.__setattr__", fun K => decide (PySem.W.typeIn K (.ref (He.ga K "NoRules")) = some (.type "type")), fun K => PySem.W.keepIn K (.ref (He.ga K "NoRules"))]
def fk11 : List (PySem.W.Frag → Bool) := [fun K => decide (PySem.W.typeIn K (.ref (He.ma K (He.ga K "NoRules") "__init__")) = some (.type "function")), fun K => PySem.W.readsIn K (He.ga K "FreeError") (.type "type"), fun K => decide (PySem.W.specialIn K (.ref (He.ga K "FreeError")) "__getattribute__" = some (some (.builtin "type.__getattribute__"))), fun K => fcB K (He.ga K "FreeError") "__init__" (.builtin "Exception.__init__"), fun K => fA K "NoRules" "many", fun K => fA K "NoRules" "name", fun K => fA K "NoRules" "number", fun K => fA K "NoRules" "part", fun K => fA K "NoRules" "row", fun K => fA K "NoRules" "size", fun K => fA K "NoRules" "thing", fun K => fA K "NoRules" "things", fun K => fA K "NoRules" "number", fun K => fF K "NoSet" "__getattribute__" "BaseException.__getattribute__", fun K => fA K "NoSet" "__getattr__", fun K => decide (PySem.W.subIn K (.ref (He.ga K "NoSet")) (.type "BaseException") = some true), fun K => PySem.W.hasDictIn K (He.ga K "NoSet"), fun K => fF K "NoSet" "__class__" "object.__class__", fun K => decide (PySem.W.mroIn K (He.ga K "NoSet") (.type "object") = some true), fun K => PySem.W.excInitIn K (He.ga K "NoSet") [.type "Exception", .type "BaseException", .type "object"] "Exception.__new__", fun K => PySem.W.excOver K (He.ga K "NoSet") [.type "Exception", .type "BaseException", .type "object"], fun K => fF K "NoSet" "__setattr__" "object.__setattr__", fun K => decide (PySem.W.typeIn K (.ref (He.ga K "NoSet")) = some (.type "type")), fun K => PySem.W.keepIn K (.ref (He.ga K "NoSet")), fun K => decide (PySem.W.typeIn K (.ref (He.ma K (He.ga K "NoSet") "__init__")) = some (.type "function"))]
def fk12 : List (PySem.W.Frag → Bool) := [fun K => PySem.W.readsIn K (He.ga K "FreeError") (.type "type"), fun K => decide (PySem.W.specialIn K (.ref (He.ga K "FreeError")) "__getattribute__" = some (some (.builtin "type.__getattribute__"))), fun K => fcB K (He.ga K "FreeError") "__init__" (.builtin "Exception.__init__"), fun K => fA K "NoSet" "many", fun K => fA K "NoSet" "name", fun K => fA K "NoSet" "number", fun K => fA K "NoSet" "part", fun K => fA K "NoSet" "row", fun K => fA K "NoSet" "size", fun K => fA K "NoSet" "thing", fun K => fA K "NoSet" "things", fun K => fA K "NoSet" "thing", fun K => fF K "NoSize" "__getattribute__" "BaseException.__getattribute__", fun K => fA K "NoSize" "__getattr__", fun K => decide (PySem.W.subIn K (.ref (He.ga K "NoSize")) (.type "BaseException") = some true), fun K => PySem.W.hasDictIn K (He.ga K "NoSize"), fun K => fF K "NoSize" "__class__" "object.__class__", fun K => decide (PySem.W.mroIn K (He.ga K "NoSize") (.type "object") = some true), fun K => PySem.W.excInitIn K (He.ga K "NoSize") [.type "Exception", .type "BaseException", .type "object"] "Exception.__new__", fun K => PySem.W.excOver K (He.ga K "NoSize") [.type "Exception", .type "BaseException", .type "object"], fun K => fF K "NoSize" "__setattr__" "object.__setattr__", fun K => decide (PySem.W.typeIn K (.ref (He.ga K "NoSize")) = some (.type "type")), fun K => PySem.W.keepIn K (.ref (He.ga K "NoSize")), fun K => decide (PySem.W.typeIn K (.ref (He.ma K (He.ga K "NoSize") "__init__")) = some (.type "function")), fun K => PySem.W.readsIn K (He.ga K "FreeError") (.type "type")]
def fk13 : List (PySem.W.Frag → Bool) := [fun K => decide (PySem.W.specialIn K (.ref (He.ga K "FreeError")) "__getattribute__" = some (some (.builtin "type.__getattribute__"))), fun K => fcB K (He.ga K "FreeError") "__init__" (.builtin "Exception.__init__"), fun K => fA K "NoSize" "many", fun K => fA K "NoSize" "name", fun K => fA K "NoSize" "number", fun K => fA K "NoSize" "part", fun K => fA K "NoSize" "row", fun K => fA K "NoSize" "size", fun K => fA K "NoSize" "thing", fun K => fA K "NoSize" "things", fun K => fA K "NoSize" "size", fun K => fF K "NoText" "__getattribute__" "BaseException.__getattribute__", fun K => fA K "NoText" "__getattr__", fun K => decide (PySem.W.subIn K (.ref (He.ga K "NoText")) (.type "BaseException") = some true), fun K => PySem.W.hasDictIn K (He.ga K "NoText"), fun K => fF K "NoText" "__class__" "object.__class__", fun K => decide (PySem.W.mroIn K (He.ga K "NoText") (.type "object") = some true), fun K => PySem.W.excInitIn K (He.ga K "NoText") [.type "Exception", .type "BaseException", .type "object"] "Exception.__new__", fun K => PySem.W.excOver K (He.ga K "NoText") [.type "Exception", .type "BaseException", .type "object"], fun K => fF K "NoText" "__setattr__" "object.__setattr__", fun K => decide (PySem.W.typeIn K (.ref (He.ga K "NoText")) = some (.type "type")), fun K => PySem.W.keepIn K (.ref (He.ga K "NoText")), fun K => decide (PySem.W.typeIn K (.ref (He.ma K (He.ga K "NoText") "__init__")) = some (.type "function")), fun K => PySem.W.readsIn K (He.ga K "FreeError") (.type "type"), fun K => decide (PySem.W.specialIn K (.ref (He.ga K "FreeError")) "__getattribute__" = some (some (.builtin "type.__getattribute__")))]
def fk14 : List (PySem.W.Frag → Bool) := [fun K => fcB K (He.ga K "FreeError") "__init__" (.builtin "Exception.__init__"), fun K => fA K "NoText" "many", fun K => fA K "NoText" "name", fun K => fA K "NoText" "number", fun K => fA K "NoText" "part", fun K => fA K "NoText" "row", fun K => fA K "NoText" "size", fun K => fA K "NoText" "thing", fun K => fA K "NoText" "things", fun K => fA K "NoText" "row", fun K => fF K "NoThing" "__getattribute__" "BaseException.__getattribute__", fun K => fA K "NoThing" "__getattr__", fun K => decide (PySem.W.subIn K (.ref (He.ga K "NoThing")) (.type "BaseException") = some true), fun K => PySem.W.hasDictIn K (He.ga K "NoThing"), fun K => fF K "NoThing" "__class__" "object.__class__", fun K => decide (PySem.W.mroIn K (He.ga K "NoThing") (.type "object") = some true), fun K => PySem.W.excInitIn K (He.ga K "NoThing") [.type "IndexError", .type "LookupError", .type "Exception", .type "BaseException", .type "object"] "IndexError.__new__", fun K => PySem.W.excOver K (He.ga K "NoThing") [.type "IndexError", .type "LookupError", .type "Exception", .type "BaseException", .type "object"], fun K => fF K "NoThing" "__setattr__" "object.__setattr__", fun K => decide (PySem.W.typeIn K (.ref (He.ga K "NoThing")) = some (.type "type")), fun K => PySem.W.keepIn K (.ref (He.ga K "NoThing")), fun K => decide (PySem.W.typeIn K (.ref (He.ma K (He.ga K "NoThing") "__init__")) = some (.type "function")), fun K => fG K "IndexError", fun K => fcT K "IndexError" (.builtin "IndexError.__init__"), fun K => fA K "NoThing" "many"]
def fk15 : List (PySem.W.Frag → Bool) := [fun K => fA K "NoThing" "name", fun K => fA K "NoThing" "number", fun K => fA K "NoThing" "part", fun K => fA K "NoThing" "row", fun K => fA K "NoThing" "size", fun K => fA K "NoThing" "thing", fun K => fA K "NoThing" "things", fun K => fA K "NoThing" "thing", fun K => fF K "NotFree" "__getattribute__" "BaseException.__getattribute__", fun K => fA K "NotFree" "__getattr__", fun K => decide (PySem.W.subIn K (.ref (He.ga K "NotFree")) (.type "BaseException") = some true), fun K => PySem.W.hasDictIn K (He.ga K "NotFree"), fun K => fF K "NotFree" "__class__" "object.__class__", fun K => decide (PySem.W.mroIn K (He.ga K "NotFree") (.type "object") = some true), fun K => PySem.W.excInitIn K (He.ga K "NotFree") [.type "Exception", .type "BaseException", .type "object"] "Exception.__new__", fun K => PySem.W.excOver K (He.ga K "NotFree") [.type "Exception", .type "BaseException", .type "object"], fun K => fF K "NotFree" "__setattr__" "object.__setattr__", fun K => decide (PySem.W.typeIn K (.ref (He.ga K "NotFree")) = some (.type "type")), fun K => PySem.W.keepIn K (.ref (He.ga K "NotFree")), fun K => decide (PySem.W.typeIn K (.ref (He.ma K (He.ga K "NotFree") "__init__")) = some (.type "function")), fun K => PySem.W.readsIn K (He.ga K "FreeError") (.type "type"), fun K => decide (PySem.W.specialIn K (.ref (He.ga K "FreeError")) "__getattribute__" = some (some (.builtin "type.__getattribute__"))), fun K => fcB K (He.ga K "FreeError") "__init__" (.builtin "Exception.__init__"), fun K => fA K "NotFree" "many", fun K => fA K "NotFree" "name"]
def fk16 : List (PySem.W.Frag → Bool) := [fun K => fA K "NotFree" "number", fun K => fA K "NotFree" "part", fun K => fA K "NotFree" "row", fun K => fA K "NotFree" "size", fun K => fA K "NotFree" "thing", fun K => fA K "NotFree" "things", fun K => fA K "NotFree" "things", fun K => fF K "Tied" "__getattribute__" "BaseException.__getattribute__", fun K => fA K "Tied" "__getattr__", fun K => decide (PySem.W.subIn K (.ref (He.ga K "Tied")) (.type "BaseException") = some true), fun K => PySem.W.hasDictIn K (He.ga K "Tied"), fun K => fF K "Tied" "__class__" "object.__class__", fun K => decide (PySem.W.mroIn K (He.ga K "Tied") (.type "object") = some true), fun K => PySem.W.excInitIn K (He.ga K "Tied") [.type "Exception", .type "BaseException", .type "object"] "Exception.__new__", fun K => PySem.W.excOver K (He.ga K "Tied") [.type "Exception", .type "BaseException", .type "object"], fun K => fF K "Tied" "__setattr__" "object.__setattr__", fun K => decide (PySem.W.typeIn K (.ref (He.ga K "Tied")) = some (.type "type")), fun K => PySem.W.keepIn K (.ref (He.ga K "Tied")), fun K => decide (PySem.W.typeIn K (.ref (He.ma K (He.ga K "Tied") "__init__")) = some (.type "function")), fun K => PySem.W.readsIn K (He.ga K "FreeError") (.type "type"), fun K => decide (PySem.W.specialIn K (.ref (He.ga K "FreeError")) "__getattribute__" = some (some (.builtin "type.__getattribute__"))), fun K => fcB K (He.ga K "FreeError") "__init__" (.builtin "Exception.__init__"), fun K => fA K "Tied" "many", fun K => fA K "Tied" "name", fun K => fA K "Tied" "number"]
def fk17 : List (PySem.W.Frag → Bool) := [fun K => fA K "Tied" "part", fun K => fA K "Tied" "row", fun K => fA K "Tied" "size", fun K => fA K "Tied" "thing", fun K => fA K "Tied" "things", fun K => fA K "Tied" "thing", fun K => fF K "TooMany" "__getattribute__" "BaseException.__getattribute__", fun K => fA K "TooMany" "__getattr__", fun K => decide (PySem.W.subIn K (.ref (He.ga K "TooMany")) (.type "BaseException") = some true), fun K => PySem.W.hasDictIn K (He.ga K "TooMany"), fun K => fF K "TooMany" "__class__" "object.__class__", fun K => decide (PySem.W.mroIn K (He.ga K "TooMany") (.type "object") = some true), fun K => PySem.W.excInitIn K (He.ga K "TooMany") [.type "Exception", .type "BaseException", .type "object"] "Exception.__new__", fun K => PySem.W.excOver K (He.ga K "TooMany") [.type "Exception", .type "BaseException", .type "object"], fun K => fF K "TooMany" "__setattr__" "object.__setattr__", fun K => decide (PySem.W.typeIn K (.ref (He.ga K "TooMany")) = some (.type "type")), fun K => PySem.W.keepIn K (.ref (He.ga K "TooMany")), fun K => decide (PySem.W.typeIn K (.ref (He.ma K (He.ga K "TooMany") "__init__")) = some (.type "function")), fun K => PySem.W.readsIn K (He.ga K "FreeError") (.type "type"), fun K => decide (PySem.W.specialIn K (.ref (He.ga K "FreeError")) "__getattribute__" = some (some (.builtin "type.__getattribute__"))), fun K => fcB K (He.ga K "FreeError") "__init__" (.builtin "Exception.__init__"), fun K => fA K "TooMany" "many", fun K => fA K "TooMany" "name", fun K => fA K "TooMany" "number", fun K => fA K "TooMany" "part"]
def fk18 : List (PySem.W.Frag → Bool) := [fun K => fA K "TooMany" "row", fun K => fA K "TooMany" "size", fun K => fA K "TooMany" "thing", fun K => fA K "TooMany" "things", fun K => fA K "TooMany" "many", fun K => fT K "NoneType" "Free", fun K => fT K "bool" "Free", fun K => fT K "int" "Free", fun K => fT K "str" "Free", fun K => fT K "tuple" "Free", fun K => fT K "list" "Free", fun K => fT K "dict" "Free", fun K => fT K "set" "Free", fun K => fU K "Free" "Free", fun K => fV K "NoArrows" "Free", fun K => fV K "NoDeed" "Free", fun K => fV K "NoDeeds" "Free", fun K => fV K "NoHues" "Free", fun K => fV K "NoName" "Free", fun K => fV K "NoOrder" "Free", fun K => fV K "NoRow" "Free", fun K => fV K "NoRule" "Free", fun K => fV K "NoRules" "Free", fun K => fV K "NoSet" "Free", fun K => fV K "NoSize" "Free"]
def fk19 : List (PySem.W.Frag → Bool) := [fun K => fV K "NoText" "Free", fun K => fV K "NoThing" "Free", fun K => fV K "NoWorths" "Free", fun K => fV K "NotFree" "Free", fun K => fV K "Tied" "Free", fun K => fV K "TooMany" "Free", fun K => fV K "Unlike" "Free", fun K => fT K "NoneType" "FreeError", fun K => fT K "bool" "FreeError", fun K => fT K "int" "FreeError", fun K => fT K "str" "FreeError", fun K => fT K "tuple" "FreeError", fun K => fT K "list" "FreeError", fun K => fT K "dict" "FreeError", fun K => fT K "set" "FreeError", fun K => fU K "Free" "FreeError", fun K => fU K "NoArrows" "FreeError", fun K => fV K "NoDeed" "FreeError", fun K => fU K "NoDeeds" "FreeError", fun K => fU K "NoHues" "FreeError", fun K => fV K "NoName" "FreeError", fun K => fU K "NoOrder" "FreeError", fun K => fU K "NoRow" "FreeError", fun K => fU K "NoRule" "FreeError", fun K => fU K "NoRules" "FreeError"]
def fk20 : List (PySem.W.Frag → Bool) := [fun K => fU K "NoSet" "FreeError", fun K => fU K "NoSize" "FreeError", fun K => fU K "NoText" "FreeError", fun K => fV K "NoThing" "FreeError", fun K => fU K "NoWorths" "FreeError", fun K => fU K "NotFree" "FreeError", fun K => fU K "Tied" "FreeError", fun K => fU K "TooMany" "FreeError", fun K => fU K "Unlike" "FreeError", fun K => fT K "NoneType" "NoArrows", fun K => fT K "bool" "NoArrows", fun K => fT K "int" "NoArrows", fun K => fT K "str" "NoArrows", fun K => fT K "tuple" "NoArrows", fun K => fT K "list" "NoArrows", fun K => fT K "dict" "NoArrows", fun K => fT K "set" "NoArrows", fun K => fV K "Free" "NoArrows", fun K => fU K "NoArrows" "NoArrows", fun K => fV K "NoDeed" "NoArrows", fun K => fV K "NoDeeds" "NoArrows", fun K => fV K "NoHues" "NoArrows", fun K => fV K "NoName" "NoArrows", fun K => fV K "NoOrder" "NoArrows", fun K => fV K "NoRow" "NoArrows"]
def fk21 : List (PySem.W.Frag → Bool) := [fun K => fV K "NoRule" "NoArrows", fun K => fV K "NoRules" "NoArrows", fun K => fV K "NoSet" "NoArrows", fun K => fV K "NoSize" "NoArrows", fun K => fV K "NoText" "NoArrows", fun K => fV K "NoThing" "NoArrows", fun K => fV K "NoWorths" "NoArrows", fun K => fV K "NotFree" "NoArrows", fun K => fV K "Tied" "NoArrows", fun K => fV K "TooMany" "NoArrows", fun K => fV K "Unlike" "NoArrows", fun K => fT K "NoneType" "NoDeed", fun K => fT K "bool" "NoDeed", fun K => fT K "int" "NoDeed", fun K => fT K "str" "NoDeed", fun K => fT K "tuple" "NoDeed", fun K => fT K "list" "NoDeed", fun K => fT K "dict" "NoDeed", fun K => fT K "set" "NoDeed", fun K => fV K "Free" "NoDeed", fun K => fV K "NoArrows" "NoDeed", fun K => fU K "NoDeed" "NoDeed", fun K => fV K "NoDeeds" "NoDeed", fun K => fV K "NoHues" "NoDeed", fun K => fV K "NoName" "NoDeed"]
def fk22 : List (PySem.W.Frag → Bool) := [fun K => fV K "NoOrder" "NoDeed", fun K => fV K "NoRow" "NoDeed", fun K => fV K "NoRule" "NoDeed", fun K => fV K "NoRules" "NoDeed", fun K => fV K "NoSet" "NoDeed", fun K => fV K "NoSize" "NoDeed", fun K => fV K "NoText" "NoDeed", fun K => fV K "NoThing" "NoDeed", fun K => fV K "NoWorths" "NoDeed", fun K => fV K "NotFree" "NoDeed", fun K => fV K "Tied" "NoDeed", fun K => fV K "TooMany" "NoDeed", fun K => fV K "Unlike" "NoDeed", fun K => fT K "NoneType" "NoDeeds", fun K => fT K "bool" "NoDeeds", fun K => fT K "int" "NoDeeds", fun K => fT K "str" "NoDeeds", fun K => fT K "tuple" "NoDeeds", fun K => fT K "list" "NoDeeds", fun K => fT K "dict" "NoDeeds", fun K => fT K "set" "NoDeeds", fun K => fV K "Free" "NoDeeds", fun K => fV K "NoArrows" "NoDeeds", fun K => fV K "NoDeed" "NoDeeds", fun K => fU K "NoDeeds" "NoDeeds"]
def fk23 : List (PySem.W.Frag → Bool) := [fun K => fV K "NoHues" "NoDeeds", fun K => fV K "NoName" "NoDeeds", fun K => fV K "NoOrder" "NoDeeds", fun K => fV K "NoRow" "NoDeeds", fun K => fV K "NoRule" "NoDeeds", fun K => fV K "NoRules" "NoDeeds", fun K => fV K "NoSet" "NoDeeds", fun K => fV K "NoSize" "NoDeeds", fun K => fV K "NoText" "NoDeeds", fun K => fV K "NoThing" "NoDeeds", fun K => fV K "NoWorths" "NoDeeds", fun K => fV K "NotFree" "NoDeeds", fun K => fV K "Tied" "NoDeeds", fun K => fV K "TooMany" "NoDeeds", fun K => fV K "Unlike" "NoDeeds", fun K => fT K "NoneType" "NoHues", fun K => fT K "bool" "NoHues", fun K => fT K "int" "NoHues", fun K => fT K "str" "NoHues", fun K => fT K "tuple" "NoHues", fun K => fT K "list" "NoHues", fun K => fT K "dict" "NoHues", fun K => fT K "set" "NoHues", fun K => fV K "Free" "NoHues", fun K => fV K "NoArrows" "NoHues"]
def fk24 : List (PySem.W.Frag → Bool) := [fun K => fV K "NoDeed" "NoHues", fun K => fV K "NoDeeds" "NoHues", fun K => fU K "NoHues" "NoHues", fun K => fV K "NoName" "NoHues", fun K => fV K "NoOrder" "NoHues", fun K => fV K "NoRow" "NoHues", fun K => fV K "NoRule" "NoHues", fun K => fV K "NoRules" "NoHues", fun K => fV K "NoSet" "NoHues", fun K => fV K "NoSize" "NoHues", fun K => fV K "NoText" "NoHues", fun K => fV K "NoThing" "NoHues", fun K => fV K "NoWorths" "NoHues", fun K => fV K "NotFree" "NoHues", fun K => fV K "Tied" "NoHues", fun K => fV K "TooMany" "NoHues", fun K => fV K "Unlike" "NoHues", fun K => fT K "NoneType" "NoName", fun K => fT K "bool" "NoName", fun K => fT K "int" "NoName", fun K => fT K "str" "NoName", fun K => fT K "tuple" "NoName", fun K => fT K "list" "NoName", fun K => fT K "dict" "NoName", fun K => fT K "set" "NoName"]
def fk25 : List (PySem.W.Frag → Bool) := [fun K => fV K "Free" "NoName", fun K => fV K "NoArrows" "NoName", fun K => fV K "NoDeed" "NoName", fun K => fV K "NoDeeds" "NoName", fun K => fV K "NoHues" "NoName", fun K => fU K "NoName" "NoName", fun K => fV K "NoOrder" "NoName", fun K => fV K "NoRow" "NoName", fun K => fV K "NoRule" "NoName", fun K => fV K "NoRules" "NoName", fun K => fV K "NoSet" "NoName", fun K => fV K "NoSize" "NoName", fun K => fV K "NoText" "NoName", fun K => fV K "NoThing" "NoName", fun K => fV K "NoWorths" "NoName", fun K => fV K "NotFree" "NoName", fun K => fV K "Tied" "NoName", fun K => fV K "TooMany" "NoName", fun K => fV K "Unlike" "NoName", fun K => fT K "NoneType" "NoOrder", fun K => fT K "bool" "NoOrder", fun K => fT K "int" "NoOrder", fun K => fT K "str" "NoOrder", fun K => fT K "tuple" "NoOrder", fun K => fT K "list" "NoOrder"]
def fk26 : List (PySem.W.Frag → Bool) := [fun K => fT K "dict" "NoOrder", fun K => fT K "set" "NoOrder", fun K => fV K "Free" "NoOrder", fun K => fV K "NoArrows" "NoOrder", fun K => fV K "NoDeed" "NoOrder", fun K => fV K "NoDeeds" "NoOrder", fun K => fV K "NoHues" "NoOrder", fun K => fV K "NoName" "NoOrder", fun K => fU K "NoOrder" "NoOrder", fun K => fV K "NoRow" "NoOrder", fun K => fV K "NoRule" "NoOrder", fun K => fV K "NoRules" "NoOrder", fun K => fV K "NoSet" "NoOrder", fun K => fV K "NoSize" "NoOrder", fun K => fV K "NoText" "NoOrder", fun K => fV K "NoThing" "NoOrder", fun K => fV K "NoWorths" "NoOrder", fun K => fV K "NotFree" "NoOrder", fun K => fV K "Tied" "NoOrder", fun K => fV K "TooMany" "NoOrder", fun K => fV K "Unlike" "NoOrder", fun K => fT K "NoneType" "NoRow", fun K => fT K "bool" "NoRow", fun K => fT K "int" "NoRow", fun K => fT K "str" "NoRow"]
def fk27 : List (PySem.W.Frag → Bool) := [fun K => fT K "tuple" "NoRow", fun K => fT K "list" "NoRow", fun K => fT K "dict" "NoRow", fun K => fT K "set" "NoRow", fun K => fV K "Free" "NoRow", fun K => fV K "NoArrows" "NoRow", fun K => fV K "NoDeed" "NoRow", fun K => fV K "NoDeeds" "NoRow", fun K => fV K "NoHues" "NoRow", fun K => fV K "NoName" "NoRow", fun K => fV K "NoOrder" "NoRow", fun K => fU K "NoRow" "NoRow", fun K => fV K "NoRule" "NoRow", fun K => fV K "NoRules" "NoRow", fun K => fV K "NoSet" "NoRow", fun K => fV K "NoSize" "NoRow", fun K => fV K "NoText" "NoRow", fun K => fV K "NoThing" "NoRow", fun K => fV K "NoWorths" "NoRow", fun K => fV K "NotFree" "NoRow", fun K => fV K "Tied" "NoRow", fun K => fV K "TooMany" "NoRow", fun K => fV K "Unlike" "NoRow", fun K => fT K "NoneType" "NoRule", fun K => fT K "bool" "NoRule"]
def fk28 : List (PySem.W.Frag → Bool) := [fun K => fT K "int" "NoRule", fun K => fT K "str" "NoRule", fun K => fT K "tuple" "NoRule", fun K => fT K "list" "NoRule", fun K => fT K "dict" "NoRule", fun K => fT K "set" "NoRule", fun K => fV K "Free" "NoRule", fun K => fV K "NoArrows" "NoRule", fun K => fV K "NoDeed" "NoRule", fun K => fV K "NoDeeds" "NoRule", fun K => fV K "NoHues" "NoRule", fun K => fV K "NoName" "NoRule", fun K => fV K "NoOrder" "NoRule", fun K => fV K "NoRow" "NoRule", fun K => fU K "NoRule" "NoRule", fun K => fV K "NoRules" "NoRule", fun K => fV K "NoSet" "NoRule", fun K => fV K "NoSize" "NoRule", fun K => fV K "NoText" "NoRule", fun K => fV K "NoThing" "NoRule", fun K => fV K "NoWorths" "NoRule", fun K => fV K "NotFree" "NoRule", fun K => fV K "Tied" "NoRule", fun K => fV K "TooMany" "NoRule", fun K => fV K "Unlike" "NoRule"]
def fk29 : List (PySem.W.Frag → Bool) := [fun K => fT K "NoneType" "NoRules", fun K => fT K "bool" "NoRules", fun K => fT K "int" "NoRules", fun K => fT K "str" "NoRules", fun K => fT K "tuple" "NoRules", fun K => fT K "list" "NoRules", fun K => fT K "dict" "NoRules", fun K => fT K "set" "NoRules", fun K => fV K "Free" "NoRules", fun K => fV K "NoArrows" "NoRules", fun K => fV K "NoDeed" "NoRules", fun K => fV K "NoDeeds" "NoRules", fun K => fV K "NoHues" "NoRules", fun K => fV K "NoName" "NoRules", fun K => fV K "NoOrder" "NoRules", fun K => fV K "NoRow" "NoRules", fun K => fV K "NoRule" "NoRules", fun K => fU K "NoRules" "NoRules", fun K => fV K "NoSet" "NoRules", fun K => fV K "NoSize" "NoRules", fun K => fV K "NoText" "NoRules", fun K => fV K "NoThing" "NoRules", fun K => fV K "NoWorths" "NoRules", fun K => fV K "NotFree" "NoRules", fun K => fV K "Tied" "NoRules"]
def fk30 : List (PySem.W.Frag → Bool) := [fun K => fV K "TooMany" "NoRules", fun K => fV K "Unlike" "NoRules", fun K => fT K "NoneType" "NoSet", fun K => fT K "bool" "NoSet", fun K => fT K "int" "NoSet", fun K => fT K "str" "NoSet", fun K => fT K "tuple" "NoSet", fun K => fT K "list" "NoSet", fun K => fT K "dict" "NoSet", fun K => fT K "set" "NoSet", fun K => fV K "Free" "NoSet", fun K => fV K "NoArrows" "NoSet", fun K => fV K "NoDeed" "NoSet", fun K => fV K "NoDeeds" "NoSet", fun K => fV K "NoHues" "NoSet", fun K => fV K "NoName" "NoSet", fun K => fV K "NoOrder" "NoSet", fun K => fV K "NoRow" "NoSet", fun K => fV K "NoRule" "NoSet", fun K => fV K "NoRules" "NoSet", fun K => fU K "NoSet" "NoSet", fun K => fV K "NoSize" "NoSet", fun K => fV K "NoText" "NoSet", fun K => fV K "NoThing" "NoSet", fun K => fV K "NoWorths" "NoSet"]
def fk31 : List (PySem.W.Frag → Bool) := [fun K => fV K "NotFree" "NoSet", fun K => fV K "Tied" "NoSet", fun K => fV K "TooMany" "NoSet", fun K => fV K "Unlike" "NoSet", fun K => fT K "NoneType" "NoSize", fun K => fT K "bool" "NoSize", fun K => fT K "int" "NoSize", fun K => fT K "str" "NoSize", fun K => fT K "tuple" "NoSize", fun K => fT K "list" "NoSize", fun K => fT K "dict" "NoSize", fun K => fT K "set" "NoSize", fun K => fV K "Free" "NoSize", fun K => fV K "NoArrows" "NoSize", fun K => fV K "NoDeed" "NoSize", fun K => fV K "NoDeeds" "NoSize", fun K => fV K "NoHues" "NoSize", fun K => fV K "NoName" "NoSize", fun K => fV K "NoOrder" "NoSize", fun K => fV K "NoRow" "NoSize", fun K => fV K "NoRule" "NoSize", fun K => fV K "NoRules" "NoSize", fun K => fV K "NoSet" "NoSize", fun K => fU K "NoSize" "NoSize", fun K => fV K "NoText" "NoSize"]
def fk32 : List (PySem.W.Frag → Bool) := [fun K => fV K "NoThing" "NoSize", fun K => fV K "NoWorths" "NoSize", fun K => fV K "NotFree" "NoSize", fun K => fV K "Tied" "NoSize", fun K => fV K "TooMany" "NoSize", fun K => fV K "Unlike" "NoSize", fun K => fT K "NoneType" "NoText", fun K => fT K "bool" "NoText", fun K => fT K "int" "NoText", fun K => fT K "str" "NoText", fun K => fT K "tuple" "NoText", fun K => fT K "list" "NoText", fun K => fT K "dict" "NoText", fun K => fT K "set" "NoText", fun K => fV K "Free" "NoText", fun K => fV K "NoArrows" "NoText", fun K => fV K "NoDeed" "NoText", fun K => fV K "NoDeeds" "NoText", fun K => fV K "NoHues" "NoText", fun K => fV K "NoName" "NoText", fun K => fV K "NoOrder" "NoText", fun K => fV K "NoRow" "NoText", fun K => fV K "NoRule" "NoText", fun K => fV K "NoRules" "NoText", fun K => fV K "NoSet" "NoText"]
def fk33 : List (PySem.W.Frag → Bool) := [fun K => fV K "NoSize" "NoText", fun K => fU K "NoText" "NoText", fun K => fV K "NoThing" "NoText", fun K => fV K "NoWorths" "NoText", fun K => fV K "NotFree" "NoText", fun K => fV K "Tied" "NoText", fun K => fV K "TooMany" "NoText", fun K => fV K "Unlike" "NoText", fun K => fT K "NoneType" "NoThing", fun K => fT K "bool" "NoThing", fun K => fT K "int" "NoThing", fun K => fT K "str" "NoThing", fun K => fT K "tuple" "NoThing", fun K => fT K "list" "NoThing", fun K => fT K "dict" "NoThing", fun K => fT K "set" "NoThing", fun K => fV K "Free" "NoThing", fun K => fV K "NoArrows" "NoThing", fun K => fV K "NoDeed" "NoThing", fun K => fV K "NoDeeds" "NoThing", fun K => fV K "NoHues" "NoThing", fun K => fV K "NoName" "NoThing", fun K => fV K "NoOrder" "NoThing", fun K => fV K "NoRow" "NoThing", fun K => fV K "NoRule" "NoThing"]
def fk34 : List (PySem.W.Frag → Bool) := [fun K => fV K "NoRules" "NoThing", fun K => fV K "NoSet" "NoThing", fun K => fV K "NoSize" "NoThing", fun K => fV K "NoText" "NoThing", fun K => fU K "NoThing" "NoThing", fun K => fV K "NoWorths" "NoThing", fun K => fV K "NotFree" "NoThing", fun K => fV K "Tied" "NoThing", fun K => fV K "TooMany" "NoThing", fun K => fV K "Unlike" "NoThing", fun K => fT K "NoneType" "NoWorths", fun K => fT K "bool" "NoWorths", fun K => fT K "int" "NoWorths", fun K => fT K "str" "NoWorths", fun K => fT K "tuple" "NoWorths", fun K => fT K "list" "NoWorths", fun K => fT K "dict" "NoWorths", fun K => fT K "set" "NoWorths", fun K => fV K "Free" "NoWorths", fun K => fV K "NoArrows" "NoWorths", fun K => fV K "NoDeed" "NoWorths", fun K => fV K "NoDeeds" "NoWorths", fun K => fV K "NoHues" "NoWorths", fun K => fV K "NoName" "NoWorths", fun K => fV K "NoOrder" "NoWorths"]
def fk35 : List (PySem.W.Frag → Bool) := [fun K => fV K "NoRow" "NoWorths", fun K => fV K "NoRule" "NoWorths", fun K => fV K "NoRules" "NoWorths", fun K => fV K "NoSet" "NoWorths", fun K => fV K "NoSize" "NoWorths", fun K => fV K "NoText" "NoWorths", fun K => fV K "NoThing" "NoWorths", fun K => fU K "NoWorths" "NoWorths", fun K => fV K "NotFree" "NoWorths", fun K => fV K "Tied" "NoWorths", fun K => fV K "TooMany" "NoWorths", fun K => fV K "Unlike" "NoWorths", fun K => fT K "NoneType" "NotFree", fun K => fT K "bool" "NotFree", fun K => fT K "int" "NotFree", fun K => fT K "str" "NotFree", fun K => fT K "tuple" "NotFree", fun K => fT K "list" "NotFree", fun K => fT K "dict" "NotFree", fun K => fT K "set" "NotFree", fun K => fV K "Free" "NotFree", fun K => fV K "NoArrows" "NotFree", fun K => fV K "NoDeed" "NotFree", fun K => fV K "NoDeeds" "NotFree", fun K => fV K "NoHues" "NotFree"]
def fk36 : List (PySem.W.Frag → Bool) := [fun K => fV K "NoName" "NotFree", fun K => fV K "NoOrder" "NotFree", fun K => fV K "NoRow" "NotFree", fun K => fV K "NoRule" "NotFree", fun K => fV K "NoRules" "NotFree", fun K => fV K "NoSet" "NotFree", fun K => fV K "NoSize" "NotFree", fun K => fV K "NoText" "NotFree", fun K => fV K "NoThing" "NotFree", fun K => fV K "NoWorths" "NotFree", fun K => fU K "NotFree" "NotFree", fun K => fV K "Tied" "NotFree", fun K => fV K "TooMany" "NotFree", fun K => fV K "Unlike" "NotFree", fun K => fT K "NoneType" "Tied", fun K => fT K "bool" "Tied", fun K => fT K "int" "Tied", fun K => fT K "str" "Tied", fun K => fT K "tuple" "Tied", fun K => fT K "list" "Tied", fun K => fT K "dict" "Tied", fun K => fT K "set" "Tied", fun K => fV K "Free" "Tied", fun K => fV K "NoArrows" "Tied", fun K => fV K "NoDeed" "Tied"]
def fk37 : List (PySem.W.Frag → Bool) := [fun K => fV K "NoDeeds" "Tied", fun K => fV K "NoHues" "Tied", fun K => fV K "NoName" "Tied", fun K => fV K "NoOrder" "Tied", fun K => fV K "NoRow" "Tied", fun K => fV K "NoRule" "Tied", fun K => fV K "NoRules" "Tied", fun K => fV K "NoSet" "Tied", fun K => fV K "NoSize" "Tied", fun K => fV K "NoText" "Tied", fun K => fV K "NoThing" "Tied", fun K => fV K "NoWorths" "Tied", fun K => fV K "NotFree" "Tied", fun K => fU K "Tied" "Tied", fun K => fV K "TooMany" "Tied", fun K => fV K "Unlike" "Tied", fun K => fT K "NoneType" "TooMany", fun K => fT K "bool" "TooMany", fun K => fT K "int" "TooMany", fun K => fT K "str" "TooMany", fun K => fT K "tuple" "TooMany", fun K => fT K "list" "TooMany", fun K => fT K "dict" "TooMany", fun K => fT K "set" "TooMany", fun K => fV K "Free" "TooMany"]
def fk38 : List (PySem.W.Frag → Bool) := [fun K => fV K "NoArrows" "TooMany", fun K => fV K "NoDeed" "TooMany", fun K => fV K "NoDeeds" "TooMany", fun K => fV K "NoHues" "TooMany", fun K => fV K "NoName" "TooMany", fun K => fV K "NoOrder" "TooMany", fun K => fV K "NoRow" "TooMany", fun K => fV K "NoRule" "TooMany", fun K => fV K "NoRules" "TooMany", fun K => fV K "NoSet" "TooMany", fun K => fV K "NoSize" "TooMany", fun K => fV K "NoText" "TooMany", fun K => fV K "NoThing" "TooMany", fun K => fV K "NoWorths" "TooMany", fun K => fV K "NotFree" "TooMany", fun K => fV K "Tied" "TooMany", fun K => fU K "TooMany" "TooMany", fun K => fV K "Unlike" "TooMany", fun K => fT K "NoneType" "Unlike", fun K => fT K "bool" "Unlike", fun K => fT K "int" "Unlike", fun K => fT K "str" "Unlike", fun K => fT K "tuple" "Unlike", fun K => fT K "list" "Unlike", fun K => fT K "dict" "Unlike"]
def fk39 : List (PySem.W.Frag → Bool) := [fun K => fT K "set" "Unlike", fun K => fV K "Free" "Unlike", fun K => fV K "NoArrows" "Unlike", fun K => fV K "NoDeed" "Unlike", fun K => fV K "NoDeeds" "Unlike", fun K => fV K "NoHues" "Unlike", fun K => fV K "NoName" "Unlike", fun K => fV K "NoOrder" "Unlike", fun K => fV K "NoRow" "Unlike", fun K => fV K "NoRule" "Unlike", fun K => fV K "NoRules" "Unlike", fun K => fV K "NoSet" "Unlike", fun K => fV K "NoSize" "Unlike", fun K => fV K "NoText" "Unlike", fun K => fV K "NoThing" "Unlike", fun K => fV K "NoWorths" "Unlike", fun K => fV K "NotFree" "Unlike", fun K => fV K "Tied" "Unlike", fun K => fV K "TooMany" "Unlike", fun K => fU K "Unlike" "Unlike", fun K => fE K "Free" "ArithmeticError", fun K => fE K "NoArrows" "ArithmeticError", fun K => fE K "NoDeed" "ArithmeticError", fun K => fE K "NoDeeds" "ArithmeticError", fun K => fE K "NoHues" "ArithmeticError"]
def fk40 : List (PySem.W.Frag → Bool) := [fun K => fE K "NoName" "ArithmeticError", fun K => fE K "NoOrder" "ArithmeticError", fun K => fE K "NoRow" "ArithmeticError", fun K => fE K "NoRule" "ArithmeticError", fun K => fE K "NoRules" "ArithmeticError", fun K => fE K "NoSet" "ArithmeticError", fun K => fE K "NoSize" "ArithmeticError", fun K => fE K "NoText" "ArithmeticError", fun K => fE K "NoThing" "ArithmeticError", fun K => fE K "NoWorths" "ArithmeticError", fun K => fE K "NotFree" "ArithmeticError", fun K => fE K "Tied" "ArithmeticError", fun K => fE K "TooMany" "ArithmeticError", fun K => fE K "Unlike" "ArithmeticError", fun K => fE K "Free" "IndexError", fun K => fE K "NoArrows" "IndexError", fun K => fE K "NoDeed" "IndexError", fun K => fE K "NoDeeds" "IndexError", fun K => fE K "NoHues" "IndexError", fun K => fE K "NoName" "IndexError", fun K => fE K "NoOrder" "IndexError", fun K => fE K "NoRow" "IndexError", fun K => fE K "NoRule" "IndexError", fun K => fE K "NoRules" "IndexError", fun K => fE K "NoSet" "IndexError"]
def fk41 : List (PySem.W.Frag → Bool) := [fun K => fE K "NoSize" "IndexError", fun K => fE K "NoText" "IndexError", fun K => decide (PySem.W.kitOne K (.ref (He.ga K "NoThing")) (.type "IndexError") = some true), fun K => fE K "NoWorths" "IndexError", fun K => fE K "NotFree" "IndexError", fun K => fE K "Tied" "IndexError", fun K => fE K "TooMany" "IndexError", fun K => fE K "Unlike" "IndexError", fun K => fE K "Free" "KeyError", fun K => fE K "NoArrows" "KeyError", fun K => fE K "NoDeed" "KeyError", fun K => fE K "NoDeeds" "KeyError", fun K => fE K "NoHues" "KeyError", fun K => decide (PySem.W.kitOne K (.ref (He.ga K "NoName")) (.type "KeyError") = some true), fun K => fE K "NoOrder" "KeyError", fun K => fE K "NoRow" "KeyError", fun K => fE K "NoRule" "KeyError", fun K => fE K "NoRules" "KeyError", fun K => fE K "NoSet" "KeyError", fun K => fE K "NoSize" "KeyError", fun K => fE K "NoText" "KeyError", fun K => fE K "NoThing" "KeyError", fun K => fE K "NoWorths" "KeyError", fun K => fE K "NotFree" "KeyError", fun K => fE K "Tied" "KeyError"]
def fk42 : List (PySem.W.Frag → Bool) := [fun K => fE K "TooMany" "KeyError", fun K => fE K "Unlike" "KeyError", fun K => fE K "Free" "LookupError", fun K => fE K "NoArrows" "LookupError", fun K => decide (PySem.W.kitOne K (.ref (He.ga K "NoDeed")) (.type "LookupError") = some true), fun K => fE K "NoDeeds" "LookupError", fun K => fE K "NoHues" "LookupError", fun K => decide (PySem.W.kitOne K (.ref (He.ga K "NoName")) (.type "LookupError") = some true), fun K => fE K "NoOrder" "LookupError", fun K => fE K "NoRow" "LookupError", fun K => fE K "NoRule" "LookupError", fun K => fE K "NoRules" "LookupError", fun K => fE K "NoSet" "LookupError", fun K => fE K "NoSize" "LookupError", fun K => fE K "NoText" "LookupError", fun K => decide (PySem.W.kitOne K (.ref (He.ga K "NoThing")) (.type "LookupError") = some true), fun K => fE K "NoWorths" "LookupError", fun K => fE K "NotFree" "LookupError", fun K => fE K "Tied" "LookupError", fun K => fE K "TooMany" "LookupError", fun K => fE K "Unlike" "LookupError", fun K => fE K "Free" "RuntimeError", fun K => fE K "NoArrows" "RuntimeError", fun K => fE K "NoDeed" "RuntimeError", fun K => fE K "NoDeeds" "RuntimeError"]
def fk43 : List (PySem.W.Frag → Bool) := [fun K => fE K "NoHues" "RuntimeError", fun K => fE K "NoName" "RuntimeError", fun K => fE K "NoOrder" "RuntimeError", fun K => fE K "NoRow" "RuntimeError", fun K => fE K "NoRule" "RuntimeError", fun K => fE K "NoRules" "RuntimeError", fun K => fE K "NoSet" "RuntimeError", fun K => fE K "NoSize" "RuntimeError", fun K => fE K "NoText" "RuntimeError", fun K => fE K "NoThing" "RuntimeError", fun K => fE K "NoWorths" "RuntimeError", fun K => fE K "NotFree" "RuntimeError", fun K => fE K "Tied" "RuntimeError", fun K => fE K "TooMany" "RuntimeError", fun K => fE K "Unlike" "RuntimeError", fun K => fE K "Free" "TypeError", fun K => fE K "NoArrows" "TypeError", fun K => fE K "NoDeed" "TypeError", fun K => fE K "NoDeeds" "TypeError", fun K => fE K "NoHues" "TypeError", fun K => fE K "NoName" "TypeError", fun K => fE K "NoOrder" "TypeError", fun K => fE K "NoRow" "TypeError", fun K => fE K "NoRule" "TypeError", fun K => fE K "NoRules" "TypeError"]
def fk44 : List (PySem.W.Frag → Bool) := [fun K => fE K "NoSet" "TypeError", fun K => fE K "NoSize" "TypeError", fun K => fE K "NoText" "TypeError", fun K => fE K "NoThing" "TypeError", fun K => fE K "NoWorths" "TypeError", fun K => fE K "NotFree" "TypeError", fun K => fE K "Tied" "TypeError", fun K => fE K "TooMany" "TypeError", fun K => fE K "Unlike" "TypeError", fun K => fE K "Free" "ValueError", fun K => fE K "NoArrows" "ValueError", fun K => fE K "NoDeed" "ValueError", fun K => fE K "NoDeeds" "ValueError", fun K => fE K "NoHues" "ValueError", fun K => fE K "NoName" "ValueError", fun K => fE K "NoOrder" "ValueError", fun K => fE K "NoRow" "ValueError", fun K => fE K "NoRule" "ValueError", fun K => fE K "NoRules" "ValueError", fun K => fE K "NoSet" "ValueError", fun K => fE K "NoSize" "ValueError", fun K => fE K "NoText" "ValueError", fun K => fE K "NoThing" "ValueError", fun K => fE K "NoWorths" "ValueError", fun K => fE K "NotFree" "ValueError"]
def fk45 : List (PySem.W.Frag → Bool) := [fun K => fE K "Tied" "ValueError", fun K => fE K "TooMany" "ValueError", fun K => fE K "Unlike" "ValueError", fun K => decide (PySem.W.exmOne K (.ref (He.ga K "Free")) (.ref (He.ga K "FreeError")) = some true), fun K => decide (PySem.W.exmOne K (.ref (He.ga K "NoArrows")) (.ref (He.ga K "FreeError")) = some true), fun K => decide (PySem.W.exmOne K (.ref (He.ga K "NoDeed")) (.ref (He.ga K "FreeError")) = some false), fun K => decide (PySem.W.exmOne K (.ref (He.ga K "NoDeeds")) (.ref (He.ga K "FreeError")) = some true), fun K => decide (PySem.W.exmOne K (.ref (He.ga K "NoHues")) (.ref (He.ga K "FreeError")) = some true), fun K => decide (PySem.W.exmOne K (.ref (He.ga K "NoName")) (.ref (He.ga K "FreeError")) = some false), fun K => decide (PySem.W.exmOne K (.ref (He.ga K "NoOrder")) (.ref (He.ga K "FreeError")) = some true), fun K => decide (PySem.W.exmOne K (.ref (He.ga K "NoRow")) (.ref (He.ga K "FreeError")) = some true), fun K => decide (PySem.W.exmOne K (.ref (He.ga K "NoRule")) (.ref (He.ga K "FreeError")) = some true), fun K => decide (PySem.W.exmOne K (.ref (He.ga K "NoRules")) (.ref (He.ga K "FreeError")) = some true), fun K => decide (PySem.W.exmOne K (.ref (He.ga K "NoSet")) (.ref (He.ga K "FreeError")) = some true), fun K => decide (PySem.W.exmOne K (.ref (He.ga K "NoSize")) (.ref (He.ga K "FreeError")) = some true), fun K => decide (PySem.W.exmOne K (.ref (He.ga K "NoText")) (.ref (He.ga K "FreeError")) = some true), fun K => decide (PySem.W.exmOne K (.ref (He.ga K "NoThing")) (.ref (He.ga K "FreeError")) = some false), fun K => decide (PySem.W.exmOne K (.ref (He.ga K "NoWorths")) (.ref (He.ga K "FreeError")) = some true), fun K => decide (PySem.W.exmOne K (.ref (He.ga K "NotFree")) (.ref (He.ga K "FreeError")) = some true), fun K => decide (PySem.W.exmOne K (.ref (He.ga K "Tied")) (.ref (He.ga K "FreeError")) = some true), fun K => decide (PySem.W.exmOne K (.ref (He.ga K "TooMany")) (.ref (He.ga K "FreeError")) = some true), fun K => decide (PySem.W.exmOne K (.ref (He.ga K "Unlike")) (.ref (He.ga K "FreeError")) = some true), fun K => fG K "ArithmeticError", fun K => fG K "IndexError", fun K => fG K "KeyError"]
def fk46 : List (PySem.W.Frag → Bool) := [fun K => fG K "LookupError", fun K => fG K "RuntimeError", fun K => fG K "TypeError", fun K => fG K "ValueError", fun K => fG K "enumerate", fun K => fG K "isinstance", fun K => fG K "len", fun K => fG K "max", fun K => fG K "range", fun K => fG K "set", fun K => fG K "sorted", fun K => fG K "tuple"]
def nL : Fl := ([fk0, fk1, fk2, fk3, fk4, fk5, fk6, fk7, fk8, fk9, fk10, fk11, fk12, fk13, fk14, fk15] : Fl)
def pB : Fl := ([fk16, fk17, fk18, fk19, fk20, fk21, fk22, fk23, fk24, fk25, fk26, fk27, fk28, fk29, fk30, fk31] : Fl)
def pA : Fl := ([fk32, fk33, fk34, fk35, fk36, fk37, fk38, fk39, fk40, fk41, fk42, fk43, fk44, fk45, fk46] : Fl)
abbrev fl : Fl := nL ++ pB ++ pA
def loose : List PySem.Str := (["__name__", "FreeError", "NoSet", "NoRule", "NotFree", "Free", "NoSize", "NoRules", "Tied", "NoArrows", "NoText", "NoOrder", "NoWorths", "NoHues", "Unlike", "TooMany", "NoDeeds", "NoRow", "NoThing", "NoName", "NoDeed", "__name__", "_law_cell_at", "_law_numbers", "_law_kinds", "_law_all", "_law_fields", "_law_raised"] : List PySem.Str)
abbrev jy : PySem.W.OpenRow := PySem.W.OpenLaw.row PySem.Challenge.rw_twofree_k02_refusals_made
abbrev hk : PySem.W.Hook := ie fl fnl
def ob (s : PySem.W.SharedT) : He.AlD := i8 fl fnl (HandSHeadRun.getT s)
theorem oZ (s : PySem.W.SharedT) : ob s = hk.obs s.abs := kr (HandSHeadRun.getT_eq s)
set_option maxHeartbeats 0 in
theorem oB (w : World) : HandSHeadRun.RunEq jy (PySem.W.view jy.prog [28]) (ie nL nJ) (obZ nL nJ) 60000 loose w := by
 intro os
 kernel_rfl
set_option maxHeartbeats 0 in
theorem oA (w : World) : n0 jy nH (obZ pB nH) 60000 w := by
 intro os
 kernel_rfl
set_option maxHeartbeats 0 in
theorem oz (w : World) : n0 jy nG (obZ pA nG) 60000 w := by
 intro os
 kernel_rfl
theorem runE (w : World) : HandSHeadRun.RunEq jy (PySem.W.view jy.prog [28]) hk ob 60000 loose w := g4 (g4 (oB w) (oA w)) (oz w)
end K02
set_option Elab.async false
set_option linter.all false
set_option maxRecDepth 100000
namespace Z
open PySem L2
inductive PV where
 | non | bl (b : Bool) | int (i : Int) | str (x : Str)
 | tup (xs : List PV) | lst (xs : List PV) | dct (t : Bool) (kvs : List (PV × PV)) | set (xs : List PV)
 | obj (c : String) (fs : List (String × PV)) | exc (c : String) (fs : List (String × PV))
 | nul
structure Cl where
 i : String → Option Addr
 e : String → Option Addr
 r0 : V
 t : List Addr := []
 o : Bool := false
structure Tb where
 K : PySem.W.Frag
 cl : Cl
def kP : Key → PV
 | .inl i => .int i
 | .inr x => .str x
def c6 (F : Hp) (a : Addr) : Bool → List (PV × V) → Prop
 | false, ks => ∃ es : List (Key × V), Rd F a (.dK es) ∧ ks = es.map fun p => (kP p.1, p.2)
 | true, ks => ∃ es : List (List Key × V), Rd F a (.dT es) ∧ ks = es.map fun p => (.tup (p.1.map kP), p.2)
def cO (F : Hp) (a : Addr) : Bool → List (PV × V) → Prop
 | false, ks => ∃ es : List (Key × V), F a = some (.dK es) ∧ ks = es.map fun p => (kP p.1, p.2)
 | true, ks => ∃ es : List (List Key × V), F a = some (.dT es) ∧ ks = es.map fun p => (.tup (p.1.map kP), p.2)
theorem cO.at {F : Hp} {a : Addr} {t ks} (h : cO F a t ks) : c6 F a t ks := by
 cases t <;> obtain ⟨es, h, r⟩ := h
 ·exact ⟨es, .inl h, r⟩
 ·exact ⟨es, .inl h, r⟩
def jO (F : Hp) (a : Addr) (od : PySem.Obj) : Bool → List (PV × V) → Prop
 | false, ks => ∃ es : List (Key × V), F a = some (.frz od (.dK es)) ∧ ks = es.map fun p => (kP p.1, p.2)
 | true, ks => ∃ es : List (List Key × V), F a = some (.frz od (.dT es)) ∧ ks = es.map fun p => (.tup (p.1.map kP), p.2)
theorem jO.at {F : Hp} {a : Addr} {od t ks} (h : jO F a od t ks) : c6 F a t ks := by
 cases t <;> obtain ⟨es, h, r⟩ := h
 ·exact ⟨es, .inr ⟨od, h⟩, r⟩
 ·exact ⟨es, .inr ⟨od, h⟩, r⟩
theorem jO.mono {F F' : Hp} {a : Addr} {od t ks} (e : ∀ o, F a = some o → F' a = some o) (h : jO F a od t ks) : jO F' a od t ks := by
 cases t <;> obtain ⟨es, h, r⟩ := h <;> exact ⟨es, e _ h, r⟩
def SetAt (F : Hp) (a : Addr) (xs : List PV) : Prop :=
 ∃ (ns : List Int) (S : Int → Bool), xs = ns.map PV.int ∧ ns.Nodup ∧ F a = some (.set S ns.length) ∧ ∀ i, S i = true ↔ i ∈ ns
def ExV (a C : Addr) (d : Option Addr) : HO := .ext fun h => ∃ (oe : Obj) (vs : Array Value), h.get? a = some oe ∧ Zc (.ref C) d oe ∧ oe.data = .fields vs
def ExD (F : Hp) (d : Option Addr) (vs : List (Str × V)) : Prop := (d = none ∧ vs = []) ∨ ∃ dx, d = some dx ∧ F dx = some (.xd vs)
theorem ExD.mono {F F' : Hp} {d vs} (e : ∀ a o, F a = some o → F' a = some o) (h : ExD F d vs) : ExD F' d vs := h.elim .inl fun ⟨dx, p, q⟩ => .inr ⟨dx, p, e _ _ q⟩
def K0 (K : PySem.W.Frag) (a : Addr) : Prop := ∃ (od : Option Addr) (n : Nat) (sl : Array (Option Value)), K.lookup a = some ⟨.type "tuple", od, .seq #[] n, sl⟩
theorem K0.sq {K : PySem.W.Frag} {a : Addr} (h : K0 K a) (H : Hp) : SqT K H a [] := by
 obtain ⟨od, n, sl, e⟩ := h
 exact .inr ⟨_, _, _, e, rfl, rfl, Nat.zero_le _, .nil⟩
mutual
def Rp (T : Tb) (F : Hp) : PV → V → Prop
 | .non, v => v = .non
 | .bl b, v => v = .bl b
 | .int i, v => v = .int i
 | .str x, v => v = .str x
 | .tup xs, v => ∃ a vs, v = .ref a ∧ F a = some (.tup vs) ∧ RpL T F xs vs
 | .lst xs, v => ∃ a vs, v = .ref a ∧ Rd F a (.lst vs) ∧ RpL T F xs vs
 | .dct t kvs, v => ∃ a ks, v = .ref a ∧ c6 F a t ks ∧ RpD T F kvs ks
 | .set xs, v => ∃ a, v = .ref a ∧ SetAt F a xs
 | .obj c fs, v => ∃ a C dx vs, v = .ref a ∧ T.cl.i c = some C ∧ F a = some (.ins C dx vs) ∧ RpF T F fs vs
 | .nul, v => ∃ a, v = .ref a ∧ K0 T.K a
 | .exc c fs, v => ∃ a C d vs, v = .ref a ∧ T.cl.e c = some C ∧ F a = some (ExV a C d) ∧ ExD F d vs ∧ RpF T F fs vs
def RpL (T : Tb) (F : Hp) : List PV → List V → Prop
 | [], vs => vs = []
 | x :: xs, vs => ∃ v ws, vs = v :: ws ∧ Rp T F x v ∧ RpL T F xs ws
def RpD (T : Tb) (F : Hp) : List (PV × PV) → List (PV × V) → Prop
 | [], vs => vs = []
 | (k, x) :: xs, vs => ∃ v ws, vs = (k, v) :: ws ∧ Rp T F x v ∧ RpD T F xs ws
def RpF (T : Tb) (F : Hp) : List (String × PV) → List (Str × V) → Prop
 | [], vs => vs = []
 | (f, x) :: xs, vs => ∃ v ws, vs = (Str.ofString f, v) :: ws ∧ Rp T F x v ∧ RpF T F xs ws
end
theorem bt {F F' : Hp} {a : Addr} {u : HO} (e : Same F F') (h : Rd F a u) : Rd F' a u := by
 rcases h with h | ⟨o, h⟩
 ·exact .inl (e _ _ h)
 ·exact .inr ⟨o, e _ _ h⟩
theorem c6.mono {F F' : Hp} {a : Addr} {t ks} (e : ∀ o, F a = some o → F' a = some o) (h : c6 F a t ks) : c6 F' a t ks := by
 cases t <;> obtain ⟨es, h, r⟩ := h
 ·exact ⟨es, h.elim (fun h => .inl (e _ h)) (fun ⟨o, h⟩ => .inr ⟨o, e _ h⟩), r⟩
 ·exact ⟨es, h.elim (fun h => .inl (e _ h)) (fun ⟨o, h⟩ => .inr ⟨o, e _ h⟩), r⟩
theorem cO.mono {F F' : Hp} {a : Addr} {t ks} (e : ∀ o, F a = some o → F' a = some o) (h : cO F a t ks) : cO F' a t ks := by
 cases t <;> obtain ⟨es, h, r⟩ := h <;> exact ⟨es, e _ h, r⟩
theorem SetAt.mono {F F' : Hp} {a : Addr} {xs} (e : ∀ o, F a = some o → F' a = some o) (h : SetAt F a xs) : SetAt F' a xs := by
 obtain ⟨ns, S, r, nd, h, m⟩ := h
 exact ⟨ns, S, r, nd, e _ h, m⟩
mutual
theorem Rp.mono {T : Tb} {F F' : Hp} (e : Same F F') : (x : PV) → (v : V) → Rp T F x v → Rp T F' x v
 | .non, _, h => by simpa [Rp] using h
 | .bl b, _, h => by simpa [Rp] using h
 | .int i, _, h => by simpa [Rp] using h
 | .str x, _, h => by simpa [Rp] using h
 | .tup xs, _, h => by
  simp only [Rp] at h ⊢
  obtain ⟨a, vs, r, s, l⟩ := h
  exact ⟨a, vs, r, e _ _ s, RpL.mono e xs vs l⟩
 | .lst xs, _, h => by
  simp only [Rp] at h ⊢
  obtain ⟨a, vs, r, s, l⟩ := h
  exact ⟨a, vs, r, bt e s, RpL.mono e xs vs l⟩
 | .dct t kvs, _, h => by
  simp only [Rp] at h ⊢
  obtain ⟨a, ks, r, s, l⟩ := h
  exact ⟨a, ks, r, s.mono (e a), RpD.mono e kvs ks l⟩
 | .set xs, _, h => by
  simp only [Rp] at h ⊢
  obtain ⟨a, r, s⟩ := h
  exact ⟨a, r, s.mono (e a)⟩
 | .obj c fs, _, h => by
  simp only [Rp] at h ⊢
  obtain ⟨a, C, dx, vs, r, s, q, l⟩ := h
  exact ⟨a, C, dx, vs, r, s, e _ _ q, RpF.mono e fs vs l⟩
 | .nul, _, h => by simpa [Rp] using h
 | .exc c fs, _, h => by
  simp only [Rp] at h ⊢
  obtain ⟨a, C, d, vs, r, s, q, x, l⟩ := h
  exact ⟨a, C, d, vs, r, s, e _ _ q, x.mono e, RpF.mono e fs vs l⟩
theorem RpL.mono {T : Tb} {F F' : Hp} (e : Same F F') : (xs : List PV) → (vs : List V) → RpL T F xs vs → RpL T F' xs vs
 | [], _, h => by simpa [RpL] using h
 | x :: xs, _, h => by
  simp only [RpL] at h ⊢
  obtain ⟨v, ws, r, p, q⟩ := h
  exact ⟨v, ws, r, Rp.mono e x v p, RpL.mono e xs ws q⟩
theorem RpD.mono {T : Tb} {F F' : Hp} (e : Same F F') : (xs : List (PV × PV)) → (vs : List (PV × V)) → RpD T F xs vs → RpD T F' xs vs
 | [], _, h => by simpa [RpD] using h
 | (k, x) :: xs, _, h => by
  simp only [RpD] at h ⊢
  obtain ⟨v, ws, r, p, q⟩ := h
  exact ⟨v, ws, r, Rp.mono e x v p, RpD.mono e xs ws q⟩
theorem RpF.mono {T : Tb} {F F' : Hp} (e : Same F F') : (xs : List (String × PV)) → (vs : List (Str × V)) → RpF T F xs vs → RpF T F' xs vs
 | [], _, h => by simpa [RpF] using h
 | (k, x) :: xs, _, h => by
  simp only [RpF] at h ⊢
  obtain ⟨v, ws, r, p, q⟩ := h
  exact ⟨v, ws, r, Rp.mono e x v p, RpF.mono e xs ws q⟩
end
theorem RpL.length {T : Tb} {F : Hp} : ∀ {xs : List PV} {vs : List V}, RpL T F xs vs → vs.length = xs.length
 | [], _, h => by simp only [RpL] at h; subst h; rfl
 | x :: xs, _, h => by
  simp only [RpL] at h
  obtain ⟨v, ws, rfl, _, q⟩ := h
  simp [RpL.length q]
theorem RpL.nil {T : Tb} {F : Hp} : RpL T F [] [] := by simp [RpL]
theorem RpL.cons {T : Tb} {F : Hp} {x v xs vs} (h : Rp T F x v) (t : RpL T F xs vs) : RpL T F (x :: xs) (v :: vs) := by
 simp only [RpL]; exact ⟨v, vs, rfl, h, t⟩
theorem RpL.append {T : Tb} {F : Hp} : ∀ {xs : List PV} {vs : List V} {ys ws}, RpL T F xs vs → RpL T F ys ws → RpL T F (xs ++ ys) (vs ++ ws)
 | [], _, _, _, h, t => by simp only [RpL] at h; subst h; exact t
 | x :: xs, _, _, _, h, t => by
  simp only [RpL] at h
  obtain ⟨v, ws, rfl, p, q⟩ := h
  exact RpL.cons p (RpL.append q t)
theorem RpL.get {T : Tb} {F : Hp} : ∀ {xs : List PV} {vs : List V} {i : Nat} {x}, RpL T F xs vs → xs[i]? = some x → ∃ v, vs[i]? = some v ∧ Rp T F x v
 | [], _, _, _, _, e => by simp at e
 | x :: xs, _, 0, _, h, e => by
  simp only [RpL] at h
  obtain ⟨v, ws, rfl, p, q⟩ := h
  simp at e; subst e
  exact ⟨v, by simp, p⟩
 | x :: xs, _, i + 1, _, h, e => by
  simp only [RpL] at h
  obtain ⟨v, ws, rfl, p, q⟩ := h
  obtain ⟨u, h1, h2⟩ := RpL.get (i := i) q (by simpa using e)
  exact ⟨u, by simpa using h1, h2⟩
theorem RpL.take {T : Tb} {F : Hp} : ∀ {xs : List PV} {vs : List V} (n : Nat), RpL T F xs vs → RpL T F (xs.take n) (vs.take n)
 | _, _, 0, _ => by simpa using RpL.nil
 | [], _, n + 1, h => by simp only [RpL] at h; subst h; simpa using RpL.nil
 | x :: xs, _, n + 1, h => by
  simp only [RpL] at h
  obtain ⟨v, ws, rfl, p, q⟩ := h
  exact RpL.cons p (RpL.take n q)
theorem RpL.drop {T : Tb} {F : Hp} : ∀ {xs : List PV} {vs : List V} (n : Nat), RpL T F xs vs → RpL T F (xs.drop n) (vs.drop n)
 | _, _, 0, h => h
 | [], _, n + 1, h => by simp only [RpL] at h; subst h; simpa using RpL.nil
 | x :: xs, _, n + 1, h => by
  simp only [RpL] at h
  obtain ⟨v, ws, rfl, p, q⟩ := h
  exact RpL.drop n q
theorem RpL.set {T : Tb} {F : Hp} : ∀ {xs : List PV} {vs : List V} (n : Nat) {x v}, RpL T F xs vs → Rp T F x v → RpL T F (xs.set n x) (vs.set n v)
 | [], _, n, _, _, h, _ => by simp only [RpL] at h; subst h; simpa using RpL.nil
 | x :: xs, _, 0, _, _, h, r => by
  simp only [RpL] at h
  obtain ⟨v, ws, rfl, p, q⟩ := h
  exact RpL.cons r q
 | x :: xs, _, n + 1, _, _, h, r => by
  simp only [RpL] at h
  obtain ⟨v, ws, rfl, p, q⟩ := h
  exact RpL.cons p (RpL.set n q r)
theorem RpL.eraseIdx {T : Tb} {F : Hp} : ∀ {xs : List PV} {vs : List V} (n : Nat), RpL T F xs vs → RpL T F (xs.eraseIdx n) (vs.eraseIdx n)
 | [], _, n, h => by simp only [RpL] at h; subst h; simpa using RpL.nil
 | x :: xs, _, 0, h => by
  simp only [RpL] at h
  obtain ⟨v, ws, rfl, p, q⟩ := h
  exact q
 | x :: xs, _, n + 1, h => by
  simp only [RpL] at h
  obtain ⟨v, ws, rfl, p, q⟩ := h
  exact RpL.cons p (RpL.eraseIdx n q)
theorem RpL.ints {T : Tb} {F : Hp} : ∀ {ns : List Int} {vs : List V}, RpL T F (ns.map PV.int) vs → vs = ns.map V.int
 | [], _, h => by simp only [List.map_nil, RpL] at h; exact h
 | n :: ns, _, h => by
  simp only [List.map_cons, RpL] at h
  obtain ⟨v, ws, rfl, p, q⟩ := h
  simp only [Rp] at p
  subst p
  rw [RpL.ints q]; rfl
theorem RpL.ofInts {T : Tb} {F : Hp} : ∀ ns : List Int, RpL T F (ns.map PV.int) (ns.map V.int)
 | [] => RpL.nil
 | n :: ns => RpL.cons (by simp [Rp]) (RpL.ofInts ns)
end Z
namespace Z
open PySem L2
def NT (o : HO) : Prop := ∀ ps, o ≠ .tbl ps
def jN (H : Hp) (P : Addr) : Prop := ∃ ps : Array Value, H P = some (.tbl ps) ∧ TriplesOk ps.toList ∧ ∀ (pos : Pos) (cv : Value), codeAmong pos ps.toList = some cv → ∃ c y, cv = .ref c ∧ H c = some (LamX.CodeO c y)
theorem jN.nil {H : Hp} {P : Addr} (h : H P = some (.tbl #[])) : jN H P := ⟨#[], h, True.intro, fun pos cv hc => by
 have z : codeAmong pos [] = some cv := hc
 simp [codeAmong] at z⟩
structure SameQ (H H' : Hp) : Prop where
 t : ∀ a ps, H a = some (.tbl ps) → ∃ ps', H' a = some (.tbl ps')
 q : ∀ P, jN H P → jN H' P
theorem SameQ.refl {H : Hp} : SameQ H H := ⟨fun _ ps h => ⟨ps, h⟩, fun _ h => h⟩
theorem SameQ.trans {H H1 H2 : Hp} (a : SameQ H H1) (b : SameQ H1 H2) : SameQ H H2 := ⟨fun x ps h => let ⟨p1, h1⟩ := a.t x ps h; b.t x p1 h1, fun P h => b.q P (a.q P h)⟩
theorem SameQ.of {H H' : Hp} (k : ∀ b o, H b = some o → (∃ ps, o = .tbl ps) ∨ (∃ φ, o = .ext φ) → H' b = some o) : SameQ H H' :=
 ⟨fun a ps h => ⟨ps, k a _ h (.inl ⟨ps, rfl⟩)⟩, fun P ⟨ps, h1, h2, h3⟩ => ⟨ps, k _ _ h1 (.inl ⟨ps, rfl⟩), h2, fun pos cv hc => let ⟨c, y, e1, e2⟩ := h3 pos cv hc; ⟨c, y, e1, k _ _ e2 (.inr ⟨_, rfl⟩)⟩⟩⟩
theorem SameQ.wr {H : Hp} {a : Addr} {u : HO} (k : ∀ o, H a = some o → (∀ ps, o ≠ .tbl ps) ∧ ∀ φ, o ≠ .ext φ) : SameQ H (upd H a u) := .of fun b o h d => by
 by_cases e : b = a
 ·subst e
  obtain ⟨k1, k2⟩ := k o h
  rcases d with ⟨ps, d⟩ | ⟨φ, d⟩
  ·exact (k1 ps d).elim
  ·exact (k2 φ d).elim
 ·rw [upd_ne e]; exact h
theorem SameQ.new {H : Hp} {a : Addr} {u : HO} (n : H a = none) : SameQ H (upd H a u) := .wr fun o h => by rw [n] at h; cases h
structure SameT (H H' : Hp) : Prop where
 k : ∀ a o, H a = some o → NT o → H' a = some o
 z : SameQ H H'
theorem SameT.g {H H' : Hp} (e : SameT H H') (a : Addr) (o : HO) (h : H a = some o) (n : NT o := by first | assumption | exact nofun) : H' a = some o := e.k a o h n
theorem SameT.refl (H : Hp) : SameT H H := ⟨fun _ _ h _ => h, .refl⟩
theorem SameT.trans {H H1 H2 : Hp} (a : SameT H H1) (b : SameT H1 H2) : SameT H H2 := ⟨fun x o h n => b.k x o (a.k x o h n) n, a.z.trans b.z⟩
theorem SameT.free {H H' : Hp} (e : SameT H H') {l : Addr} (h : H' l = none) : H l = none := by
 cases q : H l with
 | none => rfl
 | some o =>
  by_cases n : NT o
  ·have := e.k l o q n
   rw [h] at this; cases this
  ·have : ∃ ps, o = .tbl ps := by
    cases o <;> first | exact ⟨_, rfl⟩ | exact (n nofun).elim
   obtain ⟨ps, rfl⟩ := this
   obtain ⟨ps', e2⟩ := e.z.t l ps q
   rw [h] at e2; cases e2
abbrev c5 (H H' : Hp) (A : List Addr) : Prop := ∀ a ∈ A, ∀ o, H a = some o → NT o → H' a = some o
theorem cO.monoN {F F' : Hp} {a : Addr} {t ks} (e : ∀ o, F a = some o → NT o → F' a = some o) (h : cO F a t ks) : cO F' a t ks := by
 cases t <;> obtain ⟨es, h, r⟩ := h <;> exact ⟨es, e _ h nofun, r⟩
theorem SetAt.monoN {F F' : Hp} {a : Addr} {xs} (e : ∀ o, F a = some o → NT o → F' a = some o) (h : SetAt F a xs) : SetAt F' a xs := by
 obtain ⟨ns, S, r, nd, h, m⟩ := h
 exact ⟨ns, S, r, nd, e _ h nofun, m⟩
theorem SameT.nw {H : Hp} {D : Addr} {u : HO} (nD : H D = none) : SameT H (upd H D u) := ⟨fun a o q _ => by rw [upd_ne (ne_of_none q nD)]; exact q, .new nD⟩
theorem SameT.wr {H0 H1 : Hp} {D : Addr} {o0 u : HO} (e : SameT H0 H1) (nD : H0 D = none) (hD : H1 D = some o0) (k : (∀ ps, o0 ≠ .tbl ps) ∧ ∀ φ, o0 ≠ .ext φ := by exact ⟨nofun, nofun⟩) : SameT H0 (upd H1 D u) :=
 ⟨fun a o q n => by rw [upd_ne (ne_of_none q nD)]; exact e.k a o q n, e.z.trans (.wr fun o h => by rw [hD] at h; cases h; exact k)⟩
def TabsOk (T : Tb) (F H : Hp) : Prop := ∀ p ∈ T.cl.t, F p = none ∧ jN H p
def kR (T : Tb) (F H F' H' : Hp) : Prop := TabsOk T F H → TabsOk T F' H'
inductive Md where
 | fz | ow | ob (ms : List Md) | lk
mutual
def OwM (T : Tb) (F H : Hp) : Md → PV → V → List Addr → Prop
 | .fz, x, v, A => Rp T F x v ∧ A = []
 | .ow, x, v, A => ∃ a, v = .ref a ∧ A = [a] ∧ (match x with
  | .lst xs => ∃ vs, H a = some (.lst vs) ∧ RpL T F xs vs
  | .dct t kvs => ∃ ks, cO H a t ks ∧ RpD T F kvs ks
  | .set xs => SetAt H a xs
  | _ => False)
 | .ob ms, x, v, A => ∃ a C dx vs A', v = .ref a ∧ A = a :: A' ∧ H a = some (.ins C dx vs) ∧ (match x with
  | .obj c fs => T.cl.i c = some C ∧ OwF T F H ms fs vs A'
  | _ => False)
 | .lk, x, v, A => ∃ d od t ks kvs, x = .dct t kvs ∧ v = .ref d ∧ A = [] ∧ jO F d od t ks ∧ RpD T F kvs ks
def OwF (T : Tb) (F H : Hp) : List Md → List (String × PV) → List (Str × V) → List Addr → Prop
 | [], fs, vs, A => fs = [] ∧ vs = [] ∧ A = []
 | m :: ms, fs, vs, A => ∃ f x fs' v vs' A1 A2, fs = (f, x) :: fs' ∧ vs = (Str.ofString f, v) :: vs' ∧ A = A1 ++ A2 ∧ OwM T F H m x v A1 ∧ OwF T F H ms fs' vs' A2
end
mutual
def OwT (T : Tb) (F H : Hp) : PV → V → List Addr → Prop
 | .lst xs, v, A => ∃ a vs A', v = .ref a ∧ A = a :: A' ∧ H a = some (.lst vs) ∧ ax T F H xs vs A'
 | .tup xs, v, A => ∃ a vs, v = .ref a ∧ F a = some (.tup vs) ∧ ax T F H xs vs A
 | .non, v, A => Rp T F .non v ∧ A = []
 | .bl b, v, A => Rp T F (.bl b) v ∧ A = []
 | .int b, v, A => Rp T F (.int b) v ∧ A = []
 | .str b, v, A => Rp T F (.str b) v ∧ A = []
 | .dct t kvs, v, A => Rp T F (.dct t kvs) v ∧ A = []
 | .set xs, v, A => Rp T F (.set xs) v ∧ A = []
 | .obj c fs, v, A => Rp T F (.obj c fs) v ∧ A = []
 | .exc c fs, v, A => Rp T F (.exc c fs) v ∧ A = []
 | .nul, v, A => Rp T F .nul v ∧ A = []
def ax (T : Tb) (F H : Hp) : List PV → List V → List Addr → Prop
 | [], vs, A => vs = [] ∧ A = []
 | x :: xs, vs, A => ∃ v ws A1 A2, vs = v :: ws ∧ A = A1 ++ A2 ∧ OwT T F H x v A1 ∧ ax T F H xs ws A2
end
def Nw (H : Hp) (a : Addr) : Prop := H a = none ∨ ∃ ts, H a = some (.tup ts)
theorem Nw.back {H H1 : Hp} {a : Addr} (e : SameT H H1) (h : Nw H1 a) : Nw H a := by
 rcases h with h | ⟨ts, h⟩
 ·exact .inl (e.free h)
 ·cases q : H a with
  | none => exact .inl q
  | some o =>
   by_cases n : NT o
   ·have := e.k a o q n
    rw [h] at this; cases this; exact .inr ⟨ts, q⟩
   ·have : ∃ ps, o = .tbl ps := by
     cases o <;> first | exact ⟨_, rfl⟩ | exact (n nofun).elim
    obtain ⟨ps, rfl⟩ := this
    obtain ⟨ps', e2⟩ := e.z.t a ps q
    rw [h] at e2; cases e2
theorem cO.dom {F : Hp} {a : Addr} {t ks} (h : cO F a t ks) : ∃ o, F a = some o := by
 cases t <;> obtain ⟨es, h, _⟩ := h <;> exact ⟨_, h⟩
theorem SetAt.dom {F : Hp} {a : Addr} {xs} (h : SetAt F a xs) : ∃ o, F a = some o := by
 obtain ⟨_, _, _, _, h, _⟩ := h
 exact ⟨_, h⟩
mutual
theorem OwM.dom {T : Tb} {F H : Hp} : (m : Md) → ∀ {x v A}, OwM T F H m x v A → ∀ a ∈ A, ∃ o, H a = some o
 | .fz, x, v, A, h, a, ha => by simp only [OwM] at h; rw [h.2] at ha; simp at ha
 | .ow, x, v, A, h, a, ha => by
  simp only [OwM] at h
  obtain ⟨b, rfl, rfl, h⟩ := h
  obtain rfl : a = b := by simpa using ha
  cases x <;> first | exact h.elim | skip
  ·obtain ⟨vs, h, _⟩ := h; exact ⟨_, h⟩
  ·obtain ⟨ks, h, _⟩ := h; exact h.dom
  ·exact SetAt.dom h
 | .ob ms, x, v, A, h, a, ha => by
  simp only [OwM] at h
  obtain ⟨b, C, dx, vs, A', rfl, rfl, hb, h⟩ := h
  cases x <;> first | exact h.elim | skip
  rcases List.mem_cons.mp ha with rfl | ha
  ·exact ⟨_, hb⟩
  ·exact OwF.dom ms h.2 a ha
 | .lk, x, v, A, h, a, ha => by
  simp only [OwM] at h
  obtain ⟨_, _, _, _, _, _, _, rfl, _⟩ := h
  simp at ha
theorem OwF.dom {T : Tb} {F H : Hp} : (ms : List Md) → ∀ {fs vs A}, OwF T F H ms fs vs A → ∀ a ∈ A, ∃ o, H a = some o
 | [], fs, vs, A, h, a, ha => by simp only [OwF] at h; rw [h.2.2] at ha; simp at ha
 | m :: ms, fs, vs, A, h, a, ha => by
  simp only [OwF] at h
  obtain ⟨f, x, fs', v, vs', A1, A2, rfl, rfl, rfl, h1, h2⟩ := h
  rcases List.mem_append.mp ha with ha | ha
  ·exact OwM.dom m h1 a ha
  ·exact OwF.dom ms h2 a ha
end
theorem SetAt.nt {F : Hp} {a : Addr} {xs} (h : SetAt F a xs) (z : Nw F a) : False := by
 obtain ⟨_, _, _, _, h, _⟩ := h
 rcases z with z | ⟨ts, z⟩ <;> rw [h] at z <;> cases z
theorem cO.nt {F : Hp} {a : Addr} {t ks} (h : cO F a t ks) (z : Nw F a) : False := by
 cases t <;> obtain ⟨es, h, _⟩ := h <;> (rcases z with z | ⟨ts, z⟩ <;> rw [h] at z <;> cases z)
theorem k8 {T : Tb} {F H F' H' : Hp} (zq : SameQ H H') (new : ∀ a o, F' a = some o → F a = some o ∨ (∃ o', H a = some o' ∧ NT o') ∨ Nw H a) : kR T F H F' H' := fun h p hp => by
 obtain ⟨h1, ps, h2, h3⟩ := h p hp
 refine ⟨?_, zq.q _ ⟨ps, h2, h3⟩⟩
 cases q : F' p with
 | none => rfl
 | some o =>
  rcases new _ o q with z | ⟨o', z, n⟩ | z | ⟨ts, z⟩
  ·rw [h1] at z; cases z
  ·rw [h2] at z; cases z; exact (n ps rfl).elim
  ·rw [h2] at z; cases z
  ·rw [h2] at z; cases z
mutual
theorem OwM.nt {T : Tb} {F H : Hp} : (m : Md) → ∀ {x v A}, OwM T F H m x v A → ∀ a ∈ A, Nw H a → False
 | .fz, x, v, A, h, a, ha, z => by simp only [OwM] at h; rw [h.2] at ha; simp at ha
 | .ow, x, v, A, h, a, ha, z => by
  simp only [OwM] at h
  obtain ⟨b, rfl, rfl, h⟩ := h
  obtain rfl : a = b := by simpa using ha
  cases x <;> first | exact h.elim | skip
  ·obtain ⟨vs, h, _⟩ := h
   rcases z with z | ⟨ts, z⟩ <;> rw [h] at z <;> cases z
  ·obtain ⟨ks, h, _⟩ := h; exact h.nt z
  ·exact SetAt.nt h z
 | .ob ms, x, v, A, h, a, ha, z => by
  simp only [OwM] at h
  obtain ⟨b, C, dx, vs, A', rfl, rfl, hb, h⟩ := h
  cases x <;> first | exact h.elim | skip
  rcases List.mem_cons.mp ha with rfl | ha
  ·rcases z with z | ⟨ts, z⟩ <;> rw [hb] at z <;> cases z
  ·exact OwF.nt ms h.2 a ha z
 | .lk, x, v, A, h, a, ha, z => by
  simp only [OwM] at h
  obtain ⟨_, _, _, _, _, _, _, rfl, _⟩ := h
  simp at ha
theorem OwF.nt {T : Tb} {F H : Hp} : (ms : List Md) → ∀ {fs vs A}, OwF T F H ms fs vs A → ∀ a ∈ A, Nw H a → False
 | [], fs, vs, A, h, a, ha, z => by simp only [OwF] at h; rw [h.2.2] at ha; simp at ha
 | m :: ms, fs, vs, A, h, a, ha, z => by
  simp only [OwF] at h
  obtain ⟨f, x, fs', v, vs', A1, A2, rfl, rfl, rfl, h1, h2⟩ := h
  rcases List.mem_append.mp ha with ha | ha
  ·exact OwM.nt m h1 a ha z
  ·exact OwF.nt ms h2 a ha z
end
theorem SetAt.nx {F : Hp} {a : Addr} {xs} (h : SetAt F a xs) : ∀ o, F a = some o → (∀ ps, o ≠ .tbl ps) ∧ ∀ φ, o ≠ .ext φ := fun o z => by
 obtain ⟨_, _, _, _, h, _⟩ := h
 rw [h] at z; cases z; exact ⟨nofun, nofun⟩
theorem cO.nx {F : Hp} {a : Addr} {t ks} (h : cO F a t ks) : ∀ o, F a = some o → (∀ ps, o ≠ .tbl ps) ∧ ∀ φ, o ≠ .ext φ := fun o z => by
 cases t <;> obtain ⟨es, h, _⟩ := h <;> (rw [h] at z; cases z; exact ⟨nofun, nofun⟩)
mutual
theorem OwM.nx {T : Tb} {F H : Hp} : (m : Md) → ∀ {x v A}, OwM T F H m x v A → ∀ a ∈ A, ∀ o, H a = some o → (∀ ps, o ≠ .tbl ps) ∧ ∀ φ, o ≠ .ext φ
 | .fz, x, v, A, h, a, ha, o, z => by simp only [OwM] at h; rw [h.2] at ha; simp at ha
 | .ow, x, v, A, h, a, ha, o, z => by
  simp only [OwM] at h
  obtain ⟨b, rfl, rfl, h⟩ := h
  obtain rfl : a = b := by simpa using ha
  cases x <;> first | exact h.elim | skip
  ·obtain ⟨vs, h, _⟩ := h
   rw [h] at z; cases z; exact ⟨nofun, nofun⟩
  ·obtain ⟨ks, h, _⟩ := h; exact h.nx o z
  ·exact SetAt.nx h o z
 | .ob ms, x, v, A, h, a, ha, o, z => by
  simp only [OwM] at h
  obtain ⟨b, C, dx, vs, A', rfl, rfl, hb, h⟩ := h
  cases x <;> first | exact h.elim | skip
  rcases List.mem_cons.mp ha with rfl | ha
  ·rw [hb] at z; cases z; exact ⟨nofun, nofun⟩
  ·exact OwF.nx ms h.2 a ha o z
 | .lk, x, v, A, h, a, ha, o, z => by
  simp only [OwM] at h
  obtain ⟨_, _, _, _, _, _, _, rfl, _⟩ := h
  simp at ha
theorem OwF.nx {T : Tb} {F H : Hp} : (ms : List Md) → ∀ {fs vs A}, OwF T F H ms fs vs A → ∀ a ∈ A, ∀ o, H a = some o → (∀ ps, o ≠ .tbl ps) ∧ ∀ φ, o ≠ .ext φ
 | [], fs, vs, A, h, a, ha, o, z => by simp only [OwF] at h; rw [h.2.2] at ha; simp at ha
 | m :: ms, fs, vs, A, h, a, ha, o, z => by
  simp only [OwF] at h
  obtain ⟨f, x, fs', v, vs', A1, A2, rfl, rfl, rfl, h1, h2⟩ := h
  rcases List.mem_append.mp ha with ha | ha
  ·exact OwM.nx m h1 a ha o z
  ·exact OwF.nx ms h2 a ha o z
end
mutual
theorem OwM.mono {T : Tb} {F F' H H' : Hp} (e : Same F F') : (m : Md) → ∀ {x v A}, OwM T F H m x v A → (c5 H H' A) → OwM T F' H' m x v A
 | .fz, x, v, A, h, k => by simp only [OwM] at h ⊢; exact ⟨h.1.mono e, h.2⟩
 | .ow, x, v, A, h, k => by
  simp only [OwM] at h ⊢
  obtain ⟨b, rfl, rfl, h⟩ := h
  refine ⟨b, rfl, rfl, ?_⟩
  have kb : ∀ o, H b = some o → NT o → H' b = some o := fun o h n => k b (by simp) o h n
  cases x <;> first | exact h.elim | skip
  ·obtain ⟨vs, h, r⟩ := h; exact ⟨vs, kb _ h nofun, RpL.mono e _ _ r⟩
  ·obtain ⟨ks, h, r⟩ := h; exact ⟨ks, h.monoN kb, RpD.mono e _ _ r⟩
  ·exact SetAt.monoN kb h
 | .ob ms, x, v, A, h, k => by
  simp only [OwM] at h ⊢
  obtain ⟨b, C, dx, vs, A', rfl, rfl, hb, h⟩ := h
  refine ⟨b, C, dx, vs, A', rfl, rfl, k b (by simp) _ hb nofun, ?_⟩
  cases x <;> first | exact h.elim | skip
  exact ⟨h.1, OwF.mono e ms h.2 fun a ha o h n => k a (List.mem_cons_of_mem _ ha) o h n⟩
 | .lk, x, v, A, h, k => by
  simp only [OwM] at h ⊢
  obtain ⟨d, od, t, ks, kvs, r1, r2, r3, r4, r5⟩ := h
  exact ⟨d, od, t, ks, kvs, r1, r2, r3, r4.mono (e d), RpD.mono e _ _ r5⟩
theorem OwF.mono {T : Tb} {F F' H H' : Hp} (e : Same F F') : (ms : List Md) → ∀ {fs vs A}, OwF T F H ms fs vs A → (c5 H H' A) → OwF T F' H' ms fs vs A
 | [], fs, vs, A, h, k => by simp only [OwF] at h ⊢; exact h
 | m :: ms, fs, vs, A, h, k => by
  simp only [OwF] at h ⊢
  obtain ⟨f, x, fs', v, vs', A1, A2, rfl, rfl, rfl, h1, h2⟩ := h
  exact ⟨f, x, fs', v, vs', A1, A2, rfl, rfl, rfl, OwM.mono e m h1 fun a ha o h n => k a (List.mem_append_left _ ha) o h n, OwF.mono e ms h2 fun a ha o h n => k a (List.mem_append_right _ ha) o h n⟩
end
def frz (F H : Hp) (A : List Addr) : Hp := fun a => if a ∈ A then H a else F a
theorem bG {F H : Hp} {A : List Addr} (d : ∀ a ∈ A, F a = none) : Same F (frz F H A) := fun a o h => by
 unfold frz
 rw [if_neg (fun ha => by rw [d a ha] at h; cases h)]
 exact h
theorem eA {F H : Hp} {A : List Addr} (s : Same F H) : Same (frz F H A) H := fun a o h => by
 unfold frz at h
 split at h
 ·exact h
 ·exact s a o h
theorem iI {F H : Hp} {A : List Addr} {a : Addr} {o : HO} (ha : a ∈ A) (h : H a = some o) : frz F H A a = some o := by
 unfold frz; rw [if_pos ha]; exact h
theorem eB {F H : Hp} {A : List Addr} {a : Addr} (ha : a ∉ A) : frz F H A a = F a := by
 unfold frz; rw [if_neg ha]
mutual
theorem OwM.freeze {T : Tb} {F F' H : Hp} (e : Same F F') : (m : Md) → ∀ {x v A}, OwM T F H m x v A → (∀ a ∈ A, ∀ o, H a = some o → F' a = some o) → Rp T F' x v
 | .fz, x, v, A, h, k => by simp only [OwM] at h; exact h.1.mono e
 | .ow, x, v, A, h, k => by
  simp only [OwM] at h
  obtain ⟨b, rfl, rfl, h⟩ := h
  have kb := k b (by simp)
  cases x <;> first | exact h.elim | skip
  ·obtain ⟨vs, h, r⟩ := h; simp only [Rp]; exact ⟨b, vs, rfl, .inl (kb _ h), RpL.mono e _ _ r⟩
  ·obtain ⟨ks, h, r⟩ := h; simp only [Rp]; exact ⟨b, ks, rfl, (h.mono kb).at, RpD.mono e _ _ r⟩
  ·simp only [Rp]; exact ⟨b, rfl, SetAt.mono kb h⟩
 | .ob ms, x, v, A, h, k => by
  simp only [OwM] at h
  obtain ⟨b, C, dx, vs, A', rfl, rfl, hb, h⟩ := h
  cases x <;> first | exact h.elim | skip
  simp only [Rp]
  exact ⟨b, C, dx, vs, rfl, h.1, k b (by simp) _ hb, OwF.freeze e ms h.2 fun a ha => k a (List.mem_cons_of_mem _ ha)⟩
 | .lk, x, v, A, h, k => by
  simp only [OwM] at h
  obtain ⟨d, od, t, ks, kvs, rfl, rfl, rfl, r4, r5⟩ := h
  simp only [Rp]
  exact ⟨d, _, rfl, (r4.mono (e d)).at, RpD.mono e _ _ r5⟩
theorem OwF.freeze {T : Tb} {F F' H : Hp} (e : Same F F') : (ms : List Md) → ∀ {fs vs A}, OwF T F H ms fs vs A → (∀ a ∈ A, ∀ o, H a = some o → F' a = some o) → RpF T F' fs vs
 | [], fs, vs, A, h, k => by simp only [OwF] at h; rw [h.1, h.2.1]; simp [RpF]
 | m :: ms, fs, vs, A, h, k => by
  simp only [OwF] at h
  obtain ⟨f, x, fs', v, vs', A1, A2, rfl, rfl, rfl, h1, h2⟩ := h
  simp only [RpF]
  exact ⟨v, vs', rfl, OwM.freeze e m h1 fun a ha => k a (List.mem_append_left _ ha), OwF.freeze e ms h2 fun a ha => k a (List.mem_append_right _ ha)⟩
end
mutual
theorem OwT.dom {T : Tb} {F H : Hp} : (x : PV) → ∀ {v A}, OwT T F H x v A → ∀ a ∈ A, ∃ o, H a = some o
 | .lst xs, v, A, h, a, ha => by
  simp only [OwT] at h
  obtain ⟨b, vs, A', rfl, rfl, q, h⟩ := h
  rcases List.mem_cons.mp ha with rfl | ha
  ·exact ⟨_, q⟩
  ·exact ax.dom xs h a ha
 | .tup xs, v, A, h, a, ha => by
  simp only [OwT] at h
  obtain ⟨b, vs, rfl, q, h⟩ := h
  exact ax.dom xs h a ha
 | .non, v, A, h, a, ha => by simp only [OwT] at h; rw [h.2] at ha; cases ha
 | .bl _, v, A, h, a, ha => by simp only [OwT] at h; rw [h.2] at ha; cases ha
 | .int _, v, A, h, a, ha => by simp only [OwT] at h; rw [h.2] at ha; cases ha
 | .str _, v, A, h, a, ha => by simp only [OwT] at h; rw [h.2] at ha; cases ha
 | .dct _ _, v, A, h, a, ha => by simp only [OwT] at h; rw [h.2] at ha; cases ha
 | .set _, v, A, h, a, ha => by simp only [OwT] at h; rw [h.2] at ha; cases ha
 | .obj _ _, v, A, h, a, ha => by simp only [OwT] at h; rw [h.2] at ha; cases ha
 | .exc _ _, v, A, h, a, ha => by simp only [OwT] at h; rw [h.2] at ha; cases ha
 | .nul, v, A, h, a, ha => by simp only [OwT] at h; rw [h.2] at ha; cases ha
theorem ax.dom {T : Tb} {F H : Hp} : (xs : List PV) → ∀ {vs A}, ax T F H xs vs A → ∀ a ∈ A, ∃ o, H a = some o
 | [], vs, A, h, a, ha => by simp only [ax] at h; rw [h.2] at ha; cases ha
 | x :: xs, vs, A, h, a, ha => by
  simp only [ax] at h
  obtain ⟨v, ws, A1, A2, rfl, rfl, h1, h2⟩ := h
  rcases List.mem_append.mp ha with ha | ha
  ·exact OwT.dom x h1 a ha
  ·exact ax.dom xs h2 a ha
end
mutual
theorem OwT.lsts {T : Tb} {F H : Hp} : (x : PV) → ∀ {v A}, OwT T F H x v A → ∀ a ∈ A, ∃ vs, H a = some (.lst vs)
 | .lst xs, v, A, h, a, ha => by
  simp only [OwT] at h
  obtain ⟨b, vs, A', rfl, rfl, q, h⟩ := h
  rcases List.mem_cons.mp ha with rfl | ha
  ·exact ⟨_, q⟩
  ·exact ax.lsts xs h a ha
 | .tup xs, v, A, h, a, ha => by
  simp only [OwT] at h
  obtain ⟨b, vs, rfl, q, h⟩ := h
  exact ax.lsts xs h a ha
 | .non, v, A, h, a, ha => by simp only [OwT] at h; rw [h.2] at ha; cases ha
 | .bl _, v, A, h, a, ha => by simp only [OwT] at h; rw [h.2] at ha; cases ha
 | .int _, v, A, h, a, ha => by simp only [OwT] at h; rw [h.2] at ha; cases ha
 | .str _, v, A, h, a, ha => by simp only [OwT] at h; rw [h.2] at ha; cases ha
 | .dct _ _, v, A, h, a, ha => by simp only [OwT] at h; rw [h.2] at ha; cases ha
 | .set _, v, A, h, a, ha => by simp only [OwT] at h; rw [h.2] at ha; cases ha
 | .obj _ _, v, A, h, a, ha => by simp only [OwT] at h; rw [h.2] at ha; cases ha
 | .exc _ _, v, A, h, a, ha => by simp only [OwT] at h; rw [h.2] at ha; cases ha
 | .nul, v, A, h, a, ha => by simp only [OwT] at h; rw [h.2] at ha; cases ha
theorem ax.lsts {T : Tb} {F H : Hp} : (xs : List PV) → ∀ {vs A}, ax T F H xs vs A → ∀ a ∈ A, ∃ vs, H a = some (.lst vs)
 | [], vs, A, h, a, ha => by simp only [ax] at h; rw [h.2] at ha; cases ha
 | x :: xs, vs, A, h, a, ha => by
  simp only [ax] at h
  obtain ⟨v, ws, A1, A2, rfl, rfl, h1, h2⟩ := h
  rcases List.mem_append.mp ha with ha | ha
  ·exact OwT.lsts x h1 a ha
  ·exact ax.lsts xs h2 a ha
end
theorem OwT.nt {T : Tb} {F H : Hp} (x : PV) {v A} (h : OwT T F H x v A) (a : Addr) (ha : a ∈ A) (z : Nw H a) : False := by
 obtain ⟨vs, q⟩ := OwT.lsts x h a ha
 rcases z with z | ⟨ts, z⟩ <;> rw [q] at z <;> cases z
theorem OwT.nx {T : Tb} {F H : Hp} (x : PV) {v A} (h : OwT T F H x v A) (a : Addr) (ha : a ∈ A) (o : HO) (z : H a = some o) : (∀ ps, o ≠ .tbl ps) ∧ ∀ φ, o ≠ .ext φ := by
 obtain ⟨vs, q⟩ := OwT.lsts x h a ha
 rw [q] at z; cases z; exact ⟨nofun, nofun⟩
mutual
theorem OwT.mono {T : Tb} {F F' H H' : Hp} (e : Same F F') : (x : PV) → ∀ {v A}, OwT T F H x v A → c5 H H' A → OwT T F' H' x v A
 | .lst xs, v, A, h, k => by
  simp only [OwT] at h ⊢
  obtain ⟨b, vs, A', rfl, rfl, q, h⟩ := h
  exact ⟨b, vs, A', rfl, rfl, k b (by simp) _ q nofun, ax.mono e xs h fun a ha o h n => k a (List.mem_cons_of_mem _ ha) o h n⟩
 | .tup xs, v, A, h, k => by
  simp only [OwT] at h ⊢
  obtain ⟨b, vs, rfl, q, h⟩ := h
  exact ⟨b, vs, rfl, e _ _ q, ax.mono e xs h k⟩
 | .non, v, A, h, k => by simp only [OwT] at h ⊢; exact ⟨h.1.mono e, h.2⟩
 | .bl _, v, A, h, k => by simp only [OwT] at h ⊢; exact ⟨h.1.mono e, h.2⟩
 | .int _, v, A, h, k => by simp only [OwT] at h ⊢; exact ⟨h.1.mono e, h.2⟩
 | .str _, v, A, h, k => by simp only [OwT] at h ⊢; exact ⟨h.1.mono e, h.2⟩
 | .dct _ _, v, A, h, k => by simp only [OwT] at h ⊢; exact ⟨h.1.mono e, h.2⟩
 | .set _, v, A, h, k => by simp only [OwT] at h ⊢; exact ⟨h.1.mono e, h.2⟩
 | .obj _ _, v, A, h, k => by simp only [OwT] at h ⊢; exact ⟨h.1.mono e, h.2⟩
 | .exc _ _, v, A, h, k => by simp only [OwT] at h ⊢; exact ⟨h.1.mono e, h.2⟩
 | .nul, v, A, h, k => by simp only [OwT] at h ⊢; exact ⟨h.1.mono e, h.2⟩
theorem ax.mono {T : Tb} {F F' H H' : Hp} (e : Same F F') : (xs : List PV) → ∀ {vs A}, ax T F H xs vs A → c5 H H' A → ax T F' H' xs vs A
 | [], vs, A, h, k => by simp only [ax] at h ⊢; exact h
 | x :: xs, vs, A, h, k => by
  simp only [ax] at h ⊢
  obtain ⟨v, ws, A1, A2, rfl, rfl, h1, h2⟩ := h
  exact ⟨v, ws, A1, A2, rfl, rfl, OwT.mono e x h1 fun a ha o h n => k a (List.mem_append_left _ ha) o h n, ax.mono e xs h2 fun a ha o h n => k a (List.mem_append_right _ ha) o h n⟩
end
mutual
theorem OwT.freeze {T : Tb} {F F' H : Hp} (e : Same F F') : (x : PV) → ∀ {v A}, OwT T F H x v A → (∀ a ∈ A, ∀ o, H a = some o → F' a = some o) → Rp T F' x v
 | .lst xs, v, A, h, k => by
  simp only [OwT] at h
  obtain ⟨b, vs, A', rfl, rfl, q, h⟩ := h
  simp only [Rp]
  exact ⟨b, vs, rfl, .inl (k b (by simp) _ q), ax.freeze e xs h fun a ha => k a (List.mem_cons_of_mem _ ha)⟩
 | .tup xs, v, A, h, k => by
  simp only [OwT] at h
  obtain ⟨b, vs, rfl, q, h⟩ := h
  simp only [Rp]
  exact ⟨b, vs, rfl, e _ _ q, ax.freeze e xs h k⟩
 | .non, v, A, h, k => by simp only [OwT] at h; exact h.1.mono e
 | .bl _, v, A, h, k => by simp only [OwT] at h; exact h.1.mono e
 | .int _, v, A, h, k => by simp only [OwT] at h; exact h.1.mono e
 | .str _, v, A, h, k => by simp only [OwT] at h; exact h.1.mono e
 | .dct _ _, v, A, h, k => by simp only [OwT] at h; exact h.1.mono e
 | .set _, v, A, h, k => by simp only [OwT] at h; exact h.1.mono e
 | .obj _ _, v, A, h, k => by simp only [OwT] at h; exact h.1.mono e
 | .exc _ _, v, A, h, k => by simp only [OwT] at h; exact h.1.mono e
 | .nul, v, A, h, k => by simp only [OwT] at h; exact h.1.mono e
theorem ax.freeze {T : Tb} {F F' H : Hp} (e : Same F F') : (xs : List PV) → ∀ {vs A}, ax T F H xs vs A → (∀ a ∈ A, ∀ o, H a = some o → F' a = some o) → RpL T F' xs vs
 | [], vs, A, h, k => by simp only [ax] at h; rw [h.1]; exact RpL.nil
 | x :: xs, vs, A, h, k => by
  simp only [ax] at h
  obtain ⟨v, ws, A1, A2, rfl, rfl, h1, h2⟩ := h
  exact RpL.cons (OwT.freeze e x h1 fun a ha => k a (List.mem_append_left _ ha)) (ax.freeze e xs h2 fun a ha => k a (List.mem_append_right _ ha))
end
inductive Sl where
 | un | sl (m : Md) (x : PV) | me (m : Md) (x : PV) | tr (x : PV)
abbrev Env := List Sl
def OwE (T : Tb) (F H : Hp) : Env → St → List Addr → Prop
 | [], σ, A => σ = [] ∧ A = [] ∧ TabsOk T F H
 | .un :: γ, σ, A => ∃ w σ', σ = w :: σ' ∧ OwE T F H γ σ' A
 | .sl m x :: γ, σ, A => ∃ v σ' A1 A2, σ = some v :: σ' ∧ A = A1 ++ A2 ∧ OwM T F H m x v A1 ∧ OwE T F H γ σ' A2
 | .me m x :: γ, σ, A => ∃ v σ' A1 A2, σ = some v :: σ' ∧ A = A1 ++ A2 ∧ (OwM T F H m x v A1 ∧ v = T.cl.r0) ∧ OwE T F H γ σ' A2
 | .tr x :: γ, σ, A => ∃ v σ' A1 A2, σ = some v :: σ' ∧ A = A1 ++ A2 ∧ OwT T F H x v A1 ∧ OwE T F H γ σ' A2
structure Rel (T : Tb) (F : Hp) (A : List Addr) (σ : St) (H : Hp) (γ : Env) : Prop where
 sub : Same F H
 env : OwE T F H γ σ A
 nd : A.Nodup
 dis : ∀ a ∈ A, F a = none
structure Ext (F H F' H' : Hp) : Prop where
 sub : Same F' H'
 fle : Same F F'
 hle : SameT H H'
 new : ∀ a o, F' a = some o → F a = some o ∨ Nw H a
theorem Ext.refl {F H : Hp} (s : Same F H) : Ext F H F H := ⟨s, Same.refl _, SameT.refl _, fun _ _ h => .inl h⟩
theorem Ext.trans {F H F1 H1 F2 H2 : Hp} (a : Ext F H F1 H1) (b : Ext F1 H1 F2 H2) : Ext F H F2 H2 :=
 ⟨b.sub, a.fle.trans b.fle, a.hle.trans b.hle, fun x o h => by
  rcases b.new x o h with h | h
  ·exact a.new x o h
  ·exact .inr (h.back a.hle)⟩
theorem Ext.newF {F H : Hp} {p : Addr} {o : HO} (s : Same F H) (np : H p = none) : Ext F H (upd F p o) (upd H p o) := by
 have nf : F p = none := s.free np
 refine ⟨fun a u h => ?_, fun a u h => ?_, ⟨fun a u h _ => ?_, .new np⟩, fun a u h => ?_⟩
 ·by_cases e : a = p
  ·subst e; rw [upd_same] at h ⊢; exact h
  ·rw [upd_ne e] at h ⊢; exact s a u h
 ·rw [upd_ne (ne_of_none h nf)]; exact h
 ·rw [upd_ne (ne_of_none h np)]; exact h
 ·by_cases e : a = p
  ·subst e; exact .inr (.inl np)
  ·rw [upd_ne e] at h; exact .inl h
theorem Ext.newO {F H : Hp} {p : Addr} {o : HO} (s : Same F H) (np : H p = none) : Ext F H F (upd H p o) := by
 refine ⟨fun a u h => ?_, Same.refl _, ⟨fun a u h _ => ?_, .new np⟩, fun a u h => .inl h⟩
 ·rw [upd_ne (ne_of_none (s a u h) np)]; exact s a u h
 ·rw [upd_ne (ne_of_none h np)]; exact h
theorem Ext.tg {T : Tb} {F H F' H' : Hp} (e : Ext F H F' H') : kR T F H F' H' := k8 e.hle.z fun a o q => (e.new a o q).elim .inl fun z => .inr (.inr z)
theorem OwE.dom {T : Tb} {F H : Hp} : (γ : Env) → ∀ {σ A}, OwE T F H γ σ A → ∀ a ∈ A, ∃ o, H a = some o
 | [], σ, A, h, a, ha => by simp only [OwE] at h; rw [h.2.1] at ha; simp at ha
 | .un :: γ, σ, A, h, a, ha => by
  simp only [OwE] at h
  obtain ⟨w, σ', rfl, h⟩ := h
  exact OwE.dom γ h a ha
 | .sl m x :: γ, σ, A, h, a, ha => by
  simp only [OwE] at h
  obtain ⟨v, σ', A1, A2, rfl, rfl, h1, h2⟩ := h
  rcases List.mem_append.mp ha with ha | ha
  ·exact OwM.dom m h1 a ha
  ·exact OwE.dom γ h2 a ha
 | .me m x :: γ, σ, A, h, a, ha => by
  simp only [OwE] at h
  obtain ⟨v, σ', A1, A2, rfl, rfl, ⟨h1, _⟩, h2⟩ := h
  rcases List.mem_append.mp ha with ha | ha
  ·exact OwM.dom m h1 a ha
  ·exact OwE.dom γ h2 a ha
 | .tr x :: γ, σ, A, h, a, ha => by
  simp only [OwE] at h
  obtain ⟨v, σ', A1, A2, rfl, rfl, h1, h2⟩ := h
  rcases List.mem_append.mp ha with ha | ha
  ·exact OwT.dom x h1 a ha
  ·exact OwE.dom γ h2 a ha
theorem OwE.nt {T : Tb} {F H : Hp} : (γ : Env) → ∀ {σ A}, OwE T F H γ σ A → ∀ a ∈ A, Nw H a → False
 | [], σ, A, h, a, ha, z => by simp only [OwE] at h; rw [h.2.1] at ha; simp at ha
 | .un :: γ, σ, A, h, a, ha, z => by
  simp only [OwE] at h
  obtain ⟨w, σ', rfl, h⟩ := h
  exact OwE.nt γ h a ha z
 | .sl m x :: γ, σ, A, h, a, ha, z => by
  simp only [OwE] at h
  obtain ⟨v, σ', A1, A2, rfl, rfl, h1, h2⟩ := h
  rcases List.mem_append.mp ha with ha | ha
  ·exact OwM.nt m h1 a ha z
  ·exact OwE.nt γ h2 a ha z
 | .me m x :: γ, σ, A, h, a, ha, z => by
  simp only [OwE] at h
  obtain ⟨v, σ', A1, A2, rfl, rfl, ⟨h1, _⟩, h2⟩ := h
  rcases List.mem_append.mp ha with ha | ha
  ·exact OwM.nt m h1 a ha z
  ·exact OwE.nt γ h2 a ha z
 | .tr x :: γ, σ, A, h, a, ha, z => by
  simp only [OwE] at h
  obtain ⟨v, σ', A1, A2, rfl, rfl, h1, h2⟩ := h
  rcases List.mem_append.mp ha with ha | ha
  ·exact OwT.nt x h1 a ha z
  ·exact OwE.nt γ h2 a ha z
theorem OwE.mono {T : Tb} {F F' H H' : Hp} (e : Same F F') : (γ : Env) → ∀ {σ A}, OwE T F H γ σ A → c5 H H' A → kR T F H F' H' → OwE T F' H' γ σ A
 | [], σ, A, h, k, q => by simp only [OwE] at h ⊢; exact ⟨h.1, h.2.1, q h.2.2⟩
 | .un :: γ, σ, A, h, k, q => by
  simp only [OwE] at h ⊢
  obtain ⟨w, σ', rfl, h⟩ := h
  exact ⟨w, σ', rfl, OwE.mono e γ h k q⟩
 | .sl m x :: γ, σ, A, h, k, q => by
  simp only [OwE] at h ⊢
  obtain ⟨v, σ', A1, A2, rfl, rfl, h1, h2⟩ := h
  exact ⟨v, σ', A1, A2, rfl, rfl, OwM.mono e m h1 fun a ha o h n => k a (List.mem_append_left _ ha) o h n, OwE.mono e γ h2 (fun a ha o h n => k a (List.mem_append_right _ ha) o h n) q⟩
 | .me m x :: γ, σ, A, h, k, q => by
  simp only [OwE] at h ⊢
  obtain ⟨v, σ', A1, A2, rfl, rfl, ⟨h1, h0⟩, h2⟩ := h
  exact ⟨v, σ', A1, A2, rfl, rfl, ⟨OwM.mono e m h1 fun a ha o h n => k a (List.mem_append_left _ ha) o h n, h0⟩, OwE.mono e γ h2 (fun a ha o h n => k a (List.mem_append_right _ ha) o h n) q⟩
 | .tr x :: γ, σ, A, h, k, q => by
  simp only [OwE] at h ⊢
  obtain ⟨v, σ', A1, A2, rfl, rfl, h1, h2⟩ := h
  exact ⟨v, σ', A1, A2, rfl, rfl, OwT.mono e x h1 fun a ha o h n => k a (List.mem_append_left _ ha) o h n, OwE.mono e γ h2 (fun a ha o h n => k a (List.mem_append_right _ ha) o h n) q⟩
theorem OwE.length {T : Tb} {F H : Hp} : (γ : Env) → ∀ {σ A}, OwE T F H γ σ A → σ.length = γ.length
 | [], σ, A, h => by simp only [OwE] at h; rw [h.1]; rfl
 | .un :: γ, σ, A, h => by
  simp only [OwE] at h
  obtain ⟨w, σ', rfl, h⟩ := h
  simp [OwE.length γ h]
 | .sl m x :: γ, σ, A, h => by
  simp only [OwE] at h
  obtain ⟨v, σ', A1, A2, rfl, rfl, h1, h2⟩ := h
  simp [OwE.length γ h2]
 | .me m x :: γ, σ, A, h => by
  simp only [OwE] at h
  obtain ⟨v, σ', A1, A2, rfl, rfl, h1, h2⟩ := h
  simp [OwE.length γ h2]
 | .tr x :: γ, σ, A, h => by
  simp only [OwE] at h
  obtain ⟨v, σ', A1, A2, rfl, rfl, h1, h2⟩ := h
  simp [OwE.length γ h2]
theorem OwE.nx {T : Tb} {F H : Hp} : (γ : Env) → ∀ {σ A}, OwE T F H γ σ A → ∀ a ∈ A, ∀ o, H a = some o → (∀ ps, o ≠ .tbl ps) ∧ ∀ φ, o ≠ .ext φ
 | [], σ, A, h, a, ha, o, z => by simp only [OwE] at h; rw [h.2.1] at ha; simp at ha
 | .un :: γ, σ, A, h, a, ha, o, z => by
  simp only [OwE] at h
  obtain ⟨w, σ', rfl, h⟩ := h
  exact OwE.nx γ h a ha o z
 | .sl m x :: γ, σ, A, h, a, ha, o, z => by
  simp only [OwE] at h
  obtain ⟨v, σ', A1, A2, rfl, rfl, h1, h2⟩ := h
  rcases List.mem_append.mp ha with ha | ha
  ·exact OwM.nx m h1 a ha o z
  ·exact OwE.nx γ h2 a ha o z
 | .me m x :: γ, σ, A, h, a, ha, o, z => by
  simp only [OwE] at h
  obtain ⟨v, σ', A1, A2, rfl, rfl, ⟨h1, _⟩, h2⟩ := h
  rcases List.mem_append.mp ha with ha | ha
  ·exact OwM.nx m h1 a ha o z
  ·exact OwE.nx γ h2 a ha o z
 | .tr x :: γ, σ, A, h, a, ha, o, z => by
  simp only [OwE] at h
  obtain ⟨v, σ', A1, A2, rfl, rfl, h1, h2⟩ := h
  rcases List.mem_append.mp ha with ha | ha
  ·exact OwT.nx x h1 a ha o z
  ·exact OwE.nx γ h2 a ha o z
theorem SameQ.own {T : Tb} {F H : Hp} {γ : Env} {σ A} (h : OwE T F H γ σ A) {a : Addr} {u : HO} (ha : a ∈ A) : SameQ H (upd H a u) := .wr fun o z => OwE.nx γ h a ha o z
theorem OwE.tabs {T : Tb} {F H : Hp} : (γ : Env) → ∀ {σ A}, OwE T F H γ σ A → TabsOk T F H
 | [], σ, A, h => by simp only [OwE] at h; exact h.2.2
 | .un :: γ, σ, A, h => by
  simp only [OwE] at h
  obtain ⟨w, σ', rfl, h⟩ := h
  exact OwE.tabs γ h
 | .sl m x :: γ, σ, A, h => by
  simp only [OwE] at h
  obtain ⟨v, σ', A1, A2, rfl, rfl, h1, h2⟩ := h
  exact OwE.tabs γ h2
 | .me m x :: γ, σ, A, h => by
  simp only [OwE] at h
  obtain ⟨v, σ', A1, A2, rfl, rfl, h1, h2⟩ := h
  exact OwE.tabs γ h2
 | .tr x :: γ, σ, A, h => by
  simp only [OwE] at h
  obtain ⟨v, σ', A1, A2, rfl, rfl, h1, h2⟩ := h
  exact OwE.tabs γ h2
theorem Rel.tabs {T : Tb} {F H : Hp} {A σ γ} (R : Rel T F A σ H γ) : TabsOk T F H := OwE.tabs γ R.env
theorem Rel.ext {T : Tb} {F F' H H' : Hp} {A σ γ} (R : Rel T F A σ H γ) (e : Ext F H F' H') : Rel T F' A σ H' γ := by
 refine ⟨e.sub, OwE.mono e.fle γ R.env (fun a _ o h n => e.hle.g a o h n) e.tg, R.nd, fun a ha => ?_⟩
 cases q : F' a with
 | none => rfl
 | some o =>
  rcases e.new a o q with z | z
  ·rw [R.dis a ha] at z; cases z
  ·exact (OwE.nt γ R.env a ha z).elim
theorem OwE.get {T : Tb} {F H : Hp} : (γ : Env) → ∀ {σ A} {i : Nat} {m x}, OwE T F H γ σ A → γ[i]? = some (.sl m x) → ∃ v Ai, σ[i]? = some (some v) ∧ OwM T F H m x v Ai ∧ ∀ a ∈ Ai, a ∈ A
 | [], σ, A, i, m, x, h, e => by simp at e
 | .un :: γ, σ, A, 0, m, x, h, e => by simp at e
 | .un :: γ, σ, A, i + 1, m, x, h, e => by
  simp only [OwE] at h
  obtain ⟨w, σ', rfl, h⟩ := h
  obtain ⟨v, Ai, h1, h2, h3⟩ := OwE.get γ h (by simpa using e)
  exact ⟨v, Ai, by simpa using h1, h2, h3⟩
 | .sl m' x' :: γ, σ, A, 0, m, x, h, e => by
  simp only [OwE] at h
  obtain ⟨v, σ', A1, A2, rfl, rfl, h1, h2⟩ := h
  simp at e
  obtain ⟨rfl, rfl⟩ := e
  exact ⟨v, A1, by simp, h1, fun a ha => List.mem_append_left _ ha⟩
 | .sl m' x' :: γ, σ, A, i + 1, m, x, h, e => by
  simp only [OwE] at h
  obtain ⟨v, σ', A1, A2, rfl, rfl, h1, h2⟩ := h
  obtain ⟨v, Ai, h1, h2, h3⟩ := OwE.get γ h2 (by simpa using e)
  exact ⟨v, Ai, by simpa using h1, h2, fun a ha => List.mem_append_right _ (h3 a ha)⟩
 | .me m' x' :: γ, σ, A, 0, m, x, h, e => by simp at e
 | .me m' x' :: γ, σ, A, i + 1, m, x, h, e => by
  simp only [OwE] at h
  obtain ⟨v, σ', A1, A2, rfl, rfl, h1, h2⟩ := h
  obtain ⟨v, Ai, h1, h2, h3⟩ := OwE.get γ h2 (by simpa using e)
  exact ⟨v, Ai, by simpa using h1, h2, fun a ha => List.mem_append_right _ (h3 a ha)⟩
 | .tr x' :: γ, σ, A, 0, m, x, h, e => by simp at e
 | .tr x' :: γ, σ, A, i + 1, m, x, h, e => by
  simp only [OwE] at h
  obtain ⟨v, σ', A1, A2, rfl, rfl, h1, h2⟩ := h
  obtain ⟨v, Ai, h1, h2, h3⟩ := OwE.get γ h2 (by simpa using e)
  exact ⟨v, Ai, by simpa using h1, h2, fun a ha => List.mem_append_right _ (h3 a ha)⟩
theorem OwE.put {T : Tb} {F H : Hp} : (γ : Env) → ∀ {σ A} {i : Nat} {m x v Ar}, OwE T F H γ σ A → i < γ.length → OwM T F H m x v Ar →
  A.Nodup → Ar.Nodup → (∀ a ∈ Ar, a ∉ A) → ∃ A', OwE T F H (γ.set i (.sl m x)) (σ.set i (some v)) A' ∧ A'.Nodup ∧ ∀ a ∈ A', a ∈ A ∨ a ∈ Ar
 | [], σ, A, i, m, x, v, Ar, h, l, r, n, nr, d => by simp at l
 | .un :: γ, σ, A, 0, m, x, v, Ar, h, l, r, n, nr, d => by
  simp only [OwE] at h
  obtain ⟨w, σ', rfl, h⟩ := h
  refine ⟨Ar ++ A, ?_, ?_, fun a ha => ?_⟩
  ·simp only [List.set_cons_zero, OwE]
   exact ⟨v, σ', Ar, A, rfl, rfl, r, h⟩
  ·exact List.nodup_append.mpr ⟨nr, n, fun a ha b hb e => d a ha (e ▸ hb)⟩
  ·rcases List.mem_append.mp ha with z | z
   ·exact .inr z
   ·exact .inl z
 | .sl m' x' :: γ, σ, A, 0, m, x, v, Ar, h, l, r, n, nr, d => by
  simp only [OwE] at h
  obtain ⟨v', σ', A1, A2, rfl, rfl, h1, h2⟩ := h
  refine ⟨Ar ++ A2, ?_, ?_, fun a ha => ?_⟩
  ·simp only [List.set_cons_zero, OwE]
   exact ⟨v, σ', Ar, A2, rfl, rfl, r, h2⟩
  ·exact List.nodup_append.mpr ⟨nr, (List.nodup_append.mp n).2.1, fun a ha b hb e => d a ha (List.mem_append_right _ (e ▸ hb))⟩
  ·rcases List.mem_append.mp ha with z | z
   ·exact .inr z
   ·exact .inl (List.mem_append_right _ z)
 | .un :: γ, σ, A, i + 1, m, x, v, Ar, h, l, r, n, nr, d => by
  simp only [OwE] at h
  obtain ⟨w, σ', rfl, h⟩ := h
  obtain ⟨A', h1, h2, h3⟩ := OwE.put γ h (by simpa using l) r n nr d
  refine ⟨A', ?_, h2, h3⟩
  simp only [List.set_cons_succ, OwE]
  exact ⟨w, _, rfl, h1⟩
 | .sl m' x' :: γ, σ, A, i + 1, m, x, v, Ar, h, l, r, n, nr, d => by
  simp only [OwE] at h
  obtain ⟨v', σ', A1, A2, rfl, rfl, h1, h2⟩ := h
  obtain ⟨n1, n2, n3⟩ := List.nodup_append.mp n
  obtain ⟨A', k1, k2, k3⟩ := OwE.put γ h2 (by simpa using l) r n2 nr fun a ha z => d a ha (List.mem_append_right _ z)
  refine ⟨A1 ++ A', ?_, ?_, fun a ha => ?_⟩
  ·simp only [List.set_cons_succ, OwE]
   exact ⟨v', _, A1, A', rfl, rfl, h1, k1⟩
  ·refine List.nodup_append.mpr ⟨n1, k2, fun a ha b hb e => ?_⟩
   rcases k3 b hb with z | z
   ·exact n3 a ha b z e
   ·exact d b z (List.mem_append_left _ (e ▸ ha))
  ·rcases List.mem_append.mp ha with z | z
   ·exact .inl (List.mem_append_left _ z)
   ·rcases k3 a z with z | z
    ·exact .inl (List.mem_append_right _ z)
    ·exact .inr z
 | .me m' x' :: γ, σ, A, 0, m, x, v, Ar, h, l, r, n, nr, d => by
  simp only [OwE] at h
  obtain ⟨v', σ', A1, A2, rfl, rfl, h1, h2⟩ := h
  refine ⟨Ar ++ A2, ?_, ?_, fun a ha => ?_⟩
  ·simp only [List.set_cons_zero, OwE]
   exact ⟨v, σ', Ar, A2, rfl, rfl, r, h2⟩
  ·exact List.nodup_append.mpr ⟨nr, (List.nodup_append.mp n).2.1, fun a ha b hb e => d a ha (List.mem_append_right _ (e ▸ hb))⟩
  ·rcases List.mem_append.mp ha with z | z
   ·exact .inr z
   ·exact .inl (List.mem_append_right _ z)
 | .me m' x' :: γ, σ, A, i + 1, m, x, v, Ar, h, l, r, n, nr, d => by
  simp only [OwE] at h
  obtain ⟨v', σ', A1, A2, rfl, rfl, h1, h2⟩ := h
  obtain ⟨n1, n2, n3⟩ := List.nodup_append.mp n
  obtain ⟨A', k1, k2, k3⟩ := OwE.put γ h2 (by simpa using l) r n2 nr fun a ha z => d a ha (List.mem_append_right _ z)
  refine ⟨A1 ++ A', ?_, ?_, fun a ha => ?_⟩
  ·simp only [List.set_cons_succ, OwE]
   exact ⟨v', _, A1, A', rfl, rfl, h1, k1⟩
  ·refine List.nodup_append.mpr ⟨n1, k2, fun a ha b hb e => ?_⟩
   rcases k3 b hb with z | z
   ·exact n3 a ha b z e
   ·exact d b z (List.mem_append_left _ (e ▸ ha))
  ·rcases List.mem_append.mp ha with z | z
   ·exact .inl (List.mem_append_left _ z)
   ·rcases k3 a z with z | z
    ·exact .inl (List.mem_append_right _ z)
    ·exact .inr z
 | .tr x' :: γ, σ, A, 0, m, x, v, Ar, h, l, r, n, nr, d => by
  simp only [OwE] at h
  obtain ⟨v', σ', A1, A2, rfl, rfl, h1, h2⟩ := h
  refine ⟨Ar ++ A2, ?_, ?_, fun a ha => ?_⟩
  ·simp only [List.set_cons_zero, OwE]
   exact ⟨v, σ', Ar, A2, rfl, rfl, r, h2⟩
  ·exact List.nodup_append.mpr ⟨nr, (List.nodup_append.mp n).2.1, fun a ha b hb e => d a ha (List.mem_append_right _ (e ▸ hb))⟩
  ·rcases List.mem_append.mp ha with z | z
   ·exact .inr z
   ·exact .inl (List.mem_append_right _ z)
 | .tr x' :: γ, σ, A, i + 1, m, x, v, Ar, h, l, r, n, nr, d => by
  simp only [OwE] at h
  obtain ⟨v', σ', A1, A2, rfl, rfl, h1, h2⟩ := h
  obtain ⟨n1, n2, n3⟩ := List.nodup_append.mp n
  obtain ⟨A', k1, k2, k3⟩ := OwE.put γ h2 (by simpa using l) r n2 nr fun a ha z => d a ha (List.mem_append_right _ z)
  refine ⟨A1 ++ A', ?_, ?_, fun a ha => ?_⟩
  ·simp only [List.set_cons_succ, OwE]
   exact ⟨v', _, A1, A', rfl, rfl, h1, k1⟩
  ·refine List.nodup_append.mpr ⟨n1, k2, fun a ha b hb e => ?_⟩
   rcases k3 b hb with z | z
   ·exact n3 a ha b z e
   ·exact d b z (List.mem_append_left _ (e ▸ ha))
  ·rcases List.mem_append.mp ha with z | z
   ·exact .inl (List.mem_append_left _ z)
   ·rcases k3 a z with z | z
    ·exact .inl (List.mem_append_right _ z)
    ·exact .inr z
theorem OwE.wipe {T : Tb} {F H : Hp} : (γ : Env) → ∀ {σ A} (i : Nat) (w : Option V), OwE T F H γ σ A → A.Nodup → ∃ A', OwE T F H (γ.set i .un) (σ.set i w) A' ∧ A'.Nodup ∧ ∀ a ∈ A', a ∈ A
 | [], σ, A, i, w, h, n => by
  simp only [OwE] at h
  exact ⟨[], by simp [OwE, h.1, h.2.2], by simp, by simp⟩
 | .un :: γ, σ, A, 0, w, h, n => by
  simp only [OwE] at h
  obtain ⟨w', σ', rfl, h⟩ := h
  exact ⟨A, by simp only [List.set_cons_zero, OwE]; exact ⟨w, σ', rfl, h⟩, n, fun _ h => h⟩
 | .sl m' x' :: γ, σ, A, 0, w, h, n => by
  simp only [OwE] at h
  obtain ⟨v', σ', A1, A2, rfl, rfl, h1, h2⟩ := h
  exact ⟨A2, by simp only [List.set_cons_zero, OwE]; exact ⟨w, σ', rfl, h2⟩, (List.nodup_append.mp n).2.1, fun a ha => List.mem_append_right _ ha⟩
 | .un :: γ, σ, A, i + 1, w, h, n => by
  simp only [OwE] at h
  obtain ⟨w', σ', rfl, h⟩ := h
  obtain ⟨A', h1, h2, h3⟩ := OwE.wipe γ i w h n
  exact ⟨A', by simp only [List.set_cons_succ, OwE]; exact ⟨w', _, rfl, h1⟩, h2, h3⟩
 | .sl m' x' :: γ, σ, A, i + 1, w, h, n => by
  simp only [OwE] at h
  obtain ⟨v', σ', A1, A2, rfl, rfl, h1, h2⟩ := h
  obtain ⟨n1, n2, n3⟩ := List.nodup_append.mp n
  obtain ⟨A', k1, k2, k3⟩ := OwE.wipe γ i w h2 n2
  refine ⟨A1 ++ A', by simp only [List.set_cons_succ, OwE]; exact ⟨v', _, A1, A', rfl, rfl, h1, k1⟩, ?_, fun a ha => ?_⟩
  ·exact List.nodup_append.mpr ⟨n1, k2, fun a ha b hb e => n3 a ha b (k3 b hb) e⟩
  ·rcases List.mem_append.mp ha with z | z
   ·exact List.mem_append_left _ z
   ·exact List.mem_append_right _ (k3 a z)
 | .me m' x' :: γ, σ, A, 0, w, h, n => by
  simp only [OwE] at h
  obtain ⟨v', σ', A1, A2, rfl, rfl, h1, h2⟩ := h
  exact ⟨A2, by simp only [List.set_cons_zero, OwE]; exact ⟨w, σ', rfl, h2⟩, (List.nodup_append.mp n).2.1, fun a ha => List.mem_append_right _ ha⟩
 | .me m' x' :: γ, σ, A, i + 1, w, h, n => by
  simp only [OwE] at h
  obtain ⟨v', σ', A1, A2, rfl, rfl, h1, h2⟩ := h
  obtain ⟨n1, n2, n3⟩ := List.nodup_append.mp n
  obtain ⟨A', k1, k2, k3⟩ := OwE.wipe γ i w h2 n2
  refine ⟨A1 ++ A', by simp only [List.set_cons_succ, OwE]; exact ⟨v', _, A1, A', rfl, rfl, h1, k1⟩, ?_, fun a ha => ?_⟩
  ·exact List.nodup_append.mpr ⟨n1, k2, fun a ha b hb e => n3 a ha b (k3 b hb) e⟩
  ·rcases List.mem_append.mp ha with z | z
   ·exact List.mem_append_left _ z
   ·exact List.mem_append_right _ (k3 a z)
 | .tr x' :: γ, σ, A, 0, w, h, n => by
  simp only [OwE] at h
  obtain ⟨v', σ', A1, A2, rfl, rfl, h1, h2⟩ := h
  exact ⟨A2, by simp only [List.set_cons_zero, OwE]; exact ⟨w, σ', rfl, h2⟩, (List.nodup_append.mp n).2.1, fun a ha => List.mem_append_right _ ha⟩
 | .tr x' :: γ, σ, A, i + 1, w, h, n => by
  simp only [OwE] at h
  obtain ⟨v', σ', A1, A2, rfl, rfl, h1, h2⟩ := h
  obtain ⟨n1, n2, n3⟩ := List.nodup_append.mp n
  obtain ⟨A', k1, k2, k3⟩ := OwE.wipe γ i w h2 n2
  refine ⟨A1 ++ A', by simp only [List.set_cons_succ, OwE]; exact ⟨v', _, A1, A', rfl, rfl, h1, k1⟩, ?_, fun a ha => ?_⟩
  ·exact List.nodup_append.mpr ⟨n1, k2, fun a ha b hb e => n3 a ha b (k3 b hb) e⟩
  ·rcases List.mem_append.mp ha with z | z
   ·exact List.mem_append_left _ z
   ·exact List.mem_append_right _ (k3 a z)
theorem OwE.split {T : Tb} {F H : Hp} : (γ : Env) → ∀ {σ A} {i : Nat} {m x}, OwE T F H γ σ A → γ[i]? = some (.sl m x) → ∃ v P Ai S, σ[i]? = some (some v) ∧ A = P ++ Ai ++ S ∧ OwM T F H m x v Ai ∧
  ∀ m' x' F' H' A', Same F F' → c5 H H' (P ++ S) → kR T F H F' H' → OwM T F' H' m' x' v A' → OwE T F' H' (γ.set i (.sl m' x')) σ (P ++ A' ++ S)
 | [], σ, A, i, m, x, h, e => by simp at e
 | .un :: γ, σ, A, 0, m, x, h, e => by simp at e
 | .un :: γ, σ, A, i + 1, m, x, h, e => by
  simp only [OwE] at h
  obtain ⟨w, σ', rfl, h⟩ := h
  obtain ⟨v, P, Ai, S, h1, h2, h3, h4⟩ := OwE.split γ h (by simpa using e)
  refine ⟨v, P, Ai, S, by simpa using h1, h2, h3, fun m' x' F' H' A' s k q r => ?_⟩
  simp only [List.set_cons_succ, OwE]
  exact ⟨w, σ', rfl, h4 m' x' F' H' A' s k q r⟩
 | .sl m0 x0 :: γ, σ, A, 0, m, x, h, e => by
  simp only [OwE] at h
  obtain ⟨v, σ', A1, A2, rfl, rfl, h1, h2⟩ := h
  simp at e
  obtain ⟨rfl, rfl⟩ := e
  refine ⟨v, [], A1, A2, by simp, by simp, h1, fun m' x' F' H' A' s k q r => ?_⟩
  simp only [List.set_cons_zero, OwE]
  exact ⟨v, σ', A', A2, rfl, by simp, r, OwE.mono s γ h2 (fun a ha o h n => k a (by simpa using ha) o h n) q⟩
 | .sl m0 x0 :: γ, σ, A, i + 1, m, x, h, e => by
  simp only [OwE] at h
  obtain ⟨v0, σ', A1, A2, rfl, rfl, h1, h2⟩ := h
  obtain ⟨v, P, Ai, S, k1, k2, k3, k4⟩ := OwE.split γ h2 (by simpa using e)
  refine ⟨v, A1 ++ P, Ai, S, by simpa using k1, by rw [k2]; simp, k3, fun m' x' F' H' A' s k q r => ?_⟩
  simp only [List.set_cons_succ, OwE]
  refine ⟨v0, σ', A1, P ++ A' ++ S, rfl, by simp, OwM.mono s m0 h1 (fun a ha o h n => k a ?_ o h n), k4 m' x' F' H' A' s (fun a ha o h n => k a ?_ o h n) q r⟩
  ·simp [ha]
  ·simp only [List.append_assoc, List.mem_append] at ha ⊢
   rcases ha with z | z
   ·exact .inr (.inl z)
   ·exact .inr (.inr z)
 | .me m0 x0 :: γ, σ, A, 0, m, x, h, e => by simp at e
 | .me m0 x0 :: γ, σ, A, i + 1, m, x, h, e => by
  simp only [OwE] at h
  obtain ⟨v0, σ', A1, A2, rfl, rfl, h1, h2⟩ := h
  obtain ⟨v, P, Ai, S, k1, k2, k3, k4⟩ := OwE.split γ h2 (by simpa using e)
  refine ⟨v, A1 ++ P, Ai, S, by simpa using k1, by rw [k2]; simp, k3, fun m' x' F' H' A' s k q r => ?_⟩
  simp only [List.set_cons_succ, OwE]
  refine ⟨v0, σ', A1, P ++ A' ++ S, rfl, by simp, ⟨OwM.mono s m0 h1.1 (fun a ha o h n => k a ?_ o h n), h1.2⟩, k4 m' x' F' H' A' s (fun a ha o h n => k a ?_ o h n) q r⟩
  ·simp [ha]
  ·simp only [List.append_assoc, List.mem_append] at ha ⊢
   rcases ha with z | z
   ·exact .inr (.inl z)
   ·exact .inr (.inr z)
 | .tr x0 :: γ, σ, A, i + 1, m, x, h, e => by
  simp only [OwE] at h
  obtain ⟨v0, σ', A1, A2, rfl, rfl, h1, h2⟩ := h
  obtain ⟨v, P, Ai, S, k1, k2, k3, k4⟩ := OwE.split γ h2 (by simpa using e)
  refine ⟨v, A1 ++ P, Ai, S, by simpa using k1, by rw [k2]; simp, k3, fun m' x' F' H' A' s k q r => ?_⟩
  simp only [List.set_cons_succ, OwE]
  refine ⟨v0, σ', A1, P ++ A' ++ S, rfl, by simp, OwT.mono s x0 h1 (fun a ha o h n => k a ?_ o h n), k4 m' x' F' H' A' s (fun a ha o h n => k a ?_ o h n) q r⟩
  ·simp [ha]
  ·simp only [List.append_assoc, List.mem_append] at ha ⊢
   rcases ha with z | z
   ·exact .inr (.inl z)
   ·exact .inr (.inr z)
 | .tr x0 :: γ, σ, A, 0, m, x, h, e => by simp at e
theorem OwE.splitMe {T : Tb} {F H : Hp} : (γ : Env) → ∀ {σ A} {m x}, OwE T F H (.me m x :: γ) σ A → ∃ Ai S, σ[0]? = some (some T.cl.r0) ∧ A = Ai ++ S ∧ OwM T F H m x T.cl.r0 Ai ∧
  ∀ m' x' F' H' A', Same F F' → c5 H H' S → kR T F H F' H' → OwM T F' H' m' x' T.cl.r0 A' → OwE T F' H' (.me m' x' :: γ) σ (A' ++ S) := fun γ {σ A m x h} => by
 simp only [OwE] at h
 obtain ⟨v, σ', A1, A2, rfl, rfl, ⟨h1, rfl⟩, h2⟩ := h
 refine ⟨A1, A2, by simp, rfl, h1, fun m' x' F' H' A' s k q r => ?_⟩
 simp only [OwE]
 exact ⟨_, σ', A', A2, rfl, rfl, ⟨r, rfl⟩, OwE.mono s γ h2 (fun a ha o h n => k a ha o h n) q⟩
end Z
namespace Z
open PySem L2
structure Xc where
 c : String
 fs : List (String × PV)
inductive R (α : Type) where
 | ok (a : α) | er (e : Xc) | no
namespace R
def bind {α β : Type} : R α → (α → R β) → R β
 | .ok a, f => f a
 | .er e, _ => .er e
 | .no, _ => .no
def map {α β : Type} (f : α → β) : R α → R β
 | .ok a => .ok (f a)
 | .er e => .er e
 | .no => .no
@[simp] theorem ai {α β : Type} (a : α) (f : α → R β) : (R.ok a).bind f = f a := (rfl)
@[simp] theorem bind_er {α β : Type} (e : Xc) (f : α → R β) : (R.er e : R α).bind f = .er e := (rfl)
@[simp] theorem bind_no {α β : Type} (f : α → R β) : (R.no : R α).bind f = .no := (rfl)
instance : Monad R where
 pure := .ok
 bind := bind
end R
inductive Vl where
 | fr (m : Md) (x : PV) | pk (m : Md) (x : PV)
def Vl.x : Vl → PV
 | .fr _ x => x
 | .pk _ x => x
@[simp] theorem Vl.x_fr (m x) : (Vl.fr m x).x = x := (rfl)
@[simp] theorem Vl.x_pk (m x) : (Vl.pk m x).x = x := (rfl)
abbrev Vl.z (x : PV) : Vl := .fr .fz x
def Rv (T : Tb) (F H : Hp) (x : PV) (v : V) : Prop := ∃ m A, OwM T F H m x v A
def VlN (T : Tb) (F' H' H : Hp) : Vl → V → Prop
 | .fr m x, v => ∃ Ar, OwM T F' H' m x v Ar ∧ Ar.Nodup ∧ ∀ a ∈ Ar, H a = none ∧ F' a = none
 | .pk _ _, _ => False
def VlR (T : Tb) (F' H' H : Hp) (A : List Addr) : Vl → V → Prop
 | .fr m x, v => ∃ Ar, OwM T F' H' m x v Ar ∧ Ar.Nodup ∧ ∀ a ∈ Ar, H a = none ∧ F' a = none
 | .pk m x, v => ∃ Ai, OwM T F' H' m x v Ai ∧ ∀ a ∈ Ai, a ∈ A
def RvL (T : Tb) (F H : Hp) : List PV → List V → Prop
 | [], vs => vs = []
 | x :: xs, vs => ∃ v ws, vs = v :: ws ∧ Rv T F H x v ∧ RvL T F H xs ws
def XcR (T : Tb) (F : Hp) (e : Xc) (cls : Value) (d : Option Addr) : Prop :=
 ∃ C vs, T.cl.e e.c = some C ∧ cls = .ref C ∧ ExD F d vs ∧ RpF T F e.fs vs
theorem VlN.r {T : Tb} {F' H' H H0 : Hp} {A l v} (h : VlN T F' H' H l v) (s : SameT H0 H) : VlR T F' H' H0 A l v := by
 cases l with
 | fr m x => obtain ⟨Ar, h1, h2, h3⟩ := h; exact ⟨Ar, h1, h2, fun a ha => ⟨s.free (h3 a ha).1, (h3 a ha).2⟩⟩
 | pk m x => exact h.elim
theorem VlR.rv {T : Tb} {F' H' H : Hp} {A l v} (h : VlR T F' H' H A l v) : Rv T F' H' l.x v := by
 cases l with
 | fr m x => obtain ⟨Ar, h1, _⟩ := h; exact ⟨m, Ar, h1⟩
 | pk m x => obtain ⟨Ar, h1, _⟩ := h; exact ⟨m, Ar, h1⟩
theorem Rv.ext {T : Tb} {F F' H H' : Hp} {x v} (h : Rv T F H x v) (e : Ext F H F' H') : Rv T F' H' x v := by
 obtain ⟨m, A, h⟩ := h
 exact ⟨m, A, OwM.mono e.fle m h fun a _ o q nt => e.hle.g a o q nt⟩
theorem Rv.of {T : Tb} {F H : Hp} {x v} (h : Rp T F x v) : Rv T F H x v := ⟨.fz, [], by simp only [OwM]; exact ⟨h, trivial⟩⟩
theorem OwM.fz_of {T : Tb} {F H : Hp} {x v} (h : Rp T F x v) : OwM T F H .fz x v [] := by simp only [OwM]; exact ⟨h, trivial⟩
theorem VlN.z {T : Tb} {F' H' H : Hp} {x v} (h : Rp T F' x v) : VlN T F' H' H (.z x) v := ⟨[], OwM.fz_of h, by simp, by simp⟩
theorem VlR.zz {T : Tb} {F' H' H : Hp} {A x v} (h : Rp T F' x v) : VlR T F' H' H A (.z x) v := ⟨[], OwM.fz_of h, by simp, by simp⟩
abbrev Ex := Env → R Vl
def tq (K : PySem.W.Frag) (cl : Cl) (W : WX) (f : Ex) : TE := fun σ H Q => ∃ F A γ, Rel ⟨K, cl⟩ F A σ H γ ∧ match f γ with
 | .ok l => ∀ F' H' v, Ext F H F' H' → VlR ⟨K, cl⟩ F' H' H A l v → Q v H'
 | .er e => ∀ F' H' c d, Ext F H F' H' → XcR ⟨K, cl⟩ F' e c d → W c d σ H'
 | .no => False
structure QE (cl : Cl) (X : Cx) (W : WX) (f : Ex) (e : Expr) : Prop where
 pe : PE X e (tq X.K cl W f)
def tqT (K : PySem.W.Frag) (cl : Cl) (W : WX) (f : Env → R Bool) : TT := fun σ H Q => ∃ F A γ, Rel ⟨K, cl⟩ F A σ H γ ∧ match f γ with
 | .ok b => ∀ F' H', Ext F H F' H' → Q b H'
 | .er e => ∀ F' H' c d, Ext F H F' H' → XcR ⟨K, cl⟩ F' e c d → W c d σ H'
 | .no => False
structure QT (cl : Cl) (X : Cx) (W : WX) (f : Env → R Bool) (e : Expr) : Prop where
 pt : PT X e (tqT X.K cl W f)
structure QW (cl : Cl) (X : Cx) (W : WX) (f : Env → R Bool) (e : Expr) : Prop where
 pw : PW X e (tqT X.K cl W f)
def tqA (K : PySem.W.Frag) (cl : Cl) (W : WX) (f : Env → R (List PV)) : TA := fun σ H Q => ∃ F A γ, Rel ⟨K, cl⟩ F A σ H γ ∧ match f γ with
 | .ok xs => ∀ F' H' vs, Ext F H F' H' → RvL ⟨K, cl⟩ F' H' xs vs → Q vs H'
 | .er e => ∀ F' H' c d, Ext F H F' H' → XcR ⟨K, cl⟩ F' e c d → W c d σ H'
 | .no => False
structure QA (cl : Cl) (X : Cx) (W : WX) (f : Env → R (List PV)) (es : List Expr) : Prop where
 pa : PA X es (tqA X.K cl W f)
def tqZ (K : PySem.W.Frag) (cl : Cl) (W : WX) (f : Env → R (List PV)) : TA := fun σ H Q => ∃ F A γ, Rel ⟨K, cl⟩ F A σ H γ ∧ match f γ with
 | .ok xs => ∀ F' H' vs, Ext F H F' H' → RpL ⟨K, cl⟩ F' xs vs → Q vs H'
 | .er e => ∀ F' H' c d, Ext F H F' H' → XcR ⟨K, cl⟩ F' e c d → W c d σ H'
 | .no => False
structure QZ (cl : Cl) (X : Cx) (W : WX) (f : Env → R (List PV)) (es : List Expr) : Prop where
 pa : PA X es (tqZ X.K cl W f)
theorem _root_.L2.PE.imp {X : Cx} {e : Expr} {t t' : TE} (h : PE X e t) (k : ∀ σ H Q, t' σ H Q → t σ H Q) : PE X e t' := ⟨fun pins s σ H Q I q => h.run pins s σ H Q I (k σ H Q q)⟩
theorem _root_.L2.PT.imp {X : Cx} {e : Expr} {t t' : TT} (h : PT X e t) (k : ∀ σ H Q, t' σ H Q → t σ H Q) : PT X e t' := ⟨fun pins s σ H Q I q => h.run pins s σ H Q I (k σ H Q q)⟩
theorem _root_.L2.PW.imp {X : Cx} {e : Expr} {t t' : TT} (h : PW X e t) (k : ∀ σ H Q, t' σ H Q → t σ H Q) : PW X e t' := ⟨fun wh pins s σ H Q I q => h.run wh pins s σ H Q I (k σ H Q q)⟩
theorem _root_.L2.PA.imp {X : Cx} {es : List Expr} {t t' : TA} (h : PA X es t) (k : ∀ σ H Q, t' σ H Q → t σ H Q) : PA X es t' := ⟨fun pos pins s σ H Q I q => h.run pos pins s σ H Q I (k σ H Q q)⟩
section
variable {X : Cx} {cl : Cl} {W : WX}
def aY (T : Tb) (F H : Hp) (r : R Vl) (Q : VK) : Prop := match r with
 | .ok l => ∀ F' H' v, Ext F H F' H' → VlN T F' H' H l v → Q v H'
 | _ => False
theorem aY.of {T : Tb} {F H : Hp} {x : PV} {v : V} {Q : VK} (s : Same F H) (h : aY T F H (.ok (.z x)) Q) (r : Rp T F x v) : Q v H := h F H v (Ext.refl s) (VlN.z r)
theorem tq.bind {f : Ex} {σ : St} {H : Hp} {Q : VK} {g : Vl → Env → R Vl} (h : tq X.K cl W (fun γ => (f γ).bind fun l => g l γ) σ H Q) {R1 : VK}
  (k : ∀ F A γ l F1 H1 v, Rel ⟨X.K, cl⟩ F A σ H γ → f γ = .ok l → Ext F H F1 H1 → VlR ⟨X.K, cl⟩ F1 H1 H A l v →
   (match g l γ with
    | .ok l' => ∀ F' H' v', Ext F1 H1 F' H' → VlR ⟨X.K, cl⟩ F' H' H A l' v' → Q v' H'
    | .er e => ∀ F' H' c d, Ext F1 H1 F' H' → XcR ⟨X.K, cl⟩ F' e c d → W c d σ H'
    | .no => False) → R1 v H1) : tq X.K cl W f σ H R1 := by
 obtain ⟨F, A, γ, rel, h⟩ := h
 dsimp only at h
 refine ⟨F, A, γ, rel, ?_⟩
 cases e : f γ with
 | no => rw [e] at h; exact h
 | er x => rw [e] at h; exact h
 | ok l =>
  rw [e] at h
  simp only [R.ai] at h
  intro F1 H1 v e1 r1
  refine k F A γ l F1 H1 v rel e e1 r1 ?_
  cases e' : g l γ with
  | no => rw [e'] at h; exact h
  | er x => rw [e'] at h; exact fun F' H' c d ex => h F' H' c d (e1.trans ex)
  | ok l' => rw [e'] at h; exact fun F' H' v' ex r => h F' H' v' (e1.trans ex) r
def ah (i : Nat) : Ex := fun γ => match γ[i]? with
 | some (.sl m x) => .ok (.pk m x)
 | some (.me m x) => .ok (.pk m x)
 | _ => .no
theorem OwE.getMe {T : Tb} {F H : Hp} : (γ : Env) → ∀ {σ A} {i : Nat} {m x}, OwE T F H γ σ A → γ[i]? = some (.me m x) → ∃ v Ai, σ[i]? = some (some v) ∧ OwM T F H m x v Ai ∧ ∀ a ∈ Ai, a ∈ A
 | [], σ, A, i, m, x, h, e => by simp at e
 | .un :: γ, σ, A, 0, m, x, h, e => by simp at e
 | .sl _ _ :: γ, σ, A, 0, m, x, h, e => by simp at e
 | .me m' x' :: γ, σ, A, 0, m, x, h, e => by
  simp only [OwE] at h
  obtain ⟨v, σ', A1, A2, rfl, rfl, ⟨h1, _⟩, h2⟩ := h
  simp at e
  obtain ⟨rfl, rfl⟩ := e
  exact ⟨v, A1, by simp, h1, fun a ha => List.mem_append_left _ ha⟩
 | .un :: γ, σ, A, i + 1, m, x, h, e => by
  simp only [OwE] at h
  obtain ⟨w, σ', rfl, h⟩ := h
  obtain ⟨v, Ai, h1, h2, h3⟩ := OwE.getMe γ h (by simpa using e)
  exact ⟨v, Ai, by simpa using h1, h2, h3⟩
 | .sl _ _ :: γ, σ, A, i + 1, m, x, h, e => by
  simp only [OwE] at h
  obtain ⟨v, σ', A1, A2, rfl, rfl, h1, h2⟩ := h
  obtain ⟨v, Ai, h1, h2, h3⟩ := OwE.getMe γ h2 (by simpa using e)
  exact ⟨v, Ai, by simpa using h1, h2, fun a ha => List.mem_append_right _ (h3 a ha)⟩
 | .me _ _ :: γ, σ, A, i + 1, m, x, h, e => by
  simp only [OwE] at h
  obtain ⟨v, σ', A1, A2, rfl, rfl, h1, h2⟩ := h
  obtain ⟨v, Ai, h1, h2, h3⟩ := OwE.getMe γ h2 (by simpa using e)
  exact ⟨v, Ai, by simpa using h1, h2, fun a ha => List.mem_append_right _ (h3 a ha)⟩
 | .tr _ :: γ, σ, A, 0, m, x, h, e => by simp at e
 | .tr _ :: γ, σ, A, i + 1, m, x, h, e => by
  simp only [OwE] at h
  obtain ⟨v, σ', A1, A2, rfl, rfl, h1, h2⟩ := h
  obtain ⟨v, Ai, h1, h2, h3⟩ := OwE.getMe γ h2 (by simpa using e)
  exact ⟨v, Ai, by simpa using h1, h2, fun a ha => List.mem_append_right _ (h3 a ha)⟩
theorem af (i : Nat) {x : Str} {pos : Pos} (hN : X.N[i]? = some x := by rfl) (hv : Vis X.env.scope x := by first | exact Or.inl rfl | exact Or.inr (Or.inl rfl) | exact Or.inr (Or.inr rfl))
  (hd : (x == ("__debug__" : Str)) = false := by decide) (hcd : (x == ("__classdict__" : Str)) = false := by decide) : QE cl X W (ah i) (.Name x pos) := by
 refine ⟨(pe_var (i := i) hN hv hd hcd).imp fun σ H Q h => ?_⟩
 obtain ⟨F, A, γ, rel, h⟩ := h
 unfold ah at h
 cases e : γ[i]? with
 | none => rw [e] at h; exact h.elim
 | some sl =>
  rw [e] at h
  cases sl with
  | un => exact h.elim
  | sl m x =>
   obtain ⟨v, Ai, h1, h2, h3⟩ := OwE.get γ rel.env e
   exact ⟨v, h1, h F H v (Ext.refl rel.sub) ⟨Ai, h2, h3⟩⟩
  | me m x =>
   obtain ⟨v, Ai, h1, h2, h3⟩ := OwE.getMe γ rel.env e
   exact ⟨v, h1, h F H v (Ext.refl rel.sub) ⟨Ai, h2, h3⟩⟩
  | tr x => exact h.elim
def xC (x : PV) : Ex := fun _ => .ok (.z x)
theorem q_c {e : Expr} {x : PV} {v : V} (h : PE X e (tC v)) (r : ∀ F, Rp ⟨X.K, cl⟩ F x v) : QE cl X W (xC x) e := by
 refine ⟨h.imp fun σ H Q h => ?_⟩
 obtain ⟨F, A, γ, rel, h⟩ := h
 exact h F H v (Ext.refl rel.sub) (VlR.zz (r F))
theorem ak {i j pos} : QE cl X W (xC (.int i)) (.Constant (.int i) j pos) := q_c pe_int fun _ => by simp [Rp]
theorem iw {b j pos} : QE cl X W (xC (.bl b)) (.Constant (.bool b) j pos) := q_c pe_bl fun _ => by simp [Rp]
theorem oM {j pos} : QE cl X W (xC .non) (.Constant .none j pos) := q_c pe_non fun _ => by simp [Rp]
theorem fP {x j pos} : QE cl X W (xC (.str x)) (.Constant (.str x) j pos) := q_c pe_str fun _ => by simp [Rp]
def Op2 (X : Cx) (cl : Cl) (p : PV → PV → R Vl) (r : R2) : Prop :=
 ∀ F H x y v u Q, Same F H → Rv ⟨X.K, cl⟩ F H x v → Rv ⟨X.K, cl⟩ F H y u → aY ⟨X.K, cl⟩ F H (p x y) Q → r v u H Q
def Op1 (X : Cx) (cl : Cl) (p : PV → R Vl) (r : V → Hp → VK → Prop) : Prop :=
 ∀ F H x v Q, Same F H → Rv ⟨X.K, cl⟩ F H x v → aY ⟨X.K, cl⟩ F H (p x) Q → r v H Q
def x2 (p : PV → PV → R Vl) (f g : Ex) : Ex := fun γ => (f γ).bind fun l => (g γ).bind fun k => p l.x k.x
def x1 (p : PV → R Vl) (f : Ex) : Ex := fun γ => (f γ).bind fun l => p l.x
def c4 (p : PV → PV → R Vl) : Prop := ∀ x y e, p x y ≠ .er e
def my (p : PV → R Vl) : Prop := ∀ x e, p x ≠ .er e
theorem tq2 {p : PV → PV → R Vl} {r : R2} {f g : Ex} (ne : c4 p) (o : Op2 X cl p r) {σ H Q} (h : tq X.K cl W (x2 p f g) σ H Q) : tOp r (tq X.K cl W f) (tq X.K cl W g) σ H Q := by
 refine tq.bind (g := fun l γ => (g γ).bind fun k => p l.x k.x) h fun F A γ l F1 H1 v rel e e1 r1 h => ?_
 refine ⟨F1, A, γ, rel.ext e1, ?_⟩
 cases e' : g γ with
 | no => rw [e'] at h; exact h
 | er x => rw [e'] at h; exact h
 | ok k =>
  rw [e'] at h
  simp only [R.ai] at h
  intro F2 H2 u ex2 r2
  refine o F2 H2 l.x k.x v u Q ex2.sub (r1.rv.ext ex2) r2.rv ?_
  cases e'' : p l.x k.x with
  | no => rw [e''] at h; exact h
  | er x => exact (ne _ _ _ e'').elim
  | ok l' =>
   rw [e''] at h
   exact fun F' H' w ex n => h F' H' w (ex2.trans ex) (n.r (e1.trans ex2).hle)
theorem tq1 {p : PV → R Vl} {r : V → Hp → VK → Prop} {f : Ex} (ne : my p) (o : Op1 X cl p r) {σ H Q} (h : tq X.K cl W (x1 p f) σ H Q) : tUn r (tq X.K cl W f) σ H Q := by
 refine tq.bind (g := fun l γ => p l.x) h fun F A γ l F1 H1 v rel e e1 r1 h => ?_
 refine o F1 H1 l.x v Q e1.sub r1.rv ?_
 cases e'' : p l.x with
 | no => rw [e''] at h; exact h
 | er x => exact (ne _ _ e'').elim
 | ok l' =>
  rw [e''] at h
  exact fun F' H' w ex n => h F' H' w ex (n.r e1.hle)
theorem jB {op : Operator} {p : PV → PV → R Vl} {r : R2} {a b : Expr} {pos : Pos} {f g : Ex} (ho : OpR X (binaryOp op) r) (ne : c4 p) (o : Op2 X cl p r) (ha : QE cl X W f a) (hb : QE cl X W g b) :
  QE cl X W (x2 p f g) (.BinOp a op b pos) := ⟨(pe_op ho ha.pe hb.pe).imp fun σ H Q h => tq2 ne o h⟩
theorem fS {op : CmpOp} {p : PV → PV → R Vl} {r : R2} {a b : Expr} {pos : Pos} {f g : Ex} (ho : OpR X (compareOp op) r) (ne : c4 p) (o : Op2 X cl p r) (ha : QE cl X W f a) (hb : QE cl X W g b)
  (hm : behindInMarks op b = false := by rfl) : QE cl X W (x2 p f g) (.Compare a [op] [b] pos) := ⟨(pe_cmpR ho ha.pe hb.pe hm).imp fun σ H Q h => tq2 ne o h⟩
theorem q_un {op : UnaryOp} {p : PV → R Vl} {r : V → Hp → VK → Prop} {a : Expr} {pos : Pos} {f : Ex} (ho : UnR X (unaryOp op) r) (ne : my p) (o : Op1 X cl p r) (ha : QE cl X W f a) :
  QE cl X W (x1 p f) (.UnaryOp op a pos) := ⟨(pe_un ho ha.pe).imp fun σ H Q h => tq1 ne o h⟩
theorem q_ix {p : PV → PV → R Vl} {r : R2} {a b : Expr} {pos : Pos} {f g : Ex} (ho : IxR X r) (ne : c4 p) (o : Op2 X cl p r) (ha : QE cl X W f a) (hb : QE cl X W g b) (hs : PlainIx b := by exact fun _ _ => rfl) :
  QE cl X W (x2 p f g) (.Subscript a b pos) := ⟨(pe_ix ho ha.pe hb.pe hs).imp fun σ H Q h => tq2 ne o h⟩
def bN : PV → R Bool
 | .non => .ok false
 | .bl b => .ok b
 | .int i => .ok (i != 0)
 | .str y => if y.length ≤ sizeLine then .ok ((y.length : Int) != 0) else .no
 | .lst xs => .ok (!xs.isEmpty)
 | .tup xs => .ok (!xs.isEmpty)
 | .nul => .ok false
 | _ => .no
theorem RpL.isEmpty {T : Tb} {F : Hp} {xs : List PV} {vs : List V} (h : RpL T F xs vs) : vs.isEmpty = xs.isEmpty := by
 cases xs with
 | nil => simp only [RpL] at h; subst h; rfl
 | cons x xs => simp only [RpL] at h; obtain ⟨v, ws, rfl, _⟩ := h; rfl
theorem Rv.lst {T : Tb} {F H : Hp} {xs : List PV} {v : V} (h : Rv T F H (.lst xs) v) (s : Same F H) : ∃ a vs, v = .ref a ∧ SqL T.K H a vs ∧ RpL T F xs vs := by
 obtain ⟨m, A, h⟩ := h
 cases m with
 | fz =>
  simp only [OwM, Rp] at h
  obtain ⟨⟨a, vs, rfl, q, r⟩, _⟩ := h
  exact ⟨a, vs, rfl, .inl (bt s q), r⟩
 | ow =>
  simp only [OwM] at h
  obtain ⟨a, rfl, _, vs, q, r⟩ := h
  exact ⟨a, vs, rfl, SqL.of q, r⟩
 | ob ms => simp [OwM] at h
 | lk => simp [OwM] at h
theorem Rv.tup {T : Tb} {F H : Hp} {xs : List PV} {v : V} (h : Rv T F H (.tup xs) v) (s : Same F H) : ∃ a vs, v = .ref a ∧ H a = some (.tup vs) ∧ RpL T F xs vs := by
 obtain ⟨m, A, h⟩ := h
 cases m with
 | fz =>
  simp only [OwM, Rp] at h
  obtain ⟨⟨a, vs, rfl, q, r⟩, _⟩ := h
  exact ⟨a, vs, rfl, s _ _ q, r⟩
 | ow => simp [OwM] at h
 | ob ms => simp [OwM] at h
 | lk => simp [OwM] at h
theorem Rv.dct {T : Tb} {F H : Hp} {t kvs} {v : V} (h : Rv T F H (.dct t kvs) v) (s : Same F H) : ∃ a ks, v = .ref a ∧ c6 H a t ks ∧ RpD T F kvs ks := by
 obtain ⟨m, A, h⟩ := h
 cases m with
 | fz =>
  simp only [OwM, Rp] at h
  obtain ⟨⟨a, vs, rfl, q, r⟩, _⟩ := h
  exact ⟨a, vs, rfl, q.mono (s a), r⟩
 | ow =>
  simp only [OwM] at h
  obtain ⟨a, rfl, _, vs, q, r⟩ := h
  exact ⟨a, vs, rfl, q.at, r⟩
 | ob ms => simp [OwM] at h
 | lk =>
  simp only [OwM] at h
  obtain ⟨d, od, t', ks, kvs', e, rfl, rfl, r4, r5⟩ := h
  cases e
  exact ⟨d, _, rfl, (r4.mono (s d)).at, r5⟩
theorem Rv.set {T : Tb} {F H : Hp} {xs} {v : V} (h : Rv T F H (.set xs) v) (s : Same F H) : ∃ a, v = .ref a ∧ SetAt H a xs := by
 obtain ⟨m, A, h⟩ := h
 cases m with
 | fz =>
  simp only [OwM, Rp] at h
  obtain ⟨⟨a, rfl, q⟩, _⟩ := h
  exact ⟨a, rfl, SetAt.mono (s a) q⟩
 | ow =>
  simp only [OwM] at h
  obtain ⟨a, rfl, _, q⟩ := h
  exact ⟨a, rfl, q⟩
 | ob ms => simp [OwM] at h
 | lk => simp [OwM] at h
theorem Rv.obj {T : Tb} {F H : Hp} {c fs} {v : V} (h : Rv T F H (.obj c fs) v) (s : Same F H) : ∃ a C dx vs, v = .ref a ∧ T.cl.i c = some C ∧ H a = some (.ins C dx vs) := by
 obtain ⟨m, A, h⟩ := h
 cases m with
 | fz =>
  simp only [OwM, Rp] at h
  obtain ⟨⟨a, C, dx, vs, rfl, q, r, _⟩, _⟩ := h
  exact ⟨a, C, dx, vs, rfl, q, s _ _ r⟩
 | ow => simp [OwM] at h
 | ob ms =>
  simp only [OwM] at h
  obtain ⟨a, C, dx, vs, _, rfl, _, q, r, _⟩ := h
  exact ⟨a, C, dx, vs, rfl, r, q⟩
 | lk => simp [OwM] at h
theorem Rv.exc {T : Tb} {F H : Hp} {c fs} {v : V} (h : Rv T F H (.exc c fs) v) (s : Same F H) : ∃ a C d vs, v = .ref a ∧ T.cl.e c = some C ∧ F a = some (ExV a C d) ∧ H a = some (ExV a C d) ∧ ExD F d vs ∧ RpF T F fs vs := by
 obtain ⟨m, A, h⟩ := h
 cases m with
 | fz =>
  simp only [OwM, Rp] at h
  obtain ⟨⟨a, C, d, vs, rfl, q, r, x, l⟩, _⟩ := h
  exact ⟨a, C, d, vs, rfl, q, r, s _ _ r, x, l⟩
 | ow => simp [OwM] at h
 | ob ms => simp [OwM] at h
 | lk => simp [OwM] at h
theorem Rv.nul {T : Tb} {F H : Hp} {v : V} (h : Rv T F H .nul v) : ∃ a, v = .ref a ∧ K0 T.K a := by
 obtain ⟨m, A, h⟩ := h
 cases m with
 | fz =>
  simp only [OwM, Rp] at h
  exact h.1
 | ow => simp [OwM] at h
 | ob ms => simp [OwM] at h
 | lk => simp [OwM] at h
theorem Rv.non {T : Tb} {F H : Hp} {v : V} (h : Rv T F H .non v) : v = .non := by
 obtain ⟨m, A, h⟩ := h
 cases m <;> simp [OwM, Rp] at h; exact h.1
theorem Rv.bl {T : Tb} {F H : Hp} {v : V} {b} (h : Rv T F H (.bl b) v) : v = .bl b := by
 obtain ⟨m, A, h⟩ := h
 cases m <;> simp [OwM, Rp] at h; exact h.1
theorem Rv.int {T : Tb} {F H : Hp} {v : V} {b} (h : Rv T F H (.int b) v) : v = .int b := by
 obtain ⟨m, A, h⟩ := h
 cases m <;> simp [OwM, Rp] at h; exact h.1
theorem Rv.str {T : Tb} {F H : Hp} {v : V} {b} (h : Rv T F H (.str b) v) : v = .str b := by
 obtain ⟨m, A, h⟩ := h
 cases m <;> simp [OwM, Rp] at h; exact h.1
theorem gy {F H : Hp} {x : PV} {v : V} {b : Bool} (s : Same F H) (h : Rv ⟨X.K, cl⟩ F H x v) (e : bN x = .ok b) : TruV X.K v H b := by
 cases x with
 | non => rw [h.non]; simp only [bN, R.ok.injEq] at e; exact e.symm
 | bl c => rw [h.bl]; simp only [bN, R.ok.injEq] at e; exact e.symm
 | int c => rw [h.int]; simp only [bN, R.ok.injEq] at e; exact e.symm
 | str c =>
  rw [h.str]
  simp only [bN] at e
  split at e
  ·simp only [R.ok.injEq] at e; exact ⟨by assumption, e.symm⟩
  ·cases e
 | lst xs =>
  obtain ⟨a, vs, rfl, q, r⟩ := h.lst s
  simp only [bN, R.ok.injEq] at e
  exact .inl ⟨vs, q, by rw [r.isEmpty]; exact e.symm⟩
 | tup xs =>
  obtain ⟨a, vs, rfl, q, r⟩ := h.tup s
  simp only [bN, R.ok.injEq] at e
  exact .inr (.inl ⟨vs, SqT.of q, by rw [r.isEmpty]; exact e.symm⟩)
 | nul =>
  obtain ⟨a, rfl, k⟩ := h.nul
  simp only [bN, R.ok.injEq] at e
  exact .inr (.inl ⟨[], k.sq H, e.symm⟩)
 | _ => simp [bN] at e
def xT (f : Ex) : Env → R Bool := fun γ => (f γ).bind fun l => bN l.x
theorem gz (x : PV) (e : Xc) : bN x ≠ .er e := by
 cases x <;> simp [bN]
 split <;> simp
theorem cI {e : Expr} {f : Ex} (h : QE cl X W f e) (he : ∀ whole, isTrue e X.env whole = (do let v ← whole; standAt e.pos; holding [v] (truthy v)) := by intro _; rfl) : QT cl X W (xT f) e := by
 refine ⟨(pt_truth h.pe he).imp fun σ H Q h => ?_⟩
 obtain ⟨F, A, γ, rel, h⟩ := h
 refine ⟨F, A, γ, rel, ?_⟩
 unfold xT at h
 cases e : f γ with
 | no => rw [e] at h; exact h
 | er x => rw [e] at h; exact h
 | ok l =>
  rw [e] at h
  simp only [R.ai] at h
  intro F1 H1 v e1 r1
  cases e' : bN l.x with
  | no => rw [e'] at h; exact h.elim
  | er x => exact (gz _ _ e').elim
  | ok b =>
   rw [e'] at h
   exact ⟨b, gy e1.sub r1.rv e', h F1 H1 e1⟩
end
end Z
namespace Z
open PySem L2
def sm (n : Nat) : Bool := decide (n ≤ 16777216)
theorem cq {n : Nat} (h : sm n = true) : n ≤ sizeLine := by
 rw [sizeLine_eq]; exact of_decide_eq_true h
theorem RvL.length {T : Tb} {F H : Hp} : ∀ {xs : List PV} {vs : List V}, RvL T F H xs vs → vs.length = xs.length
 | [], _, h => by simp only [RvL] at h; subst h; rfl
 | x :: xs, _, h => by
  simp only [RvL] at h
  obtain ⟨v, ws, rfl, _, q⟩ := h
  simp [RvL.length q]
theorem RvL.one {T : Tb} {F H : Hp} {x : PV} {vs : List V} (h : RvL T F H [x] vs) : ∃ v, vs = [v] ∧ Rv T F H x v := by
 simp only [RvL] at h
 obtain ⟨v, ws, rfl, p, rfl⟩ := h
 exact ⟨v, rfl, p⟩
theorem RvL.two {T : Tb} {F H : Hp} {x y : PV} {vs : List V} (h : RvL T F H [x, y] vs) : ∃ v w, vs = [v, w] ∧ Rv T F H x v ∧ Rv T F H y w := by
 simp only [RvL] at h
 obtain ⟨v, ws, rfl, p, w, ws', rfl, q, rfl⟩ := h
 exact ⟨v, w, rfl, p, q⟩
def Vl.keep : Vl → R PV
 | .fr _ x => .ok x
 | .pk .fz x => .ok x
 | .pk .lk x => .ok x
 | .pk _ _ => .no
@[simp] theorem Vl.keep_fr (m x) : (Vl.fr m x).keep = .ok x := (rfl)
@[simp] theorem Vl.keep_fz (x) : (Vl.pk .fz x).keep = .ok x := (rfl)
theorem Vl.keep_ne (l : Vl) (e : Xc) : l.keep ≠ .er e := by
 cases l with
 | fr m x => simp [Vl.keep]
 | pk m x => cases m <;> simp [Vl.keep]
theorem keep_ok {T : Tb} {F H F1 H1 : Hp} {A : List Addr} {l : Vl} {v : V} {x : PV} (r : VlR T F1 H1 H A l v) (e1 : Ext F H F1 H1) (e : l.keep = .ok x) : ∃ F2, Ext F H F2 H1 ∧ Same F1 F2 ∧ Rp T F2 x v := by
 cases l with
 | fr m y =>
  simp only [Vl.keep_fr, R.ok.injEq] at e
  subst e
  obtain ⟨Ar, h1, h2, h3⟩ := r
  have d : ∀ a ∈ Ar, F1 a = none := fun a ha => (h3 a ha).2
  refine ⟨frz F1 H1 Ar, ⟨eA e1.sub, e1.fle.trans (bG d), e1.hle, fun a o h => ?_⟩, bG d, OwM.freeze (bG d) m h1 fun a ha o h => iI ha h⟩
  by_cases ha : a ∈ Ar
  ·exact .inr (.inl (h3 a ha).1)
  ·rw [eB ha] at h; exact e1.new a o h
 | pk m y =>
  cases m with
  | fz =>
   simp only [Vl.keep_fz, R.ok.injEq] at e
   subst e
   obtain ⟨Ai, h1, _⟩ := r
   simp only [OwM] at h1
   exact ⟨F1, e1, Same.refl _, h1.1⟩
  | ow => simp [Vl.keep] at e
  | ob ms => simp [Vl.keep] at e
  | lk =>
   have e' : y = x := by simpa [Vl.keep] using e
   subst e'
   obtain ⟨Ai, h1, _⟩ := r
   have h2 := h1
   simp only [OwM] at h2
   obtain ⟨_, _, _, _, _, _, _, h3, _⟩ := h2
   subst h3
   exact ⟨F1, e1, Same.refl _, OwM.freeze (Same.refl _) .lk h1 (by simp)⟩
section
variable {X : Cx} {cl : Cl} {W : WX}
def ar : Env → R (List PV) := fun _ => .ok []
def bo (f : Ex) (fs : Env → R (List PV)) : Env → R (List PV) := fun γ => (f γ).bind fun l => (fs γ).bind fun xs => .ok (l.x :: xs)
def ae (f : Ex) (fs : Env → R (List PV)) : Env → R (List PV) := fun γ => (f γ).bind fun l => l.keep.bind fun x => (fs γ).bind fun xs => .ok (x :: xs)
theorem df : QA cl X W ar [] := ⟨pa_nil.imp fun σ H Q h => by
 obtain ⟨F, A, γ, rel, h⟩ := h
 exact h F H [] (Ext.refl rel.sub) rfl⟩
theorem aj : QZ cl X W ar [] := ⟨pa_nil.imp fun σ H Q h => by
 obtain ⟨F, A, γ, rel, h⟩ := h
 exact h F H [] (Ext.refl rel.sub) RpL.nil⟩
theorem bZ {f fs} {e : Expr} {es : List Expr} (he : QE cl X W f e) (ht : QA cl X W fs es) (hs : starEach (e :: es) X.env = (false, eval e X.env) :: starEach es X.env := by rfl) : QA cl X W (bo f fs) (e :: es) := by
 refine ⟨(pa_cons he.pe ht.pa hs).imp fun σ H Q h => ?_⟩
 obtain ⟨F, A, γ, rel, h⟩ := h
 refine ⟨F, A, γ, rel, ?_⟩
 unfold bo at h
 cases e : f γ with
 | no => rw [e] at h; exact h
 | er x => rw [e] at h; exact h
 | ok l =>
  rw [e] at h
  simp only [R.ai] at h
  intro F1 H1 v e1 r1
  refine ⟨F1, A, γ, rel.ext e1, ?_⟩
  cases e' : fs γ with
  | no => rw [e'] at h; exact h
  | er x => rw [e'] at h; exact fun F' H' c d ex => h F' H' c d (e1.trans ex)
  | ok xs =>
   rw [e'] at h
   simp only [R.ai] at h
   intro F2 H2 vs e2 r2
   exact h F2 H2 (v :: vs) (e1.trans e2) ⟨v, vs, rfl, r1.rv.ext e2, r2⟩
theorem aa {f fs} {e : Expr} {es : List Expr} (he : QE cl X W f e) (ht : QZ cl X W fs es) (hs : starEach (e :: es) X.env = (false, eval e X.env) :: starEach es X.env := by rfl) : QZ cl X W (ae f fs) (e :: es) := by
 refine ⟨(pa_cons he.pe ht.pa hs).imp fun σ H Q h => ?_⟩
 obtain ⟨F, A, γ, rel, h⟩ := h
 refine ⟨F, A, γ, rel, ?_⟩
 unfold ae at h
 cases e : f γ with
 | no => rw [e] at h; exact h
 | er x => rw [e] at h; exact h
 | ok l =>
  rw [e] at h
  simp only [R.ai] at h
  intro F1 H1 v e1 r1
  cases ek : l.keep with
  | no => rw [ek] at h; exact h.elim
  | er x => exact (l.keep_ne _ ek).elim
  | ok x =>
   rw [ek] at h
   simp only [R.ai] at h
   obtain ⟨F2, e2, s2, rx⟩ := keep_ok r1 e1 ek
   refine ⟨F2, A, γ, rel.ext e2, ?_⟩
   cases e' : fs γ with
   | no => rw [e'] at h; exact h
   | er x => rw [e'] at h; exact fun F' H' c d ex => h F' H' c d (e2.trans ex)
   | ok xs =>
    rw [e'] at h
    simp only [R.ai] at h
    intro F3 H3 vs e3 r3
    exact h F3 H3 (v :: vs) (e2.trans e3) (RpL.cons (rx.mono e3.fle) r3)
def bp (fs : Env → R (List PV)) : Ex := fun γ => (fs γ).bind fun xs => if sm xs.length then .ok (.fr .ow (.lst xs)) else .no
theorem gE {T : Tb} {F H : Hp} {xs : List PV} {vs : List V} {p : Addr} (s : Same F H) (np : H p = none) (r : RpL T F xs vs) : Rp T (upd F p (.tup vs)) (.tup xs) (.ref p) := by
 have nf : F p = none := s.free np
 simp only [Rp]
 exact ⟨p, vs, rfl, upd_same, RpL.mono (fun a o h => by rw [upd_ne (ne_of_none h nf)]; exact h) xs vs r⟩
theorem lM {T : Tb} {F H : Hp} {xs : List PV} {vs : List V} {p : Addr} (s : Same F H) (np : H p = none) (r : RpL T F xs vs) : OwM T F (upd H p (.lst vs)) .ow (.lst xs) (.ref p) [p] := by
 simp only [OwM]
 exact ⟨p, rfl, rfl, vs, upd_same, r⟩
theorem en {T : Tb} {F H : Hp} {xs : List PV} {vs : List V} {p : Addr} (s : Same F H) (np : H p = none) (r : RpL T F xs vs) : VlN T F (upd H p (.lst vs)) H (.fr .ow (.lst xs)) (.ref p) :=
 ⟨[p], lM s np r, by simp, fun a ha => by
  obtain rfl : a = p := by simpa using ha
  exact ⟨np, s.free np⟩⟩
theorem aY.tup {T : Tb} {F H : Hp} {xs : List PV} {vs : List V} {Q : VK} {p : Addr} (s : Same F H) (np : H p = none) (r : RpL T F xs vs) (h : aY T F H (.ok (.z (.tup xs))) Q) : Q (.ref p) (upd H p (.tup vs)) :=
 h _ _ _ (Ext.newF s np) (VlN.z (gE s np r))
theorem aY.lst {T : Tb} {F H : Hp} {xs : List PV} {vs : List V} {Q : VK} {p : Addr} (s : Same F H) (np : H p = none) (r : RpL T F xs vs) (h : aY T F H (.ok (.fr .ow (.lst xs))) Q) : Q (.ref p) (upd H p (.lst vs)) :=
 h _ _ _ (Ext.newO s np) (en s np r)
theorem bg {fs} {es : List Expr} {pos : Pos} (h : QZ cl X W fs es) : QE cl X W (bp fs) (.List es pos) := by
 refine ⟨(pe_lst h.pa).imp fun σ H Q h => ?_⟩
 obtain ⟨F, A, γ, rel, h⟩ := h
 refine ⟨F, A, γ, rel, ?_⟩
 unfold bp at h
 cases e : fs γ with
 | no => rw [e] at h; exact h
 | er x => rw [e] at h; exact h
 | ok xs =>
  rw [e] at h
  simp only [R.ai] at h
  intro F1 H1 vs e1 r1
  cases z : sm xs.length with
  | false => rw [z] at h; exact h.elim
  | true =>
   rw [z] at h
   refine ⟨by rw [r1.length]; exact cq z, fun p np => ?_⟩
   exact h _ _ _ (e1.trans (Ext.newO e1.sub np)) ((en e1.sub np r1).r e1.hle)
def jP (f g : Ex) : Ex := fun γ => (f γ).bind fun l => (bN l.x).bind fun b => if b then g γ else .ok l
theorem oL {op} {f} {a : Expr} {pos : Pos} (h : QE cl X W f a) : QE cl X W f (.BoolOp op [a] pos) := ⟨pe_one h.pe⟩
theorem tqG {f : Ex} {σ : St} {H : Hp} {F : Hp} {A : List Addr} {γ : Env} {Q : VK} {F1 H1} (rel : Rel ⟨X.K, cl⟩ F A σ H γ) (e1 : Ext F H F1 H1)
  (h : match f γ with
   | .ok l => ∀ F' H' v, Ext F H F' H' → VlR ⟨X.K, cl⟩ F' H' H A l v → Q v H'
   | .er e => ∀ F' H' c d, Ext F H F' H' → XcR ⟨X.K, cl⟩ F' e c d → W c d σ H'
   | .no => False) : tq X.K cl W f σ H1 Q := by
 refine ⟨F1, A, γ, rel.ext e1, ?_⟩
 cases e' : f γ with
 | no => rw [e'] at h; exact h
 | er x => rw [e'] at h; exact fun F' H' c d ex => h F' H' c d (e1.trans ex)
 | ok k =>
  rw [e'] at h
  intro F2 H2 u e2 r2
  refine h F2 H2 u (e1.trans e2) ?_
  cases k with
  | fr m x => obtain ⟨Ar, h1, h2, h3⟩ := r2; exact ⟨Ar, h1, h2, fun a ha => ⟨e1.hle.free (h3 a ha).1, (h3 a ha).2⟩⟩
  | pk m x => exact r2
theorem oV {f g} {a b : Expr} {rest : List Expr} {pos : Pos} (ha : QE cl X W f a) (hb : QE cl X W g (.BoolOp .And (b :: rest) pos)) : QE cl X W (jP f g) (.BoolOp .And (a :: b :: rest) pos) := by
 refine ⟨(pe_andT ha.pe hb.pe).imp fun σ H Q h => ?_⟩
 obtain ⟨F, A, γ, rel, h⟩ := h
 refine ⟨F, A, γ, rel, ?_⟩
 unfold jP at h
 cases e : f γ with
 | no => rw [e] at h; exact h
 | er x => rw [e] at h; exact h
 | ok l =>
  rw [e] at h
  simp only [R.ai] at h
  intro F1 H1 v e1 r1
  cases et : bN l.x with
  | no => rw [et] at h; exact h.elim
  | er x => exact (gz _ _ et).elim
  | ok b =>
   rw [et] at h
   simp only [R.ai] at h
   refine ⟨b, gy e1.sub r1.rv et, ?_⟩
   cases b with
   | false => exact h F1 H1 v e1 r1
   | true => exact tqG rel e1 h
def fK (t u : Env → R Bool) : Env → R Bool := fun γ => (t γ).bind fun b => if b then u γ else .ok false
def dE (t u : Env → R Bool) : Env → R Bool := fun γ => (t γ).bind fun b => if b then .ok true else u γ
def ck (t : Env → R Bool) : Env → R Bool := fun γ => (t γ).bind fun b => .ok (!b)
theorem oq {f : Env → R Bool} {σ : St} {H : Hp} {F : Hp} {A : List Addr} {γ : Env} {Q : Bool → Hp → Prop} {F1 H1} (rel : Rel ⟨X.K, cl⟩ F A σ H γ) (e1 : Ext F H F1 H1)
  (h : match f γ with
   | .ok b => ∀ F' H', Ext F H F' H' → Q b H'
   | .er e => ∀ F' H' c d, Ext F H F' H' → XcR ⟨X.K, cl⟩ F' e c d → W c d σ H'
   | .no => False) : tqT X.K cl W f σ H1 Q := by
 refine ⟨F1, A, γ, rel.ext e1, ?_⟩
 cases e' : f γ with
 | no => rw [e'] at h; exact h
 | er x => rw [e'] at h; exact fun F' H' c d ex => h F' H' c d (e1.trans ex)
 | ok k => rw [e'] at h; exact fun F2 H2 e2 => h F2 H2 (e1.trans e2)
theorem g6 {t} {e : Expr} (h : QW cl X W t e) : QT cl X W t e := ⟨h.pw.pt⟩
theorem lq {t} {a : Expr} {pos : Pos} (h : QT cl X W t a) : QW cl X W t (.BoolOp .And [a] pos) := ⟨pw_and1 h.pt⟩
theorem gu {t} {a : Expr} {pos : Pos} (h : QT cl X W t a) : QW cl X W t (.BoolOp .Or [a] pos) := ⟨pw_or1 h.pt⟩
theorem mU {t u} {a b : Expr} {rest : List Expr} {pos : Pos} (ha : QT cl X W t a) (hb : QW cl X W u (.BoolOp .And (b :: rest) pos)) : QW cl X W (fK t u) (.BoolOp .And (a :: b :: rest) pos) := by
 refine ⟨(pw_and ha.pt hb.pw).imp fun σ H Q h => ?_⟩
 obtain ⟨F, A, γ, rel, h⟩ := h
 refine ⟨F, A, γ, rel, ?_⟩
 unfold fK at h
 cases e : t γ with
 | no => rw [e] at h; exact h
 | er x => rw [e] at h; exact h
 | ok l =>
  rw [e] at h
  simp only [R.ai] at h
  intro F1 H1 e1
  cases l with
  | false => exact h F1 H1 e1
  | true => exact oq rel e1 h
theorem g7 {t u} {a b : Expr} {rest : List Expr} {pos : Pos} (ha : QT cl X W t a) (hb : QW cl X W u (.BoolOp .Or (b :: rest) pos)) : QW cl X W (dE t u) (.BoolOp .Or (a :: b :: rest) pos) := by
 refine ⟨(pw_or ha.pt hb.pw).imp fun σ H Q h => ?_⟩
 obtain ⟨F, A, γ, rel, h⟩ := h
 refine ⟨F, A, γ, rel, ?_⟩
 unfold dE at h
 cases e : t γ with
 | no => rw [e] at h; exact h
 | er x => rw [e] at h; exact h
 | ok l =>
  rw [e] at h
  simp only [R.ai] at h
  intro F1 H1 e1
  cases l with
  | true => exact h F1 H1 e1
  | false => exact oq rel e1 h
theorem gv {t} {a : Expr} {pos : Pos} (ha : QT cl X W t a) : QT cl X W (ck t) (.UnaryOp .Not a pos) := by
 refine ⟨(pt_not ha.pt).imp fun σ H Q h => ?_⟩
 obtain ⟨F, A, γ, rel, h⟩ := h
 refine ⟨F, A, γ, rel, ?_⟩
 unfold ck at h
 cases e : t γ with
 | no => rw [e] at h; exact h
 | er x => rw [e] at h; exact h
 | ok l => rw [e] at h; exact h
def pb (p : PV → PV → R Bool) : PV → PV → R Vl := fun x y => (p x y).map fun b => .z (.bl b)
def gn (p : PV → PV → R Bool) : Prop := ∀ x y e, p x y ≠ .er e
theorem fX {p} (h : gn p) : c4 (pb p) := fun x y e z => by
 unfold pb at z
 cases q : p x y with
 | ok b => rw [q] at z; cases z
 | no => rw [q] at z; cases z
 | er e' => exact h x y e' q
def OpL (X : Cx) (cl : Cl) (p : List PV → R Vl) (r : List V → Hp → VK → Prop) : Prop :=
 ∀ F H xs vs Q, Same F H → RvL ⟨X.K, cl⟩ F H xs vs → aY ⟨X.K, cl⟩ F H (p xs) Q → r vs H Q
def jq (p : List PV → R Vl) : Prop := ∀ x e, p x ≠ .er e
def xB (p : List PV → R Vl) (fs : Env → R (List PV)) : Ex := fun γ => (fs γ).bind p
theorem tqB {p : List PV → R Vl} {r} {fs} (n : jq p) (o : OpL X cl p r) {σ H Q} (h : tq X.K cl W (xB p fs) σ H Q) : tCB r (tqA X.K cl W fs) σ H Q := by
 obtain ⟨F, A, γ, rel, h⟩ := h
 refine ⟨F, A, γ, rel, ?_⟩
 unfold xB at h
 cases e : fs γ with
 | no => rw [e] at h; exact h
 | er x => rw [e] at h; exact h
 | ok l =>
  rw [e] at h
  simp only [R.ai] at h
  intro F1 H1 vs e1 r1
  refine o F1 H1 l vs Q e1.sub r1 ?_
  cases e' : p l with
  | no => rw [e'] at h; exact h
  | er x => exact (n _ _ e').elim
  | ok l' =>
   rw [e'] at h
   exact fun F' H' w ex nn => h F' H' w (e1.trans ex) (nn.r e1.hle)
theorem i4 {x : Str} {id : String} {p : List PV → R Vl} {r} {fs} {e : Expr} {es : List Expr} {p1 pos : Pos} (hc : CallR X (.builtin id) r) (n : jq p) (o : OpL X cl p r) (hv : bootBuiltins x = some (.builtin id)) (hg : Gl X x) (hm : X.mg x = none)
  (ha : QA cl X W fs (e :: es)) (hn : x ≠ "__name__" := by decide) (hdb : (x == ("__debug__" : Str)) = false := by decide)
  (he : starEach (e :: es) X.env = (false, eval e X.env) :: starEach es X.env := by rfl) (hpl : (backTo pos (starEach es X.env)).any (·.1) = false := by rfl) : QE cl X W (xB p fs) (.Call (.Name x p1) (e :: es) [] pos) :=
 ⟨(pe_callB hc hg hm hv ha.pa hn hdb he hpl).imp fun _ _ _ h => tqB n o h⟩
theorem j5 {x : Str} {id : String} {p : List PV → R Vl} {r} {fs} {e : Expr} {es : List Expr} {p1 pos : Pos} (hc : CallR X (.type id) r) (n : jq p) (o : OpL X cl p r) (hv : bootBuiltins x = some (.type id)) (hg : Gl X x) (hm : X.mg x = none)
  (ha : QA cl X W fs (e :: es)) (hn : x ≠ "__name__" := by decide) (hdb : (x == ("__debug__" : Str)) = false := by decide)
  (he : starEach (e :: es) X.env = (false, eval e X.env) :: starEach es X.env := by rfl) (hpl : (backTo pos (starEach es X.env)).any (·.1) = false := by rfl) : QE cl X W (xB p fs) (.Call (.Name x p1) (e :: es) [] pos) :=
 ⟨(pe_callTy hc hg hm hv ha.pa hn hdb he hpl).imp fun _ _ _ h => tqB n o h⟩
end
end Z
namespace Z
open PySem L2
mutual
def peq : PV → PV → Bool
 | .non, .non => true
 | .bl a, .bl b => a == b
 | .bl a, .int b => (if a then 1 else 0) == b
 | .int a, .bl b => a == (if b then 1 else 0)
 | .int a, .int b => a == b
 | .str a, .str b => a == b
 | .tup xs, .tup ys => cL xs ys
 | .nul, .nul => true
 | .nul, .tup ys => ys.isEmpty
 | .tup xs, .nul => xs.isEmpty
 | .lst xs, .lst ys => cL xs ys
 | _, _ => false
def cL : List PV → List PV → Bool
 | [], [] => true
 | x :: xs, y :: ys => peq x y && cL xs ys
 | _, _ => false
end
mutual
def toD : PV → PyData
 | .bl b => .bool b
 | .int i => .int i
 | .str x => .str x
 | .tup xs => .tuple (bP xs)
 | .lst xs => .list (bP xs)
 | .nul => .tuple []
 | _ => .none
def bP : List PV → List PyData
 | [] => []
 | x :: xs => toD x :: bP xs
end
mutual
def isD : Nat → PV → Bool
 | _, .non => true
 | _, .bl _ => true
 | _, .int _ => true
 | _, .str x => PyData.strOk x
 | n, .tup xs => bO n xs
 | n, .lst xs => bO n xs
 | _ + 1, .nul => true
 | _, _ => false
def bO : Nat → List PV → Bool
 | 0, _ => false
 | _ + 1, [] => true
 | n + 1, x :: xs => isD n x && bO (n + 1) xs
end
mutual
theorem mu {T : Tb} {F H : Hp} (s : Same F H) : (x : PV) → ∀ {n v}, Rp T F x v → isD n x = true → Dp T.K H v (toD x) ∧ (toD x).canLay0 = true ∧ (toD x).depth ≤ n
 | .non, n, v, h, d => by simp only [Rp] at h; subst h; exact ⟨.non, by simp [toD, PyData.canLay0], by simp [toD, PyData.depth]⟩
 | .bl b, n, v, h, d => by simp only [Rp] at h; subst h; exact ⟨.bl b, by simp [toD, PyData.canLay0], by simp [toD, PyData.depth]⟩
 | .int b, n, v, h, d => by simp only [Rp] at h; subst h; exact ⟨.int b, by simp [toD, PyData.canLay0], by simp [toD, PyData.depth]⟩
 | .str b, n, v, h, d => by
  simp only [Rp] at h; subst h
  simp only [isD] at d
  exact ⟨.str b, by simpa [toD, PyData.canLay0] using d, by simp [toD, PyData.depth]⟩
 | .tup xs, n, v, h, d => by
  simp only [Rp] at h
  obtain ⟨a, vs, rfl, q, r⟩ := h
  simp only [isD] at d
  obtain ⟨h1, h2, h3⟩ := gL s xs r d
  refine ⟨.tup (SqT.of (s _ _ q)) h1, by simpa [toD, PyData.canLay0] using h2, ?_⟩
  simp only [toD, PyData.depth]
  exact h3
 | .lst xs, n, v, h, d => by
  simp only [Rp] at h
  obtain ⟨a, vs, rfl, q, r⟩ := h
  simp only [isD] at d
  obtain ⟨h1, h2, h3⟩ := gL s xs r d
  refine ⟨.lst (.inl (bt s q)) h1, by simpa [toD, PyData.canLay0] using h2, ?_⟩
  simp only [toD, PyData.depth]
  exact h3
 | .dct _ _, n, v, h, d => by simp [isD] at d
 | .set _, n, v, h, d => by simp [isD] at d
 | .obj _ _, n, v, h, d => by simp [isD] at d
 | .exc _ _, n, v, h, d => by simp [isD] at d
 | .nul, n, v, h, d => by
  simp only [Rp] at h
  obtain ⟨a, rfl, k⟩ := h
  cases n with
  | zero => simp [isD] at d
  | succ n => exact ⟨.tup (k.sq H) .nil, by simp [toD, PyData.canLay0, PyData.canLayAll0], by simp [toD, PyData.depth, PyData.depthAll]⟩
theorem gL {T : Tb} {F H : Hp} (s : Same F H) : (xs : List PV) → ∀ {n vs}, RpL T F xs vs → bO n xs = true → DpAll T.K H vs (bP xs) ∧ PyData.canLayAll0 (bP xs) = true ∧ PyData.depthAll (bP xs) + 1 ≤ n
 | [], n, vs, h, d => by
  simp only [RpL] at h; subst h
  refine ⟨.nil, by simp [bP, PyData.canLayAll0], ?_⟩
  cases n with
  | zero => simp [bO] at d
  | succ n => simp [bP, PyData.depthAll]
 | x :: xs, n, vs, h, d => by
  simp only [RpL] at h
  obtain ⟨v, ws, rfl, p, q⟩ := h
  cases n with
  | zero => simp [bO] at d
  | succ n =>
   simp only [bO, Bool.and_eq_true] at d
   obtain ⟨h1, h2, h3⟩ := mu s x p d.1
   obtain ⟨k1, k2, k3⟩ := gL s xs q d.2
   refine ⟨.cons h1 k1, by simp [bP, PyData.canLayAll0, h2, k2], ?_⟩
   simp only [bP, PyData.depthAll]
   omega
end
mutual
theorem eC : (x y : PV) → ∀ {n m}, isD n x = true → isD m y = true → PyData.eqv (toD x) (toD y) = peq x y
 | .tup xs, y, n, m, h, k => by
  simp only [isD] at h
  cases y <;> simp_all [toD, peq, isD, PyData.eqv]
  ·exact eW xs _ h k
  ·cases xs <;> simp [bP, PyData.eqvAll]
 | .lst xs, y, n, m, h, k => by
  simp only [isD] at h
  cases y <;> simp_all [toD, peq, isD, PyData.eqv]
  exact eW xs _ h k
 | .non, y, n, m, h, k => by cases y <;> simp_all [toD, peq, isD, PyData.eqv]
 | .bl b, y, n, m, h, k => by cases y <;> simp_all [toD, peq, isD, PyData.eqv]
 | .int b, y, n, m, h, k => by cases y <;> simp_all [toD, peq, isD, PyData.eqv]
 | .str b, y, n, m, h, k => by cases y <;> simp_all [toD, peq, isD, PyData.eqv]
 | .dct _ _, y, n, m, h, k => by simp [isD] at h
 | .set _, y, n, m, h, k => by simp [isD] at h
 | .obj _ _, y, n, m, h, k => by simp [isD] at h
 | .exc _ _, y, n, m, h, k => by simp [isD] at h
 | .nul, y, n, m, h, k => by
  cases n with
  | zero => simp [isD] at h
  | succ n =>
   cases y <;> simp_all [toD, peq, isD, PyData.eqv, PyData.eqvAll]
   rename_i ys
   cases ys <;> simp [bP, PyData.eqvAll]
theorem eW : (xs ys : List PV) → ∀ {n m}, bO n xs = true → bO m ys = true → PyData.eqvAll (bP xs) (bP ys) = cL xs ys
 | [], ys, n, m, h, k => by cases ys <;> simp [bP, cL, PyData.eqvAll]
 | x :: xs, [], n, m, h, k => by simp [bP, cL, PyData.eqvAll]
 | x :: xs, y :: ys, n, m, h, k => by
  cases n with
  | zero => simp [bO] at h
  | succ n =>
   cases m with
   | zero => simp [bO] at k
   | succ m =>
    simp only [bO, Bool.and_eq_true] at h k
    simp only [bP, cL, PyData.eqvAll]
    rw [eC x y h.1 k.1, eW xs ys h.2 k.2]
end
theorem gh {T : Tb} {F H : Hp} (s : Same F H) {x : PV} {v : V} {n : Nat} (h : Rv T F H x v) (d : isD n x = true) (hn : n ≤ 64) : Dp T.K H v (toD x) ∧ SeqAt.shaped (toD x) = true := by
 have fin : ∀ {k : PyData}, k.canLay0 = true → k.depth ≤ n → SeqAt.shaped k = true := fun c e => by
  unfold SeqAt.shaped
  rw [c, Bool.true_and]
  exact decide_eq_true (Nat.le_trans e hn)
 obtain ⟨m, A, hm⟩ := h
 cases m with
 | fz =>
  simp only [OwM] at hm
  obtain ⟨h1, h2, h3⟩ := mu s x hm.1 d
  exact ⟨h1, fin h2 h3⟩
 | ow =>
  simp only [OwM] at hm
  obtain ⟨a, rfl, _, hm⟩ := hm
  cases x with
  | lst xs =>
   obtain ⟨vs, q, r⟩ := hm
   simp only [isD] at d
   obtain ⟨h1, h2, h3⟩ := gL s xs r d
   refine ⟨.lst (SqL.of q) h1, fin ?_ ?_⟩
   ·simpa [toD, PyData.canLay0] using h2
   ·simp only [toD, PyData.depth]; exact h3
  | dct _ _ => simp [isD] at d
  | set _ => simp [isD] at d
  | _ => exact hm.elim
 | ob ms =>
  simp only [OwM] at hm
  obtain ⟨a, C, dx, vs, A', _, _, _, hm⟩ := hm
  cases x <;> first | exact hm.elim | simp [isD] at d
 | lk =>
  simp only [OwM] at hm
  obtain ⟨_, _, _, _, _, rfl, _⟩ := hm
  simp [isD] at d
@[simp] def gP : PV → PV → Bool
 | .str _, .str _ => true
 | _, _ => false
theorem eZ {x y : PV} (h : gP x y = true) : ∃ a b, x = .str a ∧ y = .str b := by
 cases x <;> cases y <;> simp at h
 exact ⟨_, _, rfl, rfl⟩
def pEq (x y : PV) : R Bool := if gP x y || (isD 60 x && isD 60 y) then .ok (peq x y) else .no
def pNe (x y : PV) : R Bool := if gP x y || (isD 60 x && isD 60 y) then .ok (!peq x y) else .no
theorem ng : gn pEq := fun x y e h => by unfold pEq at h; split at h <;> cases h
theorem m8 : gn pNe := fun x y e h => by unfold pNe at h; split at h <;> cases h
section
variable {X : Cx} {cl : Cl} {W : WX}
theorem aY.bl {T : Tb} {F H : Hp} {b : Bool} {Q : VK} (s : Same F H) (h : aY T F H (.ok (.z (.bl b))) Q) : Q (.bl b) H := h.of s (by simp [Rp])
theorem aY.int {T : Tb} {F H : Hp} {b : Int} {Q : VK} (s : Same F H) (h : aY T F H (.ok (.z (.int b))) Q) : Q (.int b) H := h.of s (by simp [Rp])
theorem aY.str {T : Tb} {F H : Hp} {b : Str} {Q : VK} (s : Same F H) (h : aY T F H (.ok (.z (.str b))) Q) : Q (.str b) H := h.of s (by simp [Rp])
theorem o_eq : Op2 X cl (pb pEq) (fun x y H Q => rEq x y H Q ∨ rEqD X.K x y H Q) := by
 intro F H x y v u Q s rx ry h
 unfold pb pEq at h
 split at h
 ·rename_i d
  rw [Bool.or_eq_true, Bool.and_eq_true] at d
  rcases d with d | d
  ·obtain ⟨a, b, rfl, rfl⟩ := eZ d
   have e1 := rx.str
   have e2 := ry.str
   subst e1 e2
   refine .inl ⟨rfl, ?_⟩
   rw [show decide (V.str a = V.str b) = peq (.str a) (.str b) by rw [Bool.eq_iff_iff]; simp [peq]]
   exact aY.bl s h
  ·obtain ⟨d1, s1⟩ := gh s rx d.1 (by decide)
   obtain ⟨d2, s2⟩ := gh s ry d.2 (by decide)
   refine .inr ⟨_, _, d1, d2, s1, s2, ?_⟩
   rw [eC x y d.1 d.2]
   exact aY.bl s h
 ·exact h.elim
theorem o_ne : Op2 X cl (pb pNe) (fun x y H Q => rNe x y H Q ∨ rNeD X.K x y H Q) := by
 intro F H x y v u Q s rx ry h
 unfold pb pNe at h
 split at h
 ·rename_i d
  rw [Bool.or_eq_true, Bool.and_eq_true] at d
  rcases d with d | d
  ·obtain ⟨a, b, rfl, rfl⟩ := eZ d
   have e1 := rx.str
   have e2 := ry.str
   subst e1 e2
   refine .inl ⟨rfl, ?_⟩
   rw [show decide (V.str a = V.str b) = peq (.str a) (.str b) by rw [Bool.eq_iff_iff]; simp [peq]]
   exact aY.bl s h
  ·obtain ⟨d1, s1⟩ := gh s rx d.1 (by decide)
   obtain ⟨d2, s2⟩ := gh s ry d.2 (by decide)
   refine .inr ⟨_, _, d1, d2, s1, s2, ?_⟩
   rw [eC x y d.1 d.2]
   exact aY.bl s h
 ·exact h.elim
def i2 (p : Int → Int → R PV) : PV → PV → R Vl := fun x y => match x, y with
 | .int i, .int j => (p i j).map .z
 | _, _ => .no
theorem jg {p : Int → Int → R PV} (h : ∀ i j e, p i j ≠ .er e) : c4 (i2 p) := fun x y e z => by
 unfold i2 at z
 split at z
 ·rename_i i j
  cases q : p i j with
  | ok b => rw [q] at z; cases z
  | no => rw [q] at z; cases z
  | er e' => exact h i j e' q
 ·cases z
theorem o_i0 {g : Int → Int → PV} {g' : Int → Int → V} (hg : ∀ F i j, Rp ⟨X.K, cl⟩ F (g i j) (g' i j)) : Op2 X cl (i2 fun i j => .ok (g i j)) (rI0 g') := by
 intro F H x y v u Q s rx ry h
 unfold i2 at h
 split at h
 ·rename_i i j
  exact ⟨i, j, rx.int, ry.int, h.of s (hg F i j)⟩
 ·exact h.elim
theorem o_i {C : Int → Int → Prop} {c : Int → Int → Bool} {g : Int → Int → PV} {g' : Int → Int → V} (hc : ∀ i j, c i j = true → C i j) (hg : ∀ F i j, Rp ⟨X.K, cl⟩ F (g i j) (g' i j)) : Op2 X cl (i2 fun i j => if c i j then .ok (g i j) else .no) (rI C g') := by
 intro F H x y v u Q s rx ry h
 unfold i2 at h
 split at h
 ·rename_i i j
  cases z : c i j with
  | false => simp [z, R.map, aY] at h
  | true => simp only [z, if_true, R.map] at h; exact ⟨i, j, rx.int, ry.int, hc i j z, h.of s (hg F i j)⟩
 ·exact h.elim
theorem iE {α : Type} {c : Bool} {a : α} {e : Xc} : (if c then R.ok a else R.no) ≠ .er e := by cases c <;> simp
def kO (i j : Int) : Bool := (decide (-(2 ^ 64) < i) && decide (i < 2 ^ 64)) || (decide (-(2 ^ 64) < j) && decide (j < 2 ^ 64))
def l7 (i j : Int) : Bool := decide (0 ≤ j) && decide (j ≤ 1000000) && decide (i.natAbs < 2 ^ 64)
def l8 (_ j : Int) : Bool := decide (0 < j) && decide (j.natAbs.log2 < 9000)
def lA : PV → PV → R Vl := i2 fun i j => .ok (.int (i - j))
def cy : PV → PV → R Vl := i2 fun i j => if decide (0 < j) then .ok (.int (i % j)) else .no
def iA : PV → PV → R Vl := i2 fun i j => if l8 i j then .ok (.int (i / j)) else .no
def dJ : PV → PV → R Vl := i2 fun i j => if l7 i j then .ok (.int (i ^ j.toNat)) else .no
theorem oJ {a b : Expr} {pos : Pos} {f g : Ex} (ha : QE cl X W f a) (hb : QE cl X W g b) : QE cl X W (x2 lA f g) (.BinOp a .Sub b pos) := jB op_sub (jg fun _ _ _ h => by cases h) (o_i0 fun _ _ _ => by simp [Rp]) ha hb
theorem eH {a b : Expr} {pos : Pos} {f g : Ex} (ha : QE cl X W f a) (hb : QE cl X W g b) : QE cl X W (x2 cy f g) (.BinOp a .Mod b pos) := jB op_mod (jg fun _ _ _ => iE) (o_i (fun _ _ h => of_decide_eq_true h) fun _ _ _ => by simp [Rp]) ha hb
theorem mn {a b : Expr} {pos : Pos} {f g : Ex} (ha : QE cl X W f a) (hb : QE cl X W g b) : QE cl X W (x2 iA f g) (.BinOp a .FloorDiv b pos) := jB op_fdivW (jg fun _ _ _ => iE) (o_i (fun i j h => by
 simp only [l8, Bool.and_eq_true, decide_eq_true_eq] at h; exact h) fun _ _ _ => by simp [Rp]) ha hb
theorem iZ {a b : Expr} {pos : Pos} {f g : Ex} (ha : QE cl X W f a) (hb : QE cl X W g b) : QE cl X W (x2 dJ f g) (.BinOp a .Pow b pos) := jB op_pow (jg fun _ _ _ => iE) (o_i (fun i j h => by
 simp only [l7, Bool.and_eq_true, decide_eq_true_eq] at h; exact ⟨h.1.1, h.1.2, h.2⟩) fun _ _ _ => by simp [Rp]) ha hb
def kf : PV → R Vl
 | .int i => .ok (.z (.int (-i)))
 | _ => .no
theorem oN {a : Expr} {pos : Pos} {f : Ex} (ha : QE cl X W f a) : QE cl X W (x1 kf f) (.UnaryOp .USub a pos) := by
 refine q_un un_neg (fun x e h => by cases x <;> simp [kf] at h) (fun F H x v Q s rx h => ?_) ha
 cases x <;> first | exact h.elim | skip
 exact ⟨_, rx.int, h.int s⟩
theorem OpR.imp {f : Value → Value → Sem Value} {r r' : R2} (h : OpR X f r) (k : ∀ x y H Q, r' x y H Q → r x y H Q) : OpR X f r' := fun pins s σ H x y v u Q I rx ry q => h pins s σ H x y v u Q I rx ry (k x y H Q q)
theorem _root_.L2.Inv.lstR {pins : List (Addr × Obj)} {σ : St} {H : Hp} {s : Shared} {l : Addr} {xs : List V} (I : Inv X pins σ H s) (hH : Rd H l (.lst xs)) : xs.length ≤ sizeLine ∧ ∃ (its : List Value) (n : Nat), Vals xs its ∧ xs.length = its.length ∧ s.heap.get? l = some { cls := .type "list", data := .seq its.toArray n } := by
 obtain ⟨z, its, n, r, e⟩ := hH.ok I.hok
 exact ⟨z, its, n, r, r.length, e⟩
def mj : R2 := fun x y H Q => ∃ l b xs zs, x = .ref l ∧ y = .ref b ∧ Rd H l (.lst xs) ∧ Rd H b (.lst zs) ∧ xs.length + zs.length ≤ sizeLine ∧ ∀ p, H p = none → Q (.ref p) (upd H p (.lst (xs ++ zs)))
theorem lK : OpR X (binaryOp .Add) mj := by
 intro pins s σ H x y v u Q I rx ry h
 obtain ⟨l, b, xs, zs, rfl, rfl, hH, hB, hz, q⟩ := h
 cases rx
 cases ry
 obtain ⟨z, its, n, r, hl, e⟩ := I.lstR hH
 obtain ⟨z2, its2, n2, r2, hl2, e2⟩ := I.lstR hB
 refine PySem.P.add_list e e2 ?_ (by rw [List.size_toArray, List.size_toArray]; omega)
 have ea : its.toArray ++ its2.toArray = (its ++ its2).toArray := by simp
 rw [ea]
 exact ⟨.ref _, _, I.lnew (t' := s.toks) (r.append r2) (by rw [List.length_append]; omega), rfl, q _ I.fresh⟩
def mi : R2 := fun x y H Q => ∃ a b xs ys, x = .ref a ∧ y = .ref b ∧ H a = some (.tup xs) ∧ H b = some (.tup ys) ∧ xs.length + ys.length ≤ sizeLine ∧
 (xs = [] → Q (.ref b) H) ∧ (xs ≠ [] → ys = [] → Q (.ref a) H) ∧ (xs ≠ [] → ys ≠ [] → ∀ p, H p = none → Q (.ref p) (upd H p (.tup (xs ++ ys))))
theorem lJ : OpR X (binaryOp .Add) mi := by
 intro pins s σ H x y v u Q I rx ry h
 obtain ⟨a, b, xs, ys, rfl, rfl, ha, hb, hz, q0, q1, q2⟩ := h
 by_cases hx : xs = []
 ·cases rx
  cases ry
  obtain ⟨its, r1, p1, _⟩ := I.tuple (SqT.of ha)
  obtain ⟨its2, r2, p2, _⟩ := I.tuple (SqT.of hb)
  obtain ⟨⟨cls, dd, data, sl⟩, ho, hc, n, hd⟩ := id p1
  obtain ⟨⟨cls2, dd2, data2, sl2⟩, ho2, hc2, n2, hd2⟩ := id p2
  simp only at hc hd hc2 hd2
  subst hc hd hc2 hd2
  have e0 : its.toArray.isEmpty = true := by
   have : its = [] := r1.nil_iff.mpr hx
   simp [this]
  exact PySem.concat_meets ⟨_, ho, rfl⟩ ⟨_, ho2, rfl⟩ PySem.noFill_tuple_add PySem.seq_tuple_add PySem.F.slot_tuple_add PySem.F.entry_tuple_add (PySem.F.args_tuple_add_2 _ _)
   (PyProof.Rows.tuple_addW0 a b its.toArray its2.toArray n n2 dd dd2 sl sl2 e0) ⟨ho, ho2, ⟨.ref b, H, I, rfl, q0 hx⟩⟩
 ·exact op_catT pins s σ H _ _ v u Q I rx ry ⟨a, b, xs, ys, rfl, rfl, SqT.of ha, SqT.of hb, hx, hz, q1 hx, q2 hx⟩
def aS : PV → PV → R Vl := fun x y => match x, y with
 | .int i, .int j => .ok (.z (.int (i + j)))
 | .str i, .str j => if sm (i.length + j.length) then .ok (.z (.str (i ++ j))) else .no
 | .lst xs, .lst ys => if sm (xs.length + ys.length) then .ok (.fr .ow (.lst (xs ++ ys))) else .no
 | .tup xs, .tup ys => if sm (xs.length + ys.length) then .ok (.z (.tup (xs ++ ys))) else .no
 | .nul, .tup ys => if sm ys.length then .ok (.z (.tup ys)) else .no
 | _, _ => .no
theorem lF : c4 aS := fun x y e h => by
 unfold aS at h
 split at h <;> first | (split at h <;> cases h) | cases h
def iW (K : PySem.W.Frag) : R2 := fun x y H Q => rCatA K x y H Q ∨ rI0 (fun i j => .int (i + j)) x y H Q ∨ (∃ i j, x = .str i ∧ y = .str j ∧ i.length + j.length ≤ sizeLine ∧ Q (.str (i ++ j)) H) ∨ mj x y H Q ∨ mi x y H Q
theorem jD : OpR X (binaryOp .Add) (iW X.K) := OpR.or op_catA (OpR.or op_add (OpR.or op_add_str (OpR.or lK lJ)))
theorem RpL.nil_iff {T : Tb} {F : Hp} {xs : List PV} {vs : List V} (r : RpL T F xs vs) : vs = [] ↔ xs = [] := by
 have e := r.length
 constructor
 ·rintro rfl; exact List.length_eq_zero_iff.mp e.symm
 ·rintro rfl; exact List.length_eq_zero_iff.mp e
theorem Rv.lstR {T : Tb} {F H : Hp} {xs : List PV} {v : V} (h : Rv T F H (.lst xs) v) (s : Same F H) : ∃ a vs, v = .ref a ∧ Rd H a (.lst vs) ∧ RpL T F xs vs := by
 obtain ⟨m, A, h⟩ := h
 cases m with
 | fz =>
  simp only [OwM, Rp] at h
  obtain ⟨⟨a, vs, rfl, q, r⟩, _⟩ := h
  exact ⟨a, vs, rfl, bt s q, r⟩
 | ow =>
  simp only [OwM] at h
  obtain ⟨a, rfl, _, vs, q, r⟩ := h
  exact ⟨a, vs, rfl, .inl q, r⟩
 | ob ms => simp [OwM] at h
 | lk => simp [OwM] at h
theorem Rv.tupF {T : Tb} {F H : Hp} {xs : List PV} {v : V} (h : Rv T F H (.tup xs) v) : Rp T F (.tup xs) v := by
 obtain ⟨m, A, h⟩ := h
 cases m with
 | fz => simp only [OwM] at h; exact h.1
 | ow => simp [OwM] at h
 | ob ms => simp [OwM] at h
 | lk => simp [OwM] at h
theorem o6 : Op2 X cl aS (iW X.K) := by
 intro F H x y v u Q s rx ry h
 unfold aS at h
 split at h
 ·exact .inr (.inl ⟨_, _, rx.int, ry.int, h.int s⟩)
 ·rename_i i j
  cases z : sm (i.length + j.length) with
  | false => rw [z] at h; exact h.elim
  | true => rw [z] at h; exact .inr (.inr (.inl ⟨_, _, rx.str, ry.str, cq z, h.str s⟩))
 ·rename_i xs ys
  cases z : sm (xs.length + ys.length) with
  | false => rw [z] at h; exact h.elim
  | true =>
   rw [z] at h
   obtain ⟨a, vs, rfl, q, r⟩ := rx.lstR s
   obtain ⟨b, us, rfl, q', r'⟩ := ry.lstR s
   exact .inr (.inr (.inr (.inl ⟨a, b, vs, us, rfl, rfl, q, q', by rw [r.length, r'.length]; exact cq z, fun p np => aY.lst s np (r.append r') h⟩)))
 ·rename_i xs ys
  cases z : sm (xs.length + ys.length) with
  | false => rw [z] at h; exact h.elim
  | true =>
   rw [z] at h
   have fx := rx.tupF
   have fy := ry.tupF
   obtain ⟨a, vs, rfl, q, r⟩ := rx.tup s
   obtain ⟨b, us, rfl, q', r'⟩ := ry.tup s
   refine .inr (.inr (.inr (.inr ⟨a, b, vs, us, rfl, rfl, q, q', by rw [r.length, r'.length]; exact cq z, fun e => ?_, fun _ e => ?_, fun _ _ p np => aY.tup s np (r.append r') h⟩)))
   ·have ex : xs = [] := r.nil_iff.mp e
    subst ex
    exact h.of s (by simpa using fy)
   ·have ey : ys = [] := r'.nil_iff.mp e
    subst ey
    exact h.of s (by simpa using fx)
 ·rename_i ys
  cases z : sm ys.length with
  | false => rw [z] at h; exact h.elim
  | true =>
   rw [z] at h
   have fy := ry.tupF
   obtain ⟨a, rfl, k⟩ := rx.nul
   obtain ⟨b, us, rfl, q', r'⟩ := ry.tup s
   exact .inl ⟨a, b, [], us, rfl, rfl, k.sq H, SqT.of q', by rw [r'.length]; simpa using cq z, fun _ => h.of s fy, fun e => absurd rfl e, fun e => absurd rfl e⟩
 ·exact h.elim
theorem bh {a b : Expr} {pos : Pos} {f g : Ex} (ha : QE cl X W f a) (hb : QE cl X W g b) : QE cl X W (x2 aS f g) (.BinOp a .Add b pos) := jB jD lF o6 ha hb
def cU : PV → PV → R Vl := fun x y => match x, y with
 | .int i, .int j => if kO i j then .ok (.z (.int (i * j))) else .no
 | _, _ => .no
theorem lD : c4 cU := fun x y e h => by
 unfold cU at h
 split at h <;> first | (split at h <;> cases h) | cases h
theorem o4 : Op2 X cl cU (rI CMul fun i j => .int (i * j)) := by
 intro F H x y v u Q s rx ry h
 unfold cU at h
 split at h
 ·rename_i i j
  cases z : kO i j with
  | false => rw [z] at h; exact h.elim
  | true =>
   rw [z] at h
   refine ⟨_, _, rx.int, ry.int, ?_, h.int s⟩
   simp only [kO, Bool.or_eq_true, Bool.and_eq_true, decide_eq_true_eq] at z
   exact z
 ·exact h.elim
theorem i0 {a b : Expr} {pos : Pos} {f g : Ex} (ha : QE cl X W f a) (hb : QE cl X W g b) : QE cl X W (x2 cU f g) (.BinOp a .Mult b pos) := jB op_mul lD o4 ha hb
theorem oU {a b : Expr} {pos : Pos} {f g : Ex} (hu : X.A.units + 64 < cLine) (ha : QE cl X W f a) (hb : QE cl X W g b) : QE cl X W (x2 (pb pEq) f g) (.Compare a [.Eq] [b] pos) := fS (OpR.or op_eq (op_eqD hu)) (fX ng) o_eq ha hb (nomark _)
theorem mX {a b : Expr} {pos : Pos} {f g : Ex} (hu : X.A.units + 64 < cLine) (ha : QE cl X W f a) (hb : QE cl X W g b) : QE cl X W (x2 (pb pNe) f g) (.Compare a [.NotEq] [b] pos) := fS (OpR.or op_ne (op_neD hu)) (fX m8) o_ne ha hb (nomark _)
def iB (p : Int → Int → Bool) : PV → PV → R Bool := fun x y => match x, y with
 | .int i, .int j => .ok (p i j)
 | _, _ => .no
theorem kF {p} : gn (iB p) := fun x y e h => by unfold iB at h; split at h <;> cases h
theorem nk {p : Int → Int → Bool} : Op2 X cl (pb (iB p)) (rI0 fun i j => .bl (p i j)) := by
 intro F H x y v u Q s rx ry h
 unfold pb iB at h
 split at h
 ·exact ⟨_, _, rx.int, ry.int, h.bl s⟩
 ·exact h.elim
def pLt : PV → PV → R Bool := iB fun i j => decide (i < j)
def pGt : PV → PV → R Bool := iB fun i j => decide (j < i)
def pGe : PV → PV → R Bool := iB fun i j => decide (j ≤ i)
theorem q_lt {a b : Expr} {pos : Pos} {f g : Ex} (ha : QE cl X W f a) (hb : QE cl X W g b) : QE cl X W (x2 (pb pLt) f g) (.Compare a [.Lt] [b] pos) := fS op_lt (fX kF) nk ha hb (nomark _)
theorem oR {a b : Expr} {pos : Pos} {f g : Ex} (ha : QE cl X W f a) (hb : QE cl X W g b) : QE cl X W (x2 (pb pGt) f g) (.Compare a [.Gt] [b] pos) := fS op_gt (fX kF) nk ha hb (nomark _)
theorem q_ge {a b : Expr} {pos : Pos} {f g : Ex} (ha : QE cl X W f a) (hb : QE cl X W g b) : QE cl X W (x2 (pb pGe) f g) (.Compare a [.GtE] [b] pos) := fS op_ge (fX kF) nk ha hb (nomark _)
end
end Z
namespace PyProof.Rows
open PySem HT
theorem cD {prog : Program} {w : World} {A : Around} {E : Value → Shared → Prop} {s : Shared} {t sl : Addr} {items : Array Value} {vl vu : Value} {lo hi : Option Int} {Q : Value → Shared → Prop} (ht : IsTup s.heap t items) (hs : s.heap.IsSliceOf sl vl vu .none) (pl : IsPart vl lo) (pu : IsPart vu hi)
  (hw : HT.sIx items.size 0 lo = 0 ∧ HT.sIx items.size items.size hi = items.size) (h : Q (.ref t) s) : wpAny (model prog w) A (getItem (.ref t) (.ref sl)) Q E s := by
 obtain ⟨os, hos, hcs, hds⟩ := id hs
 have hTs : s.TypeIs (.ref sl) "slice" := ⟨os, hos, hcs⟩
 unfold getItem
 try with_reducible refine wpAny_holding ?_
 first | refine wpAny_bind (wpAny_pure ?_) | skip
 refine wpAny_bind (wpAny_sequenceKey ht.typeIs (by decide) ?_)
 refine wpAny_bind (wpAny_callSpecial?_slot (name := Str.ofString "__getitem__") ht.typeIs PyProof.Rows.slot_tuple_getitem
  (wpAny_call_entry PyProof.Rows.slot_tuple_getitem ht.typeIs entry_tuple_getitem ?_ (args_tuple_getitem _ _)))
 show wpAny _ _ (Builtin.Tuple.tupleItemsOf (.ref t) >>= _) _ _ s
 refine wpAny_bind (tupleItemsOf_ ht ?_)
 refine wpAny_bind (wpAny_typeOf hTs ?_)
 rw [if_pos (by decide)]
 refine wpAny_bind (HT.sliceApplied_gen hs pl pu ?_)
 have hyes : (((HT.sIx items.size 0 lo : Nat) : Int) == 0 && (1 : Int) == 1 && (HT.sIx items.size items.size hi - HT.sIx items.size 0 lo) == items.size) = true := by
  rw [hw.1, hw.2]; simp
 show wpAny _ _ (if (((HT.sIx items.size 0 lo : Nat) : Int) == 0 && (1 : Int) == 1 && (HT.sIx items.size items.size hi - HT.sIx items.size 0 lo) == items.size) = true then _ else _) _ _ s
 rw [if_pos hyes]
 unfold Builtin.Tuple.tupleIsExact
 refine wpAny_bind (wpAny_bind (wpAny_typeOf ht.typeIs (wpAny_pure ?_)))
 rw [if_pos (by decide)]
 refine wpAny_bind (wpAny_rule ?_)
 first
  | exact wpAny_pure ⟨_, rfl, wpAny_pure h⟩
  | exact wpAny_bind (wpAny_pure ⟨_, rfl, wpAny_pure h⟩)
  | exact wpAny_bind (wpAny_pure (wpAny_pure ⟨_, rfl, wpAny_pure h⟩))
  | exact wpAny_pure (wpAny_pure ⟨_, rfl, wpAny_pure h⟩)
end PyProof.Rows
namespace Z
open PySem L2
section
variable {X : Cx} {cl : Cl} {W : WX}
def oF : V → Option Int → Option Int → Hp → VK → Prop := fun x lo hi H Q => ∃ a xs, x = .ref a ∧ H a = some (.tup xs) ∧ (cutV xs lo hi = xs → Q (.ref a) H) ∧ ∀ p, H p = none → Q (.ref p) (upd H p (.tup (cutV xs lo hi)))
theorem ll : SlR X oF := by
 intro pins s σ H x v vl vu lo hi sl Q I rx hs pl pu h
 obtain ⟨a, xs, rfl, hx, q0, q⟩ := h
 by_cases hw : HT.sIx xs.length 0 lo = 0 ∧ HT.sIx xs.length xs.length hi = xs.length
 ·cases rx
  obtain ⟨its, r, ht, hz⟩ := I.tuple (SqT.of (K := X.K) hx)
  have hlen : its.toArray.size = xs.length := by rw [List.size_toArray]; exact r.length.symm
  refine ⟨"tuple", _, PyProof.Rows.slot_tuple_getitem.lookup, ht.typeIs, ?_⟩
  refine PyProof.Rows.cD ht hs pl pu (by rw [hlen]; exact hw) ⟨.ref a, H, I, rfl, q0 ?_⟩
  unfold cutV
  rw [hw.1, hw.2]
  simp
 ·exact sl_tup pins s σ H _ v vl vu lo hi sl Q I rx hs pl pu ⟨a, xs, rfl, SqT.of hx, hw, q⟩
def cT (xs : List PV) (lo hi : Option Int) : List PV := (xs.drop (HT.sIx xs.length 0 lo)).take (HT.sIx xs.length xs.length hi - HT.sIx xs.length 0 lo)
theorem RpL.cut {T : Tb} {F : Hp} {xs : List PV} {vs : List V} (r : RpL T F xs vs) (lo hi : Option Int) : RpL T F (cT xs lo hi) (cutV vs lo hi) := by
 unfold cT cutV
 rw [r.length]
 exact (r.drop _).take _
def pSl (x : PV) (lo hi : Option Int) : R Vl := match x with
 | .lst xs => .ok (.fr .ow (.lst (cT xs lo hi)))
 | .tup xs => .ok (.z (.tup (cT xs lo hi)))
 | .str z => if sm z.length then .ok (.z (.str (cutS z lo hi))) else .no
 | .nul => .ok (.z .nul)
 | _ => .no
theorem mh (o : Option Int) : HT.sIx 0 0 o = 0 := Nat.le_zero.mp (HT.sIx_le 0 0 (Nat.le_refl 0) o)
theorem m7 (x : PV) (a b : Option Int) (e : Xc) : pSl x a b ≠ .er e := by
 cases x <;> simp [pSl]
 split <;> simp
def j1 (K : PySem.W.Frag) : V → Option Int → Option Int → Hp → VK → Prop := fun x lo hi H Q => rSlA K x lo hi H Q ∨ rSlL K x lo hi H Q ∨ oF x lo hi H Q ∨ rSlS x lo hi H Q
theorem mN : SlR X (j1 X.K) := SlR.or sl_tupA (SlR.or sl_list (SlR.or ll sl_str))
theorem o_sl {F H : Hp} {x : PV} {v : V} {lo hi : Option Int} {Q : VK} (s : Same F H) (rx : Rv ⟨X.K, cl⟩ F H x v) (h : aY ⟨X.K, cl⟩ F H (pSl x lo hi) Q) : j1 X.K v lo hi H Q := by
 cases x <;> first | exact h.elim | skip
 ·rename_i z
  simp only [pSl] at h
  cases e : sm z.length with
  | false => rw [e] at h; exact h.elim
  | true => rw [e] at h; exact .inr (.inr (.inr ⟨z, rx.str, cq e, h.str s⟩))
 ·rename_i xs
  have fx := rx.tupF
  obtain ⟨a, vs, rfl, q, r⟩ := rx.tup s
  refine .inr (.inr (.inl ⟨a, vs, rfl, q, fun e => ?_, fun p np => aY.tup s np (r.cut lo hi) h⟩))
  refine h.of s ?_
  simp only [Rp] at fx ⊢
  obtain ⟨a', vs', e1, e2, e3⟩ := fx
  have e4 := s _ _ e2
  cases e1
  rw [q] at e4
  cases e4
  refine ⟨a, vs, rfl, e2, ?_⟩
  have := e3.cut lo hi
  rwa [e] at this
 ·obtain ⟨a, vs, rfl, q, r⟩ := rx.lst s
  exact .inr (.inl ⟨a, vs, rfl, q, fun p np => aY.lst s np (r.cut lo hi) h⟩)
 ·obtain ⟨a, rfl, k⟩ := rx.nul
  exact .inl ⟨a, [], rfl, k.sq H, fun _ => h.of s (by simp only [Rp]; exact ⟨a, rfl, k⟩), fun z => absurd ⟨mh lo, mh hi⟩ z⟩
def mB : Env → R (Option Int) := fun _ => .ok none
def ke : PV → R (Option Int)
 | .int i => .ok (some i)
 | _ => .no
def xP (f : Ex) : Env → R (Option Int) := fun γ => (f γ).bind fun l => ke l.x
def tqO (K : PySem.W.Frag) (cl : Cl) (W : WX) (f : Env → R (Option Int)) : TO := fun σ H Q => ∃ F A γ, Rel ⟨K, cl⟩ F A σ H γ ∧ match f γ with
 | .ok b => ∀ F' H', Ext F H F' H' → Q b H'
 | .er e => ∀ F' H' c d, Ext F H F' H' → XcR ⟨K, cl⟩ F' e c d → W c d σ H'
 | .no => False
structure QO (cl : Cl) (X : Cx) (W : WX) (f : Env → R (Option Int)) (e : Option Expr) : Prop where
 po : PO X e (tqO X.K cl W f)
theorem _root_.L2.PO.imp {X : Cx} {e : Option Expr} {t t' : TO} (h : PO X e t) (k : ∀ σ H Q, t' σ H Q → t σ H Q) : PO X e t' := ⟨fun pins s σ H Q I q => h.run pins s σ H Q I (k σ H Q q)⟩
theorem lr : QO cl X W mB none := ⟨po_none.imp fun σ H Q h => by
 obtain ⟨F, A, γ, rel, h⟩ := h
 exact h F H (Ext.refl rel.sub)⟩
theorem cR {f} {e : Expr} (he : QE cl X W f e) : QO cl X W (xP f) (some e) := ⟨(po_some he.pe).imp fun σ H Q h => by
 obtain ⟨F, A, γ, rel, h⟩ := h
 refine ⟨F, A, γ, rel, ?_⟩
 unfold xP at h
 cases e : f γ with
 | no => rw [e] at h; exact h
 | er x => rw [e] at h; exact h
 | ok l =>
  rw [e] at h
  simp only [R.ai] at h
  intro F1 H1 v e1 r1
  have rv := r1.rv
  cases ei : l.x with
  | int i =>
   rw [ei] at rv h
   exact ⟨i, rv.int, h F1 H1 e1⟩
  | _ => rw [ei] at h; exact h.elim⟩
def xSl (f : Ex) (lo hi : Env → R (Option Int)) : Ex := fun γ => (f γ).bind fun l => (lo γ).bind fun a => (hi γ).bind fun b => pSl l.x a b
theorem gw {f lo hi} {e : Expr} {l u : Option Expr} {p2 pos : Pos} (he : QE cl X W f e) (hl : QO cl X W lo l) (hu : QO cl X W hi u) : QE cl X W (xSl f lo hi) (.Subscript e (.Slice l u none p2) pos) := by
 refine ⟨(pe_slice mN he.pe hl.po hu.po).imp fun σ H Q h => ?_⟩
 refine tq.bind (g := fun l γ => (lo γ).bind fun a => (hi γ).bind fun b => pSl l.x a b) h fun F A γ l F1 H1 v rel e e1 r1 h => ?_
 refine ⟨F1, A, γ, rel.ext e1, ?_⟩
 cases ea : lo γ with
 | no => rw [ea] at h; exact h
 | er x => rw [ea] at h; exact h
 | ok a =>
  rw [ea] at h
  simp only [R.ai] at h
  intro F2 H2 e2
  refine ⟨F2, A, γ, (rel.ext e1).ext e2, ?_⟩
  cases eb : hi γ with
  | no => rw [eb] at h; exact h
  | er x => rw [eb] at h; exact fun F' H' c d ex => h F' H' c d (e2.trans ex)
  | ok b =>
   rw [eb] at h
   simp only [R.ai] at h
   intro F3 H3 e3
   refine o_sl (cl := cl) e3.sub (r1.rv.ext (e2.trans e3)) ?_
   cases ep : pSl l.x a b with
   | no => rw [ep] at h; exact h
   | er x => exact (m7 _ _ _ _ ep).elim
   | ok l' => rw [ep] at h; exact fun F' H' w ex nn => h F' H' w ((e2.trans e3).trans ex) (nn.r ((e1.trans (e2.trans e3)).hle))
def keyOf : PV → Option Key
 | .int i => some (.inl i)
 | .str x => some (.inr x)
 | _ => none
def keysOf : List PV → Option (List Key)
 | [] => some []
 | x :: xs => match keyOf x, keysOf xs with
  | some k, some ks => some (k :: ks)
  | _, _ => none
theorem kB {x : PV} {k : Key} (h : keyOf x = some k) : x = kP k := by
 cases x <;> simp [keyOf] at h <;> subst h <;> rfl
theorem gd : ∀ {xs : List PV} {ks : List Key}, keysOf xs = some ks → xs = ks.map kP
 | [], ks, h => by simp [keysOf] at h; subst h; rfl
 | x :: xs, ks, h => by
  unfold keysOf at h
  split at h
  ·rename_i k ks' h1 h2
   cases h
   rw [kB h1, gd h2]; rfl
  ·cases h
theorem oC {T : Tb} {F : Hp} {k : Key} {v : V} (h : Rp T F (kP k) v) : v = kV k := by
 cases k <;> simpa [kP, Rp, kV] using h
theorem jZ {T : Tb} {F : Hp} : ∀ {ks : List Key} {vs : List V}, RpL T F (ks.map kP) vs → vs = ks.map kV
 | [], _, h => by simpa [RpL] using h
 | k :: ks, _, h => by
  simp only [List.map_cons, RpL] at h
  obtain ⟨v, ws, rfl, p, q⟩ := h
  rw [oC p, jZ q]; rfl
theorem iy (a b : Key) : peq (kP a) (kP b) = decide (a = b) := by
 cases a <;> cases b <;> simp [kP, peq]
 all_goals (rw [Bool.eq_iff_iff]; simp)
theorem gx : ∀ a b : List Key, cL (a.map kP) (b.map kP) = decide (a = b)
 | [], [] => by simp [cL]
 | [], _ :: _ => by simp [cL]
 | _ :: _, [] => by simp [cL]
 | a :: as, b :: bs => by
  simp only [List.map_cons, cL, iy, gx as bs, List.cons.injEq]
  rw [Bool.eq_iff_iff]; simp
def bL (kvs : List (PV × PV)) (k : PV) : Option PV := (kvs.find? fun p => peq p.1 k).map (·.2)
def keyOk (t : Bool) (k : PV) : Bool := match t, k with
 | false, .int _ => true
 | false, .str _ => true
 | true, .tup xs => (keysOf xs).isSome
 | _, _ => false
def isNul : PV → Bool
 | .nul => true
 | _ => false
def eQ (t : Bool) (k : PV) : Bool := keyOk t k || (t && isNul k)
def RpO (T : Tb) (F : Hp) : Option PV → Option V → Prop
 | some x, some v => Rp T F x v
 | none, none => True
 | _, _ => False
theorem gN {T : Tb} {F : Hp} (k : Key) : ∀ {es : List (Key × V)} {kvs : List (PV × PV)}, RpD T F kvs (es.map fun p => (kP p.1, p.2)) → RpO T F (bL kvs (kP k)) (valV es k)
 | [], [], _ => trivial
 | [], (a, b) :: r, h => by simp [RpD] at h
 | e :: es, [], h => by simp [RpD] at h
 | (j, u) :: es, (a, b) :: r, h => by
  simp only [List.map_cons, RpD, List.cons.injEq, Prod.mk.injEq] at h
  obtain ⟨v, ws, ⟨⟨rfl, rfl⟩, rfl⟩, p, q⟩ := h
  unfold bL
  by_cases e : j = k
  ·subst e
   rw [valV_pos rfl, List.find?_cons]
   simp only [iy, decide_true]
   exact p
  ·rw [valV_neg e, List.find?_cons]
   simp only [iy, e, decide_false]
   exact gN k q
theorem jl {T : Tb} {F : Hp} (k : List Key) : ∀ {es : List (List Key × V)} {kvs : List (PV × PV)}, RpD T F kvs (es.map fun p => (.tup (p.1.map kP), p.2)) → RpO T F (bL kvs (.tup (k.map kP))) (valV es k)
 | [], [], _ => trivial
 | [], (a, b) :: r, h => by simp [RpD] at h
 | e :: es, [], h => by simp [RpD] at h
 | (j, u) :: es, (a, b) :: r, h => by
  simp only [List.map_cons, RpD, List.cons.injEq, Prod.mk.injEq] at h
  obtain ⟨v, ws, ⟨⟨rfl, rfl⟩, rfl⟩, p, q⟩ := h
  unfold bL
  by_cases e : j = k
  ·subst e
   rw [valV_pos rfl, List.find?_cons]
   simp only [peq, gx, decide_true]
   exact p
  ·rw [valV_neg e, List.find?_cons]
   simp only [peq, gx, e, decide_false]
   exact jl k q
theorem lZ {T : Tb} {F H : Hp} {a : Addr} {t ks kvs k y} (s : Same F H) (d : c6 H a t ks) (r : RpD T F kvs ks) (kk : keyOk t k = true) (ry : Rv T F H k y) : ∃ o, DGet H a y o ∧ RpO T F (bL kvs k) o := by
 cases t with
 | false =>
  obtain ⟨es, he, rfl⟩ := d
  cases k <;> simp [keyOk] at kk
  ·rename_i i
   exact ⟨_, .inl ⟨es, .inl i, he, ry.int, rfl⟩, gN (.inl i) r⟩
  ·rename_i i
   exact ⟨_, .inl ⟨es, .inr i, he, ry.str, rfl⟩, gN (.inr i) r⟩
 | true =>
  obtain ⟨es, he, rfl⟩ := d
  cases k <;> simp [keyOk] at kk
  rename_i xs
  obtain ⟨jk, hk⟩ := Option.isSome_iff_exists.mp kk
  have ex := gd hk
  subst ex
  obtain ⟨b, vs, rfl, hb, rl⟩ := ry.tup s
  have ev := jZ rl
  subst ev
  exact ⟨_, .inr ⟨es, jk, b, he, rfl, hb, rfl⟩, jl jk r⟩
theorem gk {T : Tb} {F : Hp} : ∀ {es : List (List Key × V)} {kvs : List (PV × PV)}, RpD T F kvs (es.map fun p => (.tup (p.1.map kP), p.2)) → RpO T F (bL kvs .nul) (valV es [])
 | [], [], _ => trivial
 | [], (a, b) :: r, h => by simp [RpD] at h
 | e :: es, [], h => by simp [RpD] at h
 | (j, u) :: es, (a, b) :: r, h => by
  simp only [List.map_cons, RpD, List.cons.injEq, Prod.mk.injEq] at h
  obtain ⟨v, ws, ⟨⟨rfl, rfl⟩, rfl⟩, p, q⟩ := h
  unfold bL
  by_cases e : j = []
  ·subst e
   rw [valV_pos rfl, List.find?_cons]
   simp only [peq, List.map_nil, List.isEmpty_nil]
   exact p
  ·rw [valV_neg e, List.find?_cons]
   have : (j.map kP).isEmpty = false := by cases j with
    | nil => exact absurd rfl e
    | cons _ _ => rfl
   simp only [peq, this]
   exact gk q
def DG (K : PySem.W.Frag) (H : Hp) (a : Addr) (y : V) (r : Option V) : Prop := DGet H a y r ∨ ∃ kvs b, Rd H a (.dT kvs) ∧ y = .ref b ∧ SqT K H b [] ∧ r = valV kvs []
theorem mv {T : Tb} {F H : Hp} {a : Addr} {t ks kvs k y} (s : Same F H) (d : c6 H a t ks) (r : RpD T F kvs ks) (kk : eQ t k = true) (ry : Rv T F H k y) : ∃ o, DG T.K H a y o ∧ RpO T F (bL kvs k) o := by
 cases e : keyOk t k with
 | true =>
  obtain ⟨o, g, h⟩ := lZ s d r e ry
  exact ⟨o, .inl g, h⟩
 | false =>
  unfold eQ at kk
  rw [e] at kk
  simp only [Bool.false_or, Bool.and_eq_true] at kk
  obtain ⟨rfl, hk⟩ := kk
  cases k <;> simp only [isNul] at hk <;> try (cases hk; done)
  obtain ⟨es, he, rfl⟩ := d
  obtain ⟨b, rfl, k0⟩ := ry.nul
  exact ⟨_, .inr ⟨es, b, he, rfl, k0.sq H, rfl⟩, gk r⟩
section
variable {pins : List (Addr × Obj)} {σ : St} {H : Hp} {s : Shared} {a b : Addr} {y v : V} {u : Value} {o : Option V} {A : Around} {E : Value → Shared → Prop}
theorem nv (I : Inv X pins σ H s) (h : SqT X.K H b []) : (tupleKind (mixKind X.prog X.w)).is s.heap [] b := by
 obtain ⟨its, r, ⟨o, e, c, n, d⟩, _⟩ := I.tuple h
 cases r
 exact ⟨o, #[], n, e, c, d, by simpa using (items_are (P := X.prog) (w := X.w) (ks := []) (us := []) .nil)⟩
theorem l0 (I : Inv X pins σ H s) (g : DG X.K H a y o) : s.TypeIs (.ref a) "dict" := by
 rcases g with g | ⟨kvs, b, e, _, _, _⟩
 ·exact dict_typeIs I g
 ·obtain ⟨_, _, xs, _, dd⟩ := dt_rd I.hok e
  exact dd.typeIs
theorem iK {Q : Value → Shared → Prop} (hu : A.units + 1 < cLine) (I : Inv X pins σ H s) (g : DG X.K H a y (some v)) (ry : RelV y u) (h : ∀ w' s', Inv X pins σ H s' → RelV v w' → Q w' s') :
  wpAny (model X.prog X.w) A (getItem (.ref a) u) Q E s := by
 rcases g with g | ⟨kvs, b, e, ey, eb, l⟩
 ·exact d_getItem hu I g ry h
 ·subst ey
  cases (show u = Value.ref b from ry)
  obtain ⟨z, hd, xs, rel, dd⟩ := dt_rd I.hok e
  obtain ⟨w', hw, rw'⟩ := RelO.some_of (v := v) (o := (atKey xs []).map (·.2)) (by rw [l]; exact rel.val [])
  obtain ⟨p, hp, hp2⟩ := Option.map_eq_some_iff.mp hw
  refine wpAny_getItem_heap (tupleKind_room_in1 hu) (nv I eb) dd hp ?_
  rw [hp2]
  exact h w' _ (I.tok _) rw'
theorem pN {Q : Value → Shared → Prop} (hu : A.units + 1 < cLine) (I : Inv X pins σ H s) (g : DG X.K H a y o) (ry : RelV y u) (h : ∀ s', Inv X pins σ H s' → Q (.bool o.isSome) s') :
  wpAny (model X.prog X.w) A (compareOp .In u (.ref a)) Q E s := by
 rcases g with g | ⟨kvs, b, e, ey, eb, l⟩
 ·exact d_in hu I g ry h
 ·subst ey
  cases (show u = Value.ref b from ry)
  obtain ⟨z, hd, xs, rel, dd⟩ := dt_rd I.hok e
  refine wpAny_in_heap (tupleKind_room_in1 hu) (nv I eb) hd dd ?_
  have q := (rel.val []).isSome_eq
  rw [Option.isSome_map] at q
  rw [← q, ← l]
  exact h _ (I.tok _)
theorem kK {Q : Value → Shared → Prop} (hu : A.units + 1 < cLine) (I : Inv X pins σ H s) (g : DG X.K H a y o) (ry : RelV y u) (h : ∀ s', Inv X pins σ H s' → Q (.bool (!o.isSome)) s') :
  wpAny (model X.prog X.w) A (compareOp .NotIn u (.ref a)) Q E s := by
 rcases g with g | ⟨kvs, b, e, ey, eb, l⟩
 ·exact d_notIn hu I g ry h
 ·subst ey
  cases (show u = Value.ref b from ry)
  obtain ⟨z, hd, xs, rel, dd⟩ := dt_rd I.hok e
  refine PyProof.Rows.wpAny_notIn_heap (tupleKind_room_in1 hu) (nv I eb) hd dd ?_
  have q := (rel.val []).isSome_eq
  rw [Option.isSome_map] at q
  rw [← q, ← l]
  exact h _ (I.tok _)
end
theorem lT (hu : X.A.units + 1 < cLine) : IxR X (fun x y H Q => ∃ a v, x = .ref a ∧ DG X.K H a y (some v) ∧ Q v H) := by
 intro value slice pins s σ H x y v u Q I rx ry h hs
 obtain ⟨a, w, rfl, g, q⟩ := h
 obtain rfl : v = Value.ref a := rx
 have hT := l0 I g
 unfold PyProof.Rows.subscriptTail
 refine wpAny_bind ?_
 rw [PySem.getitemInPython_of_ne hT.not_modules]
 refine wpAny_bind (wpAny_specialOf hT PySem.F.slot_dict_getitem.lookup ?_)
 have fin : wpAny (model X.prog X.w) X.A (subscripted slice false (.ref a) u) (fun r s₃ => wpAny (model X.prog X.w) X.A (letTemporaryGo value (.ref a) r >>= fun _ => pure r) (EP X pins σ Q) X.xe s₃) X.xe s := by
  rw [hs]
  exact wpAny_operating (wpAny_mono (iK hu I g ry fun w' s3 I3 rw' => (⟨w, H, I3, rw', q⟩ : EP X pins σ Q w' s3)) (fun r s₃ h₃ => wpAny_bind (wpAny_letTemporaryGo (wpAny_pure h₃))) fun _ _ x => x)
 first
  | exact wpAny_pure (wpAny_bind fin)
  | exact wpAny_bind (wpAny_pure (wpAny_bind fin))
  | exact wpAny_bind fin
def pIx (x i : PV) : R Vl := match x, i with
 | .lst xs, .int i => match atI xs i with
  | some v => .ok (.z v)
  | none => .no
 | .tup xs, .int i => match atI xs i with
  | some v => .ok (.z v)
  | none => .no
 | .str z, .int i => match atI z.cps.toList i with
  | some c => if sm z.length then .ok (.z (.str ⟨#[c]⟩)) else .no
  | none => .no
 | .dct t kvs, k => if eQ t k then (match bL kvs k with
  | some v => .ok (.z v)
  | none => .no) else .no
 | _, _ => .no
theorem m9 : c4 pIx := fun x y e h => by
 unfold pIx at h
 split at h
 ·split at h <;> cases h
 ·split at h <;> cases h
 ·split at h
  ·split at h <;> cases h
  ·cases h
 ·split at h
  ·split at h <;> cases h
  ·cases h
 ·cases h
theorem RpL.atI {T : Tb} {F : Hp} {xs : List PV} {vs : List V} {i : Int} {x : PV} (r : RpL T F xs vs) (e : atI xs i = some x) : ∃ v, atI vs i = some v ∧ Rp T F x v := by
 unfold L2.atI at e ⊢
 rw [r.length]
 cases h : ixN xs.length i with
 | none => rw [h] at e; cases e
 | some j =>
  rw [h] at e
  exact RpL.get r e
def mQ (K : PySem.W.Frag) : R2 := fun x y H Q => rIx K x y H Q ∨ ∃ a v, x = .ref a ∧ DG K H a y (some v) ∧ Q v H
theorem o_ix : Op2 X cl pIx (mQ X.K) := by
 intro F H x y v u Q s rx ry h
 cases x <;> try exact h.elim
 case str z =>
  cases y <;> try exact h.elim
  rename_i i
  simp only [pIx] at h
  cases e : atI z.cps.toList i with
  | none => rw [e] at h; exact h.elim
  | some c =>
   rw [e] at h
   simp only at h
   cases k : sm z.length with
   | false => rw [k] at h; exact h.elim
   | true => rw [k] at h; exact .inl (.inr (.inr ⟨z, i, c, rx.str, ry.int, cq k, e, h.str s⟩))
 case tup xs =>
  cases y <;> try exact h.elim
  rename_i i
  simp only [pIx] at h
  cases e : atI xs i with
  | none => rw [e] at h; exact h.elim
  | some w =>
   rw [e] at h
   obtain ⟨a, vs, rfl, q, r⟩ := rx.tup s
   obtain ⟨z, e2, rz⟩ := r.atI e
   exact .inl (.inr (.inl ⟨a, vs, i, z, rfl, ry.int, SqT.of q, e2, h.of s rz⟩))
 case lst xs =>
  cases y <;> try exact h.elim
  rename_i i
  simp only [pIx] at h
  cases e : atI xs i with
  | none => rw [e] at h; exact h.elim
  | some w =>
   rw [e] at h
   obtain ⟨a, vs, rfl, q, r⟩ := rx.lst s
   obtain ⟨z, e2, rz⟩ := r.atI e
   exact .inl (.inl ⟨a, vs, i, z, rfl, ry.int, q, e2, h.of s rz⟩)
 case dct t kvs =>
  have h' : aY ⟨X.K, cl⟩ F H (if eQ t y then (match bL kvs y with
   | some v => .ok (.z v)
   | none => .no) else .no) Q := by
   cases y <;> exact h
  cases kk : eQ t y with
  | false => rw [kk] at h'; exact h'.elim
  | true =>
   rw [kk] at h'
   simp only [if_true] at h'
   obtain ⟨a, ks, rfl, d, r⟩ := rx.dct s
   obtain ⟨o, g, ro⟩ := mv s d r kk ry
   cases e : bL kvs y with
   | none => rw [e] at h'; exact h'.elim
   | some w =>
    rw [e] at h' ro
    cases o with
    | none => exact ro.elim
    | some z => exact .inr ⟨a, z, rfl, g, h'.of s ro⟩
theorem aq {a b : Expr} {pos : Pos} {f g : Ex} (hu : X.A.units + 1 < cLine) (ha : QE cl X W f a) (hb : QE cl X W g b) (hs : PlainIx b := by exact fun _ _ => rfl) : QE cl X W (x2 pIx f g) (.Subscript a b pos) :=
 q_ix (ix_seq.or (lT hu)) m9 o_ix ha hb hs
def cN : PV → Bool
 | .non => true
 | .bl _ => true
 | .int _ => true
 | .str _ => true
 | _ => false
theorem iU {T : Tb} {F : Hp} {x : PV} {v : V} (h : Rp T F x v) (f : cN x = true) : flatV v = true := by
 cases x <;> simp [cN] at f <;> simp only [Rp] at h <;> subst h <;> rfl
theorem lY {T : Tb} {F : Hp} {x y : PV} {v u : V} (h : Rp T F x v) (k : Rp T F y u) (f : cN x = true) (g : cN y = true) : eqV v u = peq x y := by
 cases x <;> simp [cN] at f <;> cases y <;> simp [cN] at g <;> simp only [Rp] at h k <;> subst h <;> subst k <;> rfl
theorem jX {T : Tb} {F H : Hp} {x : PV} {v : V} (h : Rv T F H x v) (f : cN x = true) : Rp T F x v := by
 cases x <;> simp [cN] at f
 ·rw [h.non]; simp [Rp]
 ·rw [h.bl]; simp [Rp]
 ·rw [h.int]; simp [Rp]
 ·rw [h.str]; simp [Rp]
theorem ir {T : Tb} {F : Hp} {x : PV} {v : V} (h : Rp T F x v) (f : cN x = true) : ∀ {xs : List PV} {vs : List V}, RpL T F xs vs → xs.all cN = true → vs.all flatV = true ∧ inV v vs = xs.any fun y => peq y x
 | [], _, r, _ => by simp only [RpL] at r; subst r; exact ⟨rfl, rfl⟩
 | y :: ys, _, r, g => by
  simp only [RpL] at r
  obtain ⟨u, us, rfl, p, q⟩ := r
  simp only [List.all_cons, Bool.and_eq_true] at g
  obtain ⟨h1, h2⟩ := ir h f q g.2
  refine ⟨by simp [iU p g.1, h1], ?_⟩
  show (eqV u v || inV v us) = _
  rw [h2, lY p h g.1 f, List.any_cons]
def pIn (x y : PV) : R Bool := match y with
 | .lst ys => if cN x && ys.all cN then .ok (ys.any fun z => peq z x) else if isD 60 x && isD 60 y then .ok (ys.any fun z => peq z x) else .no
 | .tup ys => if cN x && ys.all cN then .ok (ys.any fun z => peq z x) else .no
 | .str z => match x with
  | .str i => .ok (!(Builtin.Str.occurrences z i 0 z.length 1).isEmpty)
  | _ => .no
 | .dct t kvs => if eQ t x then .ok (bL kvs x).isSome else .no
 | .nul => if cN x then .ok false else .no
 | _ => .no
theorem nc : gn pIn := fun x y e h => by
 unfold pIn at h
 split at h
 ·split at h
  ·cases h
  ·split at h <;> cases h
 ·split at h <;> cases h
 ·split at h <;> cases h
 ·split at h <;> cases h
 ·split at h <;> cases h
 ·cases h
def di (x y : PV) : R Bool := (pIn x y).map (!·)
theorem jC : gn di := fun x y e h => by
 unfold di at h
 cases q : pIn x y with
 | ok b => rw [q] at h; cases h
 | no => rw [q] at h; cases h
 | er e' => exact nc x y e' q
def j2 (neg : Bool) : R2 := fun x y H Q => ∃ i j, x = .str i ∧ y = .str j ∧ Q (.bl (if neg then !(!(Builtin.Str.occurrences j i 0 j.length 1).isEmpty) else !(Builtin.Str.occurrences j i 0 j.length 1).isEmpty)) H
def gr (K : PySem.W.Frag) (neg : Bool) : R2 := fun x y H Q => ∃ a o, y = .ref a ∧ DG K H a x o ∧ Q (.bl (if neg then !o.isSome else o.isSome)) H
def mR (K : PySem.W.Frag) : R2 := fun x y H Q => rIn K false x y H Q ∨ rInD K x y H Q ∨ j2 false x y H Q ∨ gr K false x y H Q
def fM (K : PySem.W.Frag) : R2 := fun x y H Q => rIn K true x y H Q ∨ rNotInD K x y H Q ∨ j2 true x y H Q ∨ gr K true x y H Q
theorem ko (hu : X.A.units + 1 < cLine) : OpR X (compareOp .In) (gr X.K false) := by
 intro pins s σ H x y v u Q I rx ry h
 obtain ⟨a, o, rfl, g, q⟩ := h
 obtain rfl : u = Value.ref a := ry
 exact pN hu I g rx fun s3 I3 => ⟨.bl o.isSome, H, I3, rfl, q⟩
theorem hX (hu : X.A.units + 1 < cLine) : OpR X (compareOp .NotIn) (gr X.K true) := by
 intro pins s σ H x y v u Q I rx ry h
 obtain ⟨a, o, rfl, g, q⟩ := h
 obtain rfl : u = Value.ref a := ry
 exact kK hu I g rx fun s3 I3 => ⟨.bl (!o.isSome), H, I3, rfl, q⟩
theorem oY (hu : X.A.units + 65 < cLine) : OpR X (compareOp .In) (mR X.K) := OpR.or op_in_seq (OpR.or (op_inD hu) (OpR.or op_in_str (ko (by omega))))
theorem hY (hu : X.A.units + 65 < cLine) : OpR X (compareOp .NotIn) (fM X.K) := OpR.or op_notIn_seq (OpR.or (op_notInD hu) (OpR.or op_notin_str (hX (by omega))))
theorem jn {x : PV} (d : isD 60 x = true) : ∀ {ys : List PV}, bO 60 ys = true → ((bP ys).any fun z => PyData.eqv z (toD x)) = ys.any fun z => peq z x
 | [], _ => rfl
 | y :: ys, h => by
  simp only [bO, Bool.and_eq_true] at h
  simp only [bP, List.any_cons]
  rw [jn d h.2, eC y x h.1 d]
theorem lL : Op2 X cl (pb di) (fM X.K) := by
 intro F H x y v u Q s rx ry h
 unfold pb di pIn at h
 split at h
 ·rename_i ys
  split at h
  ·rename_i f
   rw [Bool.and_eq_true] at f
   obtain ⟨a, vs, rfl, q, r⟩ := ry.lst s
   have px := jX rx f.1
   obtain ⟨h1, h2⟩ := ir px f.1 r f.2
   refine .inl ⟨a, vs, rfl, .inl q, iU px f.1, h1, ?_⟩
   simp only [↓reduceIte]
   rw [h2]
   exact aY.bl s h
  ·split at h
   ·rename_i d
    rw [Bool.and_eq_true] at d
    obtain ⟨d1, s1⟩ := gh s rx d.1 (by decide)
    obtain ⟨d2, s2⟩ := gh s ry d.2 (by decide)
    have dl := d.2
    simp only [isD] at dl
    refine .inr (.inl ⟨_, bP ys, d1, by simpa [toD] using d2, s1, by simpa [toD] using s2, ?_⟩)
    rw [jn d.1 dl]
    exact aY.bl s h
   ·exact h.elim
 ·rename_i ys
  split at h
  ·rename_i f
   rw [Bool.and_eq_true] at f
   obtain ⟨a, vs, rfl, q, r⟩ := ry.tup s
   have px := jX rx f.1
   obtain ⟨h1, h2⟩ := ir px f.1 r f.2
   refine .inl ⟨a, vs, rfl, .inr (SqT.of q), iU px f.1, h1, ?_⟩
   simp only [↓reduceIte]
   rw [h2]
   exact aY.bl s h
  ·exact h.elim
 ·rename_i z
  split at h
  ·exact .inr (.inr (.inl ⟨_, _, rx.str, ry.str, aY.bl s h⟩))
  ·exact h.elim
 ·rename_i t kvs
  cases kk : eQ t x with
  | false => rw [kk] at h; exact h.elim
  | true =>
   rw [kk] at h
   obtain ⟨a, ks, rfl, d, r⟩ := ry.dct s
   obtain ⟨o, g, ro⟩ := mv s d r kk rx
   refine .inr (.inr (.inr ⟨a, o, rfl, g, ?_⟩))
   have eo : o.isSome = (bL kvs x).isSome := by
    cases o <;> cases e : bL kvs x <;> rw [e] at ro <;> first | rfl | exact ro.elim
   simp only [↓reduceIte]
   rw [eo]
   exact aY.bl s h
 ·split at h
  ·rename_i f
   obtain ⟨a, rfl, k⟩ := ry.nul
   have px := jX rx f
   exact .inl ⟨a, [], rfl, .inr (k.sq H), iU px f, rfl, aY.bl s h⟩
  ·exact h.elim
 ·exact h.elim
theorem lx {a b : Expr} {pos : Pos} {f g : Ex} (hu : X.A.units + 65 < cLine) (ha : QE cl X W f a) (hb : QE cl X W g b) (hm : behindInMarks .NotIn b = false := by rfl) : QE cl X W (x2 (pb di) f g) (.Compare a [.NotIn] [b] pos) := fS (hY hu) (fX jC) lL ha hb hm
end
end Z
namespace Z
open PySem L2
inductive Os where
 | nx (γ : Env) | rt (x : PV) (γ : Env) | bk (γ : Env) | ct (γ : Env) | er (e : Xc) (γ : Env) | no
structure Step (F : Hp) (A : List Addr) (H F' : Hp) (A' : List Addr) (H' : Hp) : Prop where
 fle : Same F F'
 keep : ∀ a o, a ∉ A → H a = some o → NT o → H' a = some o
 own : ∀ a ∈ A', a ∈ A ∨ H a = none
 new : ∀ a o, F' a = some o → F a = some o ∨ a ∈ A ∨ Nw H a
 z : SameQ H H'
theorem Step.refl {F A H} : Step F A H F A H := ⟨Same.refl _, fun _ _ _ h _ => h, fun _ h => .inl h, fun _ _ h => .inl h, .refl⟩
theorem mq (o : HO) : NT o ∨ ∃ ps, o = .tbl ps := by
 cases o <;> first | exact .inr ⟨_, rfl⟩ | exact .inl nofun
theorem Step.gone {F A H F1 A1 H1} (a : Step F A H F1 A1 H1) (x : Addr) (h : H1 x = none) : x ∈ A ∨ H x = none := by
 by_cases hx : x ∈ A
 ·exact .inl hx
 ·cases q : H x with
  | none => exact .inr rfl
  | some o =>
   rcases mq o with n | ⟨ps, rfl⟩
   ·rw [a.keep x o hx q n] at h; cases h
   ·obtain ⟨ps', e2⟩ := a.z.t x ps q
    rw [h] at e2; cases e2
theorem Step.trans {F A H F1 A1 H1 F2 A2 H2} (a : Step F A H F1 A1 H1) (b : Step F1 A1 H1 F2 A2 H2) : Step F A H F2 A2 H2 := by
 refine ⟨a.fle.trans b.fle, fun x o hx h n => b.keep x o (fun z => ?_) (a.keep x o hx h n) n, fun x hx => ?_, fun x o h => ?_, a.z.trans b.z⟩
 ·rcases a.own x z with q | q
  ·exact hx q
  ·rw [q] at h; cases h
 ·rcases b.own x hx with q | q
  ·exact a.own x q
  ·exact a.gone x q
 ·rcases b.new x o h with q | q | q
  ·exact a.new x o q
  ·rcases a.own x q with r | r
   ·exact .inr (.inl r)
   ·exact .inr (.inr (.inl r))
  ·by_cases hx : x ∈ A
   ·exact .inr (.inl hx)
   ·refine .inr (.inr ?_)
    rcases q with q | ⟨ts, q⟩
    ·exact .inl ((a.gone x q).resolve_left hx)
    ·cases e : H x with
     | none => exact .inl e
     | some o =>
      rcases mq o with n | ⟨ps, rfl⟩
      ·have := a.keep x o hx e n
       rw [q] at this; cases this; exact .inr ⟨ts, e⟩
      ·obtain ⟨ps', e2⟩ := a.z.t x ps e
       rw [q] at e2; cases e2
theorem Step.ext {F A H F1 H1} (e : Ext F H F1 H1) : Step F A H F1 A H1 := ⟨e.fle, fun a o _ h n => e.hle.g a o h n, fun _ h => .inl h, fun a o h => (e.new a o h).elim .inl fun z => .inr (.inr z), e.hle.z⟩
theorem Step.ext' {F A A' H F1 H1} (e : Ext F H F1 H1) (h : ∀ a ∈ A', a ∈ A ∨ H a = none) : Step F A H F1 A' H1 := ⟨e.fle, fun a o _ h n => e.hle.g a o h n, h, fun a o h => (e.new a o h).elim .inl fun z => .inr (.inr z), e.hle.z⟩
def ph : V → Bool
 | .ty _ => true
 | _ => false
def iG (cl : Cl) : Bool := cl.o || ph cl.r0
def mo : PV → Md
 | .lst _ => .ow
 | _ => .fz
mutual
def gG : PV → Bool
 | .lst _ => true
 | .tup xs => cf xs
 | _ => false
def cf : List PV → Bool
 | [] => false
 | x :: xs => gG x || cf xs
end
def trB : PV → Bool
 | .lst xs => cf xs
 | .tup xs => cf xs
 | _ => false
def OwR (T : Tb) (F H : Hp) (x : PV) (v : V) (A : List Addr) : Prop := if trB x then OwT T F H x v A else OwM T F H (mo x) x v A
theorem OwR.m {T : Tb} {F H : Hp} {x : PV} {v : V} {A : List Addr} (h : OwR T F H x v A) (n : trB x = false) : OwM T F H (mo x) x v A := by
 unfold OwR at h; rw [if_neg (by simp [n])] at h; exact h
theorem OwR.t {T : Tb} {F H : Hp} {x : PV} {v : V} {A : List Addr} (h : OwR T F H x v A) (n : trB x = true) : OwT T F H x v A := by
 unfold OwR at h; rw [if_pos n] at h; exact h
theorem OwR.ofM {T : Tb} {F H : Hp} {x : PV} {v : V} {A : List Addr} (h : OwM T F H (mo x) x v A) (n : trB x = false) : OwR T F H x v A := by
 unfold OwR; rw [if_neg (by simp [n])]; exact h
theorem OwR.ofT {T : Tb} {F H : Hp} {x : PV} {v : V} {A : List Addr} (h : OwT T F H x v A) (n : trB x = true) : OwR T F H x v A := by
 unfold OwR; rw [if_pos n]; exact h
def Rt (T : Tb) (A A' : List Addr) (H F' H' : Hp) (x : PV) (v : V) : Prop := if iG T.cl then ∃ Ar, OwR T F' H' x v Ar ∧ Ar.Nodup ∧ ∀ a ∈ Ar, (a ∈ A ∨ H a = none) ∧ F' a = none ∧ a ∉ A' else Rp T F' x v
theorem Rt.of {T : Tb} {A A' : List Addr} {H F' H' : Hp} {x : PV} {v : V} (ho : iG T.cl = false) (h : Rp T F' x v) : Rt T A A' H F' H' x v := by
 unfold Rt
 rw [ho]
 exact h
theorem Rt.to {T : Tb} {A A' : List Addr} {H F' H' : Hp} {x : PV} {v : V} (ho : iG T.cl = false) (h : Rt T A A' H F' H' x v) : Rp T F' x v := by
 unfold Rt at h
 rw [ho] at h
 exact h
theorem Step.back {F A H F1 A1 H1} (s : Step F A H F1 A1 H1) {a : Addr} (h : a ∈ A1 ∨ H1 a = none) : a ∈ A ∨ H a = none := by
 rcases h with h | h
 ·exact s.own a h
 ·exact s.gone a h
theorem Rt.step {T : Tb} {F A H F1 A1 A' H1 F' H' x v} (s : Step F A H F1 A1 H1) (h : Rt T A1 A' H1 F' H' x v) : Rt T A A' H F' H' x v := by
 unfold Rt at h ⊢
 split at h
 ·rename_i e
  rw [if_pos e]
  obtain ⟨Ar, o, nd, k⟩ := h
  exact ⟨Ar, o, nd, fun a ha => ⟨s.back (k a ha).1, (k a ha).2⟩⟩
 ·rename_i e
  rw [if_neg e]
  exact h
section
variable (X : Cx) (cl : Cl) (W : WX)
def Fin (D : Ends) (F : Hp) (A : List Addr) (H : Hp) : Os → Prop
 | .nx γ' => ∀ F' A' σ' H', Step F A H F' A' H' → Rel ⟨X.K, cl⟩ F' A' σ' H' γ' → D.nx σ' H'
 | .bk γ' => ∀ F' A' σ' H', Step F A H F' A' H' → Rel ⟨X.K, cl⟩ F' A' σ' H' γ' → D.bk σ' H'
 | .ct γ' => ∀ F' A' σ' H', Step F A H F' A' H' → Rel ⟨X.K, cl⟩ F' A' σ' H' γ' → D.ct σ' H'
 | .rt x γ' => ∀ F' A' σ' H' v, Step F A H F' A' H' → Rel ⟨X.K, cl⟩ F' A' σ' H' γ' → Rt ⟨X.K, cl⟩ A A' H F' H' x v → D.rt v H'
 | .er e γ' => ∀ F' A' σ' H' c d, Step F A H F' A' H' → Rel ⟨X.K, cl⟩ F' A' σ' H' γ' → XcR ⟨X.K, cl⟩ F' e c d → W c d σ' H'
 | .no => False
def tqS (g : Env → Os) : TS := fun D σ H => ∃ F A γ, Rel ⟨X.K, cl⟩ F A σ H γ ∧ Fin X cl W D F A H (g γ)
end
structure QS (cl : Cl) (X : Cx) (W : WX) (g : Env → Os) (st : Stmt) : Prop where
 ps : PS X st (tqS X cl W g)
structure QSs (cl : Cl) (X : Cx) (W : WX) (g : Env → Os) (st : List Stmt) : Prop where
 ps : PSs X st (tqS X cl W g)
theorem _root_.L2.PS.imp {X : Cx} {e : Stmt} {t t' : TS} (h : PS X e t) (k : ∀ D σ H, t' D σ H → t D σ H) : PS X e t' := ⟨fun pins s σ H D I q => h.run pins s σ H D I (k D σ H q)⟩
theorem _root_.L2.PSs.imp {X : Cx} {e : List Stmt} {t t' : TS} (h : PSs X e t) (k : ∀ D σ H, t' D σ H → t D σ H) : PSs X e t' := ⟨fun pins s σ H D I q => h.run pins s σ H D I (k D σ H q)⟩
section
variable {X : Cx} {cl : Cl} {W : WX}
theorem Fin.step {D : Ends} {F A H F1 A1 H1} {o : Os} (h : Fin X cl W D F A H o) (s : Step F A H F1 A1 H1) : Fin X cl W D F1 A1 H1 o := by
 cases o with
 | nx γ => exact fun F' A' σ' H' st r => h F' A' σ' H' (s.trans st) r
 | bk γ => exact fun F' A' σ' H' st r => h F' A' σ' H' (s.trans st) r
 | ct γ => exact fun F' A' σ' H' st r => h F' A' σ' H' (s.trans st) r
 | rt x γ => exact fun F' A' σ' H' v st r p => h F' A' σ' H' v (s.trans st) r (p.step s)
 | er x γ => exact fun F' A' σ' H' c d st r p => h F' A' σ' H' c d (s.trans st) r p
 | no => exact h
def sNx : Env → Os := .nx
def aN (g h : Env → Os) : Env → Os := fun γ => match g γ with
 | .nx γ' => h γ'
 | o => o
theorem cK : QSs cl X W sNx [] := ⟨pss_nil.imp fun D σ H h => by
 obtain ⟨F, A, γ, rel, h⟩ := h
 exact h F A σ H Step.refl rel⟩
theorem ao {g h} {st : Stmt} {rest : List Stmt} (h1 : QS cl X W g st) (h2 : QSs cl X W h rest) : QSs cl X W (aN g h) (st :: rest) := ⟨(pss_cons h1.ps h2.ps).imp fun D σ H hh => by
 obtain ⟨F, A, γ, rel, hh⟩ := hh
 refine ⟨F, A, γ, rel, ?_⟩
 unfold aN at hh
 cases e : g γ with
 | nx γ' => rw [e] at hh; exact fun F' A' σ' H' st r => ⟨F', A', γ', r, hh.step st⟩
 | rt x γ' => rw [e] at hh; exact hh
 | bk γ' => rw [e] at hh; exact hh
 | ct γ' => rw [e] at hh; exact hh
 | er x γ' => rw [e] at hh; exact hh
 | no => rw [e] at hh; exact hh⟩
theorem aQ {g} {st : Stmt} (h1 : QS cl X W g st) : QSs cl X W g [st] := ⟨pss_one h1.ps⟩
def ju (i : Nat) (l : Vl) (γ : Env) : Os := match l with
 | .fr m x => .nx (γ.set i (.sl m x))
 | .pk .fz x => .nx (γ.set i (.sl .fz x))
 | .pk _ _ => .no
def aM (i : Nat) (f : Ex) : Env → Os := fun γ => match f γ with
 | .ok l => ju i l γ
 | .er e => .er e γ
 | .no => .no
theorem Rel.put {T : Tb} {F H : Hp} {A σ γ} {i : Nat} {m x v Ar} (rel : Rel T F A σ H γ) (r : OwM T F H m x v Ar) (nr : Ar.Nodup) (d : ∀ a ∈ Ar, a ∉ A ∧ F a = none) : ∃ A', Rel T F A' (σ.set i (some v)) H (γ.set i (.sl m x)) ∧ ∀ a ∈ A', a ∈ A ∨ a ∈ Ar := by
 by_cases l : i < γ.length
 ·obtain ⟨A', h1, h2, h3⟩ := OwE.put γ rel.env l r rel.nd nr fun a ha => (d a ha).1
  refine ⟨A', ⟨rel.sub, h1, h2, fun a ha => ?_⟩, h3⟩
  rcases h3 a ha with z | z
  ·exact rel.dis a z
  ·exact (d a z).2
 ·refine ⟨A, ⟨rel.sub, ?_, rel.nd, rel.dis⟩, fun a ha => .inl ha⟩
  rw [List.set_eq_of_length_le (by omega), List.set_eq_of_length_le (by rw [OwE.length γ rel.env]; omega)]
  exact rel.env
theorem lg {D : Ends} {F A H γ σ F1 H1 l v} {i : Nat} (rel : Rel ⟨X.K, cl⟩ F A σ H γ) (e1 : Ext F H F1 H1) (r : VlR ⟨X.K, cl⟩ F1 H1 H A l v) (h : Fin X cl W D F A H (ju i l γ)) : D.nx (σ.set i (some v)) H1 := by
 have rel1 := rel.ext e1
 cases l with
 | fr m x =>
  obtain ⟨Ar, h1, h2, h3⟩ := r
  have hd : ∀ a ∈ Ar, a ∉ A := fun a ha z => by
   obtain ⟨o, q⟩ := OwE.dom γ rel.env a z
   rw [(h3 a ha).1] at q
   cases q
  obtain ⟨A', ra, ha⟩ := rel1.put (i := i) h1 h2 fun a ha => ⟨hd a ha, (h3 a ha).2⟩
  exact h F1 A' _ H1 (Step.ext' e1 fun a z => (ha a z).elim .inl fun q => .inr (h3 a q).1) ra
 | pk m x =>
  cases m with
  | fz =>
   obtain ⟨Ai, h1, _⟩ := r
   simp only [OwM] at h1
   obtain ⟨A', ra, ha⟩ := rel1.put (i := i) (OwM.fz_of h1.1) (by simp) (by simp)
   exact h F1 A' _ H1 (Step.ext' e1 fun a z => (ha a z).elim .inl fun q => by simp at q) ra
  | ow => exact h.elim
  | ob ms => exact h.elim
  | lk => exact h.elim
theorem aJ {i : Nat} {x : Str} {f} {e : Expr} {pos pos' : Pos} (hN : X.N.Nodup) (he : QE cl X W f e) (hi : X.N[i]? = some x := by rfl) (hx : Loc X.env.scope x := by first | exact Or.inl rfl | exact Or.inr rfl) (hs : swapsWith e (some (.Name x pos')) pos.line X.env = pure false := by rfl)
  (hf : X.fn x = true ∨ X.env.scope.names.lookup x = some .local := by first | exact .inl rfl | exact .inr rfl | assumption) : QS cl X W (aM i f) (.Assign [.Name x pos'] e pos) := ⟨(ps_set (i := i) hN hi hx he.pe hs hf).imp fun D σ H h => by
 obtain ⟨F, A, γ, rel, h⟩ := h
 refine ⟨F, A, γ, rel, ?_⟩
 unfold aM at h
 cases e : f γ with
 | no => rw [e] at h; exact h
 | er x => rw [e] at h; exact fun F' H' c d ex r => h F' A σ H' c d (Step.ext ex) (rel.ext ex) r
 | ok l => rw [e] at h; exact fun F' H' v ex r => lg rel ex r h⟩
def sIf (t : Env → R Bool) (g h : Env → Os) : Env → Os := fun γ => match t γ with
 | .ok b => if b then g γ else h γ
 | .er e => .er e γ
 | .no => .no
theorem dC {t g h} {c : Expr} {a b : List Stmt} {pos : Pos} (hc : QT cl X W t c) (ha : QSs cl X W g a) (hb : QSs cl X W h b) : QS cl X W (sIf t g h) (.If c a b pos) := ⟨(ps_if hc.pt ha.ps hb.ps).imp fun D σ H hh => by
 obtain ⟨F, A, γ, rel, hh⟩ := hh
 refine ⟨F, A, γ, rel, ?_⟩
 unfold sIf at hh
 cases e : t γ with
 | no => rw [e] at hh; exact hh
 | er x => rw [e] at hh; exact fun F' H' c d ex r => hh F' A σ H' c d (Step.ext ex) (rel.ext ex) r
 | ok l =>
  rw [e] at hh
  intro F' H' ex
  cases l with
  | true => exact ⟨F', A, γ, rel.ext ex, Fin.step hh (Step.ext ex)⟩
  | false => exact ⟨F', A, γ, rel.ext ex, Fin.step hh (Step.ext ex)⟩⟩
def unE (γ : Env) : Env := γ.map fun _ => .un
theorem iP {T : Tb} {F H : Hp} (s : Same F H) (tb : TabsOk T F H) : ∀ (γ : Env) {σ : St}, σ.length = γ.length → OwE T F H (unE γ) σ []
 | [], σ, h => by
  have : σ = [] := List.length_eq_zero_iff.mp h
  subst this
  simp [unE, OwE, tb]
 | sl :: γ, σ, h => by
  cases σ with
  | nil => simp at h
  | cons w σ =>
   simp only [unE, List.map_cons, OwE]
   exact ⟨w, σ, rfl, iP s tb γ (by simpa using h)⟩
def bR (f : Ex) : Env → Os := fun γ => match f γ with
 | .ok l => .rt l.x (unE γ)
 | .er e => .er e γ
 | .no => .no
theorem bE {f} {e : Expr} {pos : Pos} (he : QE cl X W f e) (ho : iG cl = false := by assumption) : QS cl X W (bR f) (.Return (some e) pos) := ⟨(ps_ret he.pe).imp fun D σ H h => by
 obtain ⟨F, A, γ, rel, h⟩ := h
 refine ⟨F, A, γ, rel, ?_⟩
 unfold bR at h
 cases e : f γ with
 | no => rw [e] at h; exact h
 | er x => rw [e] at h; exact fun F' H' c d ex r => h F' A σ H' c d (Step.ext ex) (rel.ext ex) r
 | ok l =>
  rw [e] at h
  intro F1 H1 v e1 r
  have go : ∀ Ar : List Addr, (∀ a ∈ Ar, (a ∈ A ∨ H a = none) ∧ F1 a = none) → (∀ a ∈ Ar, ∃ o, H1 a = some o) → (∀ F2, Same F1 F2 → (∀ a ∈ Ar, ∀ o, H1 a = some o → F2 a = some o) → Rp ⟨X.K, cl⟩ F2 l.x v) → D.rt v H1 := fun Ar h1 hd h2 => by
   have d : ∀ a ∈ Ar, F1 a = none := fun a ha => (h1 a ha).2
   refine h (frz F1 H1 Ar) [] σ H1 v ⟨e1.fle.trans (bG d), fun a o _ q n => e1.hle.g a o q n, by simp, fun a o q => ?_, e1.hle.z⟩ ⟨eA e1.sub, iP (eA e1.sub) (k8 e1.hle.z (fun a o q => by
    by_cases ha : a ∈ Ar
    ·rcases (h1 a ha).1 with z | z
     ·obtain ⟨o', ho'⟩ := OwE.dom γ rel.env a z
      exact .inr (.inl ⟨o', ho', (OwE.nx γ rel.env a z o' ho').1⟩)
     ·exact .inr (.inr (.inl z))
    ·rw [eB ha] at q
     exact (e1.new a o q).elim .inl fun z => .inr (.inr z)) rel.tabs) γ (OwE.length γ rel.env), by simp, by simp⟩ (Rt.of ho (h2 _ (bG d) fun a ha o q => iI ha q))
   by_cases ha : a ∈ Ar
   ·exact .inr ((h1 a ha).1.imp id .inl)
   ·rw [eB ha] at q
    exact (e1.new a o q).elim .inl fun z => .inr (.inr z)
  cases l with
  | fr m x =>
   obtain ⟨Ar, k1, _, k3⟩ := r
   exact go Ar (fun a ha => ⟨.inr (k3 a ha).1, (k3 a ha).2⟩) (OwM.dom m k1) fun F2 s2 k => OwM.freeze s2 m k1 k
  | pk m x =>
   obtain ⟨Ai, k1, k2⟩ := r
   exact go Ai (fun a ha => ⟨.inl (k2 a ha), (rel.ext e1).dis a (k2 a ha)⟩) (OwM.dom m k1) fun F2 s2 k => OwM.freeze s2 m k1 k⟩
def isL : PV → Bool
 | .lst _ => true
 | _ => false
def Vl.own : Vl → Bool
 | .fr .ow (.lst xs) => !cf xs
 | .pk .ow (.lst xs) => !cf xs
 | .fr .fz x => !isL x && !trB x
 | .pk .fz x => !isL x && !trB x
 | _ => false
theorem kv {x : PV} (h : isL x = false) : mo x = .fz := by cases x <;> first | rfl | cases h
abbrev Tg := PV → Env → Option Env
def mH (K : PySem.W.Frag) (cl : Cl) (js : List Nat) (g : Tg) : TG := fun v σ H Q => ∃ F A γ x, Rel ⟨K, cl⟩ F A σ H γ ∧ Rp ⟨K, cl⟩ F x v ∧ match g x γ with
 | some γ' => ∀ A' σ', Rel ⟨K, cl⟩ F A' σ' H γ' → (∀ a ∈ A', a ∈ A) → (∀ vs : List Nat, (∀ j ∈ js, j ∈ vs) → wipe σ' vs = wipe σ vs) → Q σ' H
 | none => False
structure QG (cl : Cl) (X : Cx) (js : List Nat) (g : Tg) (e : Expr) : Prop where
 pg : PG X e (mH X.K cl js g)
theorem _root_.L2.PG.imp {X : Cx} {e : Expr} {t t' : TG} (h : PG X e t) (k : ∀ v σ H Q, t' v σ H Q → t v σ H Q) : PG X e t' := ⟨fun pins s σ H v u Q I r q => h.run pins s σ H v u Q I r (k v σ H Q q)⟩
theorem ej {vs : List Nat} {j k : Nat} (σ : St) : (wipe σ vs)[k]? = if k ∈ vs then (if k < σ.length then some none else none) else σ[k]? := by
 induction vs with
 | nil => simp [wipe]
 | cons v vs ih =>
  unfold wipe
  rw [List.getElem?_set]
  by_cases hv : v = k
  ·subst hv
   rw [if_pos rfl, if_pos List.mem_cons_self, wipe_length]
  ·rw [if_neg hv, ih]
   by_cases hk : k ∈ vs
   ·rw [if_pos hk, if_pos (List.mem_cons_of_mem _ hk)]
   ·rw [if_neg hk, if_neg]
    intro z
    rcases List.mem_cons.mp z with q | q
    ·exact hv q.symm
    ·exact hk q
theorem jQ {vs : List Nat} {j : Nat} (σ : St) (w : Option V) (h : j ∈ vs) : wipe (σ.set j w) vs = wipe σ vs := by
 apply List.ext_getElem?
 intro k
 rw [ej (j := 0), ej (j := 0), List.length_set, List.getElem?_set]
 by_cases hk : k ∈ vs
 ·rw [if_pos hk, if_pos hk]
 ·rw [if_neg hk, if_neg hk, if_neg]
  rintro rfl
  exact hk h
def tgN (i : Nat) : Tg := fun x γ => some (γ.set i (.sl .fz x))
theorem bY {i : Nat} {x : Str} {pos : Pos} (hN : X.N.Nodup) (hi : X.N[i]? = some x := by rfl) (hx : Loc X.env.scope x := by first | exact Or.inl rfl | exact Or.inr rfl) (hf : X.fn x = true ∨ X.env.scope.names.lookup x = some .local := by first | exact .inl rfl | exact .inr rfl | assumption) : QG cl X [i] (tgN i) (.Name x pos) := ⟨(pg_name (i := i) hN hi hx hf).imp fun v σ H Q h => by
 obtain ⟨F, A, γ, y, rel, r, h⟩ := h
 obtain ⟨A', ra, ha⟩ := rel.put (i := i) (OwM.fz_of r) (by simp) (by simp)
 exact h A' _ ra (fun a z => (ha a z).elim id fun q => by simp at q) fun vs hv => jQ σ _ (hv i (by simp))⟩
abbrev Tgs := List PV → Env → Option Env
def tqGs (K : PySem.W.Frag) (cl : Cl) (js : List Nat) (g : Tgs) : TGs := fun vs σ H Q => ∃ F A γ xs, Rel ⟨K, cl⟩ F A σ H γ ∧ RpL ⟨K, cl⟩ F xs vs ∧ match g xs γ with
 | some γ' => ∀ A' σ', Rel ⟨K, cl⟩ F A' σ' H γ' → (∀ a ∈ A', a ∈ A) → (∀ vs : List Nat, (∀ j ∈ js, j ∈ vs) → wipe σ' vs = wipe σ vs) → Q σ' H
 | none => False
structure QGs (cl : Cl) (X : Cx) (js : List Nat) (g : Tgs) (e : List Expr) : Prop where
 pg : PGs X e (tqGs X.K cl js g)
theorem _root_.L2.PGs.imp {X : Cx} {e : List Expr} {t t' : TGs} (h : PGs X e t) (k : ∀ v σ H Q, t' v σ H Q → t v σ H Q) : PGs X e t' := ⟨fun pins s σ H v u Q I r q => h.run pins s σ H v u Q I r (k v σ H Q q)⟩
def dA : Tgs := fun xs γ => match xs with
 | [] => some γ
 | _ => none
def bc (g : Tg) (gs : Tgs) : Tgs := fun xs γ => match xs with
 | x :: r => (g x γ).bind fun γ' => gs r γ'
 | [] => none
theorem iY : QGs cl X [] dA [] := ⟨pgs_nil.imp fun vs σ H Q h => by
 obtain ⟨F, A, γ, xs, rel, r, h⟩ := h
 cases xs with
 | nil =>
  simp only [RpL] at r
  exact ⟨r, h A σ rel (fun _ q => q) fun _ _ => rfl⟩
 | cons x xs => exact h.elim⟩
theorem cS {js ks : List Nat} {g gs} {e : Expr} {es : List Expr} (h1 : QG cl X js g e) (h2 : QGs cl X ks gs es) (hs : (assignEach (e :: es) X.env).map (·.2) = assign e X.env :: (assignEach es X.env).map (·.2) := by rfl) : QGs cl X (js ++ ks) (bc g gs) (e :: es) := ⟨(pgs_cons h1.pg h2.pg hs).imp fun vs σ H Q h => by
 obtain ⟨F, A, γ, xs, rel, r, h⟩ := h
 cases xs with
 | nil => exact h.elim
 | cons x xs =>
  simp only [RpL] at r
  obtain ⟨v, ws, rfl, p, q⟩ := r
  refine ⟨v, ws, rfl, F, A, γ, x, rel, p, ?_⟩
  simp only [bc] at h
  cases e : g x γ with
  | none => rw [e] at h; exact h.elim
  | some γ1 =>
   rw [e] at h
   simp only [Option.bind_some] at h
   intro A1 σ1 rel1 a1 w1
   refine ⟨F, A1, γ1, xs, rel1, q, ?_⟩
   cases e2 : gs xs γ1 with
   | none => rw [e2] at h; exact h.elim
   | some γ2 =>
    rw [e2] at h
    exact fun A2 σ2 rel2 a2 w2 => h A2 σ2 rel2 (fun a z => a1 a (a2 a z)) fun vs hv => (w2 vs fun j hj => hv j (List.mem_append_right _ hj)).trans (w1 vs fun j hj => hv j (List.mem_append_left _ hj))⟩
def tgT (gs : Tgs) : Tg := fun x γ => match x with
 | .tup xs => gs xs γ
 | .lst xs => gs xs γ
 | _ => none
theorem _root_.L2.PG.or {X : Cx} {e : Expr} {t t' : TG} (h : PG X e t) (h' : PG X e t') : PG X e (fun v σ H Q => t v σ H Q ∨ t' v σ H Q) := ⟨fun pins s σ H v u Q I r q => q.elim (h.run pins s σ H v u Q I r) (h'.run pins s σ H v u Q I r)⟩
def gRd (n : Nat) (t : TGs) : TG := fun v σ H Q => ∃ a xs, v = .ref a ∧ Rd H a (.lst xs) ∧ xs.length = n ∧ t xs σ H Q
theorem oW {es : List Expr} {k : Nat} {t : TGs} {n : Nat} {pos : Pos} (hc : X.calm = true) (h : PGs X es t)
  (hn : (assignEach es X.env).length = n := by rfl) (hst : (assignEach es X.env).findIdx? (·.1) = none := by rfl) : PG X (.Tuple es k pos) (gRd n t) := by
 refine ⟨fun pins s σ H v u Q I r hw => ?_⟩
 obtain ⟨a, xs, e1, hq, hl, hw⟩ := hw
 subst e1
 cases r
 obtain ⟨hz, its, m, rv, _, e⟩ := I.lstR hq
 have hl' : s.heap.IsList a its.toArray := ⟨_, e, rfl, m, rfl⟩
 have hsz : (assignEach es X.env).length = its.toArray.size := by simp [hn, ← hl, rv.length]
 rw [PyProof.Rows.assign_Tuple]
 refine PySem.wpAny_bind (PySem.wpAny_standAt ?_)
 unfold unpack
 rw [hsz, hst]
 refine PySem.wpAny_bind (PySem.wpAny_holding (PySem.W.kun_itemsOf (I.ok.hd hc) hl' fun h' hx => ?_))
 have I1 : Inv X pins σ H { s with heap := h' } := I.kept (t' := s.toks) fun b o e => hx b o (Nat.ne_of_lt (Heap.lt_size e)) e
 exact h.run pins _ σ H xs _ Q I1 (by simpa using rv) hw
theorem j4 {js : List Nat} {gs} {es : List Expr} {k : Nat} {n : Nat} {pos : Pos} (hc : X.calm = true) (h : QGs cl X js gs es) (hl : ∀ xs γ γ', gs xs γ = some γ' → xs.length = n) (hn : (assignEach es X.env).length = n := by rfl) (hst : (assignEach es X.env).findIdx? (·.1) = none := by rfl) :
  QG cl X js (tgT gs) (.Tuple es k pos) := ⟨((pg_tup hc h.pg hn hst).or (oW hc h.pg hn hst)).imp fun v σ H Q hh => by
 obtain ⟨F, A, γ, x, rel, r, hh⟩ := hh
 cases x <;> try exact hh.elim
 ·rename_i xs
  simp only [Rp] at r
  obtain ⟨a, vs, rfl, q, r⟩ := r
  refine .inl ⟨a, vs, rfl, SqT.of (rel.sub _ _ q), ?_, F, A, γ, xs, rel, r, ?_⟩
  ·rw [r.length]
   simp only [tgT] at hh
   cases e : gs xs γ with
   | none => rw [e] at hh; exact hh.elim
   | some γ' => exact hl xs γ γ' e
  ·exact hh
 ·rename_i xs
  simp only [Rp] at r
  obtain ⟨a, vs, rfl, q, r⟩ := r
  refine .inr ⟨a, vs, rfl, bt rel.sub q, ?_, F, A, γ, xs, rel, r, ?_⟩
  ·rw [r.length]
   simp only [tgT] at hh
   cases e : gs xs γ with
   | none => rw [e] at hh; exact hh.elim
   | some γ' => exact hl xs γ γ' e
  ·exact hh⟩
theorem iR : ∀ xs γ γ', dA xs γ = some γ' → xs.length = 0 := fun xs γ γ' h => by
 cases xs <;> simp [dA] at h <;> rfl
theorem cP {g : Tg} {gs : Tgs} {n : Nat} (h : ∀ xs γ γ', gs xs γ = some γ' → xs.length = n) : ∀ xs γ γ', bc g gs xs γ = some γ' → xs.length = n + 1 := fun xs γ γ' e => by
 cases xs with
 | nil => simp [bc] at e
 | cons x xs =>
  simp only [bc] at e
  cases e1 : g x γ with
  | none => rw [e1] at e; cases e
  | some γ1 => rw [e1] at e; simp [h xs γ1 γ' e]
structure ItOk (T : Tb) (J : It) (F0 : Hp) (items : List PV) : Prop where
 go : ∀ F H i x, Same F0 F → Same F H → items[i]? = some x → J.go i H ∧ ∀ v H', J.yld i H v H' → ∃ F', Ext F H F' H' ∧ Rp T F' x v
 stop : ∀ F H, Same F0 F → Same F H → J.stop items.length H
def tqI (K : PySem.W.Frag) (cl : Cl) (W : WX) (f : Env → R (List PV)) : TI := fun σ H Rr => ∃ F A γ, Rel ⟨K, cl⟩ F A σ H γ ∧ match f γ with
 | .ok items => ∀ F' H' J, Ext F H F' H' → ItOk ⟨K, cl⟩ J F' items → Rr J H'
 | .er e => ∀ F' H' c d, Ext F H F' H' → XcR ⟨K, cl⟩ F' e c d → W c d σ H'
 | .no => False
structure QI (cl : Cl) (X : Cx) (W : WX) (f : Env → R (List PV)) (tg e : Expr) : Prop where
 pi : PI X tg e (tqI X.K cl W f)
theorem _root_.L2.PI.imp {X : Cx} {tg e : Expr} {t t' : TI} (h : PI X tg e t) (k : ∀ σ H Q, t' σ H Q → t σ H Q) : PI X tg e t' := ⟨fun pins s σ H Q I q => h.run pins s σ H Q I (k σ H Q q)⟩
def Vl.items (l : Vl) : R (List PV) := l.keep.bind fun x => match x with
 | .lst xs => .ok xs
 | .tup xs => .ok xs
 | .nul => .ok []
 | _ => .no
theorem lU {T : Tb} {F0 : Hp} {a : Addr} (k : K0 T.K a) : ItOk T (Itt T.K a) F0 [] :=
 ⟨fun F H i x _ _ e => by simp at e, fun F H _ _ => ⟨[], k.sq H, Nat.le_refl _⟩⟩
theorem nA {T : Tb} {F0 : Hp} {a : Addr} {xs : List PV} {vs : List V} (q : Rd F0 a (.lst vs)) (r : RpL T F0 xs vs) : ItOk T (Itl T.K a) F0 xs := by
 refine ⟨fun F H i x s0 s e => ?_, fun F H s0 s => ⟨vs, .inl (bt (s0.trans s) q), by rw [r.length]; exact Nat.le_refl _⟩⟩
 obtain ⟨v, hv, rv⟩ := r.get e
 have qh : SqL T.K H a vs := .inl (bt (s0.trans s) q)
 refine ⟨⟨vs, v, qh, hv⟩, fun u H' y => ?_⟩
 obtain ⟨e1, y⟩ := y
 subst e1
 have := y vs qh
 rw [hv] at this
 cases this
 exact ⟨F, Ext.refl s, rv.mono s0⟩
theorem ny {T : Tb} {F0 : Hp} {a : Addr} {xs : List PV} {vs : List V} (q : F0 a = some (.tup vs)) (r : RpL T F0 xs vs) : ItOk T (Itt T.K a) F0 xs := by
 refine ⟨fun F H i x s0 s e => ?_, fun F H s0 s => ⟨vs, SqT.of (s _ _ (s0 _ _ q)), by rw [r.length]; exact Nat.le_refl _⟩⟩
 obtain ⟨v, hv, rv⟩ := r.get e
 have qh : SqT T.K H a vs := SqT.of (s _ _ (s0 _ _ q))
 refine ⟨⟨vs, v, qh, hv⟩, fun u H' y => ?_⟩
 obtain ⟨e1, y⟩ := y
 subst e1
 have := y vs qh
 rw [hv] at this
 cases this
 exact ⟨F, Ext.refl s, rv.mono s0⟩
theorem m6 {tg l : Expr} {tl : TE} (hl : PE X l tl) : PI X tg l (fun σ H Rr => tl σ H fun x H1 => ∃ a, x = .ref a ∧ ((∃ xs, SqL X.K H1 a xs ∧ Rr (Itl X.K a) H1) ∨ ∃ xs, SqT X.K H1 a xs ∧ Rr (Itt X.K a) H1)) := by
 refine ⟨fun pins s σ H Rr I h => ?_⟩
 refine thn (hl.run pins s σ H _ I h) fun v s1 ⟨x, H1, I1, r1, q1⟩ => ?_
 obtain ⟨a, e, q1⟩ := q1
 subst e
 cases r1
 rcases q1 with ⟨xs, hq, q⟩ | ⟨xs, hq, q⟩
 ·obtain ⟨its, rv, p, hz⟩ := I1.list hq
  refine PySem.wpAny_pyIter_list p.isList ?_
  refine ⟨s1.heap.objs.size, [s1.heap.objs.size], _, _, H1, rfl, I1.kept (t' := s1.toks) fun b o e => Heap.get?_push_of_some _ e, turn_list a _, ⟨_, Heap.get?_push_size _ rfl, rfl, rfl⟩, fun b hb => ?_, q⟩
  have e : b = s1.heap.objs.size := by simpa using hb
  subst e
  exact I1.fpOk (Nat.le_refl _) (I1.hok.fresh (Nat.le_refl _))
 ·obtain ⟨its, rv, p, hz⟩ := I1.tuple hq
  refine PySem.wpAny_pyIter_tuple (show s1.heap.IsTuple a its.toArray from p) ?_
  refine ⟨s1.heap.objs.size, [s1.heap.objs.size], _, _, H1, rfl, I1.kept (t' := s1.toks) fun b o e => Heap.get?_push_of_some _ e, turn_tuple a _, ⟨_, Heap.get?_push_size _ rfl, rfl, rfl⟩, fun b hb => ?_, q⟩
  have e : b = s1.heap.objs.size := by simpa using hb
  subst e
  exact I1.fpOk (Nat.le_refl _) (I1.hok.fresh (Nat.le_refl _))
def kE (f : Ex) : Env → R (List PV) := fun γ => (f γ).bind Vl.items
theorem mW {f} {tg e : Expr} (he : QE cl X W f e) : QI cl X W (kE f) tg e := ⟨(m6 he.pe).imp fun σ H Rr h => by
 obtain ⟨F, A, γ, rel, h⟩ := h
 refine ⟨F, A, γ, rel, ?_⟩
 unfold kE at h
 cases e : f γ with
 | no => rw [e] at h; exact h
 | er x => rw [e] at h; exact h
 | ok l =>
  rw [e] at h
  simp only [R.ai, Vl.items] at h
  intro F1 H1 v e1 r1
  cases ek : l.keep with
  | no => rw [ek] at h; exact h.elim
  | er x => exact (l.keep_ne _ ek).elim
  | ok x =>
   rw [ek] at h
   simp only [R.ai] at h
   obtain ⟨F2, e2, s2, rx⟩ := keep_ok r1 e1 ek
   cases x <;> try exact h.elim
   ·rename_i xs
    simp only [Rp] at rx
    obtain ⟨a, vs, rfl, q, r⟩ := rx
    exact ⟨a, rfl, .inr ⟨vs, SqT.of (e2.sub _ _ q), h F2 H1 _ e2 (ny q r)⟩⟩
   ·rename_i xs
    simp only [Rp] at rx
    obtain ⟨a, vs, rfl, q, r⟩ := rx
    exact ⟨a, rfl, .inl ⟨vs, .inl (bt e2.sub q), h F2 H1 _ e2 (nA q r)⟩⟩
   ·simp only [Rp] at rx
    obtain ⟨a, rfl, k⟩ := rx
    exact ⟨a, rfl, .inr ⟨[], k.sq H1, h F2 H1 _ e2 (lU k)⟩⟩⟩
def cx (lo : Int) (n : Nat) : List PV := (List.range n).map fun (k : Nat) => PV.int (lo + (k : Int))
theorem nz {T : Tb} {F0 : Hp} {lo : Int} {n : Nat} : ItOk T (Itr lo n) F0 (cx lo n) := by
 refine ⟨fun F H i x s0 s e => ?_, fun F H s0 s => by simp [cx, Itr]⟩
 simp only [cx, List.getElem?_map] at e
 cases h : (List.range n)[i]? with
 | none => rw [h] at e; cases e
 | some k =>
  rw [h] at e
  have hi : i < n := by simpa using (List.getElem?_eq_some_iff.mp h).1
  have hk : k = i := by
   have := (List.getElem?_eq_some_iff.mp h).2
   simpa using this.symm
  subst hk
  simp at e
  subst e
  refine ⟨hi, fun u H' y => ?_⟩
  obtain ⟨e1, rfl⟩ := y
  subst e1
  exact ⟨F, Ext.refl s, by simp [Rp]⟩
def eY (i : Int) : Bool := decide (-(2 ^ 62) ≤ i) && decide (i < 2 ^ 62)
theorem l6 {i : Int} (h : eY i = true) : -(2 ^ 62) ≤ i ∧ i < 2 ^ 62 := by simpa [eY] using h
def gA : List PV → R (List PV)
 | [.int j] => if eY j then .ok (cx 0 j.toNat) else .no
 | [.int i, .int j] => if eY i && eY j then .ok (cx i (j - i).toNat) else .no
 | _ => .no
def iH (fs : Env → R (List PV)) : Env → R (List PV) := fun γ => (fs γ).bind gA
theorem lB {xs items : List PV} (h : gA xs = .ok items) : (∃ j, xs = [.int j] ∧ eY j = true ∧ items = cx 0 j.toNat) ∨ ∃ i j, xs = [.int i, .int j] ∧ eY i = true ∧ eY j = true ∧ items = cx i (j - i).toNat := by
 unfold gA at h
 split at h
 ·split at h
  ·cases h; exact .inl ⟨_, rfl, by assumption, rfl⟩
  ·cases h
 ·split at h
  ·rename_i c
   rw [Bool.and_eq_true] at c
   cases h; exact .inr ⟨_, _, rfl, c.1, c.2, rfl⟩
  ·cases h
 ·cases h
theorem lC (xs : List PV) (e : Xc) : gA xs ≠ .er e := fun h => by
 unfold gA at h
 split at h
 ·split at h <;> cases h
 ·split at h <;> cases h
 ·cases h
theorem fO {fs} {tg a : Expr} {p pos : Pos} (hm : X.mg "range" = none) (ha : QA cl X W fs [a]) (h1 : ∀ γ xs, fs γ = .ok xs → xs.length = 1) (hg : Gl X "range" := by rfl) (hs : starEach [a] X.env = [(false, eval a X.env)] := by rfl) : QI cl X W (iH fs) tg (.Call (.Name "range" p) [a] [] pos) := ⟨(pi_range1 hg hm ha.pa hs).imp fun σ H Rr h => by
 obtain ⟨F, A, γ, rel, h⟩ := h
 refine ⟨F, A, γ, rel, ?_⟩
 unfold iH at h
 cases e : fs γ with
 | no => rw [e] at h; exact h
 | er x => rw [e] at h; exact h
 | ok xs =>
  rw [e] at h
  simp only [R.ai] at h
  intro F1 H1 vs e1 r1
  cases e' : gA xs with
  | no => rw [e'] at h; exact h.elim
  | er x => exact (lC _ _ e').elim
  | ok items =>
   rw [e'] at h
   rcases lB e' with ⟨j, rfl, cj, rfl⟩ | ⟨i, j, rfl, ci, cj, rfl⟩
   ·obtain ⟨v, rfl, rv⟩ := r1.one
    have c := l6 cj
    exact ⟨j, by rw [rv.int], c.1, c.2, h F1 H1 _ e1 nz⟩
   ·have := h1 γ _ e; simp at this⟩
theorem kQ : ∀ γ xs, ar γ = .ok xs → xs.length = 0 := fun γ xs h => by cases h; rfl
theorem jo {f : Ex} {fs : Env → R (List PV)} {n : Nat} (h : ∀ γ xs, fs γ = .ok xs → xs.length = n) : ∀ γ xs, bo f fs γ = .ok xs → xs.length = n + 1 := fun γ xs e => by
 unfold bo at e
 cases e1 : f γ with
 | no => rw [e1] at e; cases e
 | er x => rw [e1] at e; cases e
 | ok l =>
  rw [e1] at e
  simp only [R.ai] at e
  cases e2 : fs γ with
  | no => rw [e2] at e; cases e
  | er x => rw [e2] at e; cases e
  | ok ys => rw [e2] at e; cases e; simp [h γ ys e2]
def cg (k : Nat) : List PV → List PV
 | [] => []
 | x :: xs => .tup [.int (k : Int), x] :: cg (k + 1) xs
theorem cC : ∀ (xs : List PV) (k i : Nat), (cg k xs)[i]? = (xs[i]?).map fun x => .tup [.int ((k + i : Nat) : Int), x]
 | [], k, i => by simp [cg]
 | x :: xs, k, 0 => by simp [cg]
 | x :: xs, k, i + 1 => by
  simp only [cg, List.getElem?_cons_succ, cC xs (k + 1) i]
  rw [show k + 1 + i = k + (i + 1) by omega]
theorem cb : ∀ (xs : List PV) (k : Nat), (cg k xs).length = xs.length
 | [], k => rfl
 | x :: xs, k => by simp [cg, cb xs (k + 1)]
theorem nB {T : Tb} {F0 : Hp} {a : Addr} {xs : List PV} {vs : List V} (q : Rd F0 a (.lst vs)) (r : RpL T F0 xs vs) : ItOk T (Ite T.K a) F0 (cg 0 xs) := by
 refine ⟨fun F H i x s0 s e => ?_, fun F H s0 s => ⟨vs, .inl (bt (s0.trans s) q), by rw [cb, r.length]; exact Nat.le_refl _⟩⟩
 rw [cC] at e
 cases ei : xs[i]? with
 | none => rw [ei] at e; cases e
 | some y =>
  rw [ei] at e
  simp at e
  obtain ⟨v, hv, rv⟩ := r.get ei
  have qh : SqL T.K H a vs := .inl (bt (s0.trans s) q)
  refine ⟨⟨vs, v, qh, hv⟩, fun u H' yl => ?_⟩
  obtain ⟨Ta, w, rfl, nT, rfl, h4⟩ := yl
  have := h4 vs qh
  rw [hv] at this
  cases this
  refine ⟨_, Ext.newF s nT, ?_⟩
  rw [← e]
  exact gE s nT (RpL.cons (by simp [Rp]) (RpL.cons (rv.mono s0) RpL.nil))
end
end Z
namespace Z
open PySem L2
def forL (tg : Tg) (body : Env → Os) : List PV → Env → Os
 | [], γ => .nx γ
 | x :: xs, γ => match tg x γ with
  | none => .no
  | some γ1 => match body γ1 with
   | .nx γ2 => forL tg body xs γ2
   | .ct γ2 => forL tg body xs γ2
   | .bk γ2 => .nx γ2
   | .rt y γ2 => .rt y γ2
   | .er e γ2 => .er e γ2
   | .no => .no
def fg (it : Env → R (List PV)) (tg : Tg) (body : Env → Os) : Env → Os := fun γ => match it γ with
 | .ok items => forL tg body items γ
 | .er e => .er e γ
 | .no => .no
section
variable {X : Cx} {cl : Cl} {W : WX}
theorem iu {js it tg body} {t iter : Expr} {b : List Stmt} {pos : Pos} (hp : PassesOwn (model X.prog X.w) X.A X.env X.xe) (hc : X.calm = true) (hi : QI cl X W it t iter) (hg : QG cl X js tg t) (hb : QSs cl X W body b)
  (hs : ∀ x, foldedSetIterable iter X.env x = pure x := by intro _; rfl) : QS cl X W (fg it tg body) (.For t iter b [] pos) := ⟨(ps_for hp hc hi.pi hg.pg hb.ps hs).imp fun D σ H h => by
 obtain ⟨F, A, γ, rel, h⟩ := h
 refine ⟨F, A, γ, rel, ?_⟩
 unfold fg at h
 cases e : it γ with
 | no => rw [e] at h; exact h
 | er x => rw [e] at h; exact fun F' H' c d ex r => h F' A σ H' c d (Step.ext ex) (rel.ext ex) r
 | ok items =>
  rw [e] at h
  simp only at h
  intro F0 H0 J e0 ok
  refine ⟨fun i m σ H => m = items.length - i ∧ i ≤ items.length ∧ ∃ F A γ, Same F0 F ∧ Rel ⟨X.K, cl⟩ F A σ H γ ∧ Fin X cl W D F A H (forL tg body (items.drop i) γ), ⟨items.length, by simp, Nat.zero_le _, F0, A, γ, Same.refl _, rel.ext e0, by
   rw [List.drop_zero]
   exact h.step (Step.ext e0)⟩, ?_⟩
  rintro i m σ1 H1 ⟨rfl, hi, F1, A1, γ1, s1, rel1, h1⟩
  by_cases hlt : i < items.length
  ·obtain ⟨x, ex⟩ : ∃ x, items[i]? = some x := ⟨items[i], by simp [hlt]⟩
   obtain ⟨hgo, hy⟩ := ok.go F1 H1 i x s1 rel1.sub ex
   refine .inr ⟨hgo, fun σ2 H2 => items.length - (i + 1) = items.length - (i + 1) ∧ i + 1 ≤ items.length ∧ ∃ F A γ, Same F0 F ∧ Rel ⟨X.K, cl⟩ F A σ2 H2 γ ∧ Fin X cl W D F A H2 (forL tg body (items.drop (i + 1)) γ), fun σ' H' n => ⟨items.length - (i + 1), by omega, n⟩, fun v H' y => ?_⟩
   obtain ⟨F2, e2, rx⟩ := hy v H' y
   refine ⟨F2, A1, γ1, x, rel1.ext e2, rx, ?_⟩
   have hd : items.drop i = x :: items.drop (i + 1) := by
    rw [List.drop_eq_getElem_cons hlt]
    have := (List.getElem?_eq_some_iff.mp ex).2
    rw [this]
   rw [hd] at h1
   simp only [forL] at h1
   cases et : tg x γ1 with
   | none => rw [et] at h1; exact h1.elim
   | some γ2 =>
    rw [et] at h1
    simp only at h1
    intro A2 σ2 rel2 a2 _
    refine ⟨F2, A2, γ2, rel2, ?_⟩
    have st : Step F1 A1 H1 F2 A2 H' := Step.ext' e2 fun a z => .inl (a2 a z)
    cases eb : body γ2 with
    | no => rw [eb] at h1; exact h1
    | nx γ3 =>
     rw [eb] at h1
     exact fun F' A' σ' H'' st2 r => ⟨rfl, hlt, F', A', γ3, s1.trans (e2.fle.trans st2.fle), r, h1.step (st.trans st2)⟩
    | ct γ3 =>
     rw [eb] at h1
     exact fun F' A' σ' H'' st2 r => ⟨rfl, hlt, F', A', γ3, s1.trans (e2.fle.trans st2.fle), r, h1.step (st.trans st2)⟩
    | bk γ3 => rw [eb] at h1; exact fun F' A' σ' H'' st2 r => h1 F' A' σ' H'' (st.trans st2) r
    | rt y γ3 => rw [eb] at h1; exact fun F' A' σ' H'' v st2 r p => h1 F' A' σ' H'' v (st.trans st2) r (p.step st)
    | er y γ3 => rw [eb] at h1; exact fun F' A' σ' H'' c d st2 r p => h1 F' A' σ' H'' c d (st.trans st2) r p
  ·have ei : i = items.length := by omega
   subst ei
   rw [List.drop_length] at h1
   exact .inl ⟨ok.stop F1 H1 s1 rel1.sub, h1 F1 A1 σ1 H1 Step.refl rel1⟩⟩
def bF (γ : Env) : List Nat → Env
 | [] => γ
 | v :: vs => (bF γ vs).set v .un
theorem Rel.wipe {T : Tb} {F H : Hp} {A σ γ} (rel : Rel T F A σ H γ) : ∀ vs : List Nat, ∃ A', Rel T F A' (L2.wipe σ vs) H (bF γ vs) ∧ ∀ a ∈ A', a ∈ A
 | [] => ⟨A, rel, fun _ h => h⟩
 | v :: vs => by
  obtain ⟨A1, r1, h1⟩ := rel.wipe vs
  obtain ⟨A2, h2, n2, k2⟩ := OwE.wipe _ v none r1.env r1.nd
  exact ⟨A2, ⟨r1.sub, h2, n2, fun a ha => r1.dis a (k2 a ha)⟩, fun a ha => h1 a (k2 a ha)⟩
def lcT (tg : Tg) (c : Env → R Bool) (f : Ex) (γ : Env) (x : PV) : R (Option PV) := match tg x γ with
 | none => .no
 | some γ1 => (c γ1).bind fun b => if b then (f γ1).bind fun l => l.keep.bind fun y => .ok (some y) else .ok none
def lcL (tg : Tg) (c : Env → R Bool) (f : Ex) (γ : Env) : List PV → R (List PV)
 | [] => .ok []
 | x :: xs => (lcT tg c f γ x).bind fun o => (lcL tg c f γ xs).bind fun ys => .ok (match o with
  | some y => y :: ys
  | none => ys)
def fJ : Env → R Bool := fun _ => .ok true
def xLc (it : Env → R (List PV)) (tg : Tg) (c : Env → R Bool) (f : Ex) (vs : List Nat) : Ex := fun γ => (it γ).bind fun items => if sm items.length then (match lcL tg c f (bF γ vs) items with | .ok ys => .ok (.fr .ow (.lst ys)) | _ => .no) else .no
abbrev W0 : WX := fun _ _ _ _ => False
structure QTs (cl : Cl) (X : Cx) (W : WX) (f : Env → R Bool) (es : List Expr) : Prop where
 pt : PTs X es (tqT X.K cl W f)
theorem _root_.L2.PTs.imp {X : Cx} {e : List Expr} {t t' : TT} (h : PTs X e t) (k : ∀ σ H Q, t' σ H Q → t σ H Q) : PTs X e t' := ⟨fun pins s σ H Q I q => h.run pins s σ H Q I (k σ H Q q)⟩
theorem iX : QTs cl X W fJ [] := ⟨pts_nil.imp fun σ H Q h => by
 obtain ⟨F, A, γ, rel, h⟩ := h
 exact h F H (Ext.refl rel.sub)⟩
theorem jH (tg : Tg) (c : Env → R Bool) (f : Ex) (γ : Env) : ∀ (xs : List PV) (i : Nat) (zs : List PV), lcL tg c f γ (xs.drop i) = .ok zs → ∀ x, xs[i]? = some x →
  ∃ o zs', lcT tg c f γ x = .ok o ∧ lcL tg c f γ (xs.drop (i + 1)) = .ok zs' ∧ zs = (match o with
   | some y => y :: zs'
   | none => zs') := fun xs i zs h x ex => by
 have hlt : i < xs.length := (List.getElem?_eq_some_iff.mp ex).1
 have hd : xs.drop i = x :: xs.drop (i + 1) := by
  rw [List.drop_eq_getElem_cons hlt, (List.getElem?_eq_some_iff.mp ex).2]
 rw [hd] at h
 simp only [lcL] at h
 cases e : lcT tg c f γ x with
 | no => rw [e] at h; cases h
 | er x => rw [e] at h; cases h
 | ok o =>
  rw [e] at h
  simp only [R.ai] at h
  cases e' : lcL tg c f γ (xs.drop (i + 1)) with
  | no => rw [e'] at h; cases h
  | er x => rw [e'] at h; cases h
  | ok zs' => rw [e'] at h; cases h; exact ⟨o, zs', rfl, rfl, rfl⟩
theorem lR {K : PySem.W.Frag} {it tg c f} {js vs : List Nat} (hj : ∀ j ∈ js, j ∈ vs) {σ : St} {H : Hp} {Q : VK} (h : tq K cl W (xLc it tg c f vs) σ H Q) :
  tLc (tqI K cl W it) (mH K cl js tg) (tqT K cl W0 c) (tq K cl W0 f) vs σ H Q := by
 obtain ⟨F, A, γ, rel, h⟩ := h
 refine ⟨F, A, γ, rel, ?_⟩
 unfold xLc at h
 cases e : it γ with
 | no => rw [e] at h; exact h
 | er x => rw [e] at h; exact h
 | ok items =>
  rw [e] at h
  simp only [R.ai] at h
  cases es : sm items.length with
  | false => rw [es] at h; exact h.elim
  | true =>
   rw [es] at h
   simp only [if_true] at h
   cases el : lcL tg c f (bF γ vs) items with
   | no => rw [el] at h; exact h.elim
   | er x => rw [el] at h; exact h.elim
   | ok zs =>
    rw [el] at h
    simp only at h
    intro F0 H0 J e0 itok D nD
    have rel0 := rel.ext e0
    obtain ⟨Aw, relw, haw⟩ := rel0.wipe vs
    have nFD : ∀ F, Same F H0 → F D = none := fun F s => s.free nD
    have hlen := cq es
    refine ⟨fun i m H => m = items.length - i ∧ i ≤ items.length ∧ ∃ F ys zs' acc, Same F0 F ∧ Same F H ∧ F D = none ∧ H D = some (.lst acc) ∧ RpL ⟨K, cl⟩ F ys acc ∧ ys.length ≤ i ∧ lcL tg c f (bF γ vs) (items.drop i) = .ok zs' ∧ zs = ys ++ zs' ∧ SameT H0 H ∧
     (∀ a o, F a = some o → F0 a = some o ∨ Nw H0 a), ⟨items.length, by simp, Nat.zero_le _, F0, [], zs, [], Same.refl _, ?_, nFD F0 e0.sub, upd_same, RpL.nil, Nat.le_refl _, by simpa using el, rfl, ?_, fun a o h => .inl h⟩, ?_⟩
    ·exact fun a o q => by rw [upd_ne (ne_of_none (e0.sub a o q) nD)]; exact e0.sub a o q
    ·exact .nw nD
    rintro i m H1 ⟨rfl, hi1, F1, ys, zs', acc, s01, s1, nF1, hD, ry, hy, hl, hz, sH, hnew⟩
    have rel1 : Rel ⟨K, cl⟩ F1 Aw (wipe σ vs) H1 (bF γ vs) := by
     refine ⟨s1, OwE.mono s01 _ relw.env (fun a _ o q n => sH.g a o q n) (k8 sH.z fun a o q => (hnew a o q).elim .inl fun z => .inr (.inr z)), relw.nd, fun a ha => ?_⟩
     cases q : F1 a with
     | none => rfl
     | some o =>
      rcases hnew a o q with z | z
      ·rw [relw.dis a ha] at z; cases z
      ·exact (OwE.nt _ relw.env a ha z).elim
    by_cases hlt : i < items.length
    ·obtain ⟨x, ex⟩ : ∃ x, items[i]? = some x := ⟨items[i], by simp [hlt]⟩
     obtain ⟨hgo, hyl⟩ := itok.go F1 H1 i x s01 s1 ex
     obtain ⟨o, zs1, k1, k2, k3⟩ := jH tg c f _ items i zs' hl x ex
     refine .inr ⟨hgo, fun H => ∃ F ys zs' acc, Same F0 F ∧ Same F H ∧ F D = none ∧ H D = some (.lst acc) ∧ RpL ⟨K, cl⟩ F ys acc ∧ ys.length ≤ i + 1 ∧ lcL tg c f (bF γ vs) (items.drop (i + 1)) = .ok zs' ∧ zs = ys ++ zs' ∧ SameT H0 H ∧ (∀ a o, F a = some o → F0 a = some o ∨ Nw H0 a),
      fun H' q => ⟨items.length - (i + 1), by omega, rfl, hlt, q⟩, fun v H2 yl => ?_⟩
     obtain ⟨F2, e2, rx⟩ := hyl v H2 yl
     refine ⟨F2, Aw, bF γ vs, x, rel1.ext e2, rx, ?_⟩
     unfold lcT at k1
     cases et : tg x (bF γ vs) with
     | none => rw [et] at k1; cases k1
     | some γ2 =>
      rw [et] at k1
      simp only at k1
      intro A3 σ3 rel3 a3 w3
      have ew : wipe σ3 vs = wipe σ vs := by
       rw [w3 _ hj]
       apply List.ext_getElem?
       intro k
       rw [ej (j := 0), ej (j := 0), wipe_length]
       split
       ·rfl
       ·rfl
      refine ⟨ew, F2, A3, γ2, rel3, ?_⟩
      have nF2 : F2 D = none := by
       cases q : F2 D with
       | none => rfl
       | some o =>
        rcases e2.new D o q with z | z
        ·rw [nF1] at z; cases z
        ·rcases z with z | ⟨_, z⟩ <;> rw [hD] at z <;> cases z
      have new2 : ∀ a o, F2 a = some o → F0 a = some o ∨ Nw H0 a := fun a o q => by
       rcases e2.new a o q with z | z
       ·exact hnew a o z
       ·exact .inr (z.back sH)
      cases ec : c γ2 with
      | no => rw [ec] at k1; cases k1
      | er x => rw [ec] at k1; cases k1
      | ok b =>
       rw [ec] at k1
       simp only [R.ai] at k1
       intro F3 H3 e3
       have hD3 : H3 D = some (.lst acc) := e3.hle.g _ _ (e2.hle.g _ _ hD)
       have nF3 : F3 D = none := by
        cases q : F3 D with
        | none => rfl
        | some o =>
         rcases e3.new D o q with z | z
         ·rw [nF2] at z; cases z
         ·rcases z with z | ⟨_, z⟩ <;> rw [e2.hle.g _ _ hD] at z <;> cases z
       have new3 : ∀ a o, F3 a = some o → F0 a = some o ∨ Nw H0 a := fun a o q => by
        rcases e3.new a o q with z | z
        ·exact new2 a o z
        ·exact .inr (z.back (sH.trans e2.hle))
       cases b with
       | false =>
        simp only [Bool.false_eq_true, ↓reduceIte, R.ok.injEq] at k1
        subst k1
        rw [if_neg Bool.false_ne_true]
        exact ⟨F3, ys, zs1, acc, (s01.trans e2.fle).trans e3.fle, e3.sub, nF3, hD3, RpL.mono (e2.fle.trans e3.fle) _ _ ry, Nat.le_succ_of_le hy, k2, by rw [hz, k3], (sH.trans e2.hle).trans e3.hle, new3⟩
       | true =>
        simp only [↓reduceIte] at k1
        rw [if_pos rfl]
        refine ⟨F3, A3, γ2, rel3.ext e3, ?_⟩
        cases ef : f γ2 with
        | no => rw [ef] at k1; cases k1
        | er x => rw [ef] at k1; cases k1
        | ok l =>
         rw [ef] at k1
         simp only [R.ai] at k1
         intro F4 H4 w4 e4 r4
         cases ek : l.keep with
         | no => rw [ek] at k1; cases k1
         | er x => rw [ek] at k1; cases k1
         | ok y =>
          rw [ek] at k1
          simp only [R.ai, R.ok.injEq] at k1
          subst k1
          obtain ⟨F5, e5, s5, ry5⟩ := keep_ok r4 e4 ek
          have hD4 : H4 D = some (.lst acc) := e5.hle.g _ _ hD3
          have nF5 : F5 D = none := by
           cases q : F5 D with
           | none => rfl
           | some o =>
            rcases e5.new D o q with z | z
            ·rw [nF3] at z; cases z
            ·rcases z with z | ⟨_, z⟩ <;> rw [hD3] at z <;> cases z
          have new5 : ∀ a o, F5 a = some o → F0 a = some o ∨ Nw H0 a := fun a o q => by
           rcases e5.new a o q with z | z
           ·exact new3 a o z
           ·exact .inr (z.back ((sH.trans e2.hle).trans e3.hle))
          have f05 : Same F1 F5 := (e2.fle.trans e3.fle).trans e5.fle
          have ralen := ry.length
          refine ⟨acc, hD4, by omega, F5, ys ++ [y], zs1, acc ++ [w4], s01.trans f05, fun a o q => ?_, nF5, upd_same, (RpL.mono f05 _ _ ry).append (RpL.cons ry5 RpL.nil), by simp; omega, k2, by rw [hz, k3]; simp, ?_, new5⟩
          ·have na : a ≠ D := fun z => by subst z; rw [nF5] at q; cases q
           rw [upd_ne na]
           exact e5.sub a o q
          ·exact ((sH.trans e2.hle).trans (e3.hle.trans e5.hle)).wr nD hD4
    ·have ei : i = items.length := by omega
     subst ei
     rw [List.drop_length] at hl
     cases hl
     refine .inl ⟨itok.stop F1 H1 s01 s1, ?_⟩
     have ex : Ext F H F1 H1 := ⟨s1, e0.fle.trans s01, e0.hle.trans sH, fun a o q => by
      rcases hnew a o q with z | z
      ·exact e0.new a o z
      ·exact .inr (z.back e0.hle)⟩
     refine h F1 H1 (.ref D) ex ⟨[D], ?_, by simp, fun a ha => ?_⟩
     ·simp only [OwM]
      refine ⟨D, rfl, rfl, acc, hD, ?_⟩
      rw [hz, List.append_nil]
      exact ry
     ·obtain rfl : a = D := by simpa using ha
      exact ⟨e0.hle.free nD, nF1⟩
theorem oQ {it tg c f} {js : List Nat} {elt t iter : Expr} {ifs : List Expr} {scope : Scope} {own : List (Str × Nat)} {pos : Pos} (hc : X.calm = true) (hN : X.N.Nodup) (ok : BlkOk X.N X.env.scope scope own) (hj : ∀ j ∈ js, j ∈ own.map (·.2)) (hi : QI cl X W it t iter)
  (hg : ∀ (s : Shared) (H : Hp) (C : Addr) (cls : List (Str × Addr)) (fp : List Addr), QG cl (X.blk s H scope (compEnvC scope cls C X.env) fp) js tg t) (ht : ∀ (s : Shared) (H : Hp) (C : Addr) (cls : List (Str × Addr)) (fp : List Addr), QTs cl (X.blk s H scope (compEnvC scope cls C X.env) fp) W0 c ifs)
  (he : ∀ (s : Shared) (H : Hp) (C : Addr) (cls : List (Str × Addr)) (fp : List Addr), QE cl (X.blk s H scope (compEnvC scope cls C X.env) fp) W0 f elt) (hs : ∀ x, foldedSetIterable iter X.env x = pure x := by intro _; rfl) :
  QE cl X W (xLc it tg c f (own.map (·.2))) (.ListComp elt [⟨t, iter, ifs, 0⟩] scope pos) :=
 ⟨(pe_lc (g := mH X.K cl js tg) (tt := tqT X.K cl W0 c) (te := tq X.K cl W0 f) hc hN hi.pi ok (fun s H C cls fp => (hg s H C cls fp).pg) (fun s H C cls fp => (ht s H C cls fp).pt) (fun s H C cls fp => (he s H C cls fp).pe) hs).imp fun σ H Q h => lR hj h⟩
end
end Z
namespace Z
open PySem L2
section
open PySem.W PySem.Calls PyProof.Rows PySem.Spec
variable {prog : Program} {w : World} {A : Around} {E : Value → Shared → Prop} {s : Shared} {K : Frag} {x D : Addr} {ox : Obj} {od : Option Obj}
theorem fm {C : Addr} {name : Str} {a g : Value} (hc : (clsIn K C).isSome = true) (ha : findIn K (.ref C) name = some (some a)) (hg : specialIn K a "__get__" = some (some g)) (ht : takesIn K a = some true) : findObj K C od name = some (.bind g a) := by
 obtain ⟨cd, hc⟩ := Option.isSome_iff_exists.mp hc
 cases od <;> (unfold findObj; rw [hc, Option.bind_some, ha, Option.bind_some]; simp [hg, ht])
theorem jK {Q : Option Value → Shared → Prop} (C : ExcC K D) (X : K.In s.heap) (I : InstAt s.heap x ox D od) (h : Q (some (.ref D)) { s with toks := s.toks + 1 }) : wpAny (model prog w) A (getAttr? (.ref x) "__class__") Q E s := by
 have hc : (clsIn K D).isSome = true := by obtain ⟨cd, hc, _⟩ := any_some C.hd; rw [hc]; rfl
 have hf := fm (od := od) hc C.ha C.hn C.ht
 obtain ⟨hp, g, d, t, os⟩ := s
 have isC := I.type (M := model prog w)
 have isE : Looks (model prog w) hp (isInstance (.ref x) (.type "BaseException")) true := isC.andThen (looks_subIn X C.hs)
 have no2 : (Value.builtin "BaseException.__getattribute__" == Value.builtin "object.__getattribute__") = false := by decide +kernel
 have no1 : (onTheHeap (Value.ref D) && Value.builtin "BaseException.__getattribute__" == Value.builtin "object.__getattribute__") = false := by rw [no2]; rfl
 unfold getAttr? getAttrBy? getAttrBy
 refine wpAny_bind (wpAny_mkText (wpAny_bind (wpAny_attempt (wpAny_holding (wpAny_bind (isC.at (wpAny_bind ((looks_findIn X C.hg).at ?_))))))))
 show wpAny _ _ (if (onTheHeap (Value.ref D) && Value.builtin "BaseException.__getattribute__" == Value.builtin "object.__getattribute__") = true then _ else _) _ _ _
 rw [no1, if_neg Bool.false_ne_true]
 unfold getAttrByItsOwn hookBefore
 refine wpAny_bind ?_
 rw [if_pos (show onTheHeap (Value.ref D) = true from rfl)]
 refine (looks_findIn X C.hk).at (wpAny_bind (wpAny_attempt (wpAny_holding ?_)))
 unfold callGetattribute
 rw [show (false && onTheHeap (Value.builtin "BaseException.__getattribute__")) = false from rfl, if_neg Bool.false_ne_true]
 unfold boundAndCalled
 rw [PySem.F.excAttr_ValueError.ga.bind (.ref x)]
 refine wpAny_bind (wpAny_pure ?_)
 show wpAny _ _ (call (.builtin "BaseException.__getattribute__") [.ref x, .str "__class__" t]) _ _ _
 refine wpAny_call (codeAny_call_builtin PySem.F.excAttr_ValueError.ga.plain PySem.F.entry_bexc_ga ?_)
 refine @check_slot (model prog w) _ _ ⟨hp, g, d, t + 1, os⟩ "BaseException.__getattribute__" "BaseException" "__getattribute__" (.ref x) [.str "__class__" t] [] _ (by decide +kernel) (by decide +kernel) isE (PySem.F.args_bexc_ga (.ref x) (.str "__class__" t)) ?_
 unfold Builtin.«object.__getattribute__»
 refine wpAny_bind (wpAny_of_eq (a := ((Value.ref x : Value), [Value.str "__class__" t])) (by first | rfl | (simp only [slotArgs]; rfl)) ?_)
 refine wpAny_bind (wpAny_pure (wpAny_bind (isC.at (wpAny_bind ((looks_find X I hf).at ?_)))))
 show wpAny _ _ (holding [Value.builtin "object.__class__"] (call (.builtin "getset_descriptor.__get__") [.builtin "object.__class__", .ref x, .ref D]) >>= ret) _ _ _
 refine wpAny_bind (wpAny_holding (wpAny_call (class_get (s := ⟨hp, g, d, t + 1, os⟩) (ox := ox) (od := od) X I C.hm (wpAny_pure ?_))))
 show wpAny _ _ (handedOut (.ref D)) _ _ _
 rw [handedOut_of (v := .ref D) rfl]
 first
  | exact wpAny_pure (wpAny_pure h)
  | exact wpAny_pure h
  | exact wpAny_pure (wpAny_bind (wpAny_pure (wpAny_pure h)))
theorem kL (hd : hasDictIn K D = true) : ∃ o cd, K.lookup D = some o ∧ o.data = .cls cd := by
 obtain ⟨cd, hc, _⟩ := any_some hd
 unfold clsIn at hc
 split at hc
 ·rename_i ho; exact ⟨_, _, ho, rfl⟩
 ·cases hc
theorem kA (C : ExcC K D) : KitX K (.ref x) (.ref D) (fun h => ∃ ox od, InstAt h x ox D od) where
 ty := fun _ _ _ ⟨_, _, I⟩ => I.type
 it := fun _ _ X _ => by
  obtain ⟨⟨oc, odd, da, sl⟩, cd, ho, hd⟩ := kL C.hd
  dsimp only at hd
  subst hd
  intro A' Q' E' s' k q
  unfold isType loadHead
  exact wpAny_bind (wpAny_loadPart (k _ _ (X _ _ ho)) (wpAny_pure q))
 ne := fun h tp dd its n sl X htp => by
  obtain ⟨o, cd, ho, hd⟩ := kL C.hd
  refine Bool.eq_false_iff.mpr fun q => ?_
  obtain rfl : D = tp := Value.ref.inj (beq_iff_eq.mp q)
  have z := (X _ _ ho).symm.trans htp
  cases z
  cases hd
 ca := fun X ⟨_, _, I⟩ k => jK C X I k
end
theorem kJ {P : Program} {w : World} {H : Hp} {h : Heap} {a C : Addr} {d : Option Addr} {vs : List (Str × V)} (ok : HOk P w H h) (e : H a = some (ExV a C d)) (x : ExD H d vs) : ∃ oe od, PySem.W.InstAt h a oe C od ∧
  ∀ (K : PySem.W.Frag) f v, PySem.W.hasDictIn K C = true → PySem.W.findIn K (.ref C) f = some none → vs.lookup f = some v → ∃ u, PySem.W.findObj K C od f = some (.value u) ∧ RelV v u := by
 have ho := ok a _ e
 obtain ⟨⟨oe, fs, ha, hz, hd⟩, _, _⟩ := ho
 rcases x with ⟨rfl, rfl⟩ | ⟨dx, rfl, hx⟩
 ·refine ⟨oe, none, ⟨ha, hz.1, by unfold PySem.W.notCls; rw [hd] <;> rfl, by rw [hz.2]; trivial⟩, fun K f v _ _ l => by cases l⟩
 ·obtain ⟨mA, hns, hr⟩ := (show ObjOk P w H h dx (.xd vs) from ok dx _ hx)
  obtain ⟨od, ho, hl⟩ := lookIn_ns hns
  refine ⟨oe, some od, ⟨ha, hz.1, by unfold PySem.W.notCls; rw [hd] <;> rfl, by rw [hz.2]; exact ho⟩, fun K f v hdC hno l => ?_⟩
  obtain ⟨u, hu, ru⟩ := RelO.some_of (v := v) (o := mA f) (by rw [← l]; exact hr f)
  exact ⟨u, PySem.W.findObj_own hdC hno rfl (by rw [hl, hu]), ru⟩
def TyZ (K : PySem.W.Frag) (H : Hp) (x : V) (t : Value) : Prop := TyX K H x t ∨ (∃ a C d vs, x = .ref a ∧ t = .ref C ∧ H a = some (ExV a C d) ∧ ExD H d vs ∧ ExcC K C) ∨ ∃ a o es, x = .ref a ∧ t = .type "dict" ∧ H a = some (.frz o (.dT es))
theorem TyZ.kit {X : Cx} {pins : List (Addr × Obj)} {σ : L2.St} {H : Hp} {s : Shared} {x : V} {u t : Value} (I : Inv X pins σ H s) (rx : RelV x u) (ty : TyZ X.K H x t) : ∃ P : Heap → Prop, PySem.W.KitX X.K u t P ∧ P s.heap ∧ u ≠ .builtin "__main__.__loader__#opaque" := by
 rcases ty with ty | ⟨a, C, d, vs, rfl, rfl, ea, x, ec⟩ | ⟨a, ob, kvs, rfl, rfl, ea⟩
 ·exact kit_of I rx ty
 ·obtain rfl : u = Value.ref a := rx
  obtain ⟨oe, od, J, _⟩ := kJ I.hok ea x
  exact ⟨_, kA ec, ⟨_, _, J⟩, fun z => nomatch z⟩
 ·obtain rfl : u = Value.ref a := rx
  obtain ⟨_, _, _, xs, _, o, es, ep, h1, h2, _⟩ := (show ObjOk X.prog X.w H s.heap a (.frz ob (.dT kvs)) from I.hok a _ ea)
  exact ⟨_, PySem.W.kitx_dict, ⟨o, h1, h2.1⟩, fun z => nomatch z⟩
def oH (K : PySem.W.Frag) : List V → Hp → VK → Prop := fun xs H Q => ∃ (x c : V) (t u : Value) (b : Bool), xs = [x, c] ∧ ClsV c u ∧ TyZ K H x t ∧ PySem.W.kitOne K t u = some b ∧ Q (.bl b) H
def oI (K : PySem.W.Frag) : List V → Hp → VK → Prop := fun xs H Q => ∃ (x : V) (tp : Addr) (cs : List V) (t : Value) (us : List Value) (b : Bool), xs = [x, .ref tp] ∧ H tp = some (.tup cs) ∧ Paired ClsV cs us ∧ TyZ K H x t ∧ PySem.W.kitAny K t us = some b ∧ Q (.bl b) H
theorem kM {X : Cx} : CallR X (.builtin "isinstance") (oH X.K) := by
 rintro pins s σ H xs us Q I r ⟨x, c, t, u, b, rfl, k, ty, e, q⟩
 obtain ⟨u1, u2, rfl, r1, r2⟩ := vals2 r
 obtain rfl := k.eq r2
 obtain ⟨P, Z, p, hx⟩ := ty.kit I r1
 exact PySem.W.kia_one Z I.kIn p e hx fun tk => ⟨.bl b, H, I.tok tk, rfl, q⟩
theorem jL {X : Cx} : CallR X (.builtin "isinstance") (oI X.K) := by
 rintro pins s σ H xs us Q I r ⟨x, tp, cs, t, ws, b, rfl, hT, k, ty, e, q⟩
 obtain ⟨u1, u2, rfl, r1, r2⟩ := vals2 r
 obtain rfl : u2 = Value.ref tp := r2
 obtain ⟨P, Z, p, hx⟩ := ty.kit I r1
 obtain ⟨_, its, rv, ⟨oc, od, dt, sl⟩, h1, h2, n, h3⟩ := (show ObjOk X.prog X.w H s.heap tp (.tup cs) from I.hok tp _ hT)
 obtain rfl := ClsV.all k rv
 simp only at h2 h3
 subst h2 h3
 exact PySem.W.kia_tup Z I.kIn p h1 e hx fun tk => ⟨.bl b, H, I.tok tk, rfl, q⟩
def tXF (K : PySem.W.Frag) (f : Str) (te : TE) : TE := fun σ H Q => te σ H fun x H1 => ∃ a C d vs v, x = .ref a ∧ H1 a = some (ExV a C d) ∧ ExD H1 d vs ∧ XfC K C ∧ PySem.W.findIn K (.ref C) f = some none ∧ vs.lookup f = some v ∧ Q v H1
theorem oX {X : Cx} {e : Expr} {te : TE} {pos : Pos} {n : Str} (he : PE X e te) (hb : attributeBase e n X.env (eval e X.env) = eval e X.env := by rfl) : PE X (.Attribute e n pos) (tXF X.K n te) := by
 refine ⟨fun pins s σ H Q I h => attr_of hb (thn (he.run pins s σ H _ I h) ?_)⟩
 rintro u s1 ⟨_, H1, I1, rx, a, C, d, vs, v, rfl, ea, x, T, hno, l, q⟩
 obtain rfl : u = Value.ref a := rx
 obtain ⟨oe, od, J, g⟩ := kJ I1.hok ea x
 obtain ⟨y, hy, ry⟩ := g X.K n v T.hdC hno l
 exact HandSPX.exc_get I1.kIn J T.ga T.gg T.exC hy (handed_of ry) ⟨v, H1, I1.tok _, ry, q⟩
end Z
namespace Z
open PySem L2
def SmT (T : Tb) (F H : Hp) : Prop := Same F H ∧ TabsOk T F H
theorem Rel.st {T : Tb} {F H F' H' : Hp} {A σ γ} (R : Rel T F A σ H γ) (e : Ext F H F' H') : SmT T F' H' := ⟨e.sub, (R.ext e).tabs⟩
def spQ (K : PySem.W.Frag) (cl : Cl) (f : List PV → R PV) : Sp := fun vs H Q E => ∃ F xs, SmT ⟨K, cl⟩ F H ∧ RpL ⟨K, cl⟩ F xs vs ∧ match f xs with
 | .ok x => ∀ F' H' v, Ext F H F' H' → Rp ⟨K, cl⟩ F' x v → Q v H'
 | .er e => ∀ F' H' c d, Ext F H F' H' → XcR ⟨K, cl⟩ F' e c d → E c d H'
 | .no => False
def hU : Os → R PV
 | .rt x _ => .ok x
 | .nx _ => .ok .non
 | .er e _ => .er e
 | _ => .no
def frame (nl : Nat) (xs : List PV) : Env := xs.map (.sl .fz) ++ List.replicate (nl - xs.length) .un
def run (np nl : Nat) (body : Env → Os) (xs : List PV) : R PV := if xs.length = np then hU (body (frame nl xs)) else .no
theorem gW {T : Tb} {F H : Hp} (tb : TabsOk T F H) : ∀ {xs : List PV} {vs : List V} (n : Nat), RpL T F xs vs → OwE T F H (xs.map (.sl .fz) ++ List.replicate n .un) (vs.map some ++ List.replicate n none) []
 | [], vs, n, h => by
  simp only [RpL] at h; subst h
  simp only [List.map_nil, List.nil_append]
  induction n with
  | zero => simp [OwE, tb]
  | succ n ih => simp only [List.replicate_succ, OwE]; exact ⟨none, _, rfl, ih⟩
 | x :: xs, vs, n, h => by
  simp only [RpL] at h
  obtain ⟨v, ws, rfl, p, q⟩ := h
  simp only [List.map_cons, List.cons_append, OwE]
  exact ⟨v, _, [], [], rfl, rfl, OwM.fz_of p, gW tb n q⟩
theorem l9 {K : PySem.W.Frag} {cl : Cl} {X : Cx} {body : Env → Os} {N : List Str} {np : Nat} {vs : List V} {H : Hp} {Q : VK} {E : XK} {W : WX} (hK : X.K = K) (hW : ∀ c d σ H, E c d H → W c d σ H) (ho : iG cl = false) (h : spQ K cl (run np N.length body) vs H Q E) :
  tqS X cl W body { nx := fun _ H' => Q .non H', rt := Q } (L2.start N vs) H := by
 obtain ⟨F, xs, s, r, h⟩ := h
 subst hK
 unfold run at h
 by_cases hl : ¬ xs.length = np
 ·rw [if_neg hl] at h; exact h.elim
 replace hl := Decidable.not_not.mp hl
 rw [if_pos hl] at h
 refine ⟨F, [], frame N.length xs, ⟨s.1, ?_, by simp, by simp⟩, ?_⟩
 ·unfold frame L2.start
  rw [r.length]
  exact gW s.2 _ r
 have ex : ∀ {F' A' σ' H' γ'}, Step F [] H F' A' H' → Rel ⟨X.K, cl⟩ F' A' σ' H' γ' → Ext F H F' H' := fun st rel => ⟨rel.sub, st.fle, ⟨fun a o q n => st.keep a o (by simp) q n, st.z⟩, fun a o q => by
  rcases st.new a o q with z | z | z
  ·exact .inl z
  ·simp at z
  ·exact .inr z⟩
 cases e : body (frame N.length xs) with
 | nx γ' => rw [e] at h; exact fun F' A' σ' H' st rel => h F' H' .non (ex st rel) (by simp [Rp])
 | rt x γ' => rw [e] at h; exact fun F' A' σ' H' v st rel rv => h F' H' v (ex st rel) (Rt.to ho rv)
 | er x γ' => rw [e] at h; exact fun F' A' σ' H' c d st rel rv => hW _ _ _ _ (h F' H' c d (ex st rel) rv)
 | bk γ' => rw [e] at h; exact h.elim
 | ct γ' => rw [e] at h; exact h.elim
 | no => rw [e] at h; exact h.elim
theorem lh {K : PySem.W.Frag} {cl : Cl} {np nl body vs H Q E} (h : spQ K cl (run np nl body) vs H Q E) : vs.length = np := by
 obtain ⟨F, xs, s, r, h⟩ := h
 unfold run at h
 by_cases hl : xs.length = np
 ·rw [r.length]; exact hl
 ·rw [if_neg hl] at h; exact h.elim
section
variable {P : Program} {w : World} {K : PySem.W.Frag} {mg : Str → Option Value} {base : Heap}
end
def R.noer {α : Type} : R α → R α
 | .er _ => .no
 | r => r
@[simp] theorem R.noer_ok {α : Type} (a : α) : (R.ok a).noer = .ok a := (rfl)
def bD (g : List PV → R PV) (fs : Env → R (List PV)) : Ex := fun γ => (fs γ).bind fun xs => ((g xs).noer).map .z
def fH (g : List PV → R PV) (fs : Env → R (List PV)) : Ex := fun γ => (fs γ).bind fun xs => (g xs).map .z
@[simp] theorem R.map_ok {α β : Type} (f : α → β) (a : α) : (R.ok a).map f = .ok (f a) := (rfl)
section
variable {X : Cx} {cl : Cl} {W : WX}
def tyN : PV → String
 | .non => "NoneType"
 | .bl _ => "bool"
 | .int _ => "int"
 | .str _ => "str"
 | .tup _ => "tuple"
 | .lst _ => "list"
 | .dct _ _ => "dict"
 | .set _ => "set"
 | .obj c _ => c
 | .exc c _ => c
 | .nul => "tuple"
def tys : List String := ["NoneType", "bool", "int", "str", "tuple", "list", "dict", "set"]
def cM : PV → Bool
 | .obj _ _ => true
 | .exc _ _ => true
 | _ => false
structure ClsI (K : PySem.W.Frag) (C : Addr) : Prop where
 cl : Cls K C
 ha : PySem.W.findIn K (.ref C) "__class__" = some (some (.builtin "object.__class__"))
 hn : PySem.W.specialIn K (.builtin "object.__class__") "__get__" = some (some (.builtin "getset_descriptor.__get__"))
 htk : PySem.W.takesIn K (.builtin "object.__class__") = some true
 hm : PySem.W.mroIn K C (.type "object") = some true
structure ClOk (K : PySem.W.Frag) (cl : Cl) : Prop where
 i : ∀ c C, cl.i c = some C → ClsI K C
 e : ∀ c C, cl.e c = some C → ExcC K C
structure KitOk (K : PySem.W.Frag) (cl : Cl) (u : Value) (g : PV → Bool) : Prop where
 b : ∀ x, cM x = false → PySem.W.kitOne K (.type (tyN x)) u = some (g x)
 i : ∀ c fs C, cl.i c = some C → PySem.W.kitOne K (.ref C) u = some (g (.obj c fs))
 e : ∀ c fs C, cl.e c = some C → PySem.W.kitOne K (.ref C) u = some (g (.exc c fs))
theorem iQ {x : PV} (h : cM x = false) : tyN x ∈ tys := by
 cases x <;> simp [tyN, tys] <;> simp [cM] at h
def tyV (cl : Cl) (x : PV) (t : Value) : Prop := match x with
 | .obj c _ => ∃ C, cl.i c = some C ∧ t = .ref C
 | .exc c _ => ∃ C, cl.e c = some C ∧ t = .ref C
 | x => t = .type (tyN x)
theorem jW {T : Tb} {F H : Hp} {x : PV} {v : V} (O : ClOk T.K T.cl) (s : Same F H) (h : Rv T F H x v) : ∃ t, tyV T.cl x t ∧ TyZ T.K H v t := by
 cases x with
 | non => rw [h.non]; exact ⟨_, rfl, .inl (.base .non)⟩
 | bl b => rw [h.bl]; exact ⟨_, rfl, .inl (.base (.bl b))⟩
 | int b => rw [h.int]; exact ⟨_, rfl, .inl (.base (.int b))⟩
 | str b => rw [h.str]; exact ⟨_, rfl, .inl (.base (.str b))⟩
 | tup xs => obtain ⟨a, vs, rfl, q, _⟩ := h.tup s; exact ⟨_, rfl, .inl (.base (.tup q))⟩
 | lst xs =>
  obtain ⟨a, vs, rfl, q, _⟩ := h.lstR s
  rcases q with q | ⟨o, q⟩
  ·exact ⟨_, rfl, .inl (.base (.lst q))⟩
  ·exact ⟨_, rfl, .inl (.base (.frz q))⟩
 | dct t xs =>
  obtain ⟨a, ks, rfl, q, _⟩ := h.dct s
  cases t with
  | false =>
   obtain ⟨es, q, _⟩ := q
   rcases q with q | ⟨o, q⟩
   ·exact ⟨_, rfl, .inl (.base (.dK q))⟩
   ·exact ⟨_, rfl, .inl (.fDict q)⟩
  | true =>
   obtain ⟨es, q, _⟩ := q
   rcases q with q | ⟨o, q⟩
   ·exact ⟨_, rfl, .inl (.base (.dT q))⟩
   ·exact ⟨_, rfl, .inr (.inr ⟨_, o, es, rfl, rfl, q⟩)⟩
 | set xs =>
  obtain ⟨a, rfl, ns, S, _, _, q, _⟩ := h.set s
  exact ⟨_, rfl, .inl (.set q)⟩
 | obj c fs =>
  obtain ⟨a, C, dx, vs, rfl, hc, q⟩ := h.obj s
  have ci := O.i c C hc
  exact ⟨_, ⟨C, hc, rfl⟩, .inl (.base (.ins q ci.cl ci.ha ci.hn ci.htk ci.hm))⟩
 | exc c fs =>
  obtain ⟨a, C, d, vs, rfl, hc, _, q, x, _⟩ := h.exc s
  exact ⟨_, ⟨C, hc, rfl⟩, .inr (.inl ⟨a, C, d, vs, rfl, rfl, q, x.mono s, O.e c C hc⟩)⟩
 | nul =>
  obtain ⟨a, rfl, od, n, sl, e⟩ := h.nul
  exact ⟨_, rfl, .inl (.kTuple e rfl)⟩
theorem KitOk.at {K : PySem.W.Frag} {cl : Cl} {u t : Value} {g : PV → Bool} (k : KitOk K cl u g) {x : PV} (h : tyV cl x t) : PySem.W.kitOne K t u = some (g x) := by
 cases x with
 | obj c fs => obtain ⟨C, hc, rfl⟩ := h; exact k.i c fs C hc
 | exc c fs => obtain ⟨C, hc, rfl⟩ := h; exact k.e c fs C hc
 | _ => cases h; exact k.b _ rfl
def xIs (g : PV → Bool) (f : Ex) : Ex := x1 (fun x => .ok (.z (.bl (g x)))) f
theorem bM {u : Value} {cv : V} {g : PV → Bool} {f} {e ce : Expr} {p pos : Pos} (O : ClOk X.K cl) (k : KitOk X.K cl u g) (cu : ClsV cv u) (hm : X.mg "isinstance" = none) (hc : PE X ce (tC cv)) (he : QE cl X W f e) (hg : Gl X "isinstance" := by rfl)
  (hs1 : starEach (e :: [ce]) X.env = (false, eval e X.env) :: starEach [ce] X.env := by rfl) (hs2 : starEach [ce] X.env = (false, eval ce X.env) :: starEach [] X.env := by rfl)
  (hpl : (backTo pos (starEach [ce] X.env)).any (·.1) = false := by rfl) : QE cl X W (xIs g f) (.Call (.Name "isinstance" p) [e, ce] [] pos) := by
 refine ⟨(pe_callB kM hg hm (by decide +kernel) (pa_cons he.pe (pa_cons hc pa_nil hs2) hs1) (by decide) (by decide) hs1 hpl).imp fun σ H Q h => ?_⟩
 refine tq1 (r := fun x H1 Q => oH X.K [x, cv] H1 Q) (fun _ _ h => by cases h) (fun F H x v Q s rx h => ?_) h
 obtain ⟨t, tx, ty⟩ := jW O s rx
 exact ⟨v, cv, t, u, g x, rfl, cu, ty, k.at tx, by simpa using h.bl s⟩
theorem gc {K : PySem.W.Frag} {cl : Cl} {t : Value} {x : PV} (h : tyV cl x t) : ∀ {us : List Value} {gs : List (PV → Bool)}, Paired (KitOk K cl) us gs → PySem.W.kitAny K t us = some (gs.any fun g => g x)
 | _, _, .nil => rfl
 | _, _, .cons k r => by
  have e := k.at h
  have ih := gc h r
  unfold PySem.W.kitAny
  rw [e]
  simp only [List.any_cons]
  split
  ·rename_i z; rw [Option.some.inj z]; rfl
  ·rename_i z; rw [Option.some.inj z, ih]; rfl
  ·rename_i z; cases z
theorem ml {us : List Value} {cvs : List V} {gs : List (PV → Bool)} {f} {e : Expr} {ces : List Expr} {t : TA} {k : Nat} {p pos pos2 : Pos} (O : ClOk X.K cl) (ks : Paired (KitOk X.K cl) us gs) (cu : Paired ClsV cvs us) (hl : cvs.length ≤ 100) (hm : X.mg "isinstance" = none)
  (hc : PA X ces t) (hct : ∀ σ H (Q : List V → Hp → Prop), Q cvs H → t σ H Q) (he : QE cl X W f e) (hg : Gl X "isinstance" := by rfl)
  (hs1 : starEach (e :: [.Tuple ces k pos2]) X.env = (false, eval e X.env) :: starEach [.Tuple ces k pos2] X.env := by rfl) (hs2 : starEach [.Tuple ces k pos2] X.env = (false, eval (.Tuple ces k pos2) X.env) :: starEach [] X.env := by rfl)
  (hpl : (backTo pos (starEach [.Tuple ces k pos2] X.env)).any (·.1) = false := by rfl) : QE cl X W (xIs (fun x => gs.any fun g => g x) f) (.Call (.Name "isinstance" p) [e, .Tuple ces k pos2] [] pos) := by
 refine ⟨(pe_callB jL hg hm (by decide +kernel) (pa_cons he.pe (pa_cons (pe_tup hc) pa_nil hs2) hs1) (by decide) (by decide) hs1 hpl).imp fun σ H Q h => ?_⟩
 refine tq.bind (g := fun l γ => .ok (.z (.bl (gs.any fun g => g l.x)))) h fun F A γ l F1 H1 v rel ef e1 r1 h => ?_
 refine hct σ H1 _ ⟨by rw [sizeLine_eq]; omega, fun q nq => ?_⟩
 obtain ⟨t, tx, ty⟩ := jW O e1.sub r1.rv
 have e2 : Ext F1 H1 F1 (upd H1 q (.tup cvs)) := Ext.newO e1.sub nq
 obtain ⟨t2, tx2, ty2⟩ := jW O e2.sub (r1.rv.ext e2)
 exact ⟨v, q, cvs, t2, us, _, rfl, upd_same, cu, ty2, gc tx2 ks, h F1 _ _ e2 (VlR.zz (by simp [Rp]))⟩
def isC (cs : List String) (x : PV) : Bool := cM x && cs.contains (tyN x)
theorem bj {K : PySem.W.Frag} {cl : Cl} {D : Addr} {cs : List String} (hk : ∀ t ∈ tys, PySem.W.kitOne K (.type t) (.ref D) = some false) (hi : ∀ c C, cl.i c = some C → PySem.W.kitOne K (.ref C) (.ref D) = some (cs.contains c)) (he : ∀ c C, cl.e c = some C → PySem.W.kitOne K (.ref C) (.ref D) = some (cs.contains c)) : KitOk K cl (.ref D) (isC cs) :=
 ⟨fun x h => by rw [isC, h]; exact hk _ (iQ h), fun c fs C h => hi c C h, fun c fs C h => he c C h⟩
end
end Z
namespace SetL
open PySem PySem.Spec PyProof.Rows L2
abbrev nso (w : World) : Obj := { cls := .type "set", dict := none, data := .set #[] 0 (.fresh 0 0 (!w.params.followText "set-order")) }
set_option maxHeartbeats 4000000 in
theorem gY {P : Program} {w : World} {A : Around} {E : Value → Shared → Prop} {s : Shared} {l : Addr} {items : Array Value} (ns : List Int) {Q : Value → Shared → Prop}
  (hh : A.handled = none) (hl : s.heap.IsList l items) (hit : IntsAre items.toList ns) (hb : ns.length + 1 < scanBound)
  (fin : ∀ (h' : Heap) (tk c : Nat), SetR w h' s.heap.objs.size (fun j => decide (j ∈ ns)) c → c ≤ ns.length → (∀ b o, s.heap.get? b = some o → h'.get? b = some o) → Q (.ref s.heap.objs.size) { s with heap := h', toks := tk }) :
  wpAny (model P w) A (call (.type "set") [.ref l]) Q E s := by
 have sz : items.size = ns.length := by have q := IntsAre.length hit; rwa [Array.length_toList] at q
 obtain ⟨c, tl, hmro⟩ := F.called_set.mro
 have m1 := F.called_set.made
 have m2 := F.called_set.sub
 have m3 := F.called_set.notType
 have m4 := F.called_set.canCreate
 have m5 := F.typeCall_set_1 (.ref l)
 have ilk := F.called_set.init.lookup
 have ibd := F.called_set.init.bind (.ref s.heap.objs.size)
 apply wpAny_call
 apply codeAny_of_tree
 show wpAny _ _ (callAny (.type "set") _) _ _ _
 refine wpAny_pure ⟨Code.quiet_builtin _ (by decide +kernel), codeAny_builtin F.entry_type_call ?_⟩
 rw [Around.under_plain (weight_type_call_type "set" [.ref l] []) rfl]
 repeat (any_goals (first | assumption | wp_step))
 refine codeAny_mono (code_set_led1 (.ref l) (E := E) (Q₁ := fun o1 s₁ => o1 = .ref s.heap.objs.size ∧ s₁ = { s with heap := s.heap.push (nso w) }) ⟨rfl, rfl⟩) fun r s₁ hr => ?_
 cases r with
 | error _ => exact hr
 | ok fl =>
  cases fl with
  | next => exact hr
  | brk => exact hr
  | cont => exact hr
  | ret o1 =>
   obtain ⟨rfl, rfl⟩ := hr
   have gS : (s.heap.push (nso w)).get? s.heap.objs.size = some (nso w) := Heap.get?_push_size _ rfl
   have tS : Shared.TypeIs { s with heap := s.heap.push (nso w) } (.ref s.heap.objs.size) "set" := ⟨_, gS, rfl⟩
   repeat (any_goals (first | assumption | wp_step))
   refine codeAny_mono (codeAny_call_builtin (R := wants (fun r s₂ => r = .none ∧ ∃ h' tk c, s₂ = { s with heap := h', toks := tk } ∧ SetR w h' s.heap.objs.size (fun j => decide (j ∈ ns)) c ∧ c ≤ ns.length ∧ ∀ b o, s.heap.get? b = some o → h'.get? b = some o) E)
    F.called_set.init.plain F.entry_set_init (check_set_init_1 tS ?_)) fun r₂ s₂ hr₂ => ?_
   ·obtain ⟨⟨oc, od, odt, osl⟩, hol, hcl, nl, hdl⟩ := id hl
    simp only at hcl hdl
    subst hcl; subst hdl
    have k0 : (s.heap.push (nso w)).get? l = some { cls := .type "list", dict := od, data := .seq items nl, slots := osl } := Heap.get?_push_of_some _ hol
    have b1 := F.sub_list_set
    have b2 := F.sub_list_frozenset
    have b3 : (Value.type "list" == Value.type "dict") = false := by decide
    have k1 : (s.heap.push (nso w)).IsList l items := ⟨_, k0, rfl, nl, rfl⟩
    unfold Builtin.«set.__init__» noKeywords Builtin.Frozenset.updateFrom
    generalize hPI : pyIter = PI
    wp_walk
    subst hPI
    refine wpAny_pyIter_list k1 (wpAny_bind (wpAny_runValue ?_))
    have lt : l < s.heap.objs.size := Heap.lt_size hol
    have zI : (s.heap.push (nso w)).objs.size = s.heap.objs.size + 1 := Heap.size_push ..
    have nI : l ≠ (s.heap.push (nso w)).objs.size := by rw [zI]; exact Nat.ne_of_lt (Nat.lt_succ_of_lt lt)
    have nfp : s.heap.objs.size ∉ [(s.heap.push (nso w)).objs.size, l] := by
     rw [zI]
     simp only [List.mem_cons, List.not_mem_nil, or_false, not_or]
     exact ⟨Nat.ne_of_lt (Nat.lt_succ_self _), Nat.ne_of_gt lt⟩
    have val : ∀ (i : Nat) (v : Value), items[i]? = some v → ∃ k t, ns[i]? = some k ∧ v = .int k t := fun i v hv => by
     have hi : i < ns.length := by rw [← sz]; exact (Array.getElem?_eq_some_iff.mp hv).1
     obtain ⟨t, e⟩ := IntsAre.int_at hit i v (by rw [Array.getElem?_toList]; exact hv)
     exact ⟨ns[i], t, List.getElem?_eq_getElem hi, by rw [e, List.getD_eq_getElem?_getD, List.getElem?_eq_getElem hi] <;> rfl⟩
    refine set_update_ints ((Walks.list (by simp [hh]) _ l nI items).toS) s.heap.objs.size nfp ns sz hb val (items.size - 0) 0 _ (by omega) (Nat.zero_le _) ⟨⟨_, Heap.get?_push_size _ rfl, rfl, rfl⟩, k1.push _⟩
     ⟨0, Nat.le_refl 0, setR_new_at (Heap.get?_push_of_some _ gS)⟩ ?_
    intro s' c' hm hc' hS'
    obtain ⟨h', g2, d', tk', os'⟩ := s'
    obtain rfl : g2 = s.gens := hm.gens
    obtain rfl : d' = s.drawn := hm.drawn
    obtain rfl : os' = s.os := hm.os
    rw [sz] at hc'
    show wpAny _ _ _ _ _ _
    apply wpAny_pure
    show wpAny _ _ (ret Value.none) _ _ _
    refine wpAny_pure ⟨rfl, h', tk', c', rfl, hS', hc', fun b o e => hm.heap b o ?_ (Heap.get?_push_of_some _ (Heap.get?_push_of_some _ e))⟩
    have lb := Heap.lt_size e
    simp only [List.mem_cons, List.not_mem_nil, or_false, not_or]
    rw [zI]
    exact ⟨Nat.ne_of_lt lb, Nat.ne_of_lt (Nat.lt_succ_of_lt lb)⟩
   ·cases r₂ with
    | error _ => exact hr₂
    | ok fl =>
     cases fl with
     | next => exact hr₂
     | brk => exact hr₂
     | cont => exact hr₂
     | ret v =>
      obtain ⟨rfl, h', tk, c', rfl, hS', hc', kk⟩ := hr₂
      repeat (any_goals (first | assumption | wp_step))
      exact fin _ _ _ hS' hc' kk
end SetL
namespace SrtZ
open PySem PySem.Spec PyProof.Rows L2 SrtO
section
variable {prog : Program} {w : World} {A : Around} {E : Value → Shared → Prop} {s : Shared}
end
end SrtZ
namespace L2
open PySem PySem.Spec PyProof.Rows
end L2
namespace Z
open PySem L2
def ins (x : Int) : List Int → List Int
 | [] => [x]
 | y :: ys => if x ≤ y then x :: y :: ys else y :: ins x ys
def ia : List Int → List Int
 | [] => []
 | x :: xs => ins x (ia xs)
theorem eS (x : Int) : ∀ ys, (ins x ys).Perm (x :: ys)
 | [] => .refl _
 | y :: ys => by
  unfold ins
  split
  ·exact .refl _
  ·exact ((eS x ys).cons y).trans (.swap x y ys)
theorem b0 : ∀ xs, (ia xs).Perm xs
 | [] => .refl _
 | x :: xs => (eS x _).trans ((b0 xs).cons x)
theorem eR (x : Int) : ∀ {ys : List Int}, ys.Pairwise (· ≤ ·) → (ins x ys).Pairwise (· ≤ ·)
 | [], _ => by simp [ins]
 | y :: ys, h => by
  unfold ins
  split
  ·rename_i hxy
   refine List.pairwise_cons.mpr ⟨fun z hz => ?_, h⟩
   rcases List.mem_cons.mp hz with rfl | hz
   ·exact hxy
   ·exact Int.le_trans hxy ((List.pairwise_cons.mp h).1 z hz)
  ·rename_i hxy
   refine List.pairwise_cons.mpr ⟨fun z hz => ?_, eR x (List.pairwise_cons.mp h).2⟩
   rcases List.mem_cons.mp ((eS x ys).mem_iff.mp hz) with rfl | hz
   ·omega
   ·exact (List.pairwise_cons.mp h).1 z hz
theorem cZ : ∀ xs : List Int, (ia xs).Pairwise (· ≤ ·)
 | [] => .nil
 | x :: xs => eR x (cZ xs)
theorem dB : ∀ {xs ys : List Int}, xs.Perm ys → xs.Pairwise (· ≤ ·) → ys.Pairwise (· ≤ ·) → xs = ys
 | [], ys, p, _, _ => (List.nil_perm.mp p).symm
 | x :: xs, [], p, _, _ => absurd (List.perm_nil.mp p) (by simp)
 | x :: xs, y :: ys, p, hx, hy => by
  have e : x = y := by
   have h1 : x ∈ y :: ys := p.mem_iff.mp List.mem_cons_self
   have h2 : y ∈ x :: xs := p.mem_iff.mpr List.mem_cons_self
   rcases List.mem_cons.mp h1 with e | h1
   ·exact e
   ·rcases List.mem_cons.mp h2 with e | h2
    ·exact e.symm
    ·exact Int.le_antisymm ((List.pairwise_cons.mp hx).1 y h2) ((List.pairwise_cons.mp hy).1 x h1)
  subst e
  rw [dB (List.Perm.cons_inv p) (List.pairwise_cons.mp hx).2 (List.pairwise_cons.mp hy).2]
def dedup : List Int → List Int
 | [] => []
 | x :: xs => if x ∈ dedup xs then dedup xs else x :: dedup xs
theorem bV {k : Int} : ∀ {xs : List Int}, k ∈ dedup xs ↔ k ∈ xs
 | [] => by simp [dedup]
 | x :: xs => by
  unfold dedup
  split
  ·rename_i h
   rw [bV (xs := xs), List.mem_cons]
   constructor
   ·exact .inr
   ·rintro (rfl | h2)
    ·exact bV.mp h
    ·exact h2
  ·rw [List.mem_cons, bV (xs := xs), List.mem_cons]
theorem bK : ∀ xs : List Int, (dedup xs).Nodup
 | [] => by simp [dedup]
 | x :: xs => by
  unfold dedup
  split
  ·exact bK xs
  ·rename_i h; exact List.nodup_cons.mpr ⟨h, bK xs⟩
def sdd (xs : List Int) : List Int := ia (dedup xs)
theorem lN {k : Int} {xs : List Int} : k ∈ sdd xs ↔ k ∈ xs := (b0 _).mem_iff.trans bV
theorem mO (xs : List Int) : (sdd xs).Pairwise (· < ·) := by
 have h1 := cZ (dedup xs)
 have h2 : (ia (dedup xs)).Nodup := (b0 _).nodup_iff.mpr (bK xs)
 refine (h1.and h2).imp fun {a b} h => ?_
 obtain ⟨h, k⟩ := h
 omega
theorem lO {xs ys : List Int} (h : ∀ k, k ∈ xs ↔ k ∈ ys) (hx : xs.Pairwise (· < ·)) (hy : ys.Pairwise (· < ·)) : xs = ys := by
 refine dB ?_ (hx.imp fun h => Int.le_of_lt h) (hy.imp fun h => Int.le_of_lt h)
 exact (List.perm_ext_iff_of_nodup (hx.imp fun {a b} h => by omega) (hy.imp fun {a b} h => by omega)).mpr h
theorem jT {xs ys : List Int} (h : ∀ k, k ∈ ys ↔ k ∈ xs) (hy : ys.Pairwise (· < ·)) : ys = sdd xs := lO (fun k => (h k).trans lN.symm) hy (mO xs)
theorem gM (xs : List Int) : (dedup xs).length ≤ xs.length := by
 induction xs with
 | nil => simp [dedup]
 | cons x xs ih => unfold dedup; split <;> simp <;> omega
def intsOf : List PV → Option (List Int)
 | [] => some []
 | .int i :: xs => (intsOf xs).map (i :: ·)
 | _ :: _ => none
theorem du : ∀ {xs : List PV} {ns : List Int}, intsOf xs = some ns → xs = ns.map PV.int
 | [], ns, h => by cases h; rfl
 | x :: xs, ns, h => by
  cases x <;> simp [intsOf] at h
  rename_i i
  obtain ⟨ms, h1, rfl⟩ := h
  rw [du h1]; rfl
section
variable {X : Cx} {cl : Cl} {W : WX}
theorem CallR.imp {f : Value} {r r'} (h : CallR X f r) (k : ∀ xs H Q, r' xs H Q → r xs H Q) : CallR X f r' := fun pins s σ H xs us Q I rx q => h pins s σ H xs us Q I rx (k xs H Q q)
theorem iM : CallR X (.builtin "len") (fun xs H Q => ∃ a kvs, xs = [V.ref a] ∧ Rd H a (.dK kvs) ∧ Q (.int kvs.length) H) := by
 intro pins s σ H xs us Q I r h
 obtain ⟨a, kvs, rfl, ha, q⟩ := h
 rw [Vals.ref1 r]
 exact d_len I ha fun t s' I' => ⟨.int kvs.length, H, I', ⟨t, rfl⟩, q⟩
def gB : List PV → R Vl
 | [.lst xs] => .ok (.z (.int xs.length))
 | [.tup xs] => .ok (.z (.int xs.length))
 | [.dct false kvs] => .ok (.z (.int kvs.length))
 | [.str z] => if sm z.length then .ok (.z (.int z.length)) else .no
 | [.nul] => .ok (.z (.int 0))
 | _ => .no
theorem lE : jq gB := fun x e h => by
 unfold gB at h
 split at h <;> first | (split at h <;> cases h) | cases h
theorem RpD.length {T : Tb} {F : Hp} : ∀ {kvs : List (PV × PV)} {ks : List (PV × V)}, RpD T F kvs ks → ks.length = kvs.length
 | [], _, h => by simp only [RpD] at h; subst h; rfl
 | (k, x) :: r, _, h => by
  simp only [RpD] at h
  obtain ⟨v, ws, rfl, _, q⟩ := h
  simp [RpD.length q]
theorem o5 : OpL X cl gB (fun xs H Q => (∃ x n, xs = [x] ∧ LenV X.K x H n ∧ Q (.int n) H) ∨ (∃ a kvs, xs = [V.ref a] ∧ Rd H a (.dK kvs) ∧ Q (.int kvs.length) H)) := by
 intro F H xs vs Q s r h
 unfold gB at h
 split at h
 ·obtain ⟨v, rfl, rv⟩ := r.one
  obtain ⟨a, us, rfl, q, rl⟩ := rv.lst s
  exact .inl ⟨_, us.length, rfl, .inl ⟨us, q, rfl⟩, by rw [rl.length]; exact h.int s⟩
 ·obtain ⟨v, rfl, rv⟩ := r.one
  obtain ⟨a, us, rfl, q, rl⟩ := rv.tup s
  exact .inl ⟨_, us.length, rfl, .inr ⟨us, SqT.of q, rfl⟩, by rw [rl.length]; exact h.int s⟩
 ·obtain ⟨v, rfl, rv⟩ := r.one
  obtain ⟨a, ks, rfl, ⟨es, q, rfl⟩, rl⟩ := rv.dct s
  refine .inr ⟨a, es, rfl, q, ?_⟩
  have e := rl.length
  rw [List.length_map] at e
  rw [e]
  exact h.int s
 ·rename_i z
  obtain ⟨v, rfl, rv⟩ := r.one
  cases e : sm z.length with
  | false => rw [e] at h; exact h.elim
  | true => rw [e] at h; exact .inl ⟨_, z.length, rfl, by rw [rv.str]; exact ⟨cq e, rfl⟩, h.int s⟩
 ·obtain ⟨v, rfl, rv⟩ := r.one
  obtain ⟨a, rfl, k⟩ := rv.nul
  exact .inl ⟨_, 0, rfl, .inr ⟨[], k.sq H, rfl⟩, h.int s⟩
 ·exact h.elim
theorem oP {fs} {e : Expr} {p pos : Pos} (hm : X.mg "len" = none) (ha : QA cl X W fs [e]) (hg : Gl X "len" := by rfl) (he : starEach (e :: []) X.env = (false, eval e X.env) :: starEach [] X.env := by rfl) (hpl : (backTo pos (starEach [] X.env)).any (·.1) = false := by rfl) :
  QE cl X W (xB gB fs) (.Call (.Name "len" p) [e] [] pos) := i4 (CallR.or call_len iM) lE o5 PySem.boot_len hg hm ha (by decide) (by decide) he hpl
def fY : List PV → R Vl
 | [.int i, .int j] => .ok (.z (.int (if j > i then j else i)))
 | _ => .no
theorem mY {fs} {a b : Expr} {p pos : Pos} (hm : X.mg "max" = none) (hc : X.calm = true) (ha : QA cl X W fs [a, b]) (hg : Gl X "max" := by rfl) (he : starEach (a :: [b]) X.env = (false, eval a X.env) :: starEach [b] X.env := by rfl) (hpl : (backTo pos (starEach [b] X.env)).any (·.1) = false := by rfl) :
  QE cl X W (xB fY fs) (.Call (.Name "max" p) [a, b] [] pos) := by
 refine i4 (call_max2 hc) (fun x e h => ?_) (fun F H xs vs Q s r h => ?_) (by decide +kernel) hg hm ha (by decide) (by decide) he hpl
 ·unfold fY at h
  split at h <;> cases h
 ·unfold fY at h
  split at h
  ·obtain ⟨v, u, rfl, rv, ru⟩ := r.two
   exact ⟨_, _, by rw [rv.int, ru.int], h.int s⟩
  ·exact h.elim
def pLst : List PV → R Vl
 | [.lst xs] => .ok (.fr .ow (.lst xs))
 | [.tup xs] => .ok (.fr .ow (.lst xs))
 | [.nul] => .ok (.fr .ow (.lst []))
 | _ => .no
def iz : List PV → R Vl
 | [.lst xs] => .ok (.z (.tup xs))
 | [.tup xs] => .ok (.z (.tup xs))
 | [.nul] => .ok (.z .nul)
 | _ => .no
theorem lu {fs} {a : Expr} {p pos : Pos} (hm : X.mg "tuple" = none) (ha : QA cl X W fs [a]) (hg : Gl X "tuple" := by rfl) (he : starEach (a :: []) X.env = (false, eval a X.env) :: starEach [] X.env := by rfl) (hpl : (backTo pos (starEach [] X.env)).any (·.1) = false := by rfl) :
  QE cl X W (xB iz fs) (.Call (.Name "tuple" p) [a] [] pos) := by
 refine j5 call_tuple_of (fun x e h => ?_) (fun F H xs vs Q s r h => ?_) (by decide +kernel) hg hm ha (by decide) (by decide) he hpl
 ·unfold iz at h
  split at h <;> cases h
 ·unfold iz at h
  split at h
  ·obtain ⟨v, rfl, rv⟩ := r.one
   obtain ⟨a, us, rfl, q, rl⟩ := rv.lst s
   exact ⟨a, us, rfl, .inl ⟨q, fun l nl => aY.tup s nl rl h⟩⟩
  ·obtain ⟨v, rfl, rv⟩ := r.one
   have fx := rv.tupF
   obtain ⟨a, us, rfl, q, rl⟩ := rv.tup s
   exact ⟨a, us, rfl, .inr ⟨SqT.of q, h.of s fx⟩⟩
  ·obtain ⟨v, rfl, rv⟩ := r.one
   obtain ⟨a, rfl, k⟩ := rv.nul
   exact ⟨a, [], rfl, .inr ⟨k.sq H, h.of s (by simp only [Rp]; exact ⟨a, rfl, k⟩)⟩⟩
  ·exact h.elim
def r1 (f : Ex) : Env → R (Int × Int) := fun γ => (f γ).bind fun l => match l.x with
 | .int j => .ok (0, j)
 | _ => .no
def r2 (f g : Ex) : Env → R (Int × Int) := fun γ => (f γ).bind fun l => (g γ).bind fun k => match l.x, k.x with
 | .int i, .int j => .ok (i, j)
 | _, _ => .no
theorem _root_.L2.PRg.imp {X : Cx} {e : Expr} {t t'} (h : PRg X e t) (k : ∀ σ H Q, t' σ H Q → t σ H Q) : PRg X e t' := fun pins s σ H Q I q => h pins s σ H Q I (k σ H Q q)
def oG (K : PySem.W.Frag) (w : World) : List V → Hp → VK → Prop := fun vs H Q => ∃ (a : Addr) (ns : List Int), vs = [V.ref a] ∧ (Rd H a (.lst (ns.map V.int)) ∨ SqT K H a (ns.map V.int)) ∧ ns.length + 1 < scanBound ∧
 ∀ p c, H p = none → c = (dedup ns).length → Q (.ref p) (upd H p (SetO w p (fun j => decide (j ∈ ns)) c))
theorem jx {w : World} {h : Heap} {a : Addr} {ns : List Int} {c : Nat} (R : SetR w h a (fun j => decide (j ∈ ns)) c) : c = (dedup ns).length := by
 obtain ⟨o, es, ep, t, _, _, _, _, nd, hm, _, _, hn, _⟩ := R
 have p : (es.toList.map L2.keyOf).Perm (dedup ns) := by
  refine (List.perm_ext_iff_of_nodup nd (bK ns)).mpr fun k => ?_
  rw [← hm k, bV]
  simp
 have := p.length_eq
 rw [List.length_map, Array.length_toList] at this
 omega
end
end Z
namespace Z
open PySem L2
section
variable {X : Cx} {cl : Cl} {W : WX}
theorem c0 {c : Nat} {ns : List Int} (h : c = (dedup ns).length) : c ≤ ns.length := h ▸ gM ns
theorem jm (hc : X.calm = true) : CallR X (.type "set") (oG X.K X.w) := by
 intro pins s σ H vs us Q I r h
 obtain ⟨a, ns, rfl, hs, hb, q⟩ := h
 rw [Vals.ref1 r]
 have fin : ∀ (h' : Heap) (tk c : Nat), SetR X.w h' s.heap.objs.size (fun j => decide (j ∈ ns)) c → c ≤ ns.length → (∀ b o, s.heap.get? b = some o → h'.get? b = some o) →
   EP X pins σ Q (.ref s.heap.objs.size) { s with heap := h', toks := tk } := fun h' tk c R _ k => by
  have hp : s.heap.objs.size ≤ s.heap.objs.size := Nat.le_refl _
  have hn : H s.heap.objs.size = none := I.hok.fresh hp
  have J : Inv X pins σ (upd H s.heap.objs.size (SetO X.w s.heap.objs.size (fun j => decide (j ∈ ns)) c)) { s with heap := h', toks := tk } :=
   I.call (ch := []) (Un.laid k hp hn) (I.hok.laid k hp (setO_new R)) (by exact I.bare) (fun _ z => nomatch z)
  exact ⟨.ref s.heap.objs.size, _, J, rfl, q _ c hn (jx R)⟩
 rcases hs with hs | hs
 ·obtain ⟨z, its, n, rv, hl, e⟩ := I.lstR hs
  exact SetL.gY ns (I.ok.hd hc) ⟨_, e, rfl, n, rfl⟩ (by simpa using RZ.intsAre_vals rv) hb fin
 ·obtain ⟨its, rv, ht, hz⟩ := I.tuple hs
  exact call_set_tupI ns (I.ok.hd hc) ht (by simpa using RZ.intsAre_vals rv) hb fin
def lp (w : World) : List V → Hp → VK → Prop := fun vs H Q => ∃ (a : Addr) (S : Int → Bool) (n : Nat), vs = [V.ref a] ∧ H a = some (SetO w a S n) ∧ n ≤ 16777216 ∧ Q (.int (n : Nat)) H
theorem iL : CallR X (.builtin "len") (lp X.w) := by
 intro pins s σ H vs us Q I r h
 obtain ⟨a, S, n, rfl, ha, hn64, q⟩ := h
 rw [Vals.ref1 r]
 obtain ⟨o, es, ep, t, ho, hex, hd, _, _, _, hf, hn⟩ := (setO_get I ha).setOf (P := X.prog)
 exact PySem.call_len_set ho hex hd hf (by rw [hn]; omega) ⟨.int n, H, I.tok _, ⟨_, by rw [hn]⟩, q⟩
def bw : List PV → R (List Int)
 | [.lst xs] => match intsOf xs with
  | some ns => if ns.length < 4000 then .ok ns else .no
  | none => .no
 | [.tup xs] => match intsOf xs with
  | some ns => if ns.length < 4000 then .ok ns else .no
  | none => .no
 | [.nul] => .ok []
 | _ => .no
theorem eE {T : Tb} {F H : Hp} {xs : List PV} {vs : List V} {ns : List Int} (s : Same F H) (r : RvL T F H xs vs) (h : bw xs = .ok ns) :
  ∃ a : Addr, vs = [V.ref a] ∧ (Rd H a (.lst (ns.map V.int)) ∨ SqT T.K H a (ns.map V.int)) ∧ ns.length < 4000 := by
 unfold bw at h
 split at h
 ·rename_i xs
  obtain ⟨v, rfl, rv⟩ := r.one
  obtain ⟨a, us, rfl, q, rl⟩ := rv.lstR s
  cases e : intsOf xs with
  | none => rw [e] at h; cases h
  | some ms =>
   rw [e] at h
   rw [du e] at rl
   dsimp only at h
   split at h
   ·cases h; exact ⟨a, rfl, .inl (by rw [← rl.ints]; exact q), by assumption⟩
   ·cases h
 ·rename_i xs
  obtain ⟨v, rfl, rv⟩ := r.one
  obtain ⟨a, us, rfl, q, rl⟩ := rv.tup s
  cases e : intsOf xs with
  | none => rw [e] at h; cases h
  | some ms =>
   rw [e] at h
   rw [du e] at rl
   dsimp only at h
   split at h
   ·cases h; exact ⟨a, rfl, .inr (SqT.of (by rw [← rl.ints]; exact q)), by assumption⟩
   ·cases h
 ·obtain ⟨v, rfl, rv⟩ := r.one
  obtain ⟨a, rfl, k⟩ := rv.nul
  cases h
  exact ⟨a, rfl, .inr (k.sq H), by decide⟩
 ·cases h
theorem eF (xs : List PV) (e : Xc) : bw xs ≠ .er e := by
 unfold bw
 intro h
 split at h <;> first | (split at h <;> first | (split at h <;> cases h) | cases h) | cases h
def i6 (xs : List PV) : R Vl := (bw xs).bind fun ns => .ok (.z (.int (dedup ns).length))
def cA (xs : List PV) : R Vl := (bw xs).bind fun ns => if (dedup ns).length < 64 then .ok (.fr .ow (.lst ((sdd ns).map .int))) else .no
theorem oO {fs} {a : Expr} {p p2 q pos : Pos} (hm : X.mg "len" = none) (hm2 : X.mg "set" = none) (hc : X.calm = true) (ha : QA cl X W fs [a]) (hg : Gl X "len" := by rfl) (hg2 : Gl X "set" := by rfl)
  (he : starEach [a] X.env = (false, eval a X.env) :: starEach [] X.env := by rfl) (he2 : starEach [Expr.Call (.Name "set" p2) [a] [] q] X.env = (false, eval (Expr.Call (.Name "set" p2) [a] [] q) X.env) :: starEach [] X.env := by rfl)
  (hpl : (backTo q (starEach [] X.env)).any (·.1) = false := by rfl) (hpl2 : (backTo pos (starEach [] X.env)).any (·.1) = false := by rfl) :
  QE cl X W (xB i6 fs) (.Call (.Name "len" p) [.Call (.Name "set" p2) [a] [] q] [] pos) := by
 have h1 : PE X (.Call (.Name "set" p2) [a] [] q) _ := pe_callTy (jm hc) hg2 hm2 (by decide +kernel) ha.pa (by decide) (by decide) he hpl
 have h2 : PA X [.Call (.Name "set" p2) [a] [] q] _ := pa_cons h1 pa_nil he2
 refine ⟨(pe_callB iL hg hm PySem.boot_len h2 (by decide) (by decide) he2 hpl2).imp fun σ H Q h => ?_⟩
 obtain ⟨F, A, γ, rel, h⟩ := h
 refine ⟨F, A, γ, rel, ?_⟩
 unfold xB at h
 cases e : fs γ with
 | no => rw [e] at h; exact h
 | er x => rw [e] at h; exact h
 | ok l =>
  rw [e] at h
  simp only [R.ai] at h
  intro F1 H1 vs e1 r1
  unfold i6 at h
  cases e2 : bw l with
  | no => rw [e2] at h; exact h.elim
  | er x => exact absurd e2 (eF _ _)
  | ok ns =>
   rw [e2] at h
   simp only [R.ai] at h
   obtain ⟨a', rfl, hs, hl⟩ := eE e1.sub r1 e2
   refine ⟨a', ns, rfl, hs, by unfold scanBound; omega, fun p c hp hcc => ?_⟩
   have hcl := c0 hcc
   refine ⟨p, _, c, rfl, upd_same, by omega, ?_⟩
   rw [hcc]
   exact h _ _ _ (e1.trans (Ext.newO e1.sub hp)) (VlR.zz (by simp [Rp]))
theorem g9 {fs} {a : Expr} {p p2 q pos : Pos} (hm : X.mg "sorted" = none) (hm2 : X.mg "set" = none) (hc : X.calm = true) (ha : QA cl X W fs [a]) (hg : Gl X "sorted" := by rfl) (hg2 : Gl X "set" := by rfl)
  (he : starEach [a] X.env = (false, eval a X.env) :: starEach [] X.env := by rfl) (he2 : starEach [Expr.Call (.Name "set" p2) [a] [] q] X.env = (false, eval (Expr.Call (.Name "set" p2) [a] [] q) X.env) :: starEach [] X.env := by rfl)
  (hpl : (backTo q (starEach [] X.env)).any (·.1) = false := by rfl) (hpl2 : (backTo pos (starEach [] X.env)).any (·.1) = false := by rfl) :
  QE cl X W (xB cA fs) (.Call (.Name "sorted" p) [.Call (.Name "set" p2) [a] [] q] [] pos) := by
 have h1 : PE X (.Call (.Name "set" p2) [a] [] q) _ := pe_callTy (jm hc) hg2 hm2 (by decide +kernel) ha.pa (by decide) (by decide) he hpl
 have h2 : PA X [.Call (.Name "set" p2) [a] [] q] _ := pa_cons h1 pa_nil he2
 refine ⟨(pe_callB (cr_sortedSet hc) hg hm (by decide +kernel) h2 (by decide) (by decide) he2 hpl2).imp fun σ H Q h => ?_⟩
 obtain ⟨F, A, γ, rel, h⟩ := h
 refine ⟨F, A, γ, rel, ?_⟩
 unfold xB at h
 cases e : fs γ with
 | no => rw [e] at h; exact h
 | er x => rw [e] at h; exact h
 | ok l =>
  rw [e] at h
  simp only [R.ai] at h
  intro F1 H1 vs e1 r1
  unfold cA at h
  cases e2 : bw l with
  | no => rw [e2] at h; exact h.elim
  | er x => exact absurd e2 (eF _ _)
  | ok ns =>
   rw [e2] at h
   simp only [R.ai] at h
   obtain ⟨a', rfl, hs, hl⟩ := eE e1.sub r1 e2
   refine ⟨a', ns, rfl, hs, by unfold scanBound; omega, fun p c hp hcc => ?_⟩
   have hcl := c0 hcc
   by_cases h64 : (dedup ns).length < 64
   ·rw [if_pos h64] at h
    refine ⟨p, _, c, rfl, upd_same, by omega, fun ms p' hs' hm' hl' np' => ?_⟩
    have em : ms = sdd ns := jT (fun k => (hm' k).trans (by simp)) hs'
    subst em
    have e3 := e1.trans (Ext.newO (o := SetO X.w p (fun j => decide (j ∈ ns)) c) e1.sub hp)
    exact h _ _ _ (e3.trans (Ext.newO e3.sub np')) ((en e3.sub np' (RpL.ofInts _)).r e3.hle)
   ·rw [if_neg h64] at h; exact h.elim
end
end Z
namespace Z
open PySem L2
theorem Rel.mut {T : Tb} {F H : Hp} {A σ γ} {i : Nat} {m x} (rel : Rel T F A σ H γ) (e : γ[i]? = some (.sl m x)) : ∃ v Ai, σ[i]? = some (some v) ∧ OwM T F H m x v Ai ∧ (∀ a ∈ Ai, a ∈ A) ∧
  ∀ m' x' F' H' A', Same F F' → (∀ a o, a ∉ Ai → H a = some o → NT o → H' a = some o) → SameQ H H' → Same F' H' → OwM T F' H' m' x' v A' → A'.Nodup → (∀ a ∈ A', a ∈ Ai ∨ H a = none) → (∀ a ∈ A', F' a = none) → (∀ a o, F' a = some o → F a = some o ∨ a ∈ Ai ∨ Nw H a) →
   ∃ A2, Rel T F' A2 σ H' (γ.set i (.sl m' x')) ∧ Step F A H F' A2 H' := by
 obtain ⟨v, P, Ai, S, h1, rfl, h3, h4⟩ := OwE.split γ rel.env e
 obtain ⟨n12, nS, dS⟩ := List.nodup_append.mp rel.nd
 obtain ⟨nP, nAi, dP⟩ := List.nodup_append.mp n12
 have hd := OwE.dom γ rel.env
 have nt := OwE.nt γ rel.env
 refine ⟨v, Ai, h1, h3, fun a ha => by simp [ha], fun m' x' F' H' A' s k zq sub r na own d new => ⟨P ++ A' ++ S, ⟨sub, h4 m' x' F' H' A' s (fun a ha o q n => k a o ?_ q n) (k8 zq fun a o q => (new a o q).imp id fun z => z.imp (fun z => let ⟨o', ho'⟩ := OwM.dom m h3 a z; ⟨o', ho', (OwM.nx m h3 a z o' ho').1⟩) id) r, ?_, fun a ha => ?_⟩, ⟨s, fun a o ha q n => k a o (fun z => ha (by simp [z])) q n, fun a ha => ?_, fun a o q => ?_, zq⟩⟩⟩
 ·intro z
  rcases List.mem_append.mp ha with q | q
  ·exact dP a q a z rfl
  ·exact dS a (List.mem_append_right _ z) a q rfl
 ·have live : ∀ a, (a ∈ P ∨ a ∈ S) → a ∉ A' := fun a ha z => by
   rcases own a z with q | q
   ·rcases ha with w | w
    ·exact dP a w a q rfl
    ·exact dS a (List.mem_append_right _ q) a w rfl
   ·obtain ⟨o, ho⟩ := hd a (by rcases ha with w | w <;> simp [w])
    rw [q] at ho; cases ho
  refine List.nodup_append.mpr ⟨List.nodup_append.mpr ⟨nP, na, fun a ha b hb e => live a (.inl ha) (e ▸ hb)⟩, nS, fun a ha b hb e => ?_⟩
  subst e
  rcases List.mem_append.mp ha with q | q
  ·exact dS a (List.mem_append_left _ q) a hb rfl
  ·exact live a (.inr hb) q
 ·have out : (a ∈ P ∨ a ∈ S) → F' a = none := fun ha => by
   have hA : a ∈ P ++ Ai ++ S := by rcases ha with w | w <;> simp [w]
   cases q : F' a with
   | none => rfl
   | some o =>
    rcases new a o q with z | z | z
    ·rw [rel.dis a hA] at z; cases z
    ·rcases ha with w | w
     ·exact absurd rfl (dP a w a z)
     ·exact absurd rfl (dS a (List.mem_append_right _ z) a w)
    ·exact (nt a hA z).elim
  simp only [List.mem_append] at ha
  rcases ha with (w | w) | w
  ·exact out (.inl w)
  ·exact d a w
  ·exact out (.inr w)
 ·simp only [List.mem_append] at ha
  rcases ha with (w | w) | w
  ·exact .inl (by simp [w])
  ·rcases own a w with q | q
   ·exact .inl (by simp [q])
   ·exact .inr q
  ·exact .inl (by simp [w])
 ·rcases new a o q with z | z | z
  ·exact .inl z
  ·exact .inr (.inl (by simp [z]))
  ·exact .inr (.inr z)
theorem Rel.mut1 {T : Tb} {F H F1 H1 : Hp} {A σ γ} {i : Nat} {x} (rel : Rel T F A σ H γ) (e : γ[i]? = some (.sl .ow x)) (e1 : Ext F H F1 H1) : ∃ a, σ[i]? = some (some (.ref a)) ∧ OwM T F1 H1 .ow x (.ref a) [a] ∧
  ∀ x' o, OwM T F1 (upd H1 a o) .ow x' (.ref a) [a] → ∃ A2, Rel T F1 A2 σ (upd H1 a o) (γ.set i (.sl .ow x')) ∧ Step F A H F1 A2 (upd H1 a o) := by
 have rel1 := rel.ext e1
 obtain ⟨v, Ai, h1, h2, h3, h4⟩ := rel1.mut e
 have h2' := h2
 simp only [OwM] at h2'
 obtain ⟨a, rfl, rfl, h5⟩ := h2'
 have fa : F1 a = none := rel1.dis a (h3 a (by simp))
 refine ⟨a, h1, h2, fun x' o r => ?_⟩
 obtain ⟨A2, r2, s2⟩ := h4 .ow x' F1 (upd H1 a o) [a] (Same.refl _) (fun b u hb q _ => by rw [upd_ne (by simpa using hb)]; exact q) (.own rel1.env (h3 a (by simp))) (fun b u q => by
  rw [upd_ne (ne_of_none q fa)]; exact rel1.sub b u q) r (by simp) (fun b hb => .inl hb) (fun b hb => by rw [List.mem_singleton.mp hb]; exact fa) (fun b u q => .inl q)
 exact ⟨A2, r2, (Step.ext e1).trans s2⟩
section
variable {X : Cx} {cl : Cl} {W : WX}
def jM (xs : List PV) : List PV → Option PV
 | [y] => if sm (xs.length + 1) then some (.lst (xs ++ [y])) else none
 | _ => none
theorem md {xs ys : List PV} {z} (h : jM xs ys = some z) : ∃ y, ys = [y] ∧ sm (xs.length + 1) = true ∧ z = .lst (xs ++ [y]) := by
 unfold jM at h
 split at h
 ·split at h
  ·cases h; exact ⟨_, rfl, by assumption, rfl⟩
  ·cases h
 ·cases h
def toO (γ : Env) (i : Nat) (z : Option PV) : Os := match z with
 | some x' => .nx (γ.set i (.sl .ow x'))
 | none => .no
def iq (i : Nat) (fs : Env → R (List PV)) : Env → Os := fun γ => match γ[i]? with
 | some (.sl .ow (.lst xs)) => match fs γ with
  | .no => .no
  | .er e => .er e γ
  | .ok ys => toO γ i (jM xs ys)
 | _ => .no
theorem fN {i : Nat} {x : Str} {fs} {e : Expr} {p1 apos cpos pos : Pos} (he : QZ cl X W fs [e]) (hN : X.N[i]? = some x := by rfl) (hv : Vis X.env.scope x := by first | exact Or.inl rfl | exact Or.inr (Or.inl rfl) | exact Or.inr (Or.inr rfl))
  (hd : (x == ("__debug__" : Str)) = false := by decide) (hcd : (x == ("__classdict__" : Str)) = false := by decide)
  (hbase : attributeBase (.Name x p1) "append" X.env (eval (.Name x p1) X.env) = eval (.Name x p1) X.env := by rfl)
  (hfew : ((backTo cpos (starEach (e :: []) X.env)).all (fun x => !x.1) && (backToKw cpos (keywordEach [] X.env)).all (fun x => x.1.isSome)
   && decide ((e :: []).length + ([] : List Keyword).length + (if ([] : List Keyword).isEmpty then 0 else 1) < 30)) = true := by rfl)
  (hline : (apos.endLine == cpos.line) = true := by rfl) (hs : starEach (e :: []) X.env = (false, eval e X.env) :: starEach [] X.env := by rfl) (hplain : (backTo cpos (starEach [] X.env)).any (·.1) = false := by rfl)
  (hsw : swapsWith (.Call (.Attribute (.Name x p1) "append" apos) [e] [] cpos) none pos.line X.env = pure false := by rfl) :
  QS cl X W (iq i fs) (.Expr (.Call (.Attribute (.Name x p1) "append" apos) [e] [] cpos) pos) := by
 have h0 : PE X (.Call (.Attribute (.Name x p1) "append" apos) [e] [] cpos) _ := pe_bm PySem.F.plainAttrs_list PySem.F.slot_list_append PySem.F.type_list_append mt_append (pe_var (i := i) hN hv hd hcd) he.pa hbase hfew hline hs hplain
 refine ⟨(ps_expr h0 hsw).imp fun D σ H h => ?_⟩
 obtain ⟨F, A, γ, rel, h⟩ := h
 unfold iq at h
 split at h
 ·rename_i xs hg
  obtain ⟨a, ha, o1, _⟩ := rel.mut1 hg (Ext.refl rel.sub)
  simp only [OwM] at o1
  obtain ⟨a', ea, _, vs, hvs, rv⟩ := o1
  cases ea
  refine ⟨.ref a, ha, .inl ⟨rfl, vs, .inl (.inl hvs)⟩, F, A, γ, rel, ?_⟩
  cases e : fs γ with
  | no => rw [e] at h; exact h.elim
  | er z =>
   rw [e] at h
   exact fun F' H' c d ex r => h F' A σ H' c d (Step.ext ex) (rel.ext ex) r
  | ok ys =>
   rw [e] at h
   intro F1 H1 ws e1 rs
   dsimp only at h
   cases ez : jM xs ys with
   | none => rw [ez] at h; exact h.elim
   | some z =>
    rw [ez] at h
    obtain ⟨y, rfl, hz, rfl⟩ := md ez
    obtain ⟨b, hb, o1, k⟩ := rel.mut1 hg e1
    rw [ha] at hb
    cases hb
    simp only [OwM] at o1
    obtain ⟨b, eb, _, us, hus, ru⟩ := o1
    cases eb
    simp only [RpL] at rs
    obtain ⟨w, ws', rfl, rw1, rfl⟩ := rs
    obtain ⟨A2, r2, s2⟩ := k (.lst (xs ++ [y])) (.lst (us ++ [w])) (by
     simp only [OwM]
     exact ⟨a, rfl, rfl, us ++ [w], upd_same, RpL.append ru (RpL.cons rw1 RpL.nil)⟩)
    refine ⟨a, us, w, rfl, rfl, hus, ?_, h _ _ _ _ s2 r2⟩
    have := cq hz
    rw [ru.length]
    omega
 ·exact h.elim
section
variable {κ : Type} [DecidableEq κ] (kk : κ → PV) (hk : ∀ a b, peq (kk a) (kk b) = decide (a = b))
include hk
end
end
end Z
namespace Z
open PySem L2
theorem dw {k : Nat} {A : Around} (r : Room k A) : A.units + 1 < cLine := by have := r.units; omega
theorem cB {k : Nat} {A : Around} (r : Room k A) : A.units + 65 < cLine := by have := r.un; omega
section
variable {P : Program} {w : World} {K : PySem.W.Frag} {mg : Str → Option Value} {base : Heap}
end
theorem lookup_mem {K : PySem.W.Frag} {a : Addr} {o : Obj} (h : K.lookup a = some o) : (a, o) ∈ K := by
 induction K with
 | nil => cases h
 | cons p K ih =>
  obtain ⟨b, u⟩ := p
  rw [List.lookup_cons] at h
  split at h
  ·rename_i e
   cases h
   rw [eq_of_beq e]
   exact List.mem_cons_self
  ·exact List.mem_cons_of_mem _ (ih h)
theorem rd_of {K : PySem.W.Frag} {H : Hp} {a : Addr} {xs : List V} (n : gb K = true) (h : SqL K H a xs) : Rd H a (.lst xs) := by
 rcases h with h | ⟨o, arr, c, hk, hc, _⟩
 ·exact h
 ·have := List.all_eq_true.mp n _ (lookup_mem hk)
  rw [hc] at this
  simp at this
def jr (f : List PV → R PV) (n : Nat) : Prop := ∀ ns : List Int, ns.length ≤ n → f [.lst (ns.map .int)] = .ok (.bl true)
end Z
namespace Z
open PySem L2
section
variable {X : Cx} {cl : Cl} {W : WX}
theorem iF {a b : Expr} {op : CmpOp} {pos : Pos} {env : PySem.Env} {whole : Sem Value} : PySem.isTrue (.Compare a [op] [b] pos) env whole = (do let c ← eval (.Compare a [op] [b] pos) env; holding [c] (truthy c)) := by
 rw [isTrue_Compare1, eval_Compare1]
 simp only [bind_assoc]
theorem mG {f : Ex} {σ : L2.St} {H : Hp} {Q : Bool → Hp → Prop} (h : tqT X.K cl W (xT f) σ H Q) : tq X.K cl W f σ H fun x H' => ∃ k, TruV X.K x H' k ∧ Q k H' := by
 obtain ⟨F, A, γ, rel, h⟩ := h
 refine ⟨F, A, γ, rel, ?_⟩
 unfold xT at h
 cases e : f γ with
 | no => rw [e] at h; exact h
 | er x => rw [e] at h; exact h
 | ok l =>
  rw [e] at h
  simp only [R.ai] at h
  intro F1 H1 v e1 r1
  cases e' : bN l.x with
  | no => rw [e'] at h; exact h.elim
  | er x => exact (gz _ _ e').elim
  | ok b =>
   rw [e'] at h
   exact ⟨b, gy e1.sub r1.rv e', h F1 H1 e1⟩
theorem cJ {f : Ex} {a b : Expr} {op : CmpOp} {pos : Pos} (h : QE cl X W f (.Compare a [op] [b] pos)) : QT cl X W (xT f) (.Compare a [op] [b] pos) := by
 refine ⟨⟨fun pins s σ H Q I h' => ?_⟩⟩
 rw [iF]
 refine PySem.wpAny_bind (thn (h.pe.run pins s σ H _ I (mG h')) fun v s1 ⟨x, H1, I1, r1, k, t, q1⟩ => PySem.wpAny_holding (tru_ok pins s1 σ H1 x v Q I1 r1 ⟨k, t, q1⟩))
end
end Z
namespace Z
open PySem L2
@[simp] theorem a_xVar {i : Nat} {γ : Z.Env} : ah i γ = (match γ[i]? with | some (.sl m x) => .ok (.pk m x) | some (.me m x) => .ok (.pk m x) | _ => .no) := (rfl)
@[simp] theorem a_x2 {p : PV → PV → R Vl} {f g : Ex} {γ : Z.Env} : x2 p f g γ = (f γ).bind fun l => (g γ).bind fun k => p l.x k.x := (rfl)
@[simp] theorem a_x1 {p : PV → R Vl} {f : Ex} {γ : Z.Env} : x1 p f γ = (f γ).bind fun l => p l.x := (rfl)
@[simp] theorem a_xC {x : PV} {γ : Z.Env} : xC x γ = .ok (.z x) := (rfl)
@[simp] theorem a_pb {p : PV → PV → R Bool} {x y : PV} : pb p x y = (p x y).map fun b => .z (.bl b) := (rfl)
@[simp] theorem a_pMod {i j : Int} : cy (.int i) (.int j) = if decide (0 < j) then .ok (.z (.int (i % j))) else .no := by unfold cy i2; simp only []; split <;> rfl
@[simp] theorem a_pDiv {i j : Int} : iA (.int i) (.int j) = if l8 i j then .ok (.z (.int (i / j))) else .no := by unfold iA i2; simp only []; split <;> rfl
@[simp] theorem a_pPow {i j : Int} : dJ (.int i) (.int j) = if l7 i j then .ok (.z (.int (i ^ j.toNat))) else .no := by unfold dJ i2; simp only []; split <;> rfl
@[simp] theorem a_pAddI {i j : Int} : aS (.int i) (.int j) = .ok (.z (.int (i + j))) := (rfl)
@[simp] theorem a_pMul {i j : Int} : cU (.int i) (.int j) = if kO i j then .ok (.z (.int (i * j))) else .no := (rfl)
@[simp] theorem nY {xs ys : List PV} : aS (.lst xs) (.lst ys) = if sm (xs.length + ys.length) then .ok (.fr .ow (.lst (xs ++ ys))) else .no := (rfl)
@[simp] theorem a_pGt {i j : Int} : pGt (.int i) (.int j) = .ok (decide (j < i)) := (rfl)
@[simp] theorem a_pGe {i j : Int} : pGe (.int i) (.int j) = .ok (decide (j ≤ i)) := (rfl)
@[simp] theorem oi {i : Nat} {m : Md} {x : PV} {γ : Z.Env} : ju i (.fr m x) γ = .nx (γ.set i (.sl m x)) := (rfl)
@[simp] theorem oh {i : Nat} {x : PV} {γ : Z.Env} : ju i (.pk .fz x) γ = .nx (γ.set i (.sl .fz x)) := (rfl)
@[simp] theorem a_sNx {γ : Z.Env} : sNx γ = .nx γ := (rfl)
@[simp] theorem a_aNil {γ : Z.Env} : ar γ = .ok [] := (rfl)
@[simp] theorem a_aCons {f : Ex} {fs : Z.Env → R (List PV)} {γ : Z.Env} : bo f fs γ = (f γ).bind fun l => (fs γ).bind fun xs => .ok (l.x :: xs) := (rfl)
@[simp] theorem a_zCons {f : Ex} {fs : Z.Env → R (List PV)} {γ : Z.Env} : ae f fs γ = (f γ).bind fun l => l.keep.bind fun x => (fs γ).bind fun xs => .ok (x :: xs) := (rfl)
@[simp] theorem a_xB {p : List PV → R Vl} {fs : Z.Env → R (List PV)} {γ : Z.Env} : xB p fs γ = (fs γ).bind p := (rfl)
@[simp] theorem a_tNotF {t : Z.Env → R Bool} {γ : Z.Env} : ck t γ = (t γ).bind fun b => .ok (!b) := (rfl)
@[simp] theorem a_xT {f : Ex} {γ : Z.Env} : xT f γ = (f γ).bind fun l => bN l.x := (rfl)
@[simp] theorem oj {b : Bool} : bN (.bl b) = .ok b := (rfl)
@[simp] theorem a_xLst {fs : Z.Env → R (List PV)} {γ : Z.Env} : bp fs γ = (fs γ).bind fun xs => if sm xs.length then .ok (.fr .ow (.lst xs)) else .no := (rfl)
@[simp] theorem a_sm {n : Nat} : sm n = decide (n ≤ 16777216) := (rfl)
@[simp] theorem nZ {x : PV} {γ : Z.Env} : hU (.rt x γ) = .ok x := (rfl)
@[simp] theorem pO {g : List PV → R PV} {fs : Z.Env → R (List PV)} {γ : Z.Env} : bD g fs γ = (fs γ).bind fun xs => ((g xs).noer).map .z := (rfl)
@[simp] theorem mw {xs : List PV} {m : Md} : (Vl.fr m (.lst xs)).items = .ok xs := (rfl)
@[simp] theorem a_xSl {f : Ex} {lo hi : Z.Env → R (Option Int)} {γ : Z.Env} : xSl f lo hi γ = (f γ).bind fun l => (lo γ).bind fun a => (hi γ).bind fun b => pSl l.x a b := (rfl)
@[simp] theorem a_xP {f : Ex} {γ : Z.Env} : xP f γ = (f γ).bind fun l => ke l.x := (rfl)
@[simp] theorem a_xNoP {γ : Z.Env} : mB γ = .ok none := (rfl)
@[simp] theorem a_pPart {i : Int} : ke (.int i) = .ok (some i) := (rfl)
@[simp] theorem om {xs : List PV} {a b : Option Int} : pSl (.lst xs) a b = .ok (.fr .ow (.lst (cT xs a b))) := (rfl)
@[simp] theorem a_tgN {i : Nat} {x : PV} {γ : Z.Env} : tgN i x γ = some (γ.set i (.sl .fz x)) := (rfl)
@[simp] theorem a_tYesF {γ : Z.Env} : fJ γ = .ok true := (rfl)
@[simp] theorem nX {xs : List PV} : gB [.lst xs] = .ok (.z (.int xs.length)) := (rfl)
@[simp] theorem u_unE {γ : Z.Env} : unE γ = γ.map fun _ => .un := (rfl)
@[simp] theorem u_cPow {i j : Int} : l7 i j = (decide (0 ≤ j) && decide (j ≤ 1000000) && decide (i.natAbs < 2 ^ 64)) := (rfl)
@[simp] theorem u_cMul {i j : Int} : kO i j = ((decide (-(2 ^ 64) < i) && decide (i < 2 ^ 64)) || (decide (-(2 ^ 64) < j) && decide (j < 2 ^ 64))) := (rfl)
@[simp] theorem u_cDiv {i j : Int} : l8 i j = (decide (0 < j) && decide (j.natAbs.log2 < 9000)) := (rfl)
@[simp] theorem u_sApp {i : Nat} {fs : Z.Env → R (List PV)} {γ : Z.Env} : iq i fs γ = (match γ[i]? with
 | some (.sl .ow (.lst xs)) => match fs γ with
  | .no => .no
  | .er e => .er e γ
  | .ok ys => toO γ i (jM xs ys)
 | _ => .no) := rfl
@[simp] theorem u_appL {xs : List PV} {y : PV} : jM xs [y] = if sm (xs.length + 1) then some (.lst (xs ++ [y])) else none := (rfl)
@[simp] theorem mF {γ : Z.Env} {i : Nat} {x : PV} : toO γ i (some x) = .nx (γ.set i (.sl .ow x)) := (rfl)
@[simp] theorem n6 {xs : List PV} {i : Int} : pIx (.lst xs) (.int i) = (match L2.atI xs i with | some v => .ok (.z v) | none => .no) := (rfl)
@[simp] theorem u_run {np nl : Nat} {b : Z.Env → Os} {xs : List PV} : Z.run np nl b xs = if xs.length = np then hU (b (frame nl xs)) else .no := (rfl)
@[simp] theorem u_frame {nl : Nat} {xs : List PV} : frame nl xs = xs.map (.sl .fz) ++ List.replicate (nl - xs.length) .un := (rfl)
@[simp] theorem n5 {c : String} {b : List (String × PV)} : tyN (.exc c b) = c := (rfl)
@[simp] theorem n7 {c : String} {b : List (String × PV)} : cM (.exc c b) = true := (rfl)
theorem eU {tg : Tg} {body : Z.Env → Os} (Inv : Nat → Z.Env → Prop) : ∀ (items : List PV) (n : Nat) (γ : Z.Env), Inv n γ →
  (∀ i x γ, items[i]? = some x → Inv (n + i) γ → ∃ γ1 γ', tg x γ = some γ1 ∧ (body γ1 = .nx γ' ∨ body γ1 = .ct γ') ∧ Inv (n + i + 1) γ') →
  ∃ γ', forL tg body items γ = .nx γ' ∧ Inv (n + items.length) γ'
 | [], n, γ, h, _ => ⟨γ, rfl, h⟩
 | x :: xs, n, γ, h, k => by
  obtain ⟨γ1, γ', e1, e2, h2⟩ := k 0 x γ rfl h
  obtain ⟨γ2, e3, h3⟩ := eU Inv xs (n + 1) γ' h2 (fun i y γ hy hi => by
   obtain ⟨a, b, c, d, e⟩ := k (i + 1) y γ (by simpa using hy) (by rw [show n + (i + 1) = n + 1 + i by omega]; exact hi)
   exact ⟨a, b, c, d, by rw [show n + 1 + i + 1 = n + (i + 1) + 1 by omega]; exact e⟩)
  refine ⟨γ2, ?_, by rw [List.length_cons, show n + (xs.length + 1) = n + 1 + xs.length by omega]; exact h3⟩
  unfold forL
  rw [e1]
  rcases e2 with e2 | e2 <;> simp only [e2] <;> exact e3
theorem atI_nat {α : Type} {xs : List α} {i : Nat} (h : i < xs.length) : atI xs (i : Int) = xs[i]? := by
 unfold L2.atI ixN
 rw [if_pos (by omega), if_pos (by omega)]
 simp
theorem j0 {lo : Int} {n i : Nat} {x : PV} (h : (cx lo n)[i]? = some x) : i < n ∧ x = .int (lo + i) := by
 simp only [cx, List.getElem?_map] at h
 cases e : (List.range n)[i]? with
 | none => rw [e] at h; cases h
 | some k =>
  rw [e] at h
  obtain ⟨h1, h2⟩ := List.getElem?_eq_some_iff.mp e
  simp at h1 h2 h
  subst h2
  exact ⟨h1, h.symm⟩
theorem jz {n i : Nat} {x : PV} (h : (cx 0 n)[i]? = some x) : i < n ∧ x = .int i := by simpa using j0 h
@[simp] theorem oE {lo : Int} {n : Nat} : (cx lo n).length = n := by simp [cx]
def Below : List Int → List Int → Prop
 | [], [] => True
 | d :: ds, z :: zs => (0 ≤ d ∧ d < z) ∧ Below ds zs
 | _, _ => False
theorem Below.append : ∀ {ds zs es ys}, Below ds zs → Below es ys → Below (ds ++ es) (zs ++ ys)
 | [], [], _, _, _, h => h
 | _ :: _, _ :: _, _, _, h, k => ⟨h.1, Below.append h.2 k⟩
 | [], _ :: _, _, _, h, _ => h.elim
 | _ :: _, [], _, _, h, _ => h.elim
theorem Below.length : ∀ {ds zs}, Below ds zs → ds.length = zs.length
 | [], [], _ => rfl
 | _ :: _, _ :: _, h => by simp [Below.length h.2]
 | [], _ :: _, h => h.elim
 | _ :: _, [], h => h.elim
theorem kN {n : Nat} (h : n ≤ 1000000000) : eY (n : Int) = true := by
 unfold eY
 have h1 : -(2 ^ 62 : Int) ≤ (n : Int) := by omega
 have h2 : (n : Int) < 2 ^ 62 := by omega
 rw [decide_eq_true h1, decide_eq_true h2]; rfl
theorem ka {n : Nat} (h : n ≤ 1000000000) : gA [.int (n : Int)] = .ok (cx 0 n) := by
 show (if eY (n : Int) = true then R.ok (cx 0 (n : Int).toNat) else R.no) = _
 rw [if_pos (kN h)]; simp
theorem mP {np nl : Nat} {b : Z.Env → Os} {xs : List PV} (h : xs.length = np) : run np nl b xs = hU (b (frame nl xs)) := by unfold run; rw [if_pos h]
theorem iT {it : Z.Env → R (List PV)} {tg : Tg} {body : Z.Env → Os} {γ : Z.Env} {items : List PV} {o : Os} (h : it γ = .ok items) (h2 : forL tg body items γ = o) : fg it tg body γ = o := by unfold fg; rw [h]; exact h2
theorem lX {fs : Z.Env → R (List PV)} {γ : Z.Env} {xs items : List PV} (h : fs γ = .ok xs) (h2 : gA xs = .ok items) : iH fs γ = .ok items := by unfold iH; rw [h]; exact h2
theorem aU {g h : Z.Env → Os} {γ γ' : Z.Env} (e : g γ = .nx γ') : aN g h γ = h γ' := by unfold aN; rw [e]
def bU : Z.Env → Os := sIf (fK (xT (x2 (pb pGe) (ah 3) (x2 dJ (xC (.int 10)) (xC (.int 18))))) (xT (x2 (pb pGt) (ah 4) (xC (.int 0))))) (aN (iq 5 (ae (x2 cy (ah 4) (x2 pIx (ah 2) (ah 6))) (ar))) (aM 4 (x2 iA (ah 4) (x2 pIx (ah 2) (ah 6))))) (aN (aM 7 (x2 cy (x2 dJ (x2 aS (x2 aS (x2 cy (ah 3) (xC (.int 2147483629))) (x2 cU (xC (.int 7919)) (ah 1))) (xC (.int 1))) (xC (.int 3))) (xC (.int 2147483647)))) (aN (aM 7 (x2 cy (x2 cU (x2 aS (ah 7) (x2 cU (xC (.int 104729)) (x2 aS (ah 6) (xC (.int 1))))) (x2 aS (ah 6) (xC (.int 3)))) (xC (.int 2147483629)))) (aN (aM 7 (x2 cy (x2 cU (x2 cy (x2 dJ (ah 7) (xC (.int 5))) (xC (.int 2147483647))) (xC (.int 48271))) (xC (.int 2147483629)))) (iq 5 (ae (x2 cy (x2 iA (ah 7) (xC (.int 16))) (x2 pIx (ah 2) (ah 6))) (ar))))))
def h8 : Z.Env → Os := aN (aM 3 (xB fY (bo (ah 0) (bo (x2 lA (x1 kf (xC (.int 1))) (ah 0)) (ar))))) (aN (aM 4 (ah 3)) (aN (aM 5 (bp (ar))) (aN (fg (iH (bo (xB gB (bo (ah 2) (ar))) (ar))) (tgN 6) bU) (bR (ah 5)))))
def o7 : List PV → R PV := run 3 8 h8
theorem Below.take_succ {ds zs : List Int} {i : Nat} {d z : Int} (h : Below ds (zs.take i)) (hz : zs[i]? = some z) (hd : 0 ≤ d ∧ d < z) : Below (ds ++ [d]) (zs.take (i + 1)) := by
 rw [List.take_add_one, hz]
 exact h.append ⟨hd, trivial⟩
end Z
namespace Z
open PySem L2
theorem n8 {xs : List PV} {k : Nat} : cT xs (some (k : Int)) none = xs.drop k := by
 unfold cT
 rw [HT.sIx_nat, HT.sIx_none]
 rw [List.take_of_length_le (by rw [List.length_drop]; omega)]
 by_cases h : k ≤ xs.length
 ·rw [Nat.min_eq_left h]
 ·rw [Nat.min_eq_right (by omega), List.drop_length, List.drop_of_length_le (by omega)]
theorem lz {xs : List PV} {k : Nat} : cT xs none (some (k : Int)) = xs.take k := by
 unfold cT
 rw [HT.sIx_nat, HT.sIx_none, List.drop_zero, Nat.sub_zero]
 by_cases h : k ≤ xs.length
 ·rw [Nat.min_eq_left h]
 ·rw [Nat.min_eq_right (by omega), List.take_length, List.take_of_length_le (by omega)]
theorem j9 {xs : List PV} {k n : Nat} : cT xs (some (k : Int)) (some ((k + n : Nat) : Int)) = (xs.drop k).take n := by
 unfold cT
 rw [HT.sIx_nat, HT.sIx_nat]
 by_cases h : k ≤ xs.length
 ·rw [Nat.min_eq_left h]
  by_cases h2 : k + n ≤ xs.length
  ·rw [Nat.min_eq_left h2, Nat.add_sub_cancel_left]
  ·rw [Nat.min_eq_right (by omega), List.take_of_length_le (by rw [List.length_drop]; omega), List.take_of_length_le (by rw [List.length_drop]; omega)]
 ·rw [Nat.min_eq_right (by omega), Nat.min_eq_right (by omega), List.drop_length, List.drop_of_length_le (by omega)]; simp
end Z
namespace Z
open PySem L2
end Z
namespace Z
open PySem L2
section
variable {X : Cx} {cl : Cl} {W : WX}
def nR (n : Nat) (j : Int) : Bool := decide (-(2 ^ 63) ≤ j) && decide (j < 2 ^ 63) && sm (n * j.toNat)
def dD (l : Vl) (k : PV) : R Vl := match l, k with
 | .fr .ow (.lst xs), .int j => if nR xs.length j then .ok (.fr .ow (.lst (List.replicate j.toNat xs).flatten)) else .no
 | _, _ => .no
def kU (f g : Ex) : Ex := fun γ => (f γ).bind fun l => (g γ).bind fun k => dD l k.x
theorem kc {l : Vl} {k : PV} {l' : Vl} (h : dD l k = .ok l') : ∃ xs j, l = .fr .ow (.lst xs) ∧ k = .int j ∧ nR xs.length j = true ∧ l' = .fr .ow (.lst (List.replicate j.toNat xs).flatten) := by
 unfold dD at h
 split at h
 ·split at h
  ·cases h; exact ⟨_, _, rfl, rfl, by assumption, rfl⟩
  ·cases h
 ·cases h
theorem kd {l : Vl} {k : PV} {e : Xc} (h : dD l k = .er e) : False := by
 unfold dD at h
 split at h
 ·split at h <;> cases h
 ·cases h
theorem RpL.rep {T : Tb} {F : Hp} {xs : List PV} {vs : List V} (h : RpL T F xs vs) : ∀ n : Nat, RpL T F (List.replicate n xs).flatten (List.replicate n vs).flatten
 | 0 => by simpa using RpL.nil
 | n + 1 => by
  rw [List.replicate_succ, List.replicate_succ, List.flatten_cons, List.flatten_cons]
  exact h.append (RpL.rep h n)
theorem oK {f g} {a b : Expr} {pos : Pos} (ha : QE cl X W f a) (hb : QE cl X W g b) : QE cl X W (kU f g) (.BinOp a .Mult b pos) := by
 refine ⟨(pe_op op_rep ha.pe hb.pe).imp fun σ H Q h => ?_⟩
 refine tq.bind (g := fun l γ => (g γ).bind fun k => dD l k.x) h fun F A γ l F1 H1 v rel e e1 r1 h => ?_
 refine ⟨F1, A, γ, rel.ext e1, ?_⟩
 cases e' : g γ with
 | no => rw [e'] at h; exact h
 | er x => rw [e'] at h; exact h
 | ok k =>
  rw [e'] at h
  simp only [R.ai] at h
  intro F2 H2 u e2 r2
  have ru := r2.rv
  cases er : dD l k.x with
  | no => rw [er] at h; exact h.elim
  | er x => exact (kd er).elim
  | ok l' =>
   rw [er] at h
   obtain ⟨xs, j, rfl, ek, hc, rfl⟩ := kc er
   rw [ek] at ru
   simp only [nR, Bool.and_eq_true, decide_eq_true_eq] at hc
   obtain ⟨Ar, o1, _, o3⟩ := r1
   simp only [OwM] at o1
   obtain ⟨p, rfl, rfl, vs, hp, rl⟩ := o1
   refine ⟨p, j, vs, rfl, ru.int, e2.hle.g _ _ hp, hc.1.1, hc.1.2, ?_, fun q nq => ?_⟩
   ·rw [rl.length]; exact cq hc.2
   ·exact h _ _ _ (e2.trans (Ext.newO e2.sub nq)) ((en e2.sub nq (RpL.rep (RpL.mono e2.fle _ _ rl) _)).r (e1.trans e2).hle)
end
end Z
namespace Z
open PySem L2 PySem.Spec PyProof.Rows
structure FnG (P : Program) (w : World) (K : PySem.W.Frag) (mg : Str → Option Value) (base : Heap) (k : Nat) (f : Addr) (fd : FuncData) (ps : List Str) (sp : Sp) : Prop where
 len : ∀ vs H Q E, sp vs H Q E → vs.length = ps.length
 run : ∀ (A : Around) (outer : List PySem.Env) (s : Shared) (H : Hp) (args : Args) (us : List Value) (vs : List V) (Q : VK) (E : XK), Room k A → A.guards = some [] → Env0 P w K mg base A outer s H →
  BindsTo s fd args (ps.zip us) → Vals vs us → sp vs H Q E → codeAny (model P w) A (.call (.ref f) args) (CR (L2.CX P w) outer P w H s Q E) s
theorem FnG.mono {P w K mg base j k f fd ps sp} (F : FnG P w K mg base j f fd ps sp) (h : j ≤ k) : FnG P w K mg base k f fd ps sp :=
 ⟨F.len, fun A outer s H args us vs Q E hr => F.run A outer s H args us vs Q E (hr.mono h)⟩
theorem FnG.imp {P w K mg base k f fd ps sp sp'} (F : FnG P w K mg base k f fd ps sp) (h : ∀ vs H Q E, sp' vs H Q E → sp vs H Q E) : FnG P w K mg base k f fd ps sp' :=
 ⟨fun vs H Q E q => F.len vs H Q E (h _ _ _ _ q), fun A outer s H args us vs Q E hr hg he hb hv hs => F.run A outer s H args us vs Q E hr hg he hb hv (h _ _ _ _ hs)⟩
theorem nK {P : Program} {w : World} {K : PySem.W.Frag} {mg : Str → Option Value} {base : Heap} {k : Nat} {f : Addr} {name qual : Str} {params : Arguments} {body : List Stmt} {scope : Scope} {dV kV doc pm cdv ct oc : Value} {an od : Option Addr}
  {osl : Array (Option Value)} {N ps : List Str} {sp : Sp} (lk : K.lookup f = some ⟨oc, od, .func (PySem.W.fnOf name qual params body scope dV kV doc pm an cdv ct), osl⟩) (hcd : PySem.W.codeIn K cdv qual = true) (S : FnScope N ps scope)
  (len : ∀ vs H Q E, sp vs H Q E → vs.length = ps.length)
  (hbody : ∀ (A : Around) (outer : List PySem.Env) (s : Shared) (H : Hp) (vs : List V) (Q : VK) (E : XK), Room k (A.deeper (envOfC qual scope s.heap.objs.size f cdv)) → A.guards = some [] → sp vs H Q E →
   ∃ t, PSs (cxOf (L2.CX P w) P w K mg base N qual scope f cdv A outer s H E) body t ∧ t { nx := fun _ H' => Q .non H', rt := Q } (L2.start N vs) H) :
  FnG P w K mg base (k + 1) f (PySem.W.fnOf name qual params body scope dV kV doc pm an cdv ct) ps sp := by
 refine ⟨len, fun A outer s H args us vs Q E hr hg e0 hb r hsp => ?_⟩
 have atB : ∀ b o, base.get? b = some o → s.heap.get? b = some o := fun b o e => (e0.bs b o e).1
 have KX : K.In s.heap := e0.mod.kin.keeps atB
 have par : ∀ y ∈ ps.zip us, scope.names.lookup y.1 = some .local ∨ (scope.names.lookup y.1 = some .cell ∧ ((cellsFrom (s.heap.objs.size + 1) scope.names []).lookup y.1).isSome = true) := by
  rintro ⟨n, v⟩ hy
  exact (S.par n (List.of_mem_zip hy).1).imp id fun q => ⟨q, PySem.W.cellsFrom_some _ _ _ (.inl q)⟩
 refine codeAny_call_function hr.depth (KX _ _ lk) rfl S.co S.gen rfl (PySem.W.codeRec_of KX hcd) (hb _ _ _ _ (wpAny_newFunctionEnv_cells S.kind par ?_))
 rintro env rfl s1 x
 refine ⟨(e0.mod.nolimit.keeps atB).keeps x.toInCall.keep, codeAny_func ?_⟩
 obtain ⟨t, ht, hq⟩ := hbody A outer s H vs Q E (hr.deeper _) hg hsp
 refine wpAny_mono (ht.run [] s1 _ H _ (inv_start S hr.hd e0 (len _ _ _ _ hsp) r x) hq) (fun fl s' hs => ?_) fun e s' hs => hs
 have fin : ∀ {σ' : L2.St} {H' : Hp} {v : V} {u : Value}, Inv (cxOf (L2.CX P w) P w K mg base N qual scope f cdv A outer s H E) [] σ' H' s' → RelV v u → Q v H' → CE outer P w H s Q u s' :=
  fun {σ' H' v u} J rv q => ⟨v, H', J.os, J.bare, J.base, J.hok, rv, q⟩
 cases fl with
 | ret u => obtain ⟨v, σ', H', J, rv, q⟩ := hs; exact fin J rv q
 | next => obtain ⟨σ', H', J, q⟩ := hs; exact fin (v := V.non) (u := Value.none) J rfl q
 | brk => obtain ⟨_, _, _, q⟩ := hs; exact q.elim
 | cont => obtain ⟨_, _, _, q⟩ := hs; exact q.elim
theorem Fun.okG {P : Program} {w : World} {K : PySem.W.Frag} {mg : Str → Option Value} {base : Heap} {x qual : Str} {st : Stmt} {f : Addr} {fd : FuncData} {N ps : List Str} {k : Nat} {sp : Sp}
  (F : ∃ (oc : Value) (od : Option Addr) (dV kV doc pm : Value) (an : Option Addr) (cdv ct : Value) (osl : Array (Option Value)),
   fd = PySem.W.fnOf x qual (defArgs st) (defBody st) (defScope st) dV kV doc pm an cdv ct ∧ K.lookup f = some ⟨oc, od, .func fd, osl⟩ ∧ PySem.W.codeIn K cdv qual = true) (S : FnScope N ps (defScope st)) (len : ∀ vs H Q E, sp vs H Q E → vs.length = ps.length)
  (hbody : ∀ (cdv : Value) (A : Around) (outer : List PySem.Env) (s : Shared) (H : Hp) (vs : List V) (Q : VK) (E : XK), Room k (A.deeper (envOfC qual (defScope st) s.heap.objs.size f cdv)) → A.guards = some [] → sp vs H Q E →
   ∃ t, PSs (cxOf (L2.CX P w) P w K mg base N qual (defScope st) f cdv A outer s H E) (defBody st) t ∧ t { nx := fun _ H' => Q .non H', rt := Q } (L2.start N vs) H) : FnG P w K mg base (k + 1) f fd ps sp := by
 obtain ⟨oc, od, dV, kV, doc, pm, an, cdv, ct, osl, rfl, lk, hcd⟩ := F
 exact nK lk hcd S len fun A outer s H vs Q E hr hg hsp => hbody cdv A outer s H vs Q E hr hg hsp
section
variable {X : Cx} {k : Nat} {f C : Addr} {fd : FuncData} {ps ks : List Str} {sp : Sp} {dvs : List V} {ds : List Value} {E : L2.St → XK} {x m : Str} {p pos apos : Pos} {e o : Expr} {es : List Expr} {ta : TE} {t tk : TA}
theorem nN {pins : List (Addr × Obj)} {σ : L2.St} {H : Hp} {s : Shared} {Q : VK} {E : XK} {c : Code} (hx : PassesAt (L2.CX X.prog X.w) X σ E) (I : Inv X pins σ H s)
  {us : List Value} {kw : List (Str × Value)} (h : codeAny (model X.prog X.w) X.A (.call (.ref f) ⟨us, kw⟩) (CR (L2.CX X.prog X.w) X.stack X.prog X.w H s Q E) s) : wpAny (model X.prog X.w) X.A (call (.ref f) us kw) (EP X pins σ Q) X.xe s := by
 refine wpAny_call (codeAny_mono h fun r s' hq => ?_)
 cases r with
 | error e => exact hx pins H s e s' I hq
 | ok fl =>
  cases fl with
  | ret u => exact I.after hq
  | next => exact hq.elim
  | brk => exact hq.elim
  | cont => exact hq.elim
theorem runG {pins : List (Addr × Obj)} {σ : L2.St} {H : Hp} {s : Shared} {Q : VK} {us : List Value} {vs : List V} {E : XK} (F : FnG X.prog X.w X.K X.mg X.base k f fd ps sp) (hr : Room k X.A) (hG : X.A.guards = some []) (hb : Binds X.K fd ps ds) (hd : Vals dvs ds) (hx : PassesAt (L2.CX X.prog X.w) X σ E)
  (I : Inv X pins σ H s) (r : Vals vs us) (h : sp (vs ++ dvs) H Q E) : wpAny (model X.prog X.w) X.A (call (.ref f) us) (EP X pins σ Q) X.xe s := by
 have r2 := r.append hd
 exact nN (c := .call (.ref f) ⟨us, []⟩) hx I (F.run X.A X.stack s H ⟨us, []⟩ _ _ Q E hr hG I.env0 (hb s us I.kIn (by rw [← r2.length]; exact F.len _ _ _ _ h)) r2 h)
theorem hQ (F : FnG X.prog X.w X.K X.mg X.base k f fd ps sp) (hr : Room k X.A) (hG : X.A.guards = some []) (hg : Gl X x) (hm : X.mg x = some (.ref f)) (hk : PySem.W.keepIn X.K (.ref f) = true) (hb : Binds X.K fd ps ds) (hd : Vals dvs ds) (hx : ∀ σ, PassesAt (L2.CX X.prog X.w) X σ (E σ))
  (ha : PA X (e :: es) t) (hdb : (x == ("__debug__" : Str)) = false := by decide) (he : starEach (e :: es) X.env = (false, eval e X.env) :: starEach es X.env := by rfl) (hpl : (backTo pos (starEach es X.env)).any (·.1) = false := by rfl) :
  PE X (.Call (.Name x p) (e :: es) [] pos) (fun σ H Q => t σ H fun vs H1 => sp (vs ++ dvs) H1 Q (E σ)) :=
 ⟨fun pins s σ H Q I h => wpAny_Call_Name_kw (ld_glob I hg hm (PySem.W.callWith_K (h₀ := X.base) I.ok.mod.kin hk (thn (ha.run pos pins s σ H _ I h) fun us s1 ⟨vs, H1, I1, r, q⟩ => ⟨I1.kIn, runG F hr hG hb hd (hx σ) I1 r q⟩) he hpl) hdb)⟩
structure MetG (X : Cx) (C : Addr) (m : Str) (sp : Sp) (ds : List Value) : Prop where
 ex : ∃ (k : Nat) (f : Addr) (fd : FuncData) (ps : List Str), Cls X.K C ∧ Meth X.K C m f ∧ FnG X.prog X.w X.K X.mg X.base k f fd ps sp ∧ Room k X.A ∧ Binds X.K fd ps ds
end
end Z
namespace Z
open PySem L2
abbrev Cl.at2 (c : Cl) (v : V) (o : Bool) : Cl := { c with r0 := v, o := o }
abbrev Cl.at (c : Cl) (v : V) : Cl := { c with r0 := v, o := false }
mutual
theorem Rp.re {K : PySem.W.Frag} {c : Cl} {u w : V} {o1 o2 : Bool} {F : Hp} : (x : PV) → (v : V) → Rp ⟨K, c.at2 u o1⟩ F x v → Rp ⟨K, c.at2 w o2⟩ F x v
 | .non, _, h => by simpa [Rp] using h
 | .bl b, _, h => by simpa [Rp] using h
 | .int i, _, h => by simpa [Rp] using h
 | .str x, _, h => by simpa [Rp] using h
 | .tup xs, _, h => by
  simp only [Rp] at h ⊢
  obtain ⟨a, vs, r, s, l⟩ := h
  exact ⟨a, vs, r, s, RpL.re xs vs l⟩
 | .lst xs, _, h => by
  simp only [Rp] at h ⊢
  obtain ⟨a, vs, r, s, l⟩ := h
  exact ⟨a, vs, r, s, RpL.re xs vs l⟩
 | .dct t kvs, _, h => by
  simp only [Rp] at h ⊢
  obtain ⟨a, ks, r, s, l⟩ := h
  exact ⟨a, ks, r, s, RpD.re kvs ks l⟩
 | .set xs, _, h => by
  simp only [Rp] at h ⊢
  exact h
 | .obj c fs, _, h => by
  simp only [Rp] at h ⊢
  obtain ⟨a, C, dx, vs, r, s, q, l⟩ := h
  exact ⟨a, C, dx, vs, r, s, q, RpF.re fs vs l⟩
 | .nul, _, h => by simpa [Rp] using h
 | .exc c fs, _, h => by
  simp only [Rp] at h ⊢
  obtain ⟨a, C, d, vs, r, s, q, x, l⟩ := h
  exact ⟨a, C, d, vs, r, s, q, x, RpF.re fs vs l⟩
theorem RpL.re {K : PySem.W.Frag} {c : Cl} {u w : V} {o1 o2 : Bool} {F : Hp} : (xs : List PV) → (vs : List V) → RpL ⟨K, c.at2 u o1⟩ F xs vs → RpL ⟨K, c.at2 w o2⟩ F xs vs
 | [], _, h => by simpa [RpL] using h
 | x :: xs, _, h => by
  simp only [RpL] at h ⊢
  obtain ⟨v, ws, r, p, q⟩ := h
  exact ⟨v, ws, r, Rp.re x v p, RpL.re xs ws q⟩
theorem RpD.re {K : PySem.W.Frag} {c : Cl} {u w : V} {o1 o2 : Bool} {F : Hp} : (xs : List (PV × PV)) → (vs : List (PV × V)) → RpD ⟨K, c.at2 u o1⟩ F xs vs → RpD ⟨K, c.at2 w o2⟩ F xs vs
 | [], _, h => by simpa [RpD] using h
 | (k, x) :: xs, _, h => by
  simp only [RpD] at h ⊢
  obtain ⟨v, ws, r, p, q⟩ := h
  exact ⟨v, ws, r, Rp.re x v p, RpD.re xs ws q⟩
theorem RpF.re {K : PySem.W.Frag} {c : Cl} {u w : V} {o1 o2 : Bool} {F : Hp} : (xs : List (String × PV)) → (vs : List (Str × V)) → RpF ⟨K, c.at2 u o1⟩ F xs vs → RpF ⟨K, c.at2 w o2⟩ F xs vs
 | [], _, h => by simpa [RpF] using h
 | (k, x) :: xs, _, h => by
  simp only [RpF] at h ⊢
  obtain ⟨v, ws, r, p, q⟩ := h
  exact ⟨v, ws, r, Rp.re x v p, RpF.re xs ws q⟩
end
mutual
theorem OwM.re {K : PySem.W.Frag} {c : Cl} {u w : V} {o1 o2 : Bool} {F H : Hp} : (m : Md) → ∀ {x v A}, OwM ⟨K, c.at2 u o1⟩ F H m x v A → OwM ⟨K, c.at2 w o2⟩ F H m x v A
 | .fz, x, v, A, h => by simp only [OwM] at h ⊢; exact ⟨Rp.re _ _ h.1, h.2⟩
 | .ow, x, v, A, h => by
  simp only [OwM] at h ⊢
  obtain ⟨b, rfl, rfl, h⟩ := h
  refine ⟨b, rfl, rfl, ?_⟩
  cases x <;> first | exact h.elim | skip
  ·obtain ⟨vs, h, r⟩ := h; exact ⟨vs, h, RpL.re _ _ r⟩
  ·obtain ⟨ks, h, r⟩ := h; exact ⟨ks, h, RpD.re _ _ r⟩
  ·exact h
 | .ob ms, x, v, A, h => by
  simp only [OwM] at h ⊢
  obtain ⟨b, C, dx, vs, A', rfl, rfl, hb, h⟩ := h
  refine ⟨b, C, dx, vs, A', rfl, rfl, hb, ?_⟩
  cases x <;> first | exact h.elim | skip
  exact ⟨h.1, OwF.re ms h.2⟩
 | .lk, x, v, A, h => by
  simp only [OwM] at h ⊢
  obtain ⟨d, od, t, ks, kvs, r1, r2, r3, r4, r5⟩ := h
  exact ⟨d, od, t, ks, kvs, r1, r2, r3, r4, RpD.re _ _ r5⟩
theorem OwF.re {K : PySem.W.Frag} {c : Cl} {u w : V} {o1 o2 : Bool} {F H : Hp} : (ms : List Md) → ∀ {fs vs A}, OwF ⟨K, c.at2 u o1⟩ F H ms fs vs A → OwF ⟨K, c.at2 w o2⟩ F H ms fs vs A
 | [], fs, vs, A, h => by simp only [OwF] at h ⊢; exact h
 | m :: ms, fs, vs, A, h => by
  simp only [OwF] at h ⊢
  obtain ⟨f, x, fs', v, vs', A1, A2, rfl, rfl, rfl, h1, h2⟩ := h
  exact ⟨f, x, fs', v, vs', A1, A2, rfl, rfl, rfl, OwM.re m h1, OwF.re ms h2⟩
end
mutual
theorem OwT.re {K : PySem.W.Frag} {c : Cl} {u w : V} {o1 o2 : Bool} {F H : Hp} : (x : PV) → ∀ {v A}, OwT ⟨K, c.at2 u o1⟩ F H x v A → OwT ⟨K, c.at2 w o2⟩ F H x v A
 | .lst xs, v, A, h => by
  simp only [OwT] at h ⊢
  obtain ⟨b, vs, A', e1, e2, q, h⟩ := h
  exact ⟨b, vs, A', e1, e2, q, ax.re xs h⟩
 | .tup xs, v, A, h => by
  simp only [OwT] at h ⊢
  obtain ⟨b, vs, e1, q, h⟩ := h
  exact ⟨b, vs, e1, q, ax.re xs h⟩
 | .non, v, A, h => by simp only [OwT] at h ⊢; exact ⟨Rp.re _ _ h.1, h.2⟩
 | .bl _, v, A, h => by simp only [OwT] at h ⊢; exact ⟨Rp.re _ _ h.1, h.2⟩
 | .int _, v, A, h => by simp only [OwT] at h ⊢; exact ⟨Rp.re _ _ h.1, h.2⟩
 | .str _, v, A, h => by simp only [OwT] at h ⊢; exact ⟨Rp.re _ _ h.1, h.2⟩
 | .dct _ _, v, A, h => by simp only [OwT] at h ⊢; exact ⟨Rp.re _ _ h.1, h.2⟩
 | .set _, v, A, h => by simp only [OwT] at h ⊢; exact ⟨Rp.re _ _ h.1, h.2⟩
 | .obj _ _, v, A, h => by simp only [OwT] at h ⊢; exact ⟨Rp.re _ _ h.1, h.2⟩
 | .exc _ _, v, A, h => by simp only [OwT] at h ⊢; exact ⟨Rp.re _ _ h.1, h.2⟩
 | .nul, v, A, h => by simp only [OwT] at h ⊢; exact ⟨Rp.re _ _ h.1, h.2⟩
theorem ax.re {K : PySem.W.Frag} {c : Cl} {u w : V} {o1 o2 : Bool} {F H : Hp} : (xs : List PV) → ∀ {vs A}, ax ⟨K, c.at2 u o1⟩ F H xs vs A → ax ⟨K, c.at2 w o2⟩ F H xs vs A
 | [], vs, A, h => by simp only [ax] at h ⊢; exact h
 | x :: xs, vs, A, h => by
  simp only [ax] at h ⊢
  obtain ⟨v, ws, A1, A2, e1, e2, h1, h2⟩ := h
  exact ⟨v, ws, A1, A2, e1, e2, OwT.re x h1, ax.re xs h2⟩
end
theorem OwR.re {K : PySem.W.Frag} {c : Cl} {u w : V} {o1 o2 : Bool} {F H : Hp} {x : PV} {v A} (h : OwR ⟨K, c.at2 u o1⟩ F H x v A) : OwR ⟨K, c.at2 w o2⟩ F H x v A := by
 cases n : trB x with
 | true => exact OwR.ofT (OwT.re x (h.t n)) n
 | false => exact OwR.ofM (OwM.re _ (h.m n)) n
theorem XcR.re {K : PySem.W.Frag} {c : Cl} {u w : V} {o1 o2 : Bool} {F : Hp} {e cls d} (h : XcR ⟨K, c.at2 u o1⟩ F e cls d) : XcR ⟨K, c.at2 w o2⟩ F e cls d := by
 obtain ⟨C, vs, a, b, x, r⟩ := h
 exact ⟨C, vs, a, b, x, RpF.re _ _ r⟩
theorem spQ.re {K : PySem.W.Frag} {c : Cl} {f : List PV → R PV} (u w : V) {o1 o2 : Bool} {vs H Q E} (h : spQ K (c.at2 u o1) f vs H Q E) : spQ K (c.at2 w o2) f vs H Q E := by
 obtain ⟨F, xs, s, r, h⟩ := h
 refine ⟨F, xs, s, RpL.re _ _ r, ?_⟩
 cases e : f xs with
 | ok x => rw [e] at h; exact fun F' H' v ex rv => h F' H' v ex (Rp.re _ _ rv)
 | er x => rw [e] at h; exact fun F' H' c d ex rv => h F' H' c d ex rv.re
 | no => rw [e] at h; exact h
theorem cX {s t : String} (h : Str.ofString s = Str.ofString t) : s = t := by
 rw [PySem.Str.ofString_eq_toList, PySem.Str.ofString_eq_toList] at h
 have h1 : (s.toList.map Char.toNat) = (t.toList.map Char.toNat) := by
  have := congrArg (fun x : Str => x.cps.toList) h
  simpa using this
 have h2 : s.toList = t.toList := by
  have inj : ∀ {a b : List Char}, a.map Char.toNat = b.map Char.toNat → a = b := fun {a} => by
   induction a with
   | nil => intro b e; cases b <;> simp at e ⊢
   | cons x xs ih =>
    intro b e
    cases b with
    | nil => simp at e
    | cons y ys =>
     simp only [List.map_cons, List.cons.injEq] at e
     rw [ih e.2, Char.toNat_inj.mp e.1]
  exact inj h1
 exact String.toList_inj.mp h2
theorem RpF.look {T : Tb} {F : Hp} {n : String} : ∀ {fs : List (String × PV)} {vs : List (Str × V)}, RpF T F fs vs → (match fs.lookup n with
  | some x => ∃ v, vs.lookup (Str.ofString n) = some v ∧ Rp T F x v
  | none => vs.lookup (Str.ofString n) = none)
 | [], _, h => by simp only [RpF] at h; subst h; rfl
 | (f, x) :: fs, _, h => by
  simp only [RpF] at h
  obtain ⟨v, ws, rfl, p, q⟩ := h
  by_cases e : n = f
  ·subst e
   simp only [List.lookup, BEq.rfl]
   exact ⟨v, rfl, p⟩
  ·have e1 : (n == f) = false := by simpa using e
   have e2 : (Str.ofString n == Str.ofString f) = false := by
    refine Bool.eq_false_iff.mpr fun z => e (cX (eq_of_beq z))
   simp only [List.lookup, e1, e2]
   exact RpF.look q
section
variable {P : Program} {w : World} {K : PySem.W.Frag} {mg : Str → Option Value} {base : Heap}
structure FnAt (K : PySem.W.Frag) (x qual : Str) (st : Stmt) (f : Addr) (fd : FuncData) : Prop where
 ex : ∃ (oc : Value) (od : Option Addr) (dV kV doc pm : Value) (an : Option Addr) (cdv ct : Value) (osl : Array (Option Value)),
  fd = PySem.W.fnOf x qual (defArgs st) (defBody st) (defScope st) dV kV doc pm an cdv ct ∧ K.lookup f = some ⟨oc, od, .func fd, osl⟩ ∧ PySem.W.codeIn K cdv qual = true
 kp : PySem.W.keepIn K (.ref f) = true
theorem dg {cl : Cl} {x qual : Str} {st : Stmt} {f : Addr} {fd : FuncData} {N ps : List Str} {k : Nat} {body : Env → Os} {np nl : Nat} {g : List PV → R PV} (hg : g = run np nl body) (Fn : FnAt K x qual st f fd) (S : FnScope N ps (defScope st)) (hp : ps.length = np) (hl : N.length = nl)
  (hb : ∀ (cdv : Value) (A : Around) (outer : List PySem.Env) (s : Shared) (H : Hp) (E : XK), Room k (A.deeper (PyProof.Rows.envOfC qual (defScope st) s.heap.objs.size f cdv)) → A.guards = some [] →
   Takes (cxOf (L2.CX P w) P w K mg base N qual (defScope st) f cdv A outer s H E) (fun cls d _ H => E cls d H) → QSs cl (cxOf (L2.CX P w) P w K mg base N qual (defScope st) f cdv A outer s H E) (fun cls d _ H => E cls d H) body (defBody st)) (ho : iG cl = false := by assumption) :
  FnG P w K mg base (k + 1) f fd ps (spQ K cl g) := by
 subst hg hp hl
 exact Fun.okG Fn.ex S (fun vs H Q E h => lh h) fun cdv A outer s H vs Q E hr hg h => ⟨_, (hb cdv A outer s H E hr hg (takes_of rfl rfl rfl rfl)).ps, l9 rfl (fun _ _ _ _ z => z) ho h⟩
end
def zDf (fs : Env → R (List PV)) (ds : List PV) : Env → R (List PV) := fun γ => (fs γ).bind fun xs => .ok (xs ++ ds)
section
variable {X : Cx} {cl : Cl} {W : WX}
theorem kY {g fs} {dp : List PV} {dv : List V} (rd : ∀ F, RpL ⟨X.K, cl⟩ F dp dv) {σ : L2.St} {H : Hp} {Q : VK} (h : tq X.K cl W (bD g (zDf fs dp)) σ H Q) : tqZ X.K cl W fs σ H fun vs H1 => spQ X.K cl g (vs ++ dv) H1 Q E0 := by
 obtain ⟨F, A, γ, rel, h⟩ := h
 refine ⟨F, A, γ, rel, ?_⟩
 unfold bD zDf at h
 cases e : fs γ with
 | no => rw [e] at h; exact h
 | er x => rw [e] at h; exact h
 | ok xs =>
  rw [e] at h
  simp only [R.ai] at h
  intro F1 H1 vs e1 r1
  refine ⟨F1, xs ++ dp, rel.st e1, r1.append (rd F1), ?_⟩
  cases e' : g (xs ++ dp) with
  | no => rw [e'] at h; exact h
  | er x => rw [e'] at h; exact h.elim
  | ok x => rw [e'] at h; exact fun F' H' v ex rv => h F' H' v (e1.trans ex) (VlR.zz rv)
theorem kX {g fs} {dp : List PV} {dv : List V} (rd : ∀ F, RpL ⟨X.K, cl⟩ F dp dv) {σ : L2.St} {H : Hp} {Q : VK} (h : tq X.K cl W (fH g (zDf fs dp)) σ H Q) : tqZ X.K cl W fs σ H fun vs H1 => spQ X.K cl g (vs ++ dv) H1 Q (WE W σ) := by
 obtain ⟨F, A, γ, rel, h⟩ := h
 refine ⟨F, A, γ, rel, ?_⟩
 unfold fH zDf at h
 cases e : fs γ with
 | no => rw [e] at h; exact h
 | er x => rw [e] at h; exact h
 | ok xs =>
  rw [e] at h
  simp only [R.ai] at h
  intro F1 H1 vs e1 r1
  refine ⟨F1, xs ++ dp, rel.st e1, r1.append (rd F1), ?_⟩
  cases e' : g (xs ++ dp) with
  | no => rw [e'] at h; exact h
  | er x => rw [e'] at h; exact fun F' H' c d ex rv => h F' H' c d (e1.trans ex) rv
  | ok x => rw [e'] at h; exact fun F' H' v ex rv => h F' H' v (e1.trans ex) (VlR.zz rv)
theorem iO (fs : Env → R (List PV)) : zDf fs [] = fs := by
 funext γ
 unfold zDf
 cases fs γ <;> simp
theorem pas0 (σ : L2.St) : PassesAt (L2.CX X.prog X.w) X σ ((fun _ => E0) σ) := fun pins H s e s' I c => passL pins σ H s e s' I c
structure CalG (X : Cx) (cl : Cl) (x : Str) (g : List PV → R PV) (ds : List Value) : Prop where
 ex : ∃ (k : Nat) (f : Addr) (fd : FuncData) (ps : List Str), FnG X.prog X.w X.K X.mg X.base k f fd ps (spQ X.K cl g) ∧ Room k X.A ∧ X.mg x = some (.ref f) ∧ PySem.W.keepIn X.K (.ref f) = true ∧ L2.Binds X.K fd ps ds
theorem j6 {x : Str} {g fs} {e : Expr} {es : List Expr} {p pos : Pos} (C : CalG X cl x g []) (hG : X.A.guards = some []) (ha : QZ cl X W fs (e :: es)) (hg : Gl X x := by rfl) (hdb : (x == ("__debug__" : Str)) = false := by decide)
  (he : starEach (e :: es) X.env = (false, eval e X.env) :: starEach es X.env := by rfl) (hpl : (backTo pos (starEach es X.env)).any (·.1) = false := by rfl) : QE cl X W (bD g fs) (.Call (.Name x p) (e :: es) [] pos) := by
 obtain ⟨k, f, fd, ps, F, hr, hm, hk, hb⟩ := C.ex
 refine ⟨(hQ F hr hG hg hm hk hb .nil pas0 ha.pa hdb he hpl).imp fun σ H Q h => ?_⟩
 rw [← iO fs] at h
 exact kY (dp := []) (dv := []) (fun F => RpL.nil) h
theorem q_cX {x : Str} {g fs} {e : Expr} {es : List Expr} {p pos : Pos} (tk : Takes X W) (C : CalG X cl x g []) (hG : X.A.guards = some []) (ha : QZ cl X W fs (e :: es)) (hg : Gl X x := by rfl) (hdb : (x == ("__debug__" : Str)) = false := by decide)
  (he : starEach (e :: es) X.env = (false, eval e X.env) :: starEach es X.env := by rfl) (hpl : (backTo pos (starEach es X.env)).any (·.1) = false := by rfl) : QE cl X W (fH g fs) (.Call (.Name x p) (e :: es) [] pos) := by
 obtain ⟨k, f, fd, ps, F, hr, hm, hk, hb⟩ := C.ex
 refine ⟨(hQ F hr hG hg hm hk hb .nil (fun σ => passAt tk σ) ha.pa hdb he hpl).imp fun σ H Q h => ?_⟩
 rw [← iO fs] at h
 exact kX (dp := []) (dv := []) (fun F => RpL.nil) h
def eV (n : String) : List Md → List (String × PV) → R Vl
 | m :: ms, (f, x) :: fs => if n == f then .ok (.pk m x) else eV n ms fs
 | _, _ => .no
def gI (n : String) (fs : List (String × PV)) : R Vl := match fs.lookup n with
 | some x => .ok (.z x)
 | none => .no
def ki (n : String) : Vl → R Vl
 | .pk (.ob ms) (.obj _ fs) => eV n ms fs
 | l => match l.keep with
  | .ok (.obj _ fs) => gI n fs
  | _ => .no
def kW (n : String) (f : Ex) : Ex := fun γ => (f γ).bind (ki n)
theorem ji {T : Tb} {F H : Hp} {n : String} : ∀ {ms : List Md} {fs : List (String × PV)} {vs : List (Str × V)} {A : List Addr} {l : Vl}, OwF T F H ms fs vs A → eV n ms fs = .ok l → ∃ v m x Ai, l = .pk m x ∧ vs.lookup (Str.ofString n) = some v ∧ OwM T F H m x v Ai ∧ ∀ a ∈ Ai, a ∈ A
 | [], fs, vs, A, l, h, e => by simp [eV] at e
 | m :: ms, [], vs, A, l, h, e => by simp [eV] at e
 | m :: ms, (f, x) :: fs, vs, A, l, h, e => by
  simp only [OwF] at h
  obtain ⟨f', x', fs', v, vs', A1, A2, e1, rfl, rfl, h1, h2⟩ := h
  cases e1
  simp only [eV] at e
  by_cases q : n = f
  ·subst q
   rw [if_pos (by simp)] at e
   cases e
   exact ⟨v, m, x, A1, rfl, by simp [List.lookup], h1, fun a ha => List.mem_append_left _ ha⟩
  ·rw [if_neg (by simpa using q)] at e
   obtain ⟨v', m', x', Ai, r1, r2, r3, r4⟩ := ji h2 e
   refine ⟨v', m', x', Ai, r1, ?_, r3, fun a ha => List.mem_append_right _ (r4 a ha)⟩
   have e2 : (Str.ofString n == Str.ofString f) = false := Bool.eq_false_iff.mpr fun z => q (cX (eq_of_beq z))
   simp only [List.lookup, e2]
   exact r2
theorem jj {n : String} {e : Xc} : ∀ {ms : List Md} {fs : List (String × PV)}, eV n ms fs = .er e → False
 | [], fs, h => by simp [eV] at h
 | m :: ms, [], h => by simp [eV] at h
 | m :: ms, (f, x) :: fs, h => by
  simp only [eV] at h
  split at h
  ·cases h
  ·exact jj h
theorem oS {n : String} {f : Ex} {o : Expr} {pos : Pos} (O : ClOk X.K cl) (na : ∀ c C, cl.i c = some C → NoAttr X.K C (Str.ofString n)) (ho : QE cl X W f o) (hb : attributeBase o (Str.ofString n) X.env (eval o X.env) = eval o X.env := by rfl) :
  QE cl X W (kW n f) (.Attribute o (Str.ofString n) pos) := by
 refine ⟨(pe_fld ho.pe hb).imp fun σ H Q h => ?_⟩
 obtain ⟨F, A, γ, rel, h⟩ := h
 refine ⟨F, A, γ, rel, ?_⟩
 unfold kW at h
 cases e : f γ with
 | no => rw [e] at h; exact h
 | er x => rw [e] at h; exact h
 | ok l =>
  rw [e] at h
  simp only [R.ai] at h
  intro F1 H1 v e1 r1
  have frozen : ki n l = (match l.keep with
    | .ok (.obj _ fs) => gI n fs
    | _ => (.no : R Vl)) → ∃ a C dx fs v0, v = .ref a ∧ H1 a = some (.ins C dx fs) ∧ Cls X.K C ∧ NoAttr X.K C (Str.ofString n) ∧ fs.lookup (Str.ofString n) = some v0 ∧ Q v0 H1 := fun ep => by
   rw [ep] at h
   cases ek : l.keep with
   | no => rw [ek] at h; exact h.elim
   | er x => exact (l.keep_ne _ ek).elim
   | ok x =>
    rw [ek] at h
    cases x <;> try exact h.elim
    rename_i c fs
    obtain ⟨F2, e2, s2, rx⟩ := keep_ok r1 e1 ek
    simp only [Rp] at rx
    obtain ⟨a, C, dx, vs, rfl, hc, ha, rf⟩ := rx
    have lk := rf.look (n := n)
    simp only [gI] at h
    cases el : fs.lookup n with
    | none => rw [el] at h; exact h.elim
    | some y =>
     rw [el] at h lk
     obtain ⟨v0, hv, rv⟩ := lk
     exact ⟨a, C, dx, vs, v0, rfl, e2.sub _ _ ha, (O.i c C hc).cl, na c C hc, hv, h F2 H1 v0 e2 (VlR.zz rv)⟩
  cases l with
  | fr m x => exact frozen rfl
  | pk m x =>
   cases m with
   | fz => exact frozen rfl
   | ow => exact frozen rfl
   | lk => exact frozen rfl
   | ob ms =>
    cases x <;> try exact frozen rfl
    rename_i c fs
    obtain ⟨Ai, o1, o2⟩ := r1
    simp only [OwM] at o1
    obtain ⟨a, C, dx, vs, A', rfl, rfl, ha, hc, of⟩ := o1
    simp only [ki] at h
    cases el : eV n ms fs with
    | no => rw [el] at h; exact h.elim
    | er x => exact (jj el).elim
    | ok l =>
     rw [el] at h
     obtain ⟨v0, m', x', A'', rfl, hv, ow, hA⟩ := ji of el
     exact ⟨a, C, dx, vs, v0, rfl, ha, (O.i c C hc).cl, na c C hc, hv, h F1 H1 v0 e1 ⟨A'', ow, fun b hb => o2 b (List.mem_cons_of_mem _ (hA b hb))⟩⟩
def o9 (tbl : List (String × (List PV → R PV))) (m : String) : PV → R (List PV → R PV)
 | .obj c fs => match fs.lookup m with
  | some _ => .no
  | none => match tbl.lookup c with
   | some g => .ok g
   | none => .no
 | _ => .no
structure MetT (X : Cx) (cl : Cl) (m : String) (tbl : List (String × (List PV → R PV))) (ds : List Value) : Prop where
 at_ : ∀ c g C, tbl.lookup c = some g → cl.i c = some C → MetG X C (Str.ofString m) (spQ X.K cl g) ds
theorem hz0 (r : R PV) (l : Vl) (h : (r.noer).map .z = .ok l) : ∃ x, l = .z x := by cases r <;> cases h; exact ⟨_, rfl⟩
variable {m : String} {tbl : List (String × (List PV → R PV))} {f : Ex} {fs : Env → R (List PV)} {o e : Expr} {es : List Expr} {apos pos : Pos} {pl : Sem Bool} {ds : List Value} {dp : List PV} {dv : List V}
end
end Z
namespace Z
open PySem L2
inductive RM where
 | ok (r : PV) (m : Md) (x : PV) | er (e : Xc) (m : Md) (x : PV) | no
abbrev MF := Md → PV → List PV → RM
def spM (K : PySem.W.Frag) (cl : Cl) (g : MF) : Sp := fun vs H Q E => ∃ F m x v0 A xs vs', vs = v0 :: vs' ∧ SmT ⟨K, cl⟩ F H ∧ OwM ⟨K, cl⟩ F H m x v0 A ∧ A.Nodup ∧ (∀ a ∈ A, F a = none) ∧ RpL ⟨K, cl⟩ F xs vs' ∧ match g m x xs with
 | .ok r m' x' => ∀ F' A' H' v, Step F A H F' A' H' → Same F' H' → OwM ⟨K, cl⟩ F' H' m' x' v0 A' → A'.Nodup → (∀ a ∈ A', F' a = none) → Rp ⟨K, cl⟩ F' r v → Q v H'
 | .er e m' x' => ∀ F' A' H' c d, Step F A H F' A' H' → Same F' H' → OwM ⟨K, cl⟩ F' H' m' x' v0 A' → A'.Nodup → (∀ a ∈ A', F' a = none) → XcR ⟨K, cl⟩ F' e c d → E c d H'
 | .no => False
theorem spM.re {K : PySem.W.Frag} {c : Cl} {g : MF} (u w : V) {o1 o2 : Bool} {vs H Q E} (h : spM K (c.at2 u o1) g vs H Q E) : spM K (c.at2 w o2) g vs H Q E := by
 obtain ⟨F, m, x, v0, A, xs, vs', e, s, o, nd, d, r, h⟩ := h
 refine ⟨F, m, x, v0, A, xs, vs', e, s, o.re, nd, d, RpL.re _ _ r, ?_⟩
 cases e : g m x xs with
 | ok y m' x' => rw [e] at h; exact fun F' A' H' v st sb ow nd' d' rv => h F' A' H' v st sb ow.re nd' d' (Rp.re _ _ rv)
 | er y m' x' => rw [e] at h; exact fun F' A' H' c d st sb ow nd' d' rv => h F' A' H' c d st sb ow.re nd' d' rv.re
 | no => rw [e] at h; exact h
def outM : Os → RM
 | .rt r (.me m x :: _) => .ok r m x
 | .nx (.me m x :: _) => .ok .non m x
 | .er e (.me m x :: _) => .er e m x
 | _ => .no
theorem Step.sub {F A H F1 A1 A2 H1} (s : Step F A H F1 A1 H1) (h : ∀ a ∈ A2, a ∈ A1) : Step F A H F1 A2 H1 := ⟨s.fle, s.keep, fun a ha => s.own a (h a ha), s.new, s.z⟩
theorem Rel.me {K : PySem.W.Frag} {cl : Cl} {F H : Hp} {A σ m x γ} (rel : Rel ⟨K, cl⟩ F A σ H (.me m x :: γ)) : ∃ A1, OwM ⟨K, cl⟩ F H m x cl.r0 A1 ∧ A1.Nodup ∧ (∀ a ∈ A1, a ∈ A) := by
 obtain ⟨A1, S, _, rfl, o, _⟩ := OwE.splitMe γ rel.env
 exact ⟨A1, o, (List.nodup_append.mp rel.nd).1, fun a ha => List.mem_append_left _ ha⟩
section
variable {P : Program} {w : World} {K : PySem.W.Frag} {mg : Str → Option Value} {base : Heap}
end
section
variable {X : Cx} {cl : Cl} {W : WX}
def pz (i : Nat) (γ : Env) : Env := match γ[i]? with
 | some (.sl _ x) => γ.set i (.sl .fz x)
 | _ => γ
theorem Rel.frz {T : Tb} {F H : Hp} {A σ γ} {i : Nat} (rel : Rel T F A σ H γ) : ∃ F' A', Rel T F' A' σ H (pz i γ) ∧ Step F A H F' A' H := by
 unfold pz
 split
 ·rename_i m x e
  obtain ⟨v, Ai, h1, h2, h3, h4⟩ := rel.mut e
  have d : ∀ a ∈ Ai, F a = none := fun a ha => rel.dis a (h3 a ha)
  obtain ⟨A2, r, s⟩ := h4 .fz x (Z.frz F H Ai) H [] (bG d) (fun _ _ _ q _ => q) .refl (eA rel.sub) (OwM.fz_of (OwM.freeze (bG d) m h2 fun a ha o h => iI ha h)) (by simp) (by simp) (by simp) (fun a o q => by
   by_cases ha : a ∈ Ai
   ·exact .inr (.inl ha)
   ·rw [eB ha] at q; exact .inl q)
  exact ⟨_, A2, r, s⟩
 ·exact ⟨F, A, rel, Step.refl⟩
def put2 (n : String) (m : Md) (y : PV) : List Md → List (String × PV) → List Md × List (String × PV)
 | m0 :: ms, (f, x) :: fs => if f = n then (m :: ms, (n, y) :: fs) else let r := put2 n m y ms fs; (m0 :: r.1, (f, x) :: r.2)
 | _, _ => ([m], [(n, y)])
def Vl.hold : Vl → Option (Md × PV)
 | .fr m x => some (m, x)
 | .pk .fz x => some (.fz, x)
 | _ => none
def sFst (n : String) (f : Ex) : Env → Os := fun γ => match f γ with
 | .ok l => match l.hold, γ with
  | some (m, y), .me (.ob ms) (.obj c fs) :: γ' => if fs.length < 900 then .nx (.me (.ob (put2 n m y ms fs).1) (.obj c (put2 n m y ms fs).2) :: γ') else .no
  | _, _ => .no
 | .er e => .er e γ
 | .no => .no
theorem OwF.len {T : Tb} {F H : Hp} : ∀ {ms : List Md} {fs : List (String × PV)} {vs : List (Str × V)} {A : List Addr}, OwF T F H ms fs vs A → vs.length = fs.length
 | [], fs, vs, A, h => by simp only [OwF] at h; rw [h.1, h.2.1]; rfl
 | m :: ms, fs, vs, A, h => by
  simp only [OwF] at h
  obtain ⟨f, x, fs', u, vs', A1, A2, rfl, rfl, rfl, h1, h2⟩ := h
  simp [OwF.len h2]
theorem _root_.Z.FnG.at {P w K mg base k f fd ps} {cl : Cl} {g : List PV → R PV} (F : FnG P w K mg base k f fd ps (spQ K cl g)) (v : V) : FnG P w K mg base k f fd ps (spQ K (cl.at v) g) := F.imp fun _ _ _ _ h => spQ.re v cl.r0 h
inductive RE where
 | ok (r : PV) (γ : Env) | er (e : Xc) (γ : Env) | no
def tqE (K : PySem.W.Frag) (cl : Cl) (W : WX) (f : Env → RE) : TE := fun σ H Q => ∃ F A γ, Rel ⟨K, cl⟩ F A σ H γ ∧ match f γ with
 | .ok r γ' => ∀ F' A' H' v, Step F A H F' A' H' → Rel ⟨K, cl⟩ F' A' σ H' γ' → Rp ⟨K, cl⟩ F' r v → Q v H'
 | .er e γ' => ∀ F' A' H' c d, Step F A H F' A' H' → Rel ⟨K, cl⟩ F' A' σ H' γ' → XcR ⟨K, cl⟩ F' e c d → W c d σ H'
 | .no => False
def thing (i : Nat) (γ : Env) : Option (Md × PV) := match γ[i]? with
 | some (.sl (.ob ms) x) => some (.ob ms, x)
 | some (.me m x) => some (m, x)
 | _ => none
def setT (i : Nat) (m : Md) (x : PV) (γ : Env) : Env := match γ[i]? with
 | some (.me _ _) => γ.set i (.me m x)
 | _ => γ.set i (.sl m x)
def putR (i : Nat) (γ : Env) : RM → RE
 | .ok r m x => .ok r (setT i m x γ)
 | .er e m x => .er e (setT i m x γ)
 | .no => .no
end
end Z
namespace Z
open PySem L2 PySem.Spec PyProof.Rows
theorem gp {A : Around} {C : Addr} {us : List Value} {kw : List (Str × Value)} (h : A.guards = some []) : (A.under (.builtin "type.__call__" ⟨.ref C :: us, kw⟩)).guards = some [] := by
 unfold Around.under
 simp only [h]
 first
  | rfl
  | decide
  | simp [pushGuards, Code.guards, Code.isGuard, guardIds]
section
variable {X : Cx} {k : Nat} {f C : Addr} {fd : FuncData} {ps ks : List Str} {sp : Sp} {dvs : List V} {ds : List Value} {E : L2.St → XK} {x m : Str} {p pos apos : Pos} {e o : Expr} {es : List Expr} {ta : TE} {t tk : TA}
end
section
variable {X : Cx} {cl : Cl} {W : WX}
variable {x : Str} {c : String} {g : MF} {fs : Env → R (List PV)} {e : Expr} {es : List Expr} {p pos : Pos} {ds : List Value} {dp : List PV} {dv : List V}
end
end Z
namespace Z
open PySem L2
section
open PySem.Spec PyProof.Rows HT
variable {prog : Program} {w : World} {A : Around} {E : Value → Shared → Prop} {s : Shared}
end
section
variable {X : Cx} {cl : Cl} {W : WX}
theorem _root_.L2.PE.or {X : Cx} {e : Expr} {t u : TE} (h : PE X e t) (k : PE X e u) : PE X e (fun σ H Q => t σ H Q ∨ u σ H Q) := ⟨fun pins s σ H Q I q => q.elim (h.run pins s σ H Q I) (k.run pins s σ H Q I)⟩
end
end Z
namespace Z
open PySem L2
mutual
def toR : PV → PyData
 | .bl b => .bool b
 | .int i => .int i
 | .str x => .str x
 | .tup xs => .tuple (mJ xs)
 | .lst xs => .list (mJ xs)
 | .dct _ _ => .dict []
 | .nul => .tuple []
 | _ => .none
def mJ : List PV → List PyData
 | [] => []
 | x :: xs => toR x :: mJ xs
end
mutual
def rD : Nat → PV → Bool
 | _, .non => true
 | _, .bl _ => true
 | _, .int i => decide (i.natAbs.log2 < 1900)
 | _, .str _ => true
 | n, .tup xs => rDL n xs
 | n, .lst xs => rDL n xs
 | n, .dct _ kvs => kvs.isEmpty && decide (0 < n)
 | n, .nul => decide (0 < n)
 | _, _ => false
def rDL : Nat → List PV → Bool
 | 0, _ => false
 | _ + 1, [] => true
 | n + 1, x :: xs => rD n x && rDL (n + 1) xs
end
mutual
def shW : PV → Nat
 | .non => 4
 | .bl _ => 5
 | .int _ => 700
 | .str x => (reprText x).length
 | .tup xs => 4 + jw xs
 | .lst xs => 4 + jw xs
 | _ => 4
def jw : List PV → Nat
 | [] => 0
 | x :: xs => shW x + 2 + jw xs
end
section
variable {X : Cx} {cl : Cl} {W : WX}
def kS (base : Heap) : Prop := ∃ mm, base.Ns sysModules mm
end
section
open PySem.Spec PyProof.Rows
end
section
open PySem.Spec PyProof.Rows
end
section
variable {X : Cx} {cl : Cl} {W : WX}
end
def gX (K : PySem.W.Frag) (n : Nat) : Sp := fun vs H Q _ => ∃ (a : Addr) (ns : List Int), vs = [.ref a] ∧ ns.length ≤ n ∧ SqL K H a (ns.map V.int) ∧ ∀ H', Q (.bl true) H'
def mM (K : PySem.W.Frag) (n : Nat) (ts : List Addr) : Sp := fun vs H Q _ => ∃ (a : Addr) (ns : List Int), vs = [.ref a] ∧ ns.length ≤ n ∧ SqL K H a (ns.map V.int) ∧ (∀ p ∈ ts, H p = some (.tbl #[])) ∧ ∀ H', Q (.bl true) H'
def jG (H : Hp) : Hp := fun a => match H a with
 | some (.tbl _) => none
 | o => o
theorem jF {H : Hp} : Same (jG H) H := fun a o h => by
 unfold jG at h
 split at h
 ·cases h
 ·exact h
theorem i9 {H : Hp} {a : Addr} {o : HO} (h : H a = some o) (n : NT o) : jG H a = some o := by
 unfold jG
 split
 ·rename_i ps e
  rw [h] at e
  exact (n ps (Option.some.inj e)).elim
 ·exact h
theorem jv {K : PySem.W.Frag} {cl : Cl} {f : List PV → R PV} {n : Nat} (h : jr f n) (nl : gb K = true) {vs H Q E} (q : mM K n cl.t vs H Q E) : spQ K cl f vs H Q E := by
 obtain ⟨a, ns, rfl, hl, hS, ht, q⟩ := q
 refine ⟨jG H, [.lst (ns.map .int)], ⟨jF, fun p hp => ⟨by unfold jG; rw [ht p hp], jN.nil (ht p hp)⟩⟩, RpL.cons ?_ RpL.nil, ?_⟩
 ·simp only [Rp]
  refine ⟨a, _, rfl, ?_, RpL.ofInts _⟩
  rcases rd_of nl hS with z | ⟨o, z⟩
  ·exact .inl (i9 z nofun)
  ·exact .inr ⟨o, i9 z nofun⟩
 ·rw [h ns hl]
  intro F' H' v _ r
  simp only [Rp] at r
  subst r
  exact q H'
theorem jS {K : PySem.W.Frag} {cl : Cl} {f : List PV → R PV} {n : Nat} (h : jr f n) (nl : gb K = true) {vs H Q E} (q : gX K n vs H Q E) (ht : cl.t = [] := by rfl) : spQ K cl f vs H Q E := by
 obtain ⟨a, ns, rfl, hl, hS, q⟩ := q
 exact jv h nl ⟨a, ns, rfl, hl, hS, fun p hp => absurd (show p ∈ cl.t from hp) (by rw [ht]; simp), q⟩
section
open PySem.Spec PyProof.Rows
theorem jI {P : Program} {w : World} {K : PySem.W.Frag} {mg mb : Str → Option Value} {k n : Nat} {fa a : Addr} {fd : FuncData} {x : Str} {s₁ : Shared} {vs : List Value} {ns : List Int}
  (KX : K.In s₁.heap) (hns : s₁.heap.Ns mainGlobals mg) (hb : s₁.heap.Ns builtinsNs mb) (hbb : ∀ x : Str, x ≠ "__name__" → mb x = bootBuiltins x) (hlim : s₁.heap.NoLimit) (hsys : ∃ mm, s₁.heap.Ns sysModules mm) (hg : s₁.gens = #[])
  (ha : s₁.heap.get? a = some { cls := .type "list", data := .seq vs.toArray }) (hi : IntsAre vs ns) (hl : ns.length ≤ sizeLine) (hln : ns.length ≤ n) (hr : Room k callerA)
  (F : ∀ base : Heap, K.In base → base.Ns mainGlobals mg → kS base → FnG P w K mg base k fa fd [x] (gX K n)) (hbind : ∀ (s : Shared) (u : Value), BindsTo s fd ⟨[u], []⟩ [(x, u)]) :
  codeAny (model P w) callerA (.call (.ref fa) ⟨[.ref a], []⟩) (fun r s' => r = .ok (.ret (.bool true)) ∧ OldK s₁.heap s'.heap ∧ s'.os = s₁.os ∧ AllBare s'.gens) s₁ := by
 have rv := vals_ints hi
 have core : ∀ H : Hp, Only H → SqL K H a (ns.map V.int) → HOk P w H s₁.heap → (∀ b, H b ≠ none → b = a) → (H a ≠ none → K.lookup a = none) →
   codeAny (model P w) callerA (.call (.ref fa) ⟨[.ref a], []⟩) (fun r s' => r = .ok (.ret (.bool true)) ∧ OldK s₁.heap s'.heap ∧ s'.os = s₁.os ∧ AllBare s'.gens) s₁ := by
  intro H hO hS hok hA hK
  have only : ∀ {b : Addr}, b ≠ a → H b = none := fun {b} hb => Classical.byContradiction fun z => hb (hA b z)
  have into : ∀ {b : Addr} {o : Obj} {es : Array DictEntry} {ep : Nat}, s₁.heap.get? b = some o → o.data = .dict es ep → (hidT s₁.heap H).get? b = some o := fun {b o es ep} e d => hidT_get e (only fun z => by
   subst z
   rw [ha] at e
   cases e
   have z2 : Data.seq vs.toArray _ = Data.dict es ep := d
   cases z2)
  have nsK : ∀ {b : Addr} {m : Str → Option Value}, s₁.heap.Ns b m → (hidT s₁.heap H).Ns b m := fun {b m} ⟨o, es, ep, e, d, r⟩ => ⟨o, es, ep, into e d, d, r⟩
  have hKb : K.In (hidT s₁.heap H) := fun b o e => hidT_get (KX b o e) (Classical.byContradiction fun z => by
   have z2 := hA b z
   subst z2
   rw [hK z] at e
   cases e)
  have hM : Mod K mg (hidT s₁.heap H) := ⟨hKb, nsK hns, ⟨mb, nsK hb, hbb⟩, let ⟨mc, h1, h2⟩ := hlim; ⟨mc, nsK h1, h2⟩⟩
  have e0 : Env0 P w K mg (hidT s₁.heap H) callerA [] s₁ H := ⟨rfl, hM, fun b o e => of_hidT e, Nat.le_of_eq (hidT_size _ _), trivial, fun b hb => absurd (show b ∈ ([] : List Addr) from hb) (by simp), hok, .of_eq hg⟩
  refine codeAny_mono ((F _ hKb (nsK hns) (let ⟨mm, h⟩ := hsys; ⟨mm, nsK h⟩)).run callerA [] s₁ H ⟨[.ref a], []⟩ [.ref a] [.ref a] (fun v _ => v = .bl true) (fun _ _ _ => False) hr rfl e0 (hbind s₁ (.ref a)) (.cons rfl .nil) ⟨a, ns, rfl, hln, hS, fun _ => rfl⟩) fun r s' h => ?_
  cases r with
  | error e =>
   obtain ⟨_, _, _, _, _, _, _, _, _, _, _, _, z⟩ := h
   exact z.elim
  | ok fl =>
   cases fl with
   | next => exact h.elim
   | brk => exact h.elim
   | cont => exact h.elim
   | ret u =>
    obtain ⟨v, H', os, bare, un, hok', r', q⟩ := h
    have q' : v = .bl true := q
    subst q'
    obtain rfl : u = Value.bool true := r'
    refine ⟨rfl, OldK.of_keep fun b o e => ?_, os, bare⟩
    rcases hO b with z | ⟨ob, xs, z⟩
    ·exact un.keep b o e z (by intro y; exact absurd (show b ∈ ([] : List Addr) from y) (by simp)) (by simp)
    ·obtain ⟨e1, _⟩ := hok b _ z
     obtain ⟨e2, _⟩ := hok' b _ (un.frzs b ob _ z)
     rw [e] at e1
     cases e1
     exact e2
 have pd := hi.length
 cases hk : K.lookup a with
 | some o =>
  have e := KX a o hk
  rw [ha] at e
  cases e
  exact core (fun _ => none) (fun _ => .inl rfl) (.inr ⟨_, vs.toArray, _, hk, rfl, rfl, rfl, by rw [List.size_toArray, pd]; exact hl, by simpa using rv⟩) (fun b u z => by have z' : (none : Option HO) = some u := z; cases z') (fun b z => absurd rfl z) fun z => absurd rfl z
 | none =>
  have at_ : ∀ {b : Addr}, b ≠ a → (if b = a then some (HO.frz { cls := .type "list", data := .seq vs.toArray } (.lst (ns.map V.int))) else none) = none := fun {b} hb => if_neg hb
  refine core (fun b => if b = a then some (.frz { cls := .type "list", data := .seq vs.toArray } (.lst (ns.map V.int))) else none) (fun b => ?_) (.inl (.inr ⟨{ cls := .type "list", data := .seq vs.toArray }, if_pos rfl⟩)) (fun b u z => ?_) (fun b z => Classical.byContradiction fun hb => z (at_ hb)) fun _ => hk
  ·by_cases hb : b = a
   ·exact .inr ⟨_, _, if_pos hb⟩
   ·exact .inl (at_ hb)
  ·by_cases hb : b = a
   ·have z' := (if_pos hb).symm.trans z
    cases z'
    subst hb
    exact ⟨ha, by rw [List.length_map]; exact hl, vs, _, rv, ha⟩
   ·have z' := (at_ hb).symm.trans z
    cases z'
end
end Z
namespace Z
open PySem L2
section
variable {X : Cx} {cl : Cl} {W : WX}
theorem RpD.get {T : Tb} {F : Hp} : ∀ {kvs : List (PV × PV)} {es : List (PV × V)} {i : Nat} {p : PV × PV}, RpD T F kvs es → kvs[i]? = some p → ∃ v, es[i]? = some (p.1, v) ∧ Rp T F p.2 v
 | [], _, _, _, _, e => by simp at e
 | (k, x) :: r, _, 0, _, h, e => by
  simp only [RpD] at h
  obtain ⟨v, ws, rfl, p, q⟩ := h
  simp at e; subst e
  exact ⟨v, by simp, p⟩
 | (k, x) :: r, _, i + 1, _, h, e => by
  simp only [RpD] at h
  obtain ⟨v, ws, rfl, p, q⟩ := h
  obtain ⟨u, h1, h2⟩ := RpD.get (i := i) q (by simpa using e)
  exact ⟨u, by simpa using h1, h2⟩
variable {i : Nat} {x : Str} {tg : Expr} {p apos cpos : Pos}
end
structure DfG (K : PySem.W.Frag) (mg : Str → Option Value) (x : Str) (st : Stmt) (ps : List Str) (a : Addr) (fd : FuncData) : Prop where
 fn : FnAt K x x st a fd
 mgx : mg x = some (.ref a)
 bd : L2.Binds K fd ps []
theorem lookup_all {α β : Type} [BEq α] [LawfulBEq α] {P : α → β → Prop} : ∀ {l : List (α × β)}, (∀ p ∈ l, P p.1 p.2) → ∀ a b, l.lookup a = some b → P a b
 | [], _, a, b, h => by cases h
 | (k, v) :: r, hp, a, b, h => by
  rw [List.lookup_cons] at h
  split at h
  ·rename_i e
   cases h
   rw [eq_of_beq e]
   exact hp (k, v) List.mem_cons_self
  ·exact lookup_all (fun p hm => hp p (List.mem_cons_of_mem _ hm)) a b h
end Z
namespace Z
open PySem L2 PySem.Spec PyProof.Rows
end Z
namespace Z
open PySem L2
@[simp] theorem lW {n : Nat} {x : Str} : isD n (.str x) = PyData.strOk x := by cases n <;> rfl
@[simp] theorem jf {n : Nat} {x : Int} : isD n (.int x) = true := by cases n <;> rfl
@[simp] theorem jd {n : Nat} {xs : List PV} : isD n (.tup xs) = bO n xs := by cases n <;> rfl
@[simp] theorem je {n : Nat} {xs : List PV} : isD n (.lst xs) = bO n xs := by cases n <;> rfl
theorem ib {n : Nat} {xs : List PV} : bO (n + 1) xs = xs.all (isD n) := by
 induction xs with
 | nil => rfl
 | cons x xs ih => simp only [bO, ih, List.all_cons]
theorem Below.get : ∀ {ds zs : List Int}, Below ds zs → ∀ {i : Nat} {z : Int}, zs[i]? = some z → ∃ d, ds[i]? = some d ∧ 0 ≤ d ∧ d < z
 | [], [], _, i, z, h => by simp at h
 | d :: ds, y :: zs, h, 0, z, e => by simp at e; subst e; exact ⟨d, rfl, h.1⟩
 | d :: ds, y :: zs, h, i + 1, z, e => by simpa using Below.get h.2 (by simpa using e)
 | [], _ :: _, h, _, _, _ => h.elim
 | _ :: _, [], h, _, _, _ => h.elim
def cells (N : Nat) (ns : List Int) : List Int := ns.take N ++ if ns = [] then [7] else []
end Z
set_option maxHeartbeats 4000000
namespace KEr
open PySem PySem.Spec
abbrev oe (C t : Addr) : Obj := PySem.HandSPX.excO C t
section
variable {M : Model} {A : Around} {E : Value → Shared → Prop} {h : Heap} {g : Array GenState} {d : Drawn} {t : Nat} {os : OsState}
variable {nm q : Str} {C N : Addr} {bs bm bmB : List Value} {hdct : Bool} {sn : List Str} {sub : List Value} {ab : Bool} {col : Option Bool} {dd : Option Addr} {k0 k1 k2 k3 k5 : Option Value} {B newId initId : String}
theorem ij (F : ExcBaseFacts B newId initId bmB) (hB : bm.contains (.type B) = true) {rest : List Value} {Q : Unit → Shared → Prop}
  (hC : h.get? C = some (excClassObj nm q C N bs bm hdct sn sub ab col dd k0 k1 k2 k3 k5 newId)) (hq : Q () ⟨h, g, d, t, os⟩) : wpAny M A (checkBuiltinCall newId ⟨.ref C :: rest, []⟩) Q E ⟨h, g, d, t, os⟩ := by
 have hcont : (Value.ref C :: bm).contains (.type B) = true := by rw [List.contains_cons, hB, Bool.or_true]
 have hstar := F.noStar
 simp only [checkBuiltinCall, F.newKind, F.newSplit, F.newRow]
 repeat (first | refine wpAny_loadPart_at hC ?_ | (refine wpAny_isSubtype_exc hC ?_; rw [hcont]) | refine wpAny_staticBase_exc hC ?_ | refine wpAny_madeBy_exc hC ?_ | simp only [bne_self_eq_false, Bool.false_eq_true, if_false] | wp_step)
 exact hq
structure IniF (B initId : String) : Prop where
 init : Slot B (Str.ofString "__init__") initId
 initEntry : entryFor table initId = some Builtin.«BaseException.__init__»
 initSplit : splitId initId = some (B, "__init__")
 initKind : builtinKind initId = some Manifest.AttrKind.slot
 initRow : Manifest.signature? initId = some ⟨.positional, "*", B, .self, [⟨"args", .varPos, false⟩]⟩
 noStar : (B != "*") = true
theorem gO (F : IniF B initId) (hB : bm.contains (.type B) = true) {e : Addr} {oe : Obj} {rest : List Value} {Q : Unit → Shared → Prop}
  (hC : h.get? C = some (excClassObj nm q C N bs bm hdct sn sub ab col dd k0 k1 k2 k3 k5 newId)) (he : h.get? e = some oe) (hcls : oe.cls = .ref C) (hq : Q () ⟨h, g, d, t, os⟩) :
  wpAny M A (checkBuiltinCall initId ⟨.ref e :: rest, []⟩) Q E ⟨h, g, d, t, os⟩ := by
 have hcB : (Value.ref C :: bm).contains (.type B) = true := by rw [List.contains_cons, hB, Bool.or_true]
 have hshort := F.noStar
 simp only [checkBuiltinCall, F.initKind, F.initSplit, F.initRow]
 repeat (first | (with_reducible refine wpAny_loadPart_at he ?_; rw [hcls]) | with_reducible refine wpAny_loadPart_at hC ?_ | (with_reducible refine wpAny_isSubtype_exc hC ?_; rw [hcB]) | wp_step)
 refine wpAny_onRaise ?_
 rw [show ∀ (a b : String) (n : Nat), Bind.check ⟨.positional, "*", B, .self, [⟨"args", .varPos, false⟩]⟩ a b n (List.map (fun x => x.fst) ({ pos := Value.ref e :: rest } : Args).kw) = pure () from fun a b n => check_star_args _ _ _ _ _ _]
 exact wpAny_pure hq
end
section
variable {prog : Program} {w : World} {A : Around} {E : Value → Shared → Prop} {R : Result → Shared → Prop} {h : Heap} {g : Array GenState} {d : Drawn} {t : Nat} {os : OsState}
variable {nm q : Str} {C N : Addr} {bs bm bmB : List Value} {hdct : Bool} {sn : List Str} {sub : List Value} {ab : Bool} {col : Option Bool} {dd : Option Addr} {k0 k1 k2 k3 k5 : Option Value} {B newId initId : String}
theorem o8 (F : ExcBaseFacts B newId initId bmB) (hB : bm.contains (.type B) = true) (hA : bm.contains (.type "AttributeError") = false) (hN : bm.contains (.type "NameError") = false) {rest : List Value}
  (hC : h.get? C = some (excClassObj nm q C N bs bm hdct sn sub ab col dd k0 k1 k2 k3 k5 newId))
  (hq : R (.ok (.ret (.ref (h.objs.size + 1)))) ⟨(h.push { cls := .type "tuple", data := .seq rest.toArray }).push { cls := .ref C, data := .fields #[.ref h.objs.size, .none, .none, .none, .bool false, .none] }, g, d, t, os⟩) (hrest : rest.length ≤ sizeLine) :
  codeAny (model prog w) A (.builtin newId ⟨.ref C :: rest, []⟩) R ⟨h, g, d, t, os⟩ := by
 have hends := F.ends
 have hcB : (Value.ref C :: bm).contains (.type B) = true := by rw [List.contains_cons, hB, Bool.or_true]
 have hcA : (Value.ref C :: bm).contains (.type "AttributeError") = false := by rw [List.contains_cons, hA]; rfl
 have hcN : (Value.ref C :: bm).contains (.type "NameError") = false := by rw [List.contains_cons, hN]; rfl
 refine codeAny_builtinAt F.entry ?_
 unfold Builtin.«BaseException.__new__»
 refine wpAt_bind ?_
 show wpAt _ _ _ (stack >>= _) _ _ _
 refine wpAt_bind (wpAt_stack fun p below => wpAt_of_wpAny ?_)
 wp_walk
 refine wpAt_of_wpAny ?_
 rw [F.owner]
 repeat (first | with_reducible refine wpAny_madeHere_exc F.canon hC ?_ | with_reducible refine wpAny_loadPart_at hC ?_ | (with_reducible refine wpAny_isSubtype_exc hC ?_; first | rw [hcB] | rw [hcA] | rw [hcN]) | wp_step)
 show R _ _
 rw [Heap.size_push]
 exact hq
theorem gV (F : ExcBaseFacts B newId initId bmB) (hB : bm.contains (.type B) = true) (hA : bm.contains (.type "AttributeError") = false) (hN : bm.contains (.type "NameError") = false) {rest : List Value} {fI : Addr} {Q : Fin → Shared → Prop}
  (hC : h.get? C = some (excClassObj nm q C N bs bm hdct sn sub ab col dd k0 k1 k2 k3 k5 newId))
  (hi : W.Looks (model prog w) h (typeLookup (.ref C) "__init__") (some (.ref fI))) (hb : ∀ self, W.Looks (model prog w) h (bindSpecial (.ref fI) self) (.ref fI, [self])) (hrest : rest.length ≤ sizeLine)
  (hq : codeAny (model prog w) A (.call (.ref fI) ⟨.ref (h.objs.size + 1) :: rest, []⟩)
   (fun r s' => match r with | .ok (.ret v) => v = .none ∧ Q (.done (.ret (.ref (h.objs.size + 1)))) s' | .ok _ => False | .error e => E e s') ⟨(h.push (W.kdv_tup rest)).push (oe C h.objs.size), g, d, t, os⟩) :
  wpAny (model prog w) A (Builtin.«type.__call__» ⟨.ref C :: rest, []⟩) Q E ⟨h, g, d, t, os⟩ := by
 repeat (first | with_reducible refine wpAny_loadPart_at hC ?_ | with_reducible refine wpAny_madeBy_exc hC ?_ | wp_step)
 refine codeAny_call_builtin_code (Code.quiet_builtin _ F.quiet) (ij F hB hC ?_)
 refine o8 F hB hA hN hC ?_ hrest
 show wpAny _ _ _ _ _ _
 have k : ∀ b o, h.get? b = some o → ((h.push (W.kdv_tup rest)).push (oe C h.objs.size)).get? b = some o := fun b o e => Heap.get?_push_of_some _ (Heap.get?_push_of_some _ e)
 have hC₁ := k _ _ hC
 have hget : ((h.push (W.kdv_tup rest)).push (oe C h.objs.size)).get? (h.objs.size + 1) = some (oe C h.objs.size) := by heap_get
 have hcC : (Value.ref C :: bm).contains (.ref C) = true := by simp
 have i1 := hi.keeps k
 have b1 := (hb (.ref (h.objs.size + 1))).keeps k
 unfold isInstance
 repeat (first | with_reducible refine wpAny_loadPart_at hget ?_ | (with_reducible refine wpAny_isSubtype_exc hC₁ ?_; rw [hcC]) | wp_step)
 show wpAny _ _ (typeLookup (.ref C) _) _ _ _
 refine i1.at ?_
 refine wpAny_holding (wpAny_bind (b1.at ?_))
 refine wpAny_bind (wpAny_call (codeAny_mono hq fun r s' z => ?_))
 rcases r with e | (v | _ | _ | _) <;> first | exact z | exact z.elim | skip
 obtain ⟨rfl, z⟩ := z
 first | exact wpAny_pure (wpAny_pure z) | (wp_walk; exact z)
theorem nQ (F : ExcBaseFacts B newId initId bmB) (hB : bm.contains (.type B) = true) (hA : bm.contains (.type "AttributeError") = false) (hN : bm.contains (.type "NameError") = false) {rest : List Value} {fI : Addr}
  (hC : h.get? C = some (excClassObj nm q C N bs bm hdct sn sub ab col dd k0 k1 k2 k3 k5 newId))
  (hi : W.Looks (model prog w) h (typeLookup (.ref C) "__init__") (some (.ref fI))) (hb : ∀ self, W.Looks (model prog w) h (bindSpecial (.ref fI) self) (.ref fI, [self])) (hrest : rest.length ≤ sizeLine)
  (hq : codeAny (model prog w) (A.under (.builtin "type.__call__" ⟨.ref C :: rest, []⟩)) (.call (.ref fI) ⟨.ref (h.objs.size + 1) :: rest, []⟩) (W.InitBack (h.objs.size + 1) R) ⟨(h.push (W.kdv_tup rest)).push (oe C h.objs.size), g, d, t, os⟩) :
  codeAny (model prog w) A (.call (.ref C) ⟨rest, []⟩) R ⟨h, g, d, t, os⟩ := by
 have f1 := tc_lookup
 have f2 := tc_bind (.ref C)
 have hTy : (⟨h, g, d, t, os⟩ : Shared).TypeIs (.ref C) "type" := ⟨_, hC, rfl⟩
 refine codeAny_of_tree ?_
 show wpAny _ _ (callAny (.ref C) _) _ _ _
 repeat (any_goals (first | assumption | with_reducible refine wpAny_loadPart_at hC ?_ | wp_step))
 refine ⟨rfl, ?_⟩
 refine codeAny_call_builtin_at (Code.quiet_builtin _ (by decide +kernel)) entry_typeCall (wpAny_check_type_call_sub hC (gV F hB hA hN hC hi hb hrest ?_))
 refine codeAny_mono hq fun r s' z => ?_
 rcases r with e | (v | _ | _ | _) <;> exact z
theorem nC (F : IniF B initId) (hB : bm.contains (.type B) = true) {e t0 : Addr} {rest : List Value}
  (hC : h.get? C = some (excClassObj nm q C N bs bm hdct sn sub ab col dd k0 k1 k2 k3 k5 newId)) (he : h.get? e = some (oe C t0)) (hrest : rest.length ≤ sizeLine)
  (hq : ∀ h' t1, (∀ b o, b ≠ e → h.get? b = some o → h'.get? b = some o) → h'.get? e = some (oe C t1) → R (.ok (.ret .none)) ⟨h', g, d, t, os⟩) :
  codeAny (model prog w) A (.call (.builtin initId) ⟨.ref e :: rest, []⟩) R ⟨h, g, d, t, os⟩ := by
 refine codeAny_call_builtin F.init.plain F.initEntry (gO F hB hC he rfl ?_)
 wp_walk
 refine hq _ h.objs.size (fun b o hb ho => ?_) ?_
 ·rw [Heap.get?_update_other _ _ (Ne.symm hb)]
  exact Heap.get?_push_of_some _ ho
 ·rw [Heap.get?_update_self _ (Heap.get?_push_of_some _ he) rfl]
  rfl
end
structure OxF (newId initId : String) (bmB : List Value) : Prop where
 call : ∀ {prog : Program} {w : World} {A : Around} {R : Result → Shared → Prop} {h : Heap} {g : Array GenState} {d : Drawn} {t : Nat} {os : OsState} {nm q : Str} {C N : Addr} {bs bm : List Value} {hdct : Bool} {sn : List Str} {sub : List Value} {ab : Bool} {col : Option Bool} {dd : Option Addr} {k0 k1 k2 k3 k5 : Option Value} {rest : List Value} {fI : Addr},
  (∀ X : String, bm.contains (.type X) = bmB.contains (.type X)) → h.get? C = some (excClassObj nm q C N bs bm hdct sn sub ab col dd k0 k1 k2 k3 k5 newId) →
  W.Looks (model prog w) h (typeLookup (.ref C) "__init__") (some (.ref fI)) → (∀ self, W.Looks (model prog w) h (bindSpecial (.ref fI) self) (.ref fI, [self])) → rest.length ≤ sizeLine →
  codeAny (model prog w) (A.under (.builtin "type.__call__" ⟨.ref C :: rest, []⟩)) (.call (.ref fI) ⟨.ref (h.objs.size + 1) :: rest, []⟩) (W.InitBack (h.objs.size + 1) R) ⟨(h.push (W.kdv_tup rest)).push (oe C h.objs.size), g, d, t, os⟩ →
  codeAny (model prog w) A (.call (.ref C) ⟨rest, []⟩) R ⟨h, g, d, t, os⟩
 init : ∀ {prog : Program} {w : World} {A : Around} {R : Result → Shared → Prop} {h : Heap} {g : Array GenState} {d : Drawn} {t : Nat} {os : OsState} {nm q : Str} {C N : Addr} {bs bm : List Value} {hdct : Bool} {sn : List Str} {sub : List Value} {ab : Bool} {col : Option Bool} {dd : Option Addr} {k0 k1 k2 k3 k5 : Option Value} {e t0 : Addr} {rest : List Value},
  (∀ X : String, bm.contains (.type X) = bmB.contains (.type X)) → h.get? C = some (excClassObj nm q C N bs bm hdct sn sub ab col dd k0 k1 k2 k3 k5 newId) → h.get? e = some (oe C t0) → rest.length ≤ sizeLine →
  (∀ h' t1, (∀ b o, b ≠ e → h.get? b = some o → h'.get? b = some o) → h'.get? e = some (oe C t1) → R (.ok (.ret .none)) ⟨h', g, d, t, os⟩) →
  codeAny (model prog w) A (.call (.builtin initId) ⟨.ref e :: rest, []⟩) R ⟨h, g, d, t, os⟩
theorem ox {B newId initId : String} {bmB : List Value} (F : ExcBaseFacts B newId initId bmB) : OxF newId initId bmB :=
 ⟨fun hT hC hi hb hr hq => PySem.HandSPX.call_own F hT hC hi hb hr hq, fun hT hC he hr hq => PySem.HandSPX.init_base F hT hC he hr hq⟩
abbrev bmK : List Value := [.type "KeyError", .type "LookupError", .type "Exception", .type "BaseException", .type "object"]
theorem iniK : IniF "KeyError" "KeyError.__init__" where
 init := .of (owner := "KeyError") (n := "__init__") (by rw [typeLookup_type, builtinLookup_eq_fast]; kernel_rfl) (by decide +kernel) (by decide +kernel) (by decide +kernel)
  (by first | exact .inl (by decide +kernel) | exact .inr (by decide +kernel)) (by rw [isSubtype_type]; kernel_rfl)
 initEntry := entryFor_alias (id' := "BaseException.__init__") (by rw [fastTable_eq_tree]; kernel_rfl) (by first | rfl | decide +kernel) (by decide +kernel) (by rw [fastTable_eq_tree]; kernel_rfl)
 initSplit := by kernel_rfl
 initKind := by kernel_rfl
 initRow := by kernel_rfl
 noStar := by decide
theorem oxK : OxF "LookupError.__new__" "KeyError.__init__" bmK :=
 ⟨fun hT hC hi hb hr hq => nQ F.excBase_LookupError ((hT _).trans (by decide +kernel)) ((hT _).trans (by decide +kernel)) ((hT _).trans (by decide +kernel)) hC hi hb hr hq,
 fun hT hC he hr hq => nC iniK ((hT _).trans (by decide +kernel)) hC he hr hq⟩
theorem mK : StoreFacts "KeyError" bmK "object.__setattr__" "object" where
 mro := by kernel_rfl
 slot := .of (owner := "object") (n := "__setattr__") (by rw [typeLookup_type, builtinLookup_eq_fast]; kernel_rfl) (by decide +kernel) (by decide +kernel) (by decide +kernel)
  (by first | exact .inl (by decide +kernel) | exact .inr (by decide +kernel)) (by rw [isSubtype_type]; kernel_rfl)
 entry := F.entry_object_sa
 kind := by decide +kernel
 split := by decide +kernel
 hasOwner := by decide +kernel
 args := fun a b c => by unfold argsOk; kernel_rfl
 passes := fun self => by kernel_rfl
end KEr
set_option maxHeartbeats 4000000
namespace Z
open PySem L2 PySem.Spec PyProof.Rows PySem.W
structure OxC (K : PySem.W.Frag) (C : Addr) (B newId initId : String) (bmB : List Value) : Prop where
 F : KEr.OxF newId initId bmB
 SF : StoreFacts B bmB "object.__setattr__" "object"
 q : PySem.W.excInitIn K C bmB newId = true
 hd : PySem.W.hasDictIn K C = true
 ov : PySem.W.excOver K C bmB = true
 sa : PySem.W.findIn K (.ref C) "__setattr__" = some (some (.builtin "object.__setattr__"))
 exC : PySem.W.subIn K (.ref C) (.type "BaseException") = some true
 tyC : PySem.W.typeIn K (.ref C) = some (.type "type")
 kC : PySem.W.keepIn K (.ref C) = true
section
open Builtin Builtin.ObjectAttr
variable {prog : Program} {w : World} {A : Around} {R : Result → Shared → Prop} {hp : Heap} {g : Array GenState} {d : Drawn} {t : Nat} {os : OsState} {K : PySem.W.Frag} {C x : Addr} {cd : ClassData} {fv : Array Value} {name : Str} {v : Value} {tk : Tok} {bmB : List Value} {B : String}
theorem hR {od : Option Addr} {oD : Option Obj} (SB : StoreFacts B bmB "object.__setattr__" "object") (X : K.In hp) (I : PySem.W.InstAt hp x { cls := .ref C, dict := od, data := .fields fv } C oD) (hcd : PySem.W.clsIn K C = some cd)
  (ht : PySem.W.excTail bmB cd.mro = true) (hm : cd.mro.isEmpty = false) (ha : PySem.W.findIn K (.ref C) name = some none)
  (h : wpAny (model prog w) A.in1 (storeInOwnDict (.ref x) (.ref C) (.str name tk) name v false)
   (fun fin s' => match fin with | .done f => R (.ok f) s' | .again c' => c'.quiet = true ∧ codeAny (model prog w) A c' R s') (fun e s' => R (.error e) s') ⟨hp, g, d, t, os⟩) :
  codeAny (model prog w) A (.call (.builtin "object.__setattr__") ⟨[.ref x, .str name tk, v], []⟩) R ⟨hp, g, d, t, os⟩ := by
 have S0 := F.store_object
 have top : cd.mro.contains (.type "object") = true := by rw [PySem.W.excTail_contains "object" _ ht]; exact SB.hasOwner
 have inst : PySem.W.Looks (model prog w) hp (isInstance (.ref x) (.type "object")) true :=
  I.type.andThen (PySem.W.looks_mroIn X (by unfold PySem.W.mroIn; simp only [hcd, Option.bind_some, hm, top]; rfl))
 have lm : PySem.W.Looks (model prog w) hp (mroOf (.ref C)) cd.mro := (PySem.W.looks_clsIn X hcd).andThen .now
 have lt : PySem.W.Looks (model prog w) hp (storeTaker? none) none := .now
 refine codeAny_call_builtin S0.slot.plain S0.entry ?_
 refine @PySem.W.check_slot (model prog w) _ _ ⟨hp, g, d, t, os⟩ "object.__setattr__" "object" "__setattr__" (.ref x) [.str name tk, v] [] _ S0.kind S0.split inst (S0.args (.ref x) (.str name tk) v) ?_
 rw [PySem.W.osa_eq, refuse_eq]
 refine wpAny_bind (wpAny_bind ?_)
 refine I.type.at ?_
 refine wpAny_bind (lm.at ?_)
 rw [PySem.W.excTail_pass _ (SB.passes _) _ ht]
 refine wpAny_pure (wpAny_bind ?_)
 refine I.type.at (wpAny_bind ?_)
 refine (PySem.W.looks_findIn X ha).at (wpAny_bind ?_)
 exact lt.at h
theorem km (SB : StoreFacts B bmB "object.__setattr__" "object") (X : K.In hp) (hx : hp.get? x = some { cls := .ref C, data := .fields fv }) (hcd : PySem.W.clsIn K C = some cd) (ht : PySem.W.excTail bmB cd.mro = true) (hm : cd.mro.isEmpty = false) (hh : cd.hasDict = true)
  (ha : PySem.W.findIn K (.ref C) name = some none)
  (hq : ∀ h' tk' dx, (∀ b o, b ≠ x → hp.get? b = some o → h'.get? b = some o) → hp.objs.size ≤ dx → dx ≠ x → h'.get? x = some { cls := .ref C, dict := some dx, data := .fields fv } →
   h'.Ns1 dx (fun y => if y = name then some v else none) → R (.ok (.ret .none)) ⟨h', g, d, tk', os⟩) :
  codeAny (model prog w) A (.call (.builtin "object.__setattr__") ⟨[.ref x, .str name tk, v], []⟩) R ⟨hp, g, d, t, os⟩ := by
 refine hR (od := none) (oD := none) SB X ⟨hx, rfl, rfl, trivial⟩ hcd ht hm ha ?_
 have nx : x ≠ hp.objs.size := Nat.ne_of_lt (Heap.lt_size hx)
 have lc : PySem.W.Looks (model prog w) hp (classData C) cd := PySem.W.looks_clsIn X hcd
 obtain ⟨nm, bs, mro, ns, qn, hd, sn, sb, ab, col, del⟩ := cd
 dsimp only at hh
 subst hh
 unfold storeInOwnDict ownDictForStores
 repeat (first | with_reducible refine PySem.HandSPX.store_in_new ?_ ?_ | with_reducible refine wpAny_loadPart_at hx ?_ | with_reducible refine lc.at ?_ | wp_step)
 ·exact ⟨_, #[], _, (Heap.get?_update_ne _ _ _ _ nx.symm).trans (Heap.get?_push_at rfl rfl), rfl, fun e he => absurd he (by simp), fun _ => rfl⟩
 ·intro h' tk' hn' hs
  have px : (hp.push { cls := .type "dict", data := .dict #[] }).get? x = some { cls := .ref C, data := .fields fv } := Heap.get?_push_of_some _ hx
  refine hq h' tk' hp.objs.size (fun b o hb ho => ?_) (Nat.le_refl _) nx.symm ?_ hn'
  ·rw [hs.2 b (Nat.ne_of_lt (Heap.lt_size ho)), Heap.get?_update_ne _ _ _ _ hb]
   exact Heap.get?_push_of_some _ ho
  ·rw [hs.2 x nx]
   exact Heap.get?_update_self _ px rfl
theorem lI {dx : Addr} {m0 : Str → Option Value} {nl : List Str} (SB : StoreFacts B bmB "object.__setattr__" "object") (X : K.In hp) (hx : hp.get? x = some { cls := .ref C, dict := some dx, data := .fields fv }) (hns : hp.Ns1 dx m0) (hw : Within m0 nl) (hz : nl.length ≤ 1000)
  (hcd : PySem.W.clsIn K C = some cd) (ht : PySem.W.excTail bmB cd.mro = true) (hm : cd.mro.isEmpty = false) (hh : cd.hasDict = true) (ha : PySem.W.findIn K (.ref C) name = some none)
  (hq : ∀ h' tk', (∀ b o, b ≠ dx → hp.get? b = some o → h'.get? b = some o) → h'.Ns1 dx (fun y => if y = name then some v else m0 y) → R (.ok (.ret .none)) ⟨h', g, d, tk', os⟩) :
  codeAny (model prog w) A (.call (.builtin "object.__setattr__") ⟨[.ref x, .str name tk, v], []⟩) R ⟨hp, g, d, t, os⟩ := by
 obtain ⟨oD, _, _, hoD, _, _⟩ := hns.count hw
 refine hR (od := some dx) (oD := some oD) SB X ⟨hx, rfl, rfl, hoD⟩ hcd ht hm ha ?_
 have lc : PySem.W.Looks (model prog w) hp (classData C) cd := PySem.W.looks_clsIn X hcd
 obtain ⟨nm, bs, mro, ns, qn, hd, sn, sb, ab, col, del⟩ := cd
 dsimp only at hh
 subst hh
 unfold storeInOwnDict ownDictForStores
 repeat (first | with_reducible refine PySem.OEX.store_in_old hns hw hz ?_ | with_reducible refine wpAny_loadPart_at hx ?_ | with_reducible refine lc.at ?_ | wp_step)
 intro h' tk' hn' hs
 exact hq h' tk' (fun b o hb ho => (hs.2 b hb).trans ho) hn'
end
section
variable {X : Cx} {pins : List (Addr × Obj)} {σ : L2.St} {H : Hp} {s : Shared} {a C dx : Addr} {f : Str} {y : V} {u : Value} {fs : List (Str × V)} {Q : Unit → Shared → Prop} {E : Value → Shared → Prop} {A : Around} {B newId initId : String} {bmB : List Value}
theorem OxC.cd (T : OxC X.K C B newId initId bmB) : ∃ cd, PySem.W.clsIn X.K C = some cd ∧ PySem.W.excTail bmB cd.mro = true ∧ cd.hasDict = true ∧ cd.mro.isEmpty = false := by
 have h := T.ov
 have h2 := T.hd
 unfold PySem.W.excOver at h
 unfold PySem.W.hasDictIn at h2
 cases e : PySem.W.clsIn X.K C with
 | none => rw [e] at h; cases h
 | some cd =>
  rw [e] at h h2
  simp only [Option.any_some] at h
  refine ⟨cd, rfl, ?_⟩
  split at h
  ·rename_i C' bm hm
   rw [Bool.and_eq_true] at h
   rw [hm]
   exact ⟨h.2, by simpa using h2, rfl⟩
  ·cases h
theorem lH (T : OxC X.K C B newId initId bmB) (I : Inv X pins σ H s) (e : H a = some (exo a C none)) (hno : PySem.W.findIn X.K (.ref C) f = some none) (ry : RelV y u)
  (h : ∀ dx s', H dx = none → dx ≠ a → Inv X pins σ (upd (upd H dx (exd dx [(f, y)])) a (exo a C (some dx))) s' → Q () s') : wpAny (model X.prog X.w) A (setAttr (.ref a) f u) Q E s := by
 obtain ⟨cd, hcl, ht, hhd, hm⟩ := T.cd
 obtain ⟨t1, ho⟩ := exo_at I.hok e
 obtain ⟨hp, g, d, t, os⟩ := s
 refine PySem.W.set_plain I.kIn (ox := { cls := .ref C, dict := none, data := .fields #[.ref t1, .none, .none, .none, .bool false, .none] }) (od := none) ⟨ho, rfl, rfl, trivial⟩ T.sa ?_
 refine km T.SF I.kIn ho hcl ht hm hhd hno fun h' tk' dx k dn dne hx hn => ?_
 have hnd : H dx = none := I.hok.fresh dn
 have nd : ∀ {b : Addr} {o : Obj}, hp.get? b = some o → b ≠ dx := fun {b o} q => Nat.ne_of_lt (Nat.lt_of_lt_of_le (Heap.lt_size q) dn)
 have na : ∀ {b : Addr}, H b = none → b ≠ a := fun {b} n z => by rw [z, e] at n; cases n
 have U : Un X.fs [] H (upd (upd H dx (exd dx [(f, y)])) a (exo a C (some dx))) hp h' :=
  ⟨fun b o q n _ _ => k b o (na n) q, fun b o q n _ _ => ⟨o.slots, k b o (na n) q⟩, fun b o q n _ => by rw [upd_ne (na n), upd_ne (nd q)]; exact n,
  fun b o q _ => Classical.byCases (p := b = a) (fun hb => ⟨_, hb ▸ hx⟩) (fun hb => ⟨o, k b o hb q⟩),
  fun b xs q => by rw [upd_ne (at_ne e q exo_tup), upd_ne (ne_of_none q hnd)]; exact q,
  fun b o v q => by rw [upd_ne (at_ne e q exo_frz), upd_ne (ne_of_none q hnd)]; exact q,
  fun b ps q => ⟨#[], by rw [upd_ne (at_ne e q exo_tbl), upd_ne (ne_of_none q hnd), q]; simp⟩⟩
 refine h dx _ hnd dne (I.un (t' := tk') U fun b o q => ?_)
 by_cases hb : b = a
 ·subst hb
  rw [upd_same] at q
  cases q
  exact exo_ok hx
 ·rw [upd_ne hb] at q
  by_cases hd : b = dx
  ·subst hd
   rw [upd_same] at q
   cases q
   exact exd_ok hn (relO_put (fs := []) ry fun g => True.intro)
  ·rw [upd_ne hd] at q
   refine (I.hok b o q).stay (fun c v hc z => k c v ?_ z) (fun c hc => ?_) fun c xs hc => ?_
   ·rcases hc with hc | hc
    ·rw [hc]; exact hb
    ·exact at_ne e hc exo_own
   ·rw [upd_ne (at_ne e hc exo_own), upd_ne (ne_of_none hc hnd)]; exact hc
   ·rw [upd_ne (at_ne e hc exo_tup), upd_ne (ne_of_none hc hnd)]; exact hc
theorem lG (T : OxC X.K C B newId initId bmB) (I : Inv X pins σ H s) (e : H a = some (exo a C (some dx))) (ed : H dx = some (exd dx fs)) (hl : fs.length ≤ 900) (hno : PySem.W.findIn X.K (.ref C) f = some none) (ry : RelV y u)
  (h : ∀ s', Inv X pins σ (upd H dx (exd dx ((f, y) :: fs))) s' → Q () s') : wpAny (model X.prog X.w) A (setAttr (.ref a) f u) Q E s := by
 obtain ⟨cd, hcl, ht, hhd, hm⟩ := T.cd
 obtain ⟨t1, ho⟩ := exo_at I.hok e
 obtain ⟨mA, hns, rel⟩ := exd_at I.hok ed
 have hw := within_of rel
 obtain ⟨hp, g, d, t, os⟩ := s
 obtain ⟨oD, _, _, hoD, _, _⟩ := hns.count hw
 refine PySem.W.set_plain I.kIn (ox := { cls := .ref C, dict := some dx, data := .fields #[.ref t1, .none, .none, .none, .bool false, .none] }) (od := some oD) ⟨ho, rfl, rfl, hoD⟩ T.sa ?_
 refine lI T.SF I.kIn ho hns hw (by rw [List.length_map]; omega) hcl ht hm hhd hno fun h' tk' k hn => ?_
 obtain ⟨o2, _, _, e2, _⟩ := id hn
 exact h _ (I.write (t' := tk') (x := dx) (e := dx) (o := exd dx ((f, y) :: fs)) (by rw [ed]; exact True.intro) (.inl rfl) k ⟨o2, e2⟩ (exd_ok hn (relO_put ry rel)))
theorem kl {us : List Value} {Q : Value → Shared → Prop} (T : OxC X.K C B newId initId bmB) (I : Inv X pins σ H s) (e : H a = some (exo a C none)) (hl : us.length ≤ sizeLine) (h : ∀ s', Inv X pins σ H s' → Q .none s') :
  wpAny (model X.prog X.w) A (call (.builtin initId) (.ref a :: us)) Q E s := by
 obtain ⟨nm, N, q, bs, bm, hdct, sn, sub, ab, col, dd, k0, k1, k2, k3, k5, hC, hT⟩ := PySem.W.excInit_of I.kIn T.q
 obtain ⟨t1, ho⟩ := exo_at I.hok e
 obtain ⟨hp, g, d, t, os⟩ := s
 refine wpAny_call (T.F.init hT hC ho hl fun h' t2 k hx => ?_)
 have J := I.write (t' := t) (x := a) (e := a) (o := exo a C none) (by rw [e]; exact True.intro) (.inl rfl) k ⟨_, hx⟩ (exo_ok hx)
 have eu : upd H a (exo a C none) = H := funext fun b => by
  by_cases hb : b = a
  ·rw [hb, upd_same, e]
  ·rw [upd_ne hb]
 rw [eu] at J
 exact h _ J
end
end Z
set_option maxHeartbeats 4000000
namespace Z
open PySem L2 PySem.Spec PyProof.Rows
def la (K : PySem.W.Frag) (initId : String) (ta : TA) : TE := fun σ H Q => ta σ H fun vs H1 => ∃ (a C : Addr) (ws : List V) (B newId : String) (bmB : List Value), vs = .ref a :: ws ∧ ws.length ≤ 1000 ∧ OxC K C B newId initId bmB ∧ H1 a = some (exo a C none) ∧ Q .non H1
def k9 (K : PySem.W.Frag) (f : Str) (to te : TE) : TS := fun D σ H => te σ H fun y H1 => to σ H1 fun x H2 => ∃ (a C : Addr) (B newId initId : String) (bmB : List Value), x = .ref a ∧ OxC K C B newId initId bmB ∧ PySem.W.findIn K (.ref C) f = some none ∧
 ((H2 a = some (exo a C none) ∧ ∀ dx, H2 dx = none → dx ≠ a → D.nx σ (upd (upd H2 dx (exd dx [(f, y)])) a (exo a C (some dx)))) ∨
  ∃ (dx : Addr) (fs : List (Str × V)), H2 a = some (exo a C (some dx)) ∧ H2 dx = some (exd dx fs) ∧ fs.length ≤ 900 ∧ D.nx σ (upd H2 dx (exd dx ((f, y) :: fs))))
def tMkX (C : Addr) (sp : Sp) (ta : TA) : L2.St → Hp → XK → Prop := fun σ H Q => ta σ H fun vs H1 => vs.length ≤ 1000 ∧ ∀ a, H1 a = none → sp (.ref a :: vs) (upd H1 a (exo a C none))
 (fun v H2 => v = .non ∧ ∃ (d : Addr) (fs : List (Str × V)), H2 a = some (exo a C (some d)) ∧ H2 d = some (exd d fs) ∧ H1 d = none ∧ Q (.ref C) (some d) (upd (del H2 a) d (.xd fs))) (fun _ _ _ => False)
section
variable {X : Cx} {o e : Expr} {es : List Expr} {to te : TE} {ta : TA} {f x : Str} {p p' p1 p2 pos : Pos} {k : Nat} {fI Cb C : Addr} {fd : FuncData} {ps : List Str} {sp : Sp}
theorem aR {pl : Sem Bool} {initId : String} {mc} (hg : Gl X x) (hm : X.mg x = some (.ref Cb)) (r : ClX.CRead X.K Cb mc) (k' : PySem.W.findCls X.K (.ref Cb) mc "__init__" = some (.val (.builtin initId))) (ha : PA X (e :: es) ta) (hdb : (x == ("__debug__" : Str)) = false := by decide)
  (hc : eval (.Call (.Attribute (.Name x p1) "__init__" p2) (e :: es) [] pos) X.env = (do
   let ov ← eval (.Name x p1) X.env
   standAt p2.atName
   let (f, first) ← holding [ov] (getMethod ov "__init__" pl)
   callWith pos f first (backTo pos (starEach (e :: es) X.env)) (backToKw pos (keywordEach [] X.env))) := by rfl)
  (he : starEach (e :: es) X.env = (false, eval e X.env) :: starEach es X.env := by rfl) (hpl : (backTo pos (starEach es X.env)).any (·.1) = false := by rfl) (hh : PySem.W.handedIn (.builtin initId) = true := by decide +kernel) :
  PE X (.Call (.Attribute (.Name x p1) "__init__" p2) (e :: es) [] pos) (la X.K initId ta) := by
 refine ⟨fun pins s σ H Q I h => PySem.W.methodCall_KW (ld_glob I hg hm ?_ hdb) hc⟩
 refine PySem.W.method_cls I.kIn r.ga (PySem.W.cls_value I.kIn r.rd k' hh ?_)
 show wpAny _ _ (callWith pos (Value.builtin initId) [] (backTo pos (starEach (e :: es) X.env)) []) _ _ _
 refine PyProof.Rows.callWith_method1 (thn (ha.run pos pins _ σ H _ (I.tok _) h) fun us s1 hu => ?_) he hpl
 obtain ⟨vs, H1, I1, r1, a, C, ws, B, newId, bmB, rfl, hl, T, ea, q⟩ := hu
 cases r1 with
 | @cons _ u0 _ ur ra rw' =>
  obtain rfl : u0 = Value.ref a := ra
  refine kl T I1 ea ?_ fun s' J => ⟨.non, H1, J, rfl, q⟩
  rw [← Paired.length rw', sizeLine_eq]
  omega
theorem bu (ho : PE X o to) (he : PE X e te) (hs : swapsWith e (some (.Attribute o f p')) pos.line X.env = pure false := by rfl) : PS X (.Assign [.Attribute o f p'] e pos) (k9 X.K f to te) := by
 refine ⟨fun pins s σ H D I h => plainObj_wpAny_Assign_Attribute (thn (he.run pins s σ H _ I h) fun v s1 h1 => ?_) hs⟩
 obtain ⟨y, H1, I1, r1, q1⟩ := h1
 refine thn (ho.run pins s1 σ H1 _ I1 q1) fun u s2 h2 => ?_
 obtain ⟨x, H2, I2, r2, a, C, B, newId, initId, bmB, rfl, T, hno, q⟩ := h2
 obtain rfl : u = Value.ref a := r2
 rcases q with ⟨ea, q⟩ | ⟨dx, fs, ea, ed, hl, q⟩
 ·exact lH T I2 ea hno r1 fun dx s' n ne J => ⟨σ, _, J, q dx n ne⟩
 ·exact lG T I2 ea ed hl hno r1 fun s' J => ⟨σ, _, J, q⟩
theorem j7 {B newId initId : String} {bmB : List Value} (T : OxC X.K C B newId initId bmB) (iC : PySem.W.findIn X.K (.ref C) "__init__" = some (some (.ref fI))) (tI : PySem.W.typeIn X.K (.ref fI) = some (.type "function"))
  (F1 : FnG X.prog X.w X.K X.mg X.base k fI fd ps sp) (hr : Room (k + 1) X.A) (hG : X.A.guards = some []) (hb : L2.Binds X.K fd ps []) (hx : ∀ σ, PassesAt (L2.CX X.prog X.w) X σ (fun _ _ _ => False)) (hg : Gl X x) (hm : X.mg x = some (.ref C)) (ha : PA X (e :: es) ta)
  (hdb : (x == ("__debug__" : Str)) = false := by decide) (he : starEach (e :: es) X.env = (false, eval e X.env) :: starEach es X.env := by rfl) (hpl : (backTo pos (starEach es X.env)).any (·.1) = false := by rfl) :
  PMk X (.Call (.Name x p) (e :: es) [] pos) (tMkX C sp ta) := by
 intro pins s σ H Q I h
 refine wpAny_Call_Name_kw (ld_glob I hg hm ?_ hdb)
 refine PySem.W.callWith_K (h₀ := X.base) I.ok.mod.kin T.kC (thn (ha.run pos pins s σ H _ I h) fun us s1 hu => ?_) he hpl
 obtain ⟨vs, H1, I1, r1, hz, q1⟩ := hu
 refine ⟨I1.kIn, ?_⟩
 show wpAny _ _ (call (.ref C) us) _ _ _
 obtain ⟨nm, N, q, bs, bm, hdct, sn, sub, ab, col, dd, k0, k1, k2, k3, k5, hC, hT⟩ := PySem.W.excInit_of I1.kIn T.q
 obtain ⟨hp, g, dr, tk, os⟩ := s1
 have hsz : hp.objs.size ≤ hp.objs.size + 1 := Nat.le_succ _
 have hn : H1 (hp.objs.size + 1) = none := I1.hok.fresh hsz
 have hq := q1 (hp.objs.size + 1) hn
 let hp2 := (hp.push (PySem.W.kdv_tup us)).push (PySem.HandSPX.excO C hp.objs.size)
 have kk : ∀ b o, hp.get? b = some o → hp2.get? b = some o := fun b o e => Heap.get?_push_of_some _ (Heap.get?_push_of_some _ e)
 have hget : hp2.get? (hp.objs.size + 1) = some (PySem.HandSPX.excO C hp.objs.size) := by heap_get
 have I2 : Inv X pins σ (upd H1 (hp.objs.size + 1) (exo (hp.objs.size + 1) C none)) ⟨hp2, g, dr, tk, os⟩ := I1.laid (t' := tk) (a := hp.objs.size + 1) (o := exo (hp.objs.size + 1) C none) (h' := hp2) kk hsz (exo_ok hget)
 have r2 : Vals (V.ref (hp.objs.size + 1) :: vs) (Value.ref (hp.objs.size + 1) :: us) := .cons rfl r1
 have hl : (Value.ref (hp.objs.size + 1) :: us).length = ps.length := by rw [← r2.length]; exact F1.len _ _ _ _ hq
 have hus : us.length ≤ sizeLine := by
  rw [← Paired.length r1, sizeLine_eq]
  omega
 have hbb := hb ⟨hp2, g, dr, tk, os⟩ (Value.ref (hp.objs.size + 1) :: us) I2.kIn (by rw [List.append_nil]; exact hl)
 rw [List.append_nil] at hbb
 refine wpAny_call (T.F.call hT hC (PySem.W.looks_findIn I1.kIn iC) (fun self => PySem.W.bind_fn I1.kIn self tI) hus ?_)
 refine codeAny_mono (F1.run _ X.stack _ _ ⟨Value.ref (hp.objs.size + 1) :: us, []⟩ (Value.ref (hp.objs.size + 1) :: us) _ _ (fun _ _ _ => False) (hr.make C us []) (gp hG) (I2.env0.make C us []) hbb r2 hq) fun rs s' hq' => ?_
 cases rs with
 | error er => exact hx σ pins _ _ er s' I2 hq'
 | ok fl =>
  cases fl with
  | ret u =>
   obtain ⟨v, H2, os2, bare2, un2, hok2, rv, ev, d, fs, ea, ed, hd1, q2⟩ := hq'
   subst ev
   obtain ⟨h2, g2, d2, t2, os'⟩ := s'
   obtain ⟨t0, G, J, kG, ge, hoe, na⟩ := mk_end0 (d2 := d2) (t2 := t2) I1 hsz kk un2 hok2 os2 bare2 ea ed hd1
   exact ⟨rv, _, _, _, ⟨G, g2, d2, t2, os'⟩, _, .ref C, some d, rfl, J, kG, ge, hoe, ⟨rfl, rfl⟩, rfl, rfl, na, rfl, bare2, raises_own T.exC T.tyC, q2⟩
  | next => exact False.elim hq'
  | brk => exact False.elim hq'
  | cont => exact False.elim hq'
end
def spI (C : Addr) (n : Nat) (fl : List V → List (Str × V)) : Sp := fun vs H Q _ => ∃ a ws, vs = .ref a :: ws ∧ ws.length = n ∧ H a = some (exo a C none) ∧
 ∀ d H2, d ≠ a → H d = none → H2 a = some (exo a C (some d)) → H2 d = some (exd d (fl ws)) → (∀ b, b ≠ a → b ≠ d → H2 b = H b) → Q .non H2
structure RsG (X : Cx) (cl : Cl) (x : Str) (c : String) (n : Nat) (fl : List V → List (Str × V)) : Prop where
 ex : ∃ (B newId initId : String) (bmB : List Value) (k : Nat) (fI C : Addr) (fd : FuncData) (ps : List Str), OxC X.K C B newId initId bmB ∧ PySem.W.findIn X.K (.ref C) "__init__" = some (some (.ref fI)) ∧ PySem.W.typeIn X.K (.ref fI) = some (.type "function") ∧
  FnG X.prog X.w X.K X.mg X.base k fI fd ps (spI C n fl) ∧ Room (k + 1) X.A ∧ L2.Binds X.K fd ps [] ∧ X.mg x = some (.ref C) ∧ cl.e c = some C
def jV (c : String) (n : Nat) (pf : List PV → List (String × PV)) (fs : Env → R (List PV)) : Env → Os := fun γ => match fs γ with
 | .ok xs => if xs.length = n then .er ⟨c, pf xs⟩ γ else .no
 | .er e => .er e γ
 | .no => .no
theorem RpL.len {T : Tb} {F : Hp} : ∀ {xs : List PV} {vs : List V}, RpL T F xs vs → vs.length = xs.length
 | [], vs, h => by cases vs with | nil => rfl | cons _ _ => simp [RpL] at h
 | x :: xs, vs, h => by
  cases vs with
  | nil => simp [RpL] at h
  | cons v vs =>
   simp only [RpL] at h
   obtain ⟨a, b, e, _, h2⟩ := h
   cases e
   simp [RpL.len h2]
section
variable {X : Cx} {cl : Cl} {W : WX} {fs : Env → R (List PV)} {e : Expr} {es : List Expr} {x : Str} {p p1 pos : Pos} {c : String} {n : Nat} {fl : List V → List (Str × V)} {pf : List PV → List (String × PV)}
theorem j3 (tk : Takes X W) (R : RsG X cl x c n fl) (hG : X.A.guards = some []) (hpf : ∀ (T : Tb) (F : Hp) (xs : List PV) (vs : List V), xs.length = n → RpL T F xs vs → RpF T F (pf xs) (fl vs)) (hn : n ≤ 1000) (hc : X.calm = true) (ha : QZ cl X W fs (e :: es)) (hg : Gl X x := by rfl)
  (hdb : (x == ("__debug__" : Str)) = false := by decide) (he : starEach (e :: es) X.env = (false, eval e X.env) :: starEach es X.env := by rfl) (hpl : (backTo p1 (starEach es X.env)).any (·.1) = false := by rfl) :
  QS cl X W (jV c n pf fs) (.Raise (some (.Call (.Name x p) (e :: es) [] p1)) none pos) := by
 obtain ⟨B, newId, initId, bmB, k, fI, C, fd, ps, T, iC, tI, F1, hr, hb, hm, hcl⟩ := R.ex
 have hx : ∀ σ, PassesAt (L2.CX X.prog X.w) X σ (fun _ _ _ => False) := fun σ pins H s e s' I q => by
  obtain ⟨_, _, _, _, _, _, _, _, _, _, _, _, z⟩ := q
  exact z.elim
 refine ⟨(ps_raise hc tk (j7 T iC tI F1 hr hG hb hx hg hm ha.pa hdb he hpl)).imp fun D σ H h => ?_⟩
 obtain ⟨F, A, γ, rel, h⟩ := h
 refine ⟨F, A, γ, rel, ?_⟩
 unfold jV at h
 cases ef : fs γ with
 | no => rw [ef] at h; exact h.elim
 | er e => rw [ef] at h; exact fun F' H' c d ex r => h F' A σ H' c d (Step.ext ex) (rel.ext ex) r
 | ok xs =>
  rw [ef] at h
  dsimp only at h
  split at h
  ·rename_i hlen
   intro F1 H1 vs ex r
   have hvl : vs.length = n := by rw [RpL.len r]; exact hlen
   refine ⟨by rw [hvl]; exact hn, fun a na => ⟨a, vs, rfl, hvl, upd_same, fun d H2 nd hd ea ed oth => ⟨rfl, d, fl vs, ea, ed, ?_, ?_⟩⟩⟩
   ·rw [upd_ne nd] at hd; exact hd
   ·have nd1 : H1 d = none := by rw [upd_ne nd] at hd; exact hd
    have eq : upd (del H2 a) d (.xd (fl vs)) = upd H1 d (.xd (fl vs)) := funext fun b => by
     by_cases hbd : b = d
     ·rw [hbd, upd_same, upd_same]
     ·rw [upd_ne hbd, upd_ne hbd]
      by_cases hba : b = a
      ·rw [hba, del_same, na]
      ·rw [del_ne hba, oth b hba hbd, upd_ne hba]
    rw [eq]
    have nF : F1 d = none := ex.sub.free nd1
    have ex2 : Ext F H (upd F1 d (.xd (fl vs))) (upd H1 d (.xd (fl vs))) := ex.trans (Ext.newF ex.sub nd1)
    refine h _ A σ _ (.ref C) (some d) (Step.ext ex2) (rel.ext ex2) ⟨C, fl vs, hcl, rfl, .inr ⟨d, rfl, upd_same⟩, hpf _ _ _ _ hlen (r.mono fun b o z => ?_)⟩
    rw [upd_ne (ne_of_none z nF)]; exact z
  ·exact h.elim
end
end Z
set_option maxHeartbeats 4000000
namespace Z
open PySem L2 PySem.Spec PyProof.Rows
section
variable {X : Cx} {pins : List (Addr × Obj)} {σ : L2.St} {H : Hp} {sI s s' : Shared} {B : Heap}
theorem Inv.landedT {a : Addr} {o : HO} (I : Inv X pins σ H sI) (nb : ∀ b o, sI.heap.get? b = some o → b ∉ frs X.stack → B.get? b = some o) (st : B.StaysIn s'.heap) (up : sI.heap.UpToSlots s'.heap) (os : s'.os = sI.os) (ag : AllBare s'.gens)
  (hn : H a = none) (hB : B.get? a = none) (hf : a ∉ frs X.stack) (new : ObjOk X.prog X.w (upd H a o) s'.heap a o) : Inv X pins σ (upd H a o) s' := by
 have na : ∀ b u, sI.heap.get? b = some u → b ≠ a := fun b u e z => by
  subst z
  rw [nb b u e hf] at hB
  cases hB
 have slots : ∀ b ∈ frs X.stack, ∀ u, sI.heap.get? b = some u → ∃ sl, s'.heap.get? b = some { u with slots := sl } := fun b hb u e => by
  obtain ⟨_, o2, e2, hd⟩ := I.stack.mem hb
  rw [e] at e2
  cases e2
  exact up b u e hd
 have k0 : HOk X.prog X.w H s'.heap := (I.inGround nb).kept st
 refine I.call' (ch := []) os ⟨fun b u e _ hb _ => st b u (nb b u e hb), fun b u e _ hb _ => slots b hb u e, fun b u e n _ => by rw [upd_ne (na b u e)]; exact n, fun b u e _ => ?_, fun b xs e => by rw [upd_ne (ne_of_none e hn)]; exact e,
  fun b u xs e => by rw [upd_ne (ne_of_none e hn)]; exact e, fun b qs e => ⟨#[], by rw [upd_ne (ne_of_none e hn), e]; simp⟩⟩ (fun b u e => ?_) ag fun b z => nomatch z
 ·by_cases hb : b ∈ frs X.stack
  ·obtain ⟨sl, q⟩ := slots b hb u e
   exact ⟨_, q⟩
  ·exact ⟨u, st b u (nb b u e hb)⟩
 ·by_cases hb : b = a
  ·subst hb
   rw [upd_same] at e
   cases e
   exact new
  ·rw [upd_ne hb] at e
   exact (k0 b u e).stay (fun c v _ q => q) (fun c q => by rw [upd_ne (ne_of_none q hn)]; exact q) fun c xs q => by rw [upd_ne (ne_of_none q hn)]; exact q
theorem Inv.inSuite (I : Inv X pins σ H s) (a : Addr) : Inv (X.suite a (X.pn ++ pins)) [] σ H s :=
 ⟨I.ok.suite _ _, I.os, I.bare, I.base, I.loc, I.cell, I.free, I.freeC, fun p hp => I.pin p (by rwa [List.append_nil] at hp), I.hok, I.len⟩
theorem Inv.outSuite {a : Addr} {pn' : List (Addr × Obj)} (I : Inv (X.suite a (X.pn ++ pins)) pn' σ H s) (ok : X.Ok) : Inv X pins σ H s :=
 ⟨ok, I.os, I.bare, I.base, I.loc, I.cell, I.free, I.freeC, fun p hp => I.pin p (List.mem_append_left _ hp), I.hok, I.len⟩
end
theorem kI {P : Program} {w : World} {H : Hp} {h : Heap} {a C : Addr} {d : Option Addr} {oe : Obj} {vs : Array Value} (e : h.get? a = some oe) (z : Zc (.ref C) d oe) (q : oe.data = .fields vs) : ObjOk P w H h a (ExV a C d) :=
 ⟨⟨oe, vs, e, z, q⟩, ⟨oe, e⟩, fun _ _ ⟨o, v, x, r⟩ k => ⟨o, v, k o x, r⟩⟩
def mr (i : Nat) (D : Ends) : Ends := { nx := fun σ' H' => D.nx (σ'.set i none) H', rt := D.rt, bk := fun σ' H' => D.bk (σ'.set i none) H', ct := fun σ' H' => D.ct (σ'.set i none) H' }
def mE (K : PySem.W.Frag) (c : Value) (i : Nat) (ts : TS) (Wout : WX) (D : Ends) : WX := fun cls d σ H =>
 ∃ C b, cls = .ref C ∧ PySem.W.exmOne K cls c = some b ∧ (b = true → ∀ a, H a = none → ts (mr i D) (σ.set i (some (.ref a))) (upd H a (ExV a C d))) ∧ (b = false → Wout cls d σ H)
section
variable {X : Cx} {x n : Str} {c : Value} {i : Nat} {body suite : List Stmt} {b₀ : Stmt} {np pos pos' : Pos} {tb : WX → TS} {ts : TS} {Wout : WX}
theorem ly (hs : X.stack = X.env :: X.outer) (hf : X.env.frame = some X.env.locals) (hN : X.N.Nodup) (hi : X.N[i]? = some n) (hln : X.env.kindOf n = some .local) (hc : Names X x c) (tk : Takes X Wout)
  (hb : ∀ (W : WX) (pn : List (Addr × Obj)) (xe : Value → Shared → Prop), Takes (X.tr pn xe) W → PassesOwn (model X.prog X.w) X.A X.env xe → PSs (X.tr pn xe) body (tb W))
  (hsu : ∀ (a : Addr) (pn : List (Addr × Obj)), PSs (X.suite a pn) (b₀ :: suite) ts) :
  PS X (.Try body [.ExceptHandler (some (.Name x np)) (some n) (b₀ :: suite) pos'] [] [] pos) (fun D σ H => tb (mE X.K c i ts Wout D) D σ H) := by
 refine ⟨fun pins s σ H D I h => wpAny_Try_except ?_⟩
 have ok := I.ok
 have frames : X.A.frames = some (X.env :: X.outer) := by rw [ok.frames, hs]
 let catch_ : Value → Shared → Prop := fun e s₁ => wpAny (model X.prog X.w) X.A (noteFrame e X.env) (fun _ s₂ => wpAny (model X.prog X.w) X.A (setFlight e none) (fun _ s₃ =>
  wpAny (model X.prog X.w) X.A (handleBy e X.env [.ExceptHandler (some (.Name x np)) (some n) (b₀ :: suite) pos']) (SP X pins D) X.xe s₃) X.xe s₂) X.xe s₁
 have takes : Takes (X.tr (X.pn ++ pins) catch_) (mE X.K c i ts Wout D) := fun u s' xx => by
  obtain ⟨a, B, sI, pins', σ', H', cls, d, rfl, J', nb, up, sky, na, os, ag, C, b, rfl, hb1, hyes, hno⟩ := xx
  have J : Inv X pins σ' H' sI := J'.ofTry ok
  have sky' : Sky B (X.env :: X.outer) a (Zc (.ref C) d) X.env.locals s'.heap := hs ▸ sky
  show wpAny (model X.prog X.w) X.A (noteFrame (.ref a) X.env) _ _ _
  refine Sky.land Zc.steady frames hf sky' fun h3 fl3 up3 => ?_
  have nfr : a ∉ frs X.stack := fun hm => by
   obtain ⟨oe, vs, he, _, hd⟩ := fl3.there
   obtain ⟨_, o2, e2, hnf⟩ := fl3.2.2.1.mem (by rw [hs] at hm; exact hm)
   rw [he] at e2
   cases e2
   exact hnf _ hd
  have landed : ∀ h4, HandSPX.FlyingZ B (X.env :: X.outer) a (Zc (.ref C) d) h4 → h3.UpToSlots h4 → Inv X pins σ' (upd H' a (ExV a C d)) { s' with heap := h4 } := fun h4 fl4 up4 => by
   obtain ⟨oe4, vs4, he4, hz4, hd4⟩ := fl4.there
   exact Inv.landedT (s' := { s' with heap := h4 }) J nb fl4.1 ((up.trans up3).trans up4) os ag na fl4.2.1 nfr (kI he4 hz4 hd4)
  have J3 := landed h3 fl3 (Heap.UpToSlots.refl _)
  have S3 := Inv.inSuite J3 a
  obtain ⟨oe3, vs3, he3, hz3, hd3⟩ := fl3.there
  refine wpAny_handleBy_cons (codeAny_handlers_test ?_) (by intro q; cases q)
  have typ : PySem.W.Looks (model X.prog X.w) h3 (typeOf (.ref a)) (.ref C) := fun A Q E s k q => wpAny_typeOf_ref (k _ _ he3) (by rw [hz3.1]; exact q)
  have asks := PySem.W.exm_one (M := model X.prog X.w) J3.kIn typ hb1
  have named : ∀ {Q : Value → Shared → Prop} {E : Value → Shared → Prop}, Q c { s' with heap := h3 } → wpAny (model X.prog X.w) (X.A.mark (some (.ref a))) (eval (.Name x np) X.env) Q E { s' with heap := h3 } := fun {Q E} q => by
   obtain ⟨hg, hdbg, hm | ⟨hm, hv, hnn⟩⟩ := hc
   ·exact ld_glob (X := X.suite a (X.pn ++ pins)) S3 hg hm q hdbg
   ·exact ld_blt (X := X.suite a (X.pn ++ pins)) S3 hg hm hv q hnn hdbg
  refine named (asks.here ?_)
  cases b with
  | true =>
   refine codeAny_handlers_suite_as (HandSPX.lands_againZ fl3 fun h4 fl4 up4 => ?_)
   have S4 := Inv.inSuite (landed h4 fl4 up4) a
   refine store_ok (X := X.suite a (X.pn ++ pins)) (v := .ref a) S4 hN hi (.inl hln) rfl (fun s5 S5 => ?_) (.inr hln)
   refine wpAny_mono ((hsu a (X.pn ++ pins)).run [] s5 _ _ (mr i D) S5 (hyes rfl a na)) (fun f s6 hsp => ?_) fun _ _ z => False.elim z
   have fin : ∀ {σ6 : L2.St} {H6 : Hp} {Q : Shared → Prop}, Inv (X.suite a (X.pn ++ pins)) [] σ6 H6 s6 → (∀ s7, Inv X pins (σ6.set i none) H6 s7 → Q s7) →
     wpAny (model X.prog X.w) X.A (do bindName X.env n .none; unbindBehindTheSuite X.env n pos') (fun _ s7 => Q s7) X.xe s6 := fun {σ6 H6 Q} S6 hq => gone_ok (Inv.outSuite S6 ok) hN hi hln hq
   cases f with
   | ret u =>
    obtain ⟨v6, σ6, H6, S6, r6, q6⟩ := hsp
    exact fin S6 fun s7 J7 => ⟨_, _, _, J7, r6, q6⟩
   | next => obtain ⟨σ6, H6, S6, q6⟩ := hsp; exact fin S6 fun s7 J7 => ⟨_, _, J7, q6⟩
   | brk => obtain ⟨σ6, H6, S6, q6⟩ := hsp; exact fin S6 fun s7 J7 => ⟨_, _, J7, q6⟩
   | cont => obtain ⟨σ6, H6, S6, q6⟩ := hsp; exact fin S6 fun s7 J7 => ⟨_, _, J7, q6⟩
  | false =>
   show wpAny _ X.A (handleBy (.ref a) X.env []) _ _ _
   refine wpAny_handleBy_nil ?_
   obtain ⟨_, _, _, oe, vs, T, oT, _, he, _, hd, h1, _⟩ := id fl3
   unfold PySem.passOn
   refine wpAny_bind (wpAny_field he hd h1 ?_)
   rw [if_neg (show ¬ ((Value.ref T == Value.none) = true) by simp)]
   have fin : wpAny (model X.prog X.w) X.A (setFlight (.ref a) X.env.frame) (fun _ s4 => wpAny (model X.prog X.w) X.A (throw (.ref a) : Sem Flow) (SP X pins D) X.xe s4) X.xe { s' with heap := h3 } := by
    rw [hf]
    exact HandSPX.setFlight_upZ fl3 fun h4 hh4 up4 => wpAny_throw (tk _ _ ⟨a, B, sI, pins, σ', H', .ref C, d, rfl, J, nb, (up.trans up3).trans up4, .inr (.inr (hs ▸ hh4)), na, os, ag, hno rfl⟩)
   first
    | exact wpAny_bind (wpAny_pure (wpAny_bind fin))
    | exact wpAny_bind fin
 refine wpAny_mono ((hb (mE X.K c i ts Wout D) (X.pn ++ pins) catch_ takes PassesOwn.looking).run [] s σ H D (I.toTry _) h) (fun f s1 hsp => ?_) fun e s1 he => he
 cases f with
 | next => obtain ⟨σ', H', J', q⟩ := hsp; exact wpAny_execs_nil ⟨σ', H', J'.ofTry ok, q⟩
 | brk => obtain ⟨σ', H', J', q⟩ := hsp; exact ⟨σ', H', J'.ofTry ok, q⟩
 | cont => obtain ⟨σ', H', J', q⟩ := hsp; exact ⟨σ', H', J'.ofTry ok, q⟩
 | ret u => obtain ⟨v, σ', H', J', r, q⟩ := hsp; exact ⟨v, σ', H', J'.ofTry ok, r, q⟩
end
end Z
set_option maxHeartbeats 4000000
namespace Z
open PySem L2 PySem.Spec PyProof.Rows
def il (K : PySem.W.Frag) (cl : Cl) (c : Value) (g : String → Bool) : Prop := ∀ n C, cl.e n = some C → PySem.W.exmOne K (.ref C) c = some (g n)
def gJ (i : Nat) : Os → Os
 | .nx γ => .nx (γ.set i .un)
 | .bk γ => .bk (γ.set i .un)
 | .ct γ => .ct (γ.set i .un)
 | .rt x γ => .rt x γ
 | .er _ _ => .no
 | .no => .no
def jU (b : Env → Os) (g : String → Bool) (i : Nat) (s : Env → Os) : Env → Os := fun γ => match b γ with
 | .er e γ1 => if g e.c then gJ i (s (γ1.set i (.sl .fz (.exc e.c e.fs)))) else .er e γ1
 | o => o
section
variable {X : Cx} {cl : Cl} {W : WX} {x n : Str} {c : Value} {i : Nat} {body suite : List Stmt} {b₀ : Stmt} {np pos pos' : Pos} {b s : Env → Os} {g : String → Bool}
theorem mV (hs : X.stack = X.env :: X.outer) (hf : X.env.frame = some X.env.locals) (hN : X.N.Nodup) (hc : Names X x c) (hg : il X.K cl c g) (tk : Takes X W)
  (hb : ∀ (W' : WX) (pn : List (Addr × Obj)) (xe : Value → Shared → Prop), Takes (X.tr pn xe) W' → PassesOwn (model X.prog X.w) X.A X.env xe → QSs cl (X.tr pn xe) W' b body)
  (hsu : ∀ (a : Addr) (pn : List (Addr × Obj)), QSs cl (X.suite a pn) W0 s (b₀ :: suite)) (hi : X.N[i]? = some n := by rfl) (hln : X.env.kindOf n = some .local := by rfl) :
  QS cl X W (jU b g i s) (.Try body [.ExceptHandler (some (.Name x np)) (some n) (b₀ :: suite) pos'] [] [] pos) := by
 refine ⟨(ly (tb := fun W' => tqS X cl W' b) (ts := tqS X cl W0 s) (Wout := W) hs hf hN hi hln hc tk (fun W' pn xe t p => (hb W' pn xe t p).ps) (fun a pn => (hsu a pn).ps)).imp fun D σ H h => ?_⟩
 obtain ⟨F, A, γ, rel, h⟩ := h
 refine ⟨F, A, γ, rel, ?_⟩
 unfold jU at h
 cases eb : b γ with
 | nx γ1 => rw [eb] at h; exact h
 | bk γ1 => rw [eb] at h; exact h
 | ct γ1 => rw [eb] at h; exact h
 | rt y γ1 => rw [eb] at h; exact h
 | no => rw [eb] at h; exact h.elim
 | er e γ1 =>
  rw [eb] at h
  dsimp only at h
  intro F' A' σ' H' cls d st rel1 xr
  obtain ⟨C, vs, hC, rfl, xd, rf⟩ := xr
  refine ⟨C, g e.c, rfl, hg _ _ hC, fun hy a na => ?_, fun hy => ?_⟩
  ·rw [hy, if_pos rfl] at h
   have ex : Ext F' H' (upd F' a (ExV a C d)) (upd H' a (ExV a C d)) := Ext.newF rel1.sub na
   have r2 := rel1.ext ex
   have nF : F' a = none := rel1.sub.free na
   have up : ∀ b o, F' b = some o → upd F' a (ExV a C d) b = some o := fun b o z => by rw [upd_ne (ne_of_none z nF)]; exact z
   have rp : Rp ⟨X.K, cl⟩ (upd F' a (ExV a C d)) (.exc e.c e.fs) (.ref a) := by
    simp only [Rp]
    exact ⟨a, C, d, vs, rfl, hC, upd_same, xd.mono up, rf.mono up⟩
   obtain ⟨A2, r3, hA2⟩ := r2.put (i := i) (m := .fz) (x := .exc e.c e.fs) (v := .ref a) (Ar := []) (by simpa only [OwM, and_true] using rp) (by simp) (by simp)
   refine ⟨_, A2, _, r3, ?_⟩
   have st2 : Step F A H (upd F' a (ExV a C d)) A2 (upd H' a (ExV a C d)) := (st.trans (Step.ext ex)).sub fun b hb => (hA2 b hb).elim id fun z => by cases z
   have wip : ∀ {F6 A6 σ6 H6 γ2}, Step (upd F' a (ExV a C d)) A2 (upd H' a (ExV a C d)) F6 A6 H6 → Rel ⟨X.K, cl⟩ F6 A6 σ6 H6 γ2 → ∃ A7, Step F A H F6 A7 H6 ∧ Rel ⟨X.K, cl⟩ F6 A7 (σ6.set i none) H6 (γ2.set i .un) := fun {F6 A6 σ6 H6 γ2} s6 r6 => by
    obtain ⟨A7, r7, h7⟩ := r6.wipe [i]
    exact ⟨A7, (st2.trans s6).sub h7, r7⟩
   cases es : s (γ1.set i (.sl .fz (.exc e.c e.fs))) with
   | nx γ2 =>
    rw [es] at h
    intro F6 A6 σ6 H6 s6 r6
    obtain ⟨A7, s7, r7⟩ := wip s6 r6
    exact h _ _ _ _ s7 r7
   | bk γ2 =>
    rw [es] at h
    intro F6 A6 σ6 H6 s6 r6
    obtain ⟨A7, s7, r7⟩ := wip s6 r6
    exact h _ _ _ _ s7 r7
   | ct γ2 =>
    rw [es] at h
    intro F6 A6 σ6 H6 s6 r6
    obtain ⟨A7, s7, r7⟩ := wip s6 r6
    exact h _ _ _ _ s7 r7
   | rt y γ2 =>
    rw [es] at h
    exact fun F6 A6 σ6 H6 v s6 r6 p => h F6 A6 σ6 H6 v (st2.trans s6) r6 (p.step st2)
   | er e2 γ2 => rw [es] at h; exact h.elim
   | no => rw [es] at h; exact h.elim
  ·rw [hy] at h
   exact h F' A' σ' H' _ d st rel1 ⟨C, vs, hC, rfl, xd, rf⟩
end
section
variable {K : PySem.W.Frag} {C : Addr} {B newId initId : String} {bmB : List Value} {N : List Str} {vs : List V} {H : Hp} {Q : VK} {E : XK} {n i j : Nat} {f f' : Str} {m : Str}
theorem bQ {a : V} {ws : List V} (k : Nat) (h : k < (a :: ws).length) : (L2.start N (a :: ws))[k]? = some (some ((a :: ws)[k])) := by
 unfold L2.start
 rw [List.getElem?_append_left (by simpa using h), List.getElem?_map, List.getElem?_eq_getElem h]
 rfl
theorem lj {fl} (h : spI C n fl vs H Q E) : vs.length = n + 1 := by
 obtain ⟨a, ws, rfl, hl, _⟩ := h
 simp [hl]
theorem cc (T : OxC K C B newId initId bmB) (h1 : PySem.W.findIn K (.ref C) f = some none) (hi : i < n) (hn : n ≤ 900) (h : spI C n (fun ws => [(f, ws[i]?.getD .non)]) vs H Q E) :
  tSeq (tDrop (la K initId (tCons (tVar 0) (tCons (tC (.str m)) tNil)))) (k9 K f (tVar 0) (tVar (i + 1))) { nx := fun _ H' => Q .non H', rt := Q } (L2.start N vs) H := by
 obtain ⟨a, ws, rfl, hl, ha, h⟩ := h
 have g0 := bQ (N := N) (a := V.ref a) (ws := ws) 0 (by simp)
 have gi := bQ (N := N) (a := V.ref a) (ws := ws) (i + 1) (by simp; omega)
 refine ⟨_, g0, a, C, [V.str m], B, newId, bmB, rfl, by simp, T, ha, ?_⟩
 refine ⟨_, gi, _, g0, a, C, B, newId, initId, bmB, rfl, T, h1, .inl ⟨ha, fun dx nd ne => ?_⟩⟩
 refine h dx _ ne nd upd_same ?_ fun b hb hd => by rw [upd_ne hb, upd_ne hd]
 rw [upd_ne ne, upd_same]
 have hw : ws[i]? = some (ws[i]'(by omega)) := List.getElem?_eq_getElem (by omega)
 simp [hw]
theorem pj (T : OxC K C B newId initId bmB) (h1 : PySem.W.findIn K (.ref C) f = some none) (h2 : PySem.W.findIn K (.ref C) f' = some none) (hi : i < n) (hj : j < n) (hn : n ≤ 900) (h : spI C n (fun ws => [(f', ws[j]?.getD .non), (f, ws[i]?.getD .non)]) vs H Q E) :
  tSeq (tDrop (la K initId (tCons (tVar 0) (tCons (tC (.str m)) tNil)))) (tSeq (k9 K f (tVar 0) (tVar (i + 1))) (k9 K f' (tVar 0) (tVar (j + 1)))) { nx := fun _ H' => Q .non H', rt := Q } (L2.start N vs) H := by
 obtain ⟨a, ws, rfl, hl, ha, h⟩ := h
 have g0 := bQ (N := N) (a := V.ref a) (ws := ws) 0 (by simp)
 have gi := bQ (N := N) (a := V.ref a) (ws := ws) (i + 1) (by simp; omega)
 have gj := bQ (N := N) (a := V.ref a) (ws := ws) (j + 1) (by simp; omega)
 refine ⟨_, g0, a, C, [V.str m], B, newId, bmB, rfl, by simp, T, ha, ?_⟩
 refine ⟨_, gi, _, g0, a, C, B, newId, initId, bmB, rfl, T, h1, .inl ⟨ha, fun dx nd ne => ?_⟩⟩
 refine ⟨_, gj, _, g0, a, C, B, newId, initId, bmB, rfl, T, h2, .inr ⟨dx, _, upd_same, by rw [upd_ne ne, upd_same], by simp, ?_⟩⟩
 refine h dx _ ne nd (by rw [upd_ne (Ne.symm ne), upd_same]) ?_ fun b hb hd => by rw [upd_ne hd, upd_ne hb, upd_ne hd]
 rw [upd_same]
 have hw : ws[i]? = some (ws[i]'(by omega)) := List.getElem?_eq_getElem (by omega)
 have hw2 : ws[j]? = some (ws[j]'(by omega)) := List.getElem?_eq_getElem (by omega)
 simp [hw, hw2]
end
theorem jY {i n : Nat} (hi : i < n) {T : Tb} {F : Hp} {xs : List PV} {vs : List V} (hl : xs.length = n) (r : RpL T F xs vs) : Rp T F (xs[i]?.getD .non) (vs[i]?.getD .non) := by
 have h1 : xs[i]? = some (xs[i]'(by omega)) := List.getElem?_eq_getElem (by omega)
 obtain ⟨v, h2, h3⟩ := r.get h1
 simp only [h1, h2, Option.getD_some]
 exact h3
theorem pf1 {f : String} {i n : Nat} (hi : i < n) (T : Tb) (F : Hp) (xs : List PV) (vs : List V) (hl : xs.length = n) (r : RpL T F xs vs) : RpF T F [(f, xs[i]?.getD .non)] [(PySem.Str.ofString f, vs[i]?.getD .non)] := by
 simp only [RpF]
 exact ⟨_, _, rfl, jY hi hl r, rfl⟩
theorem pf2 {f f' : String} {i j n : Nat} (hi : i < n) (hj : j < n) (T : Tb) (F : Hp) (xs : List PV) (vs : List V) (hl : xs.length = n) (r : RpL T F xs vs) :
  RpF T F [(f', xs[j]?.getD .non), (f, xs[i]?.getD .non)] [(PySem.Str.ofString f', vs[j]?.getD .non), (PySem.Str.ofString f, vs[i]?.getD .non)] := by
 simp only [RpF]
 exact ⟨_, _, rfl, jY hj hl r, _, _, rfl, jY hi hl r, rfl⟩
end Z
namespace Z
open PySem L2 PySem.Spec PyProof.Rows
theorem ClOk.re {K : PySem.W.Frag} {cl : Cl} (O : ClOk K cl) (v : V) : ClOk K (cl.at v) := ⟨O.i, O.e⟩
theorem KitOk.re {K : PySem.W.Frag} {cl : Cl} {u : Value} {g : PV → Bool} (k : KitOk K cl u g) (v : V) : KitOk K (cl.at v) u g := ⟨k.b, k.i, k.e⟩
theorem il.re {K : PySem.W.Frag} {cl : Cl} {c : Value} {g : String → Bool} (k : il K cl c g) (v : V) : il K (cl.at v) c g := k
structure ExF (K : PySem.W.Frag) (mg : Str → Option Value) (cl : Cl) (c : String) (base qual : Str) (B newId initId : String) (bmB : List Value) (st : Stmt) (ps : List Str) (C a Cb : Addr) (mc : Value) (fd : FuncData) : Prop where
 ox : OxC K C B newId initId bmB
 iC : PySem.W.findIn K (.ref C) "__init__" = some (some (.ref a))
 tI : PySem.W.typeIn K (.ref a) = some (.type "function")
 mgx : mg (PySem.Str.ofString c) = some (.ref C)
 ce : cl.e c = some C
 fn : FnAt K "__init__" qual st a fd
 bd : L2.Binds K fd ps []
 mgb : mg base = some (.ref Cb)
 rd : ClX.CRead K Cb mc
 fb : PySem.W.findCls K (.ref Cb) mc "__init__" = some (.val (.builtin initId))
theorem bB {P : Program} {w : World} {K : PySem.W.Frag} {mg : Str → Option Value} {base : Heap} {qual : Str} {st : Stmt} {f C : Addr} {fd : FuncData} {N ps : List Str} {n : Nat} {fl : List V → List (Str × V)} (Fn : FnAt K "__init__" qual st f fd) (S : FnScope N ps (defScope st)) (hp : ps.length = n + 1)
  (hb : ∀ (cdv : Value) (A : Around) (outer : List PySem.Env) (s : Shared) (H : Hp) (vs : List V) (Q : VK) (E : XK), spI C n fl vs H Q E →
   ∃ t, PSs (cxOf (L2.CX P w) P w K mg base N qual (defScope st) f cdv A outer s H E) (defBody st) t ∧ t { nx := fun _ H' => Q .non H', rt := Q } (L2.start N vs) H) :
  FnG P w K mg base 1 f fd ps (spI C n fl) :=
 Fun.okG (k := 0) Fn.ex S (fun vs H Q E h => by rw [lj h, hp]) fun cdv A outer s H vs Q E hr hg h => hb cdv A outer s H vs Q E h
end Z
namespace Z
open PySem L2 PySem.Spec PyProof.Rows
def fZ (n : String) (l : Vl) : R Vl := match l.keep with
 | .ok (.exc _ fs) => gI n fs
 | _ => ki n l
def bA (n : String) (f : Ex) : Ex := fun γ => (f γ).bind (fZ n)
section
variable {X : Cx} {cl : Cl} {W : WX}
theorem mz {K : PySem.W.Frag} {C : Addr} (E : ExcC K C) : XfC K C := ⟨E.hg, E.hk, E.hs, E.hd⟩
theorem bf {n : String} {f : Ex} {o : Expr} {pos : Pos} (O : ClOk X.K cl) (na : ∀ c C, cl.i c = some C → NoAttr X.K C (Str.ofString n)) (nx : ∀ c C, cl.e c = some C → PySem.W.findIn X.K (.ref C) (Str.ofString n) = some none) (ho : QE cl X W f o) (hb : attributeBase o (Str.ofString n) X.env (eval o X.env) = eval o X.env := by rfl) :
  QE cl X W (bA n f) (.Attribute o (Str.ofString n) pos) := by
 refine ⟨((oS (n := n) O na ho hb).pe.or (oX (n := Str.ofString n) ho.pe hb)).imp fun σ H Q h => ?_⟩
 obtain ⟨F, A, γ, rel, h⟩ := h
 unfold bA at h
 cases e : f γ with
 | no => rw [e] at h; exact h.elim
 | er x =>
  rw [e] at h
  refine .inl ⟨F, A, γ, rel, ?_⟩
  unfold kW
  rw [e]
  exact h
 | ok l =>
  rw [e] at h
  simp only [R.ai] at h
  by_cases hx : ∃ c fs, l.keep = .ok (.exc c fs)
  ·obtain ⟨c, fs, hk⟩ := hx
   refine .inr ⟨F, A, γ, rel, ?_⟩
   rw [e]
   intro F1 H1 v e1 r1
   obtain ⟨F2, e2, s2, rx⟩ := keep_ok r1 e1 hk
   simp only [Rp] at rx
   obtain ⟨a, C, d, vs, rfl, hc, ha, xd, rf⟩ := rx
   have lk := rf.look (n := n)
   simp only [fZ, hk, gI] at h
   cases el : fs.lookup n with
   | none => rw [el] at h; exact h.elim
   | some y =>
    rw [el] at h lk
    obtain ⟨v0, hv, rv⟩ := lk
    exact ⟨a, C, d, vs, v0, rfl, e2.sub _ _ ha, xd.mono e2.sub, mz (O.e c C hc), nx c C hc, hv, h F2 H1 v0 e2 (VlR.zz rv)⟩
  ·refine .inl ⟨F, A, γ, rel, ?_⟩
   have hp : fZ n l = ki n l := by
    unfold fZ
    split
    ·rename_i c fs hk
     exact absurd ⟨c, fs, hk⟩ hx
    ·rfl
   unfold kW
   rw [e, R.ai, ← hp]
   exact h
end
end Z
namespace Z
open PySem L2
end Z
namespace Z
open PySem L2
def Os.andThen (o : Os) (h : Z.Env → Os) : Os := match o with
 | .nx γ => h γ
 | o => o
@[simp] theorem nU {γ : Z.Env} {h : Z.Env → Os} : (Os.nx γ).andThen h = h γ := (rfl)
@[simp high] theorem e_sSeq {g h : Z.Env → Os} {γ : Z.Env} : aN g h γ = (g γ).andThen h := (rfl)
def Os.setR (r : R Vl) (i : Nat) (γ : Z.Env) : Os := match r with
 | .ok l => ju i l γ
 | .er e => .er e γ
 | .no => .no
@[simp] theorem setR_ok {l : Vl} {i : Nat} {γ : Z.Env} : Os.setR (.ok l) i γ = ju i l γ := (rfl)
@[simp high] theorem e_sSet {i : Nat} {f : Ex} {γ : Z.Env} : aM i f γ = Os.setR (f γ) i γ := by unfold aM Os.setR; cases f γ <;> rfl
def Os.ifR (r : R Bool) (g h : Z.Env → Os) (γ : Z.Env) : Os := match r with
 | .ok true => g γ
 | .ok false => h γ
 | .er e => .er e γ
 | .no => .no
@[simp] theorem ifR_t {g h : Z.Env → Os} {γ : Z.Env} : Os.ifR (.ok true) g h γ = g γ := (rfl)
@[simp] theorem ifR_f {g h : Z.Env → Os} {γ : Z.Env} : Os.ifR (.ok false) g h γ = h γ := (rfl)
@[simp high] theorem e_sIf {t : Z.Env → R Bool} {g h : Z.Env → Os} {γ : Z.Env} : sIf t g h γ = Os.ifR (t γ) g h γ := by
 unfold sIf Os.ifR; cases t γ <;> try rfl
 rename_i b; cases b <;> rfl
def Os.retR (r : R Vl) (γ : Z.Env) : Os := match r with
 | .ok l => .rt l.x (unE γ)
 | .er e => .er e γ
 | .no => .no
@[simp] theorem retR_ok {l : Vl} {γ : Z.Env} : Os.retR (.ok l) γ = .rt l.x (unE γ) := (rfl)
@[simp high] theorem e_sRet {f : Ex} {γ : Z.Env} : bR f γ = Os.retR (f γ) γ := by unfold bR Os.retR; cases f γ <;> rfl
def R.andT (r : R Bool) (u : Z.Env → R Bool) (γ : Z.Env) : R Bool := match r with
 | .ok true => u γ
 | .ok false => .ok false
 | .er e => .er e
 | .no => .no
@[simp] theorem andT_t {u : Z.Env → R Bool} {γ : Z.Env} : R.andT (.ok true) u γ = u γ := (rfl)
@[simp] theorem andT_f {u : Z.Env → R Bool} {γ : Z.Env} : R.andT (.ok false) u γ = .ok false := (rfl)
@[simp high] theorem e_tAndF {t u : Z.Env → R Bool} {γ : Z.Env} : fK t u γ = R.andT (t γ) u γ := by
 unfold fK R.andT; cases t γ <;> try rfl
 rename_i b; cases b <;> rfl
def R.orT (r : R Bool) (u : Z.Env → R Bool) (γ : Z.Env) : R Bool := match r with
 | .ok true => .ok true
 | .ok false => u γ
 | .er e => .er e
 | .no => .no
@[simp] theorem orT_f {u : Z.Env → R Bool} {γ : Z.Env} : R.orT (.ok false) u γ = u γ := (rfl)
@[simp high] theorem e_tOrF {t u : Z.Env → R Bool} {γ : Z.Env} : dE t u γ = R.orT (t γ) u γ := by
 unfold dE R.orT; cases t γ <;> try rfl
 rename_i b; cases b <;> rfl
def R.vT (r : R Vl) : R (Vl × Bool) := r.bind fun l => (bN l.x).bind fun b => .ok (l, b)
@[simp] theorem vT_ok {l : Vl} : R.vT (.ok l) = (bN l.x).bind fun b => .ok (l, b) := (rfl)
def R.andV (r : R (Vl × Bool)) (g : Ex) (γ : Z.Env) : R Vl := match r with
 | .ok (l, true) => g γ
 | .ok (l, false) => .ok l
 | .er e => .er e
 | .no => .no
@[simp] theorem andV_t {l : Vl} {g : Ex} {γ : Z.Env} : R.andV (.ok (l, true)) g γ = g γ := (rfl)
@[simp high] theorem e_xAnd {f g : Ex} {γ : Z.Env} : jP f g γ = R.andV (R.vT (f γ)) g γ := by
 unfold jP R.andV R.vT; cases f γ <;> try rfl
 simp only [R.ai]
 cases bN _ <;> try rfl
 rename_i b; cases b <;> rfl
def Os.forR (r : R (List PV)) (tg : Tg) (body : Z.Env → Os) (γ : Z.Env) : Os := match r with
 | .ok items => forL tg body items γ
 | .er e => .er e γ
 | .no => .no
def Os.rseR (r : R (List PV)) (c : String) (n : Nat) (pf : List PV → List (String × PV)) (γ : Z.Env) : Os := match r with
 | .ok xs => if xs.length = n then .er ⟨c, pf xs⟩ γ else .no
 | .er e => .er e γ
 | .no => .no
@[simp] theorem rseR_ok {xs : List PV} {c : String} {n : Nat} {pf : List PV → List (String × PV)} {γ : Z.Env} : Os.rseR (.ok xs) c n pf γ = if xs.length = n then .er ⟨c, pf xs⟩ γ else .no := (rfl)
@[simp] theorem e_sRse {c : String} {n : Nat} {pf : List PV → List (String × PV)} {fs : Z.Env → R (List PV)} {γ : Z.Env} : jV c n pf fs γ = Os.rseR (fs γ) c n pf γ := by unfold jV Os.rseR; cases fs γ <;> rfl
def Os.tryE (o : Os) (g : String → Bool) (i : Nat) (s : Z.Env → Os) : Os := match o with
 | .er e γ1 => if g e.c then gJ i (s (γ1.set i (.sl .fz (.exc e.c e.fs)))) else .er e γ1
 | o => o
@[simp] theorem tryE_er {e : Xc} {γ : Z.Env} {g i s} : (Os.er e γ).tryE g i s = if g e.c then gJ i (s (γ.set i (.sl .fz (.exc e.c e.fs)))) else .er e γ := (rfl)
@[simp] theorem e_sTry {b : Z.Env → Os} {g : String → Bool} {i : Nat} {s : Z.Env → Os} {γ : Z.Env} : jU b g i s γ = (b γ).tryE g i s := by unfold jU Os.tryE; cases b γ <;> rfl
@[simp] theorem e_xCall {g : List PV → R PV} {fs : Z.Env → R (List PV)} {γ : Z.Env} : fH g fs γ = (fs γ).bind fun xs => (g xs).map .z := (rfl)
end Z
namespace Z
open PySem L2
theorem iV {n : Nat} {xs : List PV} : rDL (n + 1) xs = xs.all (rD n) := by
 induction xs with
 | nil => rfl
 | cons x xs ih => simp only [rDL, ih, List.all_cons]
theorem gq {c : Nat} : ∀ {xs : List PV}, (∀ x ∈ xs, shW x + 2 ≤ c) → jw xs ≤ c * xs.length
 | [], _ => by simp [jw]
 | x :: xs, h => by
  have h1 := h x List.mem_cons_self
  have h2 := gq (c := c) (xs := xs) fun y hy => h y (List.mem_cons_of_mem _ hy)
  simp only [jw, List.length_cons, Nat.mul_add, Nat.mul_one]
  omega
theorem log2_small {i : Int} (h : -1000000 ≤ i ∧ i ≤ 1000000) : i.natAbs.log2 < 1900 := by
 by_cases z : i.natAbs = 0
 ·rw [z]; decide
 ·have h1 : i.natAbs < 2 ^ 20 := by omega
  have := (Nat.log2_lt z).mpr h1
  omega
@[simp] theorem rD_int {n : Nat} {i : Int} : rD n (.int i) = decide (i.natAbs.log2 < 1900) := by cases n <;> rfl
@[simp] theorem mS {n : Nat} {xs : List PV} : rD n (.tup xs) = rDL n xs := by cases n <;> rfl
@[simp] theorem mT {n : Nat} {xs : List PV} : rD n (.lst xs) = rDL n xs := by cases n <;> rfl
end Z
namespace Z
open PySem L2 PySem.Spec PyProof.Rows
def lQ : R PV → R Vl
 | .ok (.int n) => if decide (0 ≤ n) && decide (n ≤ 16777216) then .ok (.z (.int n)) else .no
 | _ => .no
def ou (tbl : List (String × (List PV → R PV))) : PV → R (List PV → R PV)
 | .obj c _ => match tbl.lookup c with
  | some g => .ok g
  | none => .no
 | _ => .no
def pd (tbl : List (String × (List PV → R PV))) (l : Vl) : R Vl := match cM l.x with
 | true => l.keep.bind fun x => (ou tbl x).bind fun g => lQ (g [x])
 | false => gB [l.x]
structure MeF (K : PySem.W.Frag) (cl : Cl) (cs : List String) (m : Str) (qual : Str) (st : Stmt) (ps : List Str) (a : Addr) (fd : FuncData) : Prop where
 me : ∀ c C, c ∈ cs → cl.i c = some C → Meth K C m a
 fn : FnAt K m qual st a fd
 bd : L2.Binds K fd ps []
section
variable {X : Cx} {cl : Cl} {W : WX}
end
end Z
namespace Z
open PySem L2
def R.lcE (r : R (List PV)) : R Vl := match r with
 | .ok ys => .ok (.fr .ow (.lst ys))
 | _ => .no
@[simp] theorem lcE_ok {ys : List PV} : R.lcE (.ok ys) = .ok (.fr .ow (.lst ys)) := (rfl)
def R.lcS (b : Bool) (r : R (List PV)) : R Vl := match b with
 | true => R.lcE r
 | false => .no
@[simp] theorem lcS_t {r : R (List PV)} : R.lcS true r = R.lcE r := (rfl)
def R.lcR (r : R (List PV)) (tg : Tg) (c : Z.Env → R Bool) (f : Ex) (γ : Z.Env) : R Vl := match r with
 | .ok items => R.lcS (decide (items.length ≤ 16777216)) (lcL tg c f γ items)
 | .er e => .er e
 | .no => .no
@[simp] theorem lcR_ok {items : List PV} {tg : Tg} {c : Z.Env → R Bool} {f : Ex} {γ : Z.Env} : R.lcR (.ok items) tg c f γ = R.lcS (decide (items.length ≤ 16777216)) (lcL tg c f γ items) := (rfl)
theorem pC {it : Z.Env → R (List PV)} {tg : Tg} {c : Z.Env → R Bool} {f : Ex} {vs : List Nat} {γ : Z.Env} : xLc it tg c f vs γ = R.lcR (it γ) tg c f (bF γ vs) := by
 unfold xLc R.lcR R.lcS R.lcE
 cases it γ with
 | ok items =>
  simp only [R.ai, a_sm]
  by_cases h : items.length ≤ 16777216
  ·simp only [h, decide_true, if_true]
   all_goals (cases lcL tg c f (bF γ vs) items <;> rfl)
  ·simp only [h, decide_false]
   all_goals rfl
 | er e => rfl
 | no => rfl
@[simp] theorem n4 {γ : Z.Env} : bF γ [] = γ := (rfl)
@[simp] theorem mC {γ : Z.Env} {v : Nat} {vs : List Nat} : bF γ (v :: vs) = (bF γ vs).set v .un := (rfl)
def R.lcJ (r : R (Option PV)) (s : R (List PV)) : R (List PV) := r.bind fun o => s.bind fun ys => .ok (match o with
  | some y => y :: ys
  | none => ys)
theorem ky {tg : Tg} {c : Z.Env → R Bool} {f : Ex} {γ : Z.Env} {x : PV} {xs : List PV} : lcL tg c f γ (x :: xs) = R.lcJ (lcT tg c f γ x) (lcL tg c f γ xs) := rfl
theorem Below.at {ds zs : List Int} (h : Below ds zs) {i : Nat} {z : Int} (hz : zs[i]? = some z) : ∃ d, L2.atI (ds.map PV.int) (i : Int) = some (.int d) ∧ 0 ≤ d ∧ d < z := by
 obtain ⟨d, h1, h2⟩ := h.get hz
 refine ⟨d, ?_, h2⟩
 have hl := (List.getElem?_eq_some_iff.mp h1).1
 rw [Z.atI_nat (by simpa using hl), List.getElem?_map, h1]; rfl
mutual
theorem eJ : ∀ {n : Nat} {x : PV}, isD n x = true → peq x x = true
 | n, .non, _ => by simp [peq]
 | n, .bl _, _ => by simp [peq]
 | n, .int _, _ => by simp [peq]
 | n, .str _, _ => by simp [peq]
 | n, .tup xs, h => by rw [jd] at h; simp only [peq]; exact dh h
 | n, .lst xs, h => by rw [je] at h; simp only [peq]; exact dh h
 | n, .dct _ _, h => by cases n <;> simp [isD] at h
 | n, .set _, h => by cases n <;> simp [isD] at h
 | n, .obj _ _, h => by cases n <;> simp [isD] at h
 | n, .exc _ _, h => by cases n <;> simp [isD] at h
 | n, .nul, _ => by simp [peq]
theorem dh : ∀ {n : Nat} {xs : List PV}, bO n xs = true → cL xs xs = true
 | 0, _, h => by simp [bO] at h
 | n + 1, [], _ => by simp [cL]
 | n + 1, x :: xs, h => by
  simp only [bO, Bool.and_eq_true] at h
  simp only [cL, Bool.and_eq_true]
  exact ⟨eJ h.1, dh h.2⟩
end
theorem kg {x : PV} (h : isD 60 x = true) : pNe x x = .ok false := by simp [pNe, h, eJ h]
theorem kj {x : PV} (h : isD 60 x = true) : pEq x x = .ok true := by simp [pEq, h, eJ h]
def Sh (d w : Nat) (x : PV) : Prop := rD d x = true ∧ shW x ≤ w
theorem Sh.int {d w : Nat} {i : Int} (h : -1000000 ≤ i ∧ i ≤ 1000000) (hw : 704 ≤ w) : Sh d w (.int i) := ⟨by simpa using log2_small h, by simp only [shW]; omega⟩
theorem Sh.mono {d w w' : Nat} {x : PV} (h : Sh d w x) (l : w ≤ w') : Sh d w' x := ⟨h.1, Nat.le_trans h.2 l⟩
theorem Sh.lst {d w n W : Nat} {xs : List PV} (h : ∀ x ∈ xs, Sh d w x) (hl : xs.length ≤ n) (hW : (w + 2) * n + 4 ≤ W) : Sh (d + 1) W (.lst xs) := by
 refine ⟨?_, ?_⟩
 ·rw [mT, iV, List.all_eq_true]; exact fun x hx => (h x hx).1
 ·have h1 := gq (c := w + 2) (xs := xs) fun x hx => by have := (h x hx).2; omega
  have h2 : (w + 2) * xs.length ≤ (w + 2) * n := Nat.mul_le_mul_left _ hl
  simp only [shW]
  generalize (w + 2) * xs.length = p at h1 h2
  generalize (w + 2) * n = q at h2 hW
  omega
theorem Sh.tup {d w n W : Nat} {xs : List PV} (h : ∀ x ∈ xs, Sh d w x) (hl : xs.length ≤ n) (hW : (w + 2) * n + 4 ≤ W) : Sh (d + 1) W (.tup xs) := by
 refine ⟨?_, ?_⟩
 ·rw [mS, iV, List.all_eq_true]; exact fun x hx => (h x hx).1
 ·have h1 := gq (c := w + 2) (xs := xs) fun x hx => by have := (h x hx).2; omega
  have h2 : (w + 2) * xs.length ≤ (w + 2) * n := Nat.mul_le_mul_left _ hl
  simp only [shW]
  generalize (w + 2) * xs.length = p at h1 h2
  generalize (w + 2) * n = q at h2 hW
  omega
end Z
namespace Z
open PySem L2
@[simp] theorem a_xFldX {n : String} {f : Ex} {γ : Z.Env} : bA n f γ = (f γ).bind (fZ n) := (rfl)
@[simp] theorem n9 {n : String} {c : String} {fs : List (String × PV)} : fZ n (.pk .fz (.exc c fs)) = gI n fs := (rfl)
@[simp] theorem oa {n f : String} {x : PV} {fs : List (String × PV)} : gI n ((f, x) :: fs) = if n = f then .ok (.z x) else gI n fs := by
 unfold gI
 by_cases h : n = f
 ·subst h; simp [List.lookup]
 ·have : (n == f) = false := by simpa using h
  simp [List.lookup, this, h]
def Os.fstG (n : String) (m : Md) (y : PV) (γ : Z.Env) : Os := match γ with
 | .me (.ob ms) (.obj c fs) :: γ' => if fs.length < 900 then .nx (.me (.ob (put2 n m y ms fs).1) (.obj c (put2 n m y ms fs).2) :: γ') else .no
 | _ => .no
def Os.fstR (r : R Vl) (n : String) (γ : Z.Env) : Os := match r with
 | .ok l => match l.hold with
  | some (m, y) => Os.fstG n m y γ
  | none => .no
 | .er e => .er e γ
 | .no => .no
def RE.fst (o : Option MF) (r : R (List PV)) (m : Md) (x : PV) (i : Nat) (γ : Z.Env) : RE := match o with
 | some g => match r with
  | .ok xs => putR i γ (g m x xs)
  | .er e => .er e γ
  | .no => .no
 | none => .no
def RE.own (t : Option (Md × PV)) (pick : PV → Option MF) (r : R (List PV)) (i : Nat) (γ : Z.Env) : RE := match t with
 | some (m, x) => RE.fst (pick x) r m x i γ
 | none => .no
@[simp] theorem og {i : Nat} {γ : Z.Env} : gJ i (.nx γ) = .nx (γ.set i .un) := (rfl)
@[simp] theorem a_xIs {g : PV → Bool} {f : Ex} {γ : Z.Env} : xIs g f γ = (f γ).bind fun l => .ok (.z (.bl (g l.x))) := (rfl)
@[simp] theorem a_isC {cs : List String} {x : PV} : isC cs x = (cM x && cs.contains (tyN x)) := (rfl)
def Sl.frz : Sl → Sl
 | .sl _ x => .sl .fz x
 | s => s
end Z
namespace Z
open PySem L2
section
variable {X : Cx} {cl : Cl} {W : WX}
def popA (xs : List PV) (j : Int) : Option (PV × List PV) := if decide (0 ≤ j) then match xs[j.toNat]? with
  | some y => if decide (xs.length ≤ 16777216) then some (y, xs.eraseIdx j.toNat) else none
  | none => none
 else none
def RE.pop (s : Option Sl) (r : R Vl) (i : Nat) (γ : Env) : RE := match s, r with
 | some (.sl .ow (.lst xs)), .ok l => match l.x with
  | .int j => match popA xs j with
   | some (y, zs) => .ok y (γ.set i (.sl .ow (.lst zs)))
   | none => .no
  | _ => .no
 | _, _ => .no
theorem OwE.len {T : Tb} {F H : Hp} : (γ : Env) → ∀ {σ A}, OwE T F H γ σ A → γ.length = σ.length
 | [], σ, A, h => by simp only [OwE] at h; rw [h.1]; rfl
 | .un :: γ, σ, A, h => by
  simp only [OwE] at h
  obtain ⟨w, σ', rfl, h⟩ := h
  simp [OwE.len γ h]
 | .sl m x :: γ, σ, A, h => by
  simp only [OwE] at h
  obtain ⟨v, σ', A1, A2, rfl, rfl, h1, h2⟩ := h
  simp [OwE.len γ h2]
 | .me m x :: γ, σ, A, h => by
  simp only [OwE] at h
  obtain ⟨v, σ', A1, A2, rfl, rfl, h1, h2⟩ := h
  simp [OwE.len γ h2]
 | .tr x :: γ, σ, A, h => by
  simp only [OwE] at h
  obtain ⟨v, σ', A1, A2, rfl, rfl, h1, h2⟩ := h
  simp [OwE.len γ h2]
def lcE (tg : Tg) (f : Env → RE) (vs : List Nat) : List PV → Env → Option (List PV × Env)
 | [], γ => some ([], γ)
 | x :: xs, γ => match tg x γ with
  | none => none
  | some γ1 => match f γ1 with
   | .ok y γ2 => match lcE tg f vs xs (bF γ2 vs) with
    | some (ys, γ3) => some (y :: ys, γ3)
    | none => none
   | _ => none
end
end Z
namespace Z
open PySem L2 PySem.Spec PyProof.Rows
section
variable {X : Cx} {cl : Cl} {W : WX}
theorem _root_.L2.PK.imp {X : Cx} {kws : List Keyword} {t t' : TA} (h : PK X kws t) (k : ∀ σ H Q, t' σ H Q → t σ H Q) : PK X kws t' := ⟨fun pos pins s σ H Q I q => h.run pos pins s σ H Q I (k σ H Q q)⟩
variable {x : Str} {c : String} {g : MF} {n : Nat} {fs fk : Env → R (List PV)} {e : Expr} {es : List Expr} {kws : List Keyword} {ks : List Str} {p pos : Pos}
end
section
variable {X : Cx} {cl : Cl} {W : WX}
end
end Z
namespace Z
open PySem L2 PySem.Spec PyProof.Rows
section
open PySem.Spec PyProof.Rows PySem.AutoSeq1
end
section
variable {X : Cx} {cl : Cl} {W : WX}
end
end Z
namespace Z
open PySem L2 PySem.Spec PyProof.Rows
section
variable {X : Cx} {cl : Cl} {W : WX}
end
end Z
namespace Z
open PySem L2 PySem.Spec PyProof.Rows
section
variable {X : Cx} {cl : Cl} {W : WX}
end
end Z
namespace Z
open PySem L2 PySem.Spec PyProof.Rows
section
variable {X : Cx} {cl : Cl} {W : WX} {m : String} {tbl : List (String × MF)} {f : Ex} {fs : Env → R (List PV)} {o e : Expr} {es : List Expr} {apos pos : Pos} {pl : Sem Bool}
end
theorem MeF.re {K : PySem.W.Frag} {cl : Cl} {cs : List String} {m qual : Str} {st : Stmt} {ps : List Str} {a : Addr} {fd : FuncData} (h : MeF K cl cs m qual st ps a fd) (v : V) : MeF K (cl.at v) cs m qual st ps a fd := ⟨fun c C hm hc => h.me c C hm hc, h.fn, h.bd⟩
end Z
namespace Z
open PySem L2 PySem.Spec PyProof.Rows
section
variable {X : Cx} {cl : Cl} {W : WX}
end
end Z
namespace Z
open PySem L2 PySem.Spec PyProof.Rows
section
variable {X : Cx} {cl : Cl} {W : WX}
end
end Z
namespace Z
open PySem L2
@[simp] theorem bC {m c : String} {tbl : List (String × (List PV → R PV))} {fs : List (String × PV)} : o9 tbl m (.obj c fs) = match fs.lookup m with
  | some _ => .no
  | none => match tbl.lookup c with
   | some g => .ok g
   | none => .no := (rfl)
end Z
namespace Z
open PySem L2 PySem.Spec PyProof.Rows
mutual
def h9 : PV → Bool
 | .non => true
 | .bl _ => true
 | .int _ => true
 | .str _ => true
 | .tup xs => gD xs
 | .nul => true
 | _ => false
def gD : List PV → Bool
 | [] => true
 | x :: xs => h9 x && gD xs
end
def nmV : Vl → R Vl
 | .fr .fz x => if h9 x then .ok (.fr .fz x) else .no
 | .pk .fz x => if h9 x then .ok (.fr .fz x) else .no
 | .fr .ow (.lst xs) => if gD xs then .ok (.fr .ow (.lst xs)) else .no
 | _ => .no
def R.nm (r : R Vl) : R Vl := match r with
 | .ok l => nmV l
 | _ => .no
section
variable {X : Cx} {cl : Cl} {W : WX}
end
end Z
namespace Z
open PySem L2 PySem.Spec PyProof.Rows
open Sem (wp)
set_option maxHeartbeats 1000000 in
theorem dU {v : Value} {o : Obj} {H : Heap → Prop} (B : Begins v o H) :
  Meets (Builtin.«enumerate.__new__» ⟨[.type "enumerate", v], []⟩) (fun _ R s => H s.heap ∧
   R (.ok (.ret (.ref (s.heap.push o).objs.size))) { s with heap := (s.heap.push o).push { cls := .type "enumerate", data := .fields #[.none, .bool false, .ref s.heap.objs.size, rawInt 0, .none, .none] } }) :=
 .of_wp fun prog w A R s h => by
  obtain ⟨hp, g, d, tk, os⟩ := s; obtain ⟨h1, h⟩ := h
  have hsub := sub_enumerate
  have q1 : ∀ {A' : Around} {E : Value → Shared → Prop} {Q : Value → Shared → Prop}, Q (.ref hp.objs.size) ⟨hp.push o, g, d, tk, os⟩ → wpAny (model prog w) A' (pyIter v) Q E ⟨hp, g, d, tk, os⟩ :=
   fun q => B.iter prog w _ _ ⟨hp, g, d, tk, os⟩ _ h1 q
  wp_walk using q1
  refine wpAny_stack_any fun st => wpAny_pure ?_
  split
  ·rename_i c _ _ _ _ _
   cases (c == Value.type "enumerate")
   ·wp_walk using q1
    exact ⟨_, rfl, h⟩
   ·wp_walk using q1
    exact ⟨_, rfl, h⟩
  ·wp_walk using q1
   exact ⟨_, rfl, h⟩
section
variable {prog : Program} {w : World} {A : Around} {E : Value → Shared → Prop} {s : Shared}
theorem dy {v : Value} {o : Obj} {H : Heap → Prop} {Q : Value → Shared → Prop} (B : Begins v o H) (h1 : H s.heap)
  (h : ∀ h', IsEnum h' (s.heap.objs.size + 1) s.heap.objs.size 0 .none → h'.get? s.heap.objs.size = some o → h'.objs.size = s.heap.objs.size + 2 →
   (∀ b o, s.heap.get? b = some o → h'.get? b = some o) → Q (.ref (s.heap.objs.size + 1)) { s with heap := h' }) :
  wpAny (model prog w) A (call (.type "enumerate") [v]) Q E s := by
 refine callType_new F.called_enumerate (by decide) (F.typeCall_enumerate_1 _) (F.newCall_enumerate_1 _) (fun obj => F.args_object_init_2 obj _) F.entry_enumerate_new
  (dU B) ⟨h1, ?_⟩
 have hz : (s.heap.push o).objs.size = s.heap.objs.size + 1 := Heap.size_push ..
 show _ ∧ _
 rw [hz]
 have he : IsEnum ((s.heap.push o).push { cls := .type "enumerate", data := .fields #[.none, .bool false, .ref s.heap.objs.size, rawInt 0, .none, .none] }) (s.heap.objs.size + 1) s.heap.objs.size 0 .none := by
  have := Heap.get?_push_size (s.heap.push o) (o := { cls := .type "enumerate", data := .fields #[.none, .bool false, .ref s.heap.objs.size, rawInt 0, .none, .none] }) rfl
  rw [hz] at this; exact this
 refine ⟨⟨_, he, rfl⟩, h _ he (Heap.get?_push_of_some _ (Heap.get?_push_size _ B.free)) (by rw [Heap.size_push, hz]) fun b o' x => Heap.get?_push_of_some _ (Heap.get?_push_of_some _ x)⟩
end
def mf (K : PySem.W.Frag) (a : Addr) : It :=
 ⟨fun i H => ∃ (xs : List V) (x : V), SqT K H a xs ∧ xs[i]? = some x, fun i H v H' => ∃ T x, v = .ref T ∧ H T = none ∧ H' = upd H T (.tup [.int (i : Nat), x]) ∧ ∀ xs, SqT K H a xs → xs[i]? = some x, fun i H => ∃ xs : List V, SqT K H a xs ∧ xs.length = i⟩
theorem ip {P : Program} {w : World} {K : PySem.W.Frag} {elts : List Expr} {kk : Nat} {tpos : Pos} (a e it : Addr) (ha : a ≠ it) (hae : e ≠ a) :
  Turn P w K (.Tuple elts kk tpos) (mf K a) [e, it] e (fun i h => (∃ old, IsEnum h e it ((i : Nat) : Int) old) ∧ h.IsTupleIter it a i ∧ e ≠ it) where
 mem := by simp
 obj := fun i h st b hb => by
  obtain ⟨⟨old, he⟩, ⟨o, ho, hc, hd⟩, _⟩ := st
  have e' : b = e ∨ b = it := by simpa using hb
  rcases e' with z | z
  ·rw [z]; exact ⟨_, he, fun v q => nomatch q⟩
  ·rw [z]; exact ⟨o, ho, fun v q => by rw [hd] at q; cases q⟩
 keep := fun i h h' st k => let ⟨⟨old, he⟩, hi, hne⟩ := st; ⟨⟨old, k e (by simp) _ he⟩, hi.at fun o q => k it (by simp) o q, hne⟩
 item := by
  intro X hP hw hK hc i pins s σ H E I hf st hg
  subst hP hw hK
  obtain ⟨⟨old, he⟩, hit, hne⟩ := st
  obtain ⟨xs, x, hq, hx⟩ := hg
  obtain ⟨its, rv, p, hz⟩ := I.tuple hq
  obtain ⟨u, hu, ru⟩ := rv.get hx
  have hel : e < s.heap.objs.size := Heap.lt_size he
  have hil : it < s.heap.objs.size := by obtain ⟨_, q, _⟩ := hit; exact Heap.lt_size q
  have hlt : i < its.toArray.size := by simpa using (List.getElem?_eq_some_iff.mp hu).1
  have ist : s.heap.IsTuple a its.toArray := p
  refine wpAny_pyNext_enum_itemD (Draws.tuple (prog := X.prog) (w := X.w) (A := X.A.in1) (show X.A.in1.handled = none from I.ok.hd hc) it a ha its.toArray) he ⟨hit, ist⟩ hlt hne (by simp [hne, hae]) fun y h' tk hy ho hit' hT hsz hk => ?_
  have hyu : y = u := by
   have : its.toArray[i]? = some u := by simpa using hu
   rw [this] at hy
   exact (Option.some.inj hy).symm
  subst hyu
  refine ⟨_, rfl, wpAny_letOwnedTupleGo_enum (s := { s with heap := h', toks := tk + 1 }) ho fun h'' he' sb => ?_⟩
  have hT2 : h''.get? s.heap.objs.size = some { cls := .type "tuple", data := .seq #[.int i tk, y] } := (sb.2 _ (Nat.ne_of_gt hel)).trans hT
  have new : ObjOk X.prog X.w (upd H s.heap.objs.size (.tup [.int (i : Nat), x])) h'' s.heap.objs.size (.tup [.int (i : Nat), x]) :=
   ⟨by show 2 ≤ sizeLine; decide, [.int i tk, y], .cons ⟨_, rfl⟩ (.cons ru .nil), ⟨_, hT2, rfl, _, rfl⟩⟩
  have I1 : Inv X pins σ (upd H s.heap.objs.size (.tup [.int (i : Nat), x])) { s with heap := h'', toks := tk + 1 } :=
   I.turnedNew (ch := [e, it]) (fun b ob hb q => (sb.2 b (fun z => hb (by simp [z]))).trans (hk b ob (fun z => hb (by simp [z])) (fun z => hb (by simp [z])) q)) hf (Nat.le_refl _) new
  refine ⟨.ref s.heap.objs.size, _, I1, rfl, ⟨_, x, rfl, I.hok.fresh (Nat.le_refl _), rfl, fun ys hy => by rw [I.tuple_inj hy hq]; exact hx⟩, ⟨⟨y, ?_⟩, hit'.1.at fun o q => (sb.2 it (Ne.symm hne)).trans q, hne⟩, fun b hb => ?_⟩
  ·have e1 : ((i + 1 : Nat) : Int) = (i : Int) + 1 := by omega
   rw [e1]; exact he'
  ·have hb' : b < s.heap.objs.size := by
    have e' : b = e ∨ b = it := by simpa using hb
    rcases e' with z | z
    ·rw [z]; exact hel
    ·rw [z]; exact hil
   rw [upd_ne (Nat.ne_of_lt hb')]
   exact (hf b hb).1
 done := by
  intro X hP hw hK hc i pins s σ H E I hf st hg
  subst hP hw hK
  obtain ⟨⟨old, he⟩, hit, hne⟩ := st
  obtain ⟨xs, hq, hx⟩ := hg
  obtain ⟨its, rv, p, hz⟩ := I.tuple hq
  obtain ⟨f0, f1, f2, f3, f4, f5⟩ := hf it (by simp)
  have hl := rv.length
  have ist : s.heap.IsTuple a its.toArray := p
  have hsz : its.toArray.size = i := by simp; omega
  refine wpAny_pyNext_enum_endD (Draws.tuple (prog := X.prog) (w := X.w) (A := X.A.in1) (show X.A.in1.handled = none from I.ok.hd hc) it a ha its.toArray) he ⟨by rw [hsz]; exact hit, ist⟩ fun h' eb => ⟨rfl, I.turned (t' := s.toks) (fun b o hb q => eb b o hb q) f0 f1 f3 f4 f5⟩
 self := fun A i s Q E st h => let ⟨⟨_, he⟩, _⟩ := st; wpAny_pyIter_enum he h
def nE (K : PySem.W.Frag) (ta : TA) : TI := fun σ H R => ta σ H fun vs H1 => ∃ a xs, vs = [.ref a] ∧ SqT K H1 a xs ∧ R (mf K a) H1
theorem j8 {X : Cx} {e : Expr} {ta : TA} {p pos tpos : Pos} {elts : List Expr} {kk : Nat} (hg : Gl X "enumerate") (hm : X.mg "enumerate" = none) (ha : PA X [e] ta) (hs : starEach [e] X.env = [(false, eval e X.env)] := by rfl) :
  PI X (.Tuple elts kk tpos) (.Call (.Name "enumerate" p) [e] [] pos) (nE X.K ta) := by
 refine ⟨fun pins s σ H R I h => ?_⟩
 refine Call_ (ld_blt I hg hm boot_enumerate (PyProof.Rows.callWith_type1 (thn (ha.run pos pins s σ H _ I h) fun us s1 ⟨vs, H1, I1, r1, q1⟩ => ?_) hs rfl))
 obtain ⟨a, xs, ex, hq, q⟩ := q1
 subst ex
 cases r1 with
 | cons r rr =>
  cases rr
  cases r
  obtain ⟨its, rv, p', hz⟩ := I1.tuple hq
  have ist : s1.heap.IsTuple a its.toArray := p'
  have hlt : a < s1.heap.objs.size := by obtain ⟨o, ho, _⟩ := ist; exact Heap.lt_size ho
  refine dy (begins_tuple a its.toArray) ist fun h' he hit hsz hk => wpAny_pyIter_enum he ?_
  have I2 : Inv X pins σ H1 { s1 with heap := h' } := I1.kept (t' := s1.toks) hk
  refine ⟨s1.heap.objs.size + 1, [s1.heap.objs.size + 1, s1.heap.objs.size], _, _, H1, rfl, I2, ip a (s1.heap.objs.size + 1) s1.heap.objs.size (Nat.ne_of_lt hlt) (Nat.ne_of_gt (Nat.lt_succ_of_lt hlt)), ⟨⟨.none, he⟩, ⟨_, hit, rfl, rfl⟩, Nat.succ_ne_self _⟩, fun b hb => ?_, q⟩
  have e' : b = s1.heap.objs.size + 1 ∨ b = s1.heap.objs.size := by simpa using hb
  have hle : s1.heap.objs.size ≤ b := by
   rcases e' with z | z
   ·rw [z]; exact Nat.le_add_right _ _
   ·rw [z]; exact Nat.le_refl _
  exact I1.fpOk hle (I1.hok.fresh hle)
end Z
namespace Z
open PySem L2 PySem.Spec PyProof.Rows
theorem lV {T : Tb} {F0 : Hp} {a : Addr} {xs : List PV} {vs : List V} (q : F0 a = some (.tup vs)) (r : RpL T F0 xs vs) : ItOk T (mf T.K a) F0 (cg 0 xs) := by
 refine ⟨fun F H i x s0 s e => ?_, fun F H s0 s => ⟨vs, SqT.of (s _ _ (s0 _ _ q)), by rw [cb, r.length]⟩⟩
 rw [cC] at e
 cases ei : xs[i]? with
 | none => rw [ei] at e; cases e
 | some y =>
  rw [ei] at e
  simp at e
  obtain ⟨v, hv, rv⟩ := r.get ei
  have qh : SqT T.K H a vs := SqT.of (s _ _ (s0 _ _ q))
  refine ⟨⟨vs, v, qh, hv⟩, fun u H' yl => ?_⟩
  obtain ⟨Ta, w, rfl, nT, rfl, h4⟩ := yl
  have := h4 vs qh
  rw [hv] at this
  cases this
  refine ⟨_, Ext.newF s nT, ?_⟩
  rw [← e]
  exact gE s nT (RpL.cons (by simp [Rp]) (RpL.cons (rv.mono s0) RpL.nil))
theorem kD {T : Tb} {F0 : Hp} {a : Addr} (k : K0 T.K a) : ItOk T (mf T.K a) F0 [] :=
 ⟨fun F H i x _ _ e => by simp at e, fun F H _ _ => ⟨[], k.sq H, rfl⟩⟩
theorem pP {X : Cx} {tg e : Expr} {t t' : TI} (h : PI X tg e t) (k : PI X tg e t') : PI X tg e (fun σ H R => t σ H R ∨ t' σ H R) := ⟨fun pins s σ H R I q => q.elim (h.run pins s σ H R I) (k.run pins s σ H R I)⟩
def nM : PV → R (List PV)
 | .lst xs => .ok (cg 0 xs)
 | .tup xs => .ok (cg 0 xs)
 | .nul => .ok []
 | _ => .no
def eT (f : Ex) : Env → R (List PV) := fun γ => (f γ).bind fun l => l.keep.bind nM
section
variable {X : Cx} {cl : Cl} {W : WX}
theorem g8 {f} {e : Expr} {p pos tpos : Pos} {elts : List Expr} {kk : Nat} (hm : X.mg "enumerate" = none) (he : QE cl X W f e) (hg : Gl X "enumerate" := by rfl) (hs : starEach [e] X.env = [(false, eval e X.env)] := by rfl)
  (hs2 : starEach [e] X.env = (false, eval e X.env) :: starEach [] X.env := by rfl) : QI cl X W (eT f) (.Tuple elts kk tpos) (.Call (.Name "enumerate" p) [e] [] pos) := ⟨(pP (pi_enum hg hm (pa_cons he.pe pa_nil hs2) hs) (j8 hg hm (pa_cons he.pe pa_nil hs2) hs)).imp fun σ H Rr h => by
 obtain ⟨F, A, γ, rel, h⟩ := h
 unfold eT at h
 cases e : f γ with
 | no => rw [e] at h; exact h.elim
 | er x => rw [e] at h; exact .inl ⟨F, A, γ, rel, by rw [e]; exact h⟩
 | ok l =>
  rw [e] at h
  simp only [R.ai] at h
  cases ek : l.keep with
  | no => rw [ek] at h; exact h.elim
  | er x => exact (l.keep_ne _ ek).elim
  | ok x =>
   rw [ek] at h
   simp only [R.ai] at h
   cases x <;> try exact h.elim
   ·rename_i xs
    refine .inr ⟨F, A, γ, rel, ?_⟩
    rw [e]
    intro F1 H1 v e1 r1
    obtain ⟨F2, e2, s2, rx⟩ := keep_ok r1 e1 ek
    simp only [Rp] at rx
    obtain ⟨a, vs, rfl, q, r⟩ := rx
    exact ⟨a, vs, rfl, SqT.of (e2.sub _ _ q), h F2 H1 _ e2 (lV q r)⟩
   ·rename_i xs
    refine .inl ⟨F, A, γ, rel, ?_⟩
    rw [e]
    intro F1 H1 v e1 r1
    obtain ⟨F2, e2, s2, rx⟩ := keep_ok r1 e1 ek
    simp only [Rp] at rx
    obtain ⟨a, vs, rfl, q, r⟩ := rx
    exact ⟨a, vs, rfl, .inl (bt e2.sub q), h F2 H1 _ e2 (nB q r)⟩
   ·refine .inr ⟨F, A, γ, rel, ?_⟩
    rw [e]
    intro F1 H1 v e1 r1
    obtain ⟨F2, e2, s2, rx⟩ := keep_ok r1 e1 ek
    simp only [Rp] at rx
    obtain ⟨a, rfl, k⟩ := rx
    exact ⟨a, [], rfl, k.sq H1, h F2 H1 _ e2 (kD k)⟩⟩
end
@[simp] theorem e_iEnuA {f : Ex} {γ : Z.Env} : eT f γ = (f γ).bind fun l => l.keep.bind nM := (rfl)
end Z
set_option maxHeartbeats 4000000
namespace Z
open PySem L2 PySem.Spec PyProof.Rows
structure BxF (K : PySem.W.Frag) (mg : Str → Option Value) (cl : Cl) (c : String) (B newId initId : String) (bmB : List Value) (C : Addr) : Prop where
 F : ExcBaseFacts B newId initId bmB
 q : PySem.W.excIn K C bmB newId = true
 kC : PySem.W.keepIn K (.ref C) = true
 exC : PySem.W.subIn K (.ref C) (.type "BaseException") = some true
 tyC : PySem.W.typeIn K (.ref C) = some (.type "type")
 mgx : mg (PySem.Str.ofString c) = some (.ref C)
 ce : cl.e c = some C
section
variable {X : Cx} {cl : Cl} {W : WX} {fs ks : Env → R (List PV)} {e : Expr} {es : List Expr} {p p1 pos : Pos} {c : String}
end
end Z
set_option maxHeartbeats 4000000
namespace Z
open PySem L2 PySem.Spec PyProof.Rows
section
open PySem.W
variable {prog : Program} {w : World} {A : Around} {E : Value → Shared → Prop} {s : Shared}
end
section
variable {X : Cx} {cl : Cl} {W : WX}
end
end Z
set_option maxHeartbeats 4000000
namespace Z
open PySem L2 PySem.Spec PyProof.Rows
theorem FnAt.ofD {K : PySem.W.Frag} {x qual : Str} {st : Stmt} {dvs : List V} {kws : List (Str × V)} {f : Addr} {fd : FuncData} (F : FunD K x qual (defArgs st) (defBody st) (defScope st) dvs kws f fd) : FnAt K x qual st f fd := by
 obtain ⟨oc, od, dV, kV, doc, pm, an, cdv, ct, osl, e, l, c, _, _⟩ := F.ex
 exact ⟨⟨oc, od, dV, kV, doc, pm, an, cdv, ct, osl, e, l, c⟩, F.kp⟩
def pq (fl : Fl) (i j : Nat) : PySem.W.Frag → Bool := (fl.getD i []).getD j (fun _ => true)
section
variable {fl : Fl} {fn : List He.DefD} {K : PySem.W.Frag}
theorem gm.at_ (c : gm fl fn K) (i j : Nat) : pq fl i j K = true := by
 have c1 := (He.ba (show ((ik fl K) && fn.all fun d => d.ok K) = true from congrArg (fun z : He.AlD => z.1) c)).1
 unfold pq
 rw [List.getD_eq_getElem?_getD, List.getD_eq_getElem?_getD]
 cases e : fl[i]? with
 | none => simp
 | some l =>
  simp only [Option.getD_some]
  cases e2 : l[j]? with
  | none => rfl
  | some f =>
   have := List.all_eq_true.mp c1 l (List.mem_of_getElem? e)
   exact List.all_eq_true.mp this f (List.mem_of_getElem? e2)
theorem gm.def_ (c : gm fl fn K) (i : Nat) {d : He.DefD} (h : fn[i]? = some d := by rfl) : ∃ fd, FunD K d.name d.qual d.params d.body d.scope (d.dvs K) (d.kws K) (He.fAd K d.at_) fd := by
 have c2 := (He.ba (show ((ik fl K) && fn.all fun d => d.ok K) = true from congrArg (fun z : He.AlD => z.1) c)).2
 have e : fn.map (fun d => He.fnW K d.at_) = fn.map He.DefD.val := congrArg (fun z : He.AlD => z.2) c
 have e2 : (fn.map fun d => He.fnW K d.at_)[i]? = (fn.map He.DefD.val)[i]? := by rw [e]
 rw [List.getElem?_map, List.getElem?_map, h] at e2
 exact He.DefD.funD (Option.some.inj e2) (List.all_eq_true.mp c2 d (List.mem_of_getElem? h))
end
theorem bH {K : PySem.W.Frag} {C : Addr} {m : Str} {u : Value} (h : fcB K C m u = true) : PySem.W.findCls K (.ref C) (.type "type") m = some (.val u) := by
 unfold fcB at h
 split at h
 ·rename_i e
  rw [e, of_decide_eq_true h]
 ·cases h
theorem mD {l : PySem.W.OpenLaw} {n k : Nat} {q : Program} {loose : List Str} {XP : (Str → Option Value) → Heap → Prop} {YP : World → Heap → Prop} {d : PySem.DefRec} {x : Str}
  (hn : l.most = some n) (hn2 : n ≤ sizeLine) (hdf : d.params.defaults = []) (hr : Room k callerA) (hi : PyProof.Rows.importsNone q = true)
  (F : ∀ (w : World) (mg : Str → Option Value) (fa : Addr) (h : Heap), YP w h → h.Ns mainGlobals mg → mg d.name = some (.ref fa) →
   ∃ K : PySem.W.Frag, K.In h ∧ ∃ fd : FuncData, (∀ (s : Shared) (u : Value), BindsTo s fd ⟨[u], []⟩ [(x, u)]) ∧
    ∀ base : Heap, K.In base → base.Ns mainGlobals mg → kS base → FnG l.prog w K mg base k fa fd [x] (gX K n)) :
  PySem.W.WalkO q loose XP YP l.row.toRowW d [] (fun f vs => PySem.call f vs) := by
 refine Att.attach_call hn hdf fun w s₀ s₁ mg mb fa o pm cd doc a vs ns G Y ho hd hcd hmg hobj hints hlen hg => ?_
 obtain ⟨K, KX, fd, hb, hF⟩ := F w mg fa _ Y G.T.g hmg
 exact jI KX G.T.g G.T.b G.T.builtins G.T.nolimit (let ⟨mm, h, _⟩ := (G.T.seer hi).mods; ⟨mm, h⟩) hg hobj hints (Nat.le_trans hlen hn2) hlen hr hF hb
end Z
set_option maxHeartbeats 4000000
namespace Z
open PySem L2
def mx (o : HO) : Prop := (∀ es, o ≠ .dK es) ∧ ∀ es, o ≠ .dT es
section
variable {T : Tb} {F G H : Hp} (k : ∀ a o, F a = some o → mx o → G a = some o)
include k
end
section
variable {T : Tb} {F G H : Hp} (k : ∀ a o, F a = some o → mx o → G a = some o)
include k
end
section
variable {X : Cx} {cl : Cl} {W : WX}
end
end Z
set_option maxHeartbeats 4000000
namespace Z
open PySem L2
theorem OwE.take {T : Tb} {F H : Hp} : (γ : Env) → ∀ {σ A} {i : Nat} {m x}, OwE T F H γ σ A → A.Nodup → γ[i]? = some (.sl m x) → ∃ v Ai A', σ[i]? = some (some v) ∧ OwM T F H m x v Ai ∧ Ai.Nodup ∧ OwE T F H (γ.set i .un) σ A' ∧ A'.Nodup ∧ (∀ a ∈ Ai, a ∈ A ∧ a ∉ A') ∧ ∀ a ∈ A', a ∈ A
 | [], σ, A, i, m, x, h, n, e => by simp at e
 | .un :: γ, σ, A, 0, m, x, h, n, e => by simp at e
 | .un :: γ, σ, A, i + 1, m, x, h, n, e => by
  simp only [OwE] at h
  obtain ⟨w, σ', rfl, h⟩ := h
  obtain ⟨v, Ai, A', h1, h2, h3, h4, h5, h6, h7⟩ := OwE.take γ h n (by simpa using e)
  refine ⟨v, Ai, A', by simpa using h1, h2, h3, ?_, h5, h6, h7⟩
  simp only [List.set_cons_succ, OwE]
  exact ⟨w, σ', rfl, h4⟩
 | .sl m0 x0 :: γ, σ, A, 0, m, x, h, n, e => by
  simp only [OwE] at h
  obtain ⟨v, σ', A1, A2, rfl, rfl, h1, h2⟩ := h
  simp at e
  obtain ⟨rfl, rfl⟩ := e
  obtain ⟨n1, n2, n3⟩ := List.nodup_append.mp n
  refine ⟨v, A1, A2, by simp, h1, n1, ?_, n2, fun a ha => ⟨List.mem_append_left _ ha, fun z => n3 a ha a z rfl⟩, fun a ha => List.mem_append_right _ ha⟩
  simp only [List.set_cons_zero, OwE]
  exact ⟨some v, σ', rfl, h2⟩
 | .sl m0 x0 :: γ, σ, A, i + 1, m, x, h, n, e => by
  simp only [OwE] at h
  obtain ⟨v0, σ', A1, A2, rfl, rfl, h1, h2⟩ := h
  obtain ⟨n1, n2, n3⟩ := List.nodup_append.mp n
  obtain ⟨v, Ai, A', k1, k2, k3, k4, k5, k6, k7⟩ := OwE.take γ h2 n2 (by simpa using e)
  refine ⟨v, Ai, A1 ++ A', by simpa using k1, k2, k3, ?_, ?_, fun a ha => ⟨List.mem_append_right _ (k6 a ha).1, fun z => ?_⟩, fun a ha => ?_⟩
  ·simp only [List.set_cons_succ, OwE]
   exact ⟨v0, σ', A1, A', rfl, rfl, h1, k4⟩
  ·exact List.nodup_append.mpr ⟨n1, k5, fun a ha b hb e => n3 a ha b (k7 b hb) e⟩
  ·rcases List.mem_append.mp z with z | z
   ·exact n3 a z a (k6 a ha).1 rfl
   ·exact (k6 a ha).2 z
  ·rcases List.mem_append.mp ha with z | z
   ·exact List.mem_append_left _ z
   ·exact List.mem_append_right _ (k7 a z)
 | .me m0 x0 :: γ, σ, A, 0, m, x, h, n, e => by simp at e
 | .me m0 x0 :: γ, σ, A, i + 1, m, x, h, n, e => by
  simp only [OwE] at h
  obtain ⟨v0, σ', A1, A2, rfl, rfl, h1, h2⟩ := h
  obtain ⟨n1, n2, n3⟩ := List.nodup_append.mp n
  obtain ⟨v, Ai, A', k1, k2, k3, k4, k5, k6, k7⟩ := OwE.take γ h2 n2 (by simpa using e)
  refine ⟨v, Ai, A1 ++ A', by simpa using k1, k2, k3, ?_, ?_, fun a ha => ⟨List.mem_append_right _ (k6 a ha).1, fun z => ?_⟩, fun a ha => ?_⟩
  ·simp only [List.set_cons_succ, OwE]
   exact ⟨v0, σ', A1, A', rfl, rfl, h1, k4⟩
  ·exact List.nodup_append.mpr ⟨n1, k5, fun a ha b hb e => n3 a ha b (k7 b hb) e⟩
  ·rcases List.mem_append.mp z with z | z
   ·exact n3 a z a (k6 a ha).1 rfl
   ·exact (k6 a ha).2 z
  ·rcases List.mem_append.mp ha with z | z
   ·exact List.mem_append_left _ z
   ·exact List.mem_append_right _ (k7 a z)
 | .tr x0 :: γ, σ, A, 0, m, x, h, n, e => by simp at e
 | .tr x0 :: γ, σ, A, i + 1, m, x, h, n, e => by
  simp only [OwE] at h
  obtain ⟨v0, σ', A1, A2, rfl, rfl, h1, h2⟩ := h
  obtain ⟨n1, n2, n3⟩ := List.nodup_append.mp n
  obtain ⟨v, Ai, A', k1, k2, k3, k4, k5, k6, k7⟩ := OwE.take γ h2 n2 (by simpa using e)
  refine ⟨v, Ai, A1 ++ A', by simpa using k1, k2, k3, ?_, ?_, fun a ha => ⟨List.mem_append_right _ (k6 a ha).1, fun z => ?_⟩, fun a ha => ?_⟩
  ·simp only [List.set_cons_succ, OwE]
   exact ⟨v0, σ', A1, A', rfl, rfl, h1, k4⟩
  ·exact List.nodup_append.mpr ⟨n1, k5, fun a ha b hb e => n3 a ha b (k7 b hb) e⟩
  ·rcases List.mem_append.mp z with z | z
   ·exact n3 a z a (k6 a ha).1 rfl
   ·exact (k6 a ha).2 z
  ·rcases List.mem_append.mp ha with z | z
   ·exact List.mem_append_left _ z
   ·exact List.mem_append_right _ (k7 a z)
section
variable {X : Cx} {cl : Cl} {W : WX}
end
end Z
namespace Z
open PySem L2
section
variable {X : Cx} {cl : Cl} {W : WX}
theorem Ext.tup {F H : Hp} {q : Addr} {ts : List V} (s : Same F H) (h : H q = some (.tup ts)) : ∃ F', Ext F H F' H ∧ F' q = some (.tup ts) := by
 refine ⟨upd F q (.tup ts), ⟨fun a o z => ?_, fun a o z => ?_, SameT.refl _, fun a o z => ?_⟩, upd_same⟩
 ·by_cases e : a = q
  ·subst e; rw [upd_same] at z; rw [← z]; exact h
  ·rw [upd_ne e] at z; exact s a o z
 ·by_cases e : a = q
  ·subst e
   have := s _ _ z
   rw [h] at this
   rw [← this]; exact upd_same
  ·rw [upd_ne e]; exact z
 ·by_cases e : a = q
  ·subst e; exact .inr (.inr ⟨ts, h⟩)
  ·rw [upd_ne e] at z; exact .inl z
variable {i : Nat} {x : Str} {tg : Expr} {p apos cpos : Pos}
end
section
variable {X : Cx} {cl : Cl} {W : WX}
end
end Z
namespace Z
open PySem L2 PySem.Spec PyProof.Rows
def rprBack : R PV → R Vl
 | .ok (.str t) => .ok (.z (.str t))
 | _ => .no
section
variable {X : Cx} {cl : Cl} {W : WX}
def strsOf : List PV → Option (List Str)
 | [] => some []
 | .str y :: xs => (strsOf xs).map (y :: ·)
 | _ => none
theorem fL : ∀ {xs : List PV} {ys : List Str}, strsOf xs = some ys → xs = ys.map PV.str
 | [], ys, h => by cases h; rfl
 | x :: xs, ys, h => by
  cases x <;> try (simp [strsOf] at h; done)
  simp only [strsOf] at h
  obtain ⟨zs, e, rfl⟩ := Option.map_eq_some_iff.mp h
  rw [fL e]; rfl
theorem g5 {T : Tb} {F : Hp} : ∀ {ys : List Str} {vs : List V}, RpL T F (ys.map PV.str) vs → vs = ys.map V.str
 | [], _, h => by simpa [RpL] using h
 | y :: ys, _, h => by
  simp only [List.map_cons, RpL, Rp] at h
  obtain ⟨v, ws, rfl, rfl, q⟩ := h
  rw [g5 q]; rfl
def cV (a : Str) : PV → R Vl
 | .lst xs => match strsOf xs with
  | some ys => if (ys.map (·.length)).sum + ys.length * a.length ≤ 16777216 then .ok (.z (.str (Txt.join a ys))) else .no
  | none => .no
 | _ => .no
theorem kh {a : Str} {x : PV} {e : Xc} (h : cV a x = .er e) : False := by
 unfold cV at h
 split at h
 ·split at h
  ·split at h <;> cases h
  ·cases h
 ·cases h
theorem mZ {a : Str} {g : Ex} {o e : Expr} {apos pos : Pos} (ho : QE cl X W (xC (.str a)) o) (he : QE cl X W g e) (hs : starEach [e] X.env = [(false, eval e X.env)] := by rfl) (hbase : attributeBase o "join" X.env (eval o X.env) = eval o X.env := by rfl) (hline : (apos.endLine == pos.line) = true := by rfl) :
  QE cl X W (x1 (cV a) g) (.Call (.Attribute o "join" apos) [e] [] pos) := ⟨(pe_join ho.pe he.pe hs hbase hline).imp fun σ H Q h => by
 obtain ⟨F, A, γ, rel, h⟩ := h
 refine ⟨F, A, γ, rel, ?_⟩
 show ∀ F' H' v, Ext F H F' H' → VlR ⟨X.K, cl⟩ F' H' H A (.z (.str a)) v → _
 intro F1 H1 v e1 r1
 obtain rfl := r1.rv.str
 refine ⟨⟨a, rfl⟩, F1, A, γ, rel.ext e1, ?_⟩
 unfold x1 at h
 cases eg : g γ with
 | no => rw [eg] at h; exact h
 | er x => rw [eg] at h; exact fun F' H' c d q => h F' H' c d (e1.trans q)
 | ok l =>
  rw [eg] at h
  simp only [R.ai] at h
  intro F2 H2 u e2 r2
  cases ep : cV a l.x with
  | no => rw [ep] at h; exact h.elim
  | er y => exact (kh ep).elim
  | ok l' =>
   rw [ep] at h
   unfold cV at ep
   split at ep
   ·rename_i xs ex
    split at ep
    ·rename_i ys ey
     split at ep
     ·rename_i hz
      cases ep
      have rv := r2.rv
      rw [ex] at rv
      obtain ⟨p, vs, rfl, hp, rl⟩ := rv.lst e2.sub
      rw [fL ey] at rl
      have := g5 rl
      subst this
      exact ⟨a, p, ys, rfl, rfl, .inl hp, hz, h F2 H2 _ (e1.trans e2) (VlR.zz (by simp [Rp]))⟩
     ·cases ep
    ·cases ep
   ·cases ep⟩
end
end Z
namespace Z
open PySem PySem.W L2
variable {K : Frag} {C D : Addr} {c n d m t : String}
theorem fA' (h : fA K c n = true) : findIn K (.ref (He.ga K (Str.ofString c))) (Str.ofString n) = some none := of_decide_eq_true h
theorem fB' (h : fB K c n d m = true) : findIn K (.ref (He.ga K (Str.ofString c))) (Str.ofString n) = some (some (.ref (He.ma K (He.ga K (Str.ofString d)) (Str.ofString m)))) := of_decide_eq_true h
theorem fC' (h : fC K n = true) : nsIn K mainGlobals (Str.ofString n) = some (some (.ref (He.ga K (Str.ofString n)))) := of_decide_eq_true h
theorem fE' (h : fE K c t = true) : kitOne K (.ref (He.ga K (Str.ofString c))) (.type t) = some false := of_decide_eq_true h
theorem fF' (h : fF K c n t = true) : findIn K (.ref (He.ga K (Str.ofString c))) (Str.ofString n) = some (some (.builtin t)) := of_decide_eq_true h
theorem fG' (h : fG K n = true) : nsIn K mainGlobals (Str.ofString n) = some none := of_decide_eq_true h
end Z
set_option maxHeartbeats 4000000
namespace Z
open PySem L2 PySem.Spec PyProof.Rows
structure BltX (b : String) : Prop where
 boot : bootBuiltins (PySem.Str.ofString b) = some (.type b)
 ty : typeOf (.type b) = pure (.type "type")
 st : Manifest.isStub b = false
 nm : PySem.Str.ofString b ≠ "__name__"
 dbg : (PySem.Str.ofString b == ("__debug__" : Str)) = false
theorem dW : BltX "IndexError" := ⟨PyProof.Rows.Boot.«IndexError», by kernel_rfl, by decide +kernel, by decide, by decide⟩
theorem ft : BltX "KeyError" := ⟨PyProof.Rows.Boot.«KeyError», by kernel_rfl, by decide +kernel, by decide, by decide⟩
section
variable {X : Cx} {e : Expr} {es : List Expr} {ta : TA} {b : String} {p1 p2 pos : Pos}
theorem fW {pl : Sem Bool} {initId : String} (B0 : BltX b) (hg : Gl X (PySem.Str.ofString b)) (hm : X.mg (PySem.Str.ofString b) = none) (vV : PySem.W.findCls X.K (.type b) (.type "type") "__init__" = some (.val (.builtin initId))) (ha : PA X (e :: es) ta)
  (hc : eval (.Call (.Attribute (.Name (PySem.Str.ofString b) p1) "__init__" p2) (e :: es) [] pos) X.env = (do
   let ov ← eval (.Name (PySem.Str.ofString b) p1) X.env
   standAt p2.atName
   let (f, first) ← holding [ov] (getMethod ov "__init__" pl)
   callWith pos f first (backTo pos (starEach (e :: es) X.env)) (backToKw pos (keywordEach [] X.env))) := by rfl)
  (he : starEach (e :: es) X.env = (false, eval e X.env) :: starEach es X.env := by rfl) (hpl : (backTo pos (starEach es X.env)).any (·.1) = false := by rfl) (hh : PySem.W.handedIn (.builtin initId) = true := by decide +kernel) :
  PE X (.Call (.Attribute (.Name (PySem.Str.ofString b) p1) "__init__" p2) (e :: es) [] pos) (la X.K initId ta) := by
 refine ⟨fun pins s σ H Q I h => ?_⟩
 refine PySem.W.methodCall_KW (ld_blt I hg hm B0.boot ?_ B0.nm B0.dbg) hc
 obtain ⟨m, fr⟩ := I.fr
 refine PySem.W.method_type fr I.ok.mod.kin B0.ty B0.st vV hh ?_
 show wpAny _ _ (callWith pos (Value.builtin initId) [] (backTo pos (starEach (e :: es) X.env)) []) _ _ _
 refine PyProof.Rows.callWith_method1 (thn (ha.run pos pins _ σ H _ (I.tok _) h) fun us s1 hu => ?_) he hpl
 obtain ⟨vs, H1, I1, r1, a, C, ws, B, newId, bmB, rfl, hl, T, ea, q⟩ := hu
 cases r1 with
 | @cons _ u0 _ ur ra rw' =>
  obtain rfl : u0 = Value.ref a := ra
  refine kl T I1 ea ?_ fun s' J => ⟨.non, H1, J, rfl, q⟩
  rw [← Paired.length rw', sizeLine_eq]
  omega
end
structure ExB (K : PySem.W.Frag) (mg : Str → Option Value) (cl : Cl) (c : String) (base : String) (qual : Str) (B newId initId : String) (bmB : List Value) (st : Stmt) (ps : List Str) (C a : Addr) (fd : FuncData) : Prop where
 ox : OxC K C B newId initId bmB
 iC : PySem.W.findIn K (.ref C) "__init__" = some (some (.ref a))
 tI : PySem.W.typeIn K (.ref a) = some (.type "function")
 mgx : mg (PySem.Str.ofString c) = some (.ref C)
 ce : cl.e c = some C
 fn : FnAt K "__init__" qual st a fd
 bd : L2.Binds K fd ps []
 bx : BltX base
 mgb : mg (PySem.Str.ofString base) = none
 fb : PySem.W.findCls K (.type base) (.type "type") "__init__" = some (.val (.builtin initId))
theorem kH {K : PySem.W.Frag} {b : String} {u : Value} (h : fcT K b u = true) : PySem.W.findCls K (.type b) (.type "type") "__init__" = some (.val u) := by
 unfold fcT at h
 split at h
 ·next v e => rw [e, of_decide_eq_true h]
 ·cases h
end Z
namespace Z
open PySem L2 PySem.Spec PyProof.Rows
end Z
namespace Z
open PySem L2
variable {X : Cx} {cl : Cl} {W : WX}
end Z
namespace Z
open PySem L2
section
variable {X : Cx} {cl : Cl} {W : WX}
end
end Z
namespace Z
open PySem L2 PySem.Spec PyProof.Rows PySem.W
section
variable {X : Cx} {cl : Cl} {W : WX}
end
end Z
namespace Z
open PySem L2
abbrev zN (K : PySem.W.Frag) (C : Addr) (x : Str) : Prop := PySem.W.findIn K (.ref C) x = some none
abbrev zR (K : PySem.W.Frag) (C : Addr) (x : Str) (f : Addr) : Prop := PySem.W.findIn K (.ref C) x = some (some (.ref f))
abbrev zB (K : PySem.W.Frag) (C : Addr) (x : Str) (b : String) : Prop := PySem.W.findIn K (.ref C) x = some (some (.builtin b))
abbrev zM (K : PySem.W.Frag) (x : Str) (f : Addr) : Prop := PySem.W.nsIn K mainGlobals x = some (some (.ref f))
abbrev zF (K : PySem.W.Frag) (C : Addr) (D : Value) : Prop := PySem.W.kitOne K (.ref C) D = some false
abbrev zT (K : PySem.W.Frag) (C : Addr) (D : Value) : Prop := PySem.W.kitOne K (.ref C) D = some true
abbrev zD (K : PySem.W.Frag) (x q : Str) (st : Stmt) (f : Addr) (fd : FuncData) : Prop := L2.FunD K x q (defArgs st) (defBody st) (defScope st) [] [] f fd
theorem fnS {N P : List Str} {sc : Scope} (a : sc.kind = .function) (b : sc.isCoroutine = false) (c : sc.isGenerator = false) (d : N.take P.length = P) (e : N.Nodup ∧ (∀ x ∈ P, sc.names.lookup x = some .local ∨ sc.names.lookup x = some .cell) ∧ ∀ y ∈ sc.names, y.2 ≠ .free) : FnScope N P sc := ⟨a, b, c, e.1, d, e.2.1, e.2.2⟩
theorem fN0 {α : Type} {p : α → Prop} : ∀ x ∈ ([] : List α), p x := fun _ h => by cases h
theorem fQ {α : Type} {p : α → Prop} {a : α} {l : List α} (h : p a) (t : ∀ x ∈ l, p x) : ∀ x ∈ a :: l, p x := List.forall_mem_cons.mpr ⟨h, t⟩
theorem bkS {N : List Str} {sc scope : Scope} {own : List (Str × Nat)} (a : scope.kind = .function) (b : (∀ y ∈ scope.names, scope.names.lookup y.1 = some y.2) ∧ (∀ p ∈ own, N[p.2]? = some p.1) ∧ (∀ y ∈ scope.names, y.2 = .free → sc.names.lookup y.1 = some .cell ∨ sc.names.lookup y.1 = some .free) ∧ ∀ y ∈ scope.names, y.2 = .local ∨ y.2 = .cell → y.1 ∈ own.map (·.1) ∨ y.1 ∉ N) : BlkOk N sc scope own := ⟨a, b.1, b.2.1, b.2.2.1, b.2.2.2⟩
end Z
namespace Z
open PySem L2 PySem.Spec PyProof.Rows PySem.W
section
variable {X : Cx} {cl : Cl} {W : WX}
end
end Z
set_option maxHeartbeats 4000000
namespace Z
open PySem L2 PySem.Spec PyProof.Rows HT
section
variable {prog : Program} {w : World} {A : Around} {E : Value → Shared → Prop} {s : Shared}
end
section
variable {X : Cx} {cl : Cl} {W : WX}
end
end Z
namespace Z
open PySem L2
end Z
set_option maxHeartbeats 4000000
namespace Z
open PySem L2 PySem.Spec PyProof.Rows HT
section
variable {X : Cx} {cl : Cl} {W : WX}
variable {e : Expr} {te : L2.St → Hp → (Int → Int → Int → Hp → Prop) → Prop}
end
end Z
set_option maxHeartbeats 4000000
namespace Z
open PySem L2 PySem.Spec PyProof.Rows
section
variable {X : Cx} {cl : Cl} {W : WX}
end
end Z
set_option maxHeartbeats 4000000
namespace Z
open PySem L2 PySem.Spec PyProof.Rows
structure FlySt (X : Cx) (pins : List (Addr × Obj)) (B : Heap) (sI : Shared) (σ : L2.St) (H : Hp) (C : Addr) (d : Option Addr) (a : Addr) (s3 : Shared) : Prop where
 J : Inv X pins σ H sI
 nb : ∀ b o, sI.heap.get? b = some o → b ∉ frs X.stack → B.get? b = some o
 up : sI.heap.UpToSlots s3.heap
 fl : HandSPX.FlyingZ B (X.env :: X.outer) a (Zc (.ref C) d) s3.heap
 na : H a = none
 os : s3.os = sI.os
 ag : AllBare s3.gens
 hs : X.stack = X.env :: X.outer
 hf : X.env.frame = some X.env.locals
section
variable {X : Cx} {pins : List (Addr × Obj)} {B : Heap} {sI s3 : Shared} {σ : L2.St} {H : Hp} {C : Addr} {d : Option Addr} {a : Addr}
end
structure PHd (X : Cx) (hs : List ExceptHandler) (w : WX → Ends → WX) : Prop where
 run : ∀ (pins : List (Addr × Obj)) (B : Heap) (sI s3 : Shared) (σ : L2.St) (H : Hp) (C : Addr) (d : Option Addr) (a : Addr) (D : Ends) (Wout : WX), FlySt X pins B sI σ H C d a s3 → Takes X Wout → w Wout D (.ref C) d σ H →
  wpAny (model X.prog X.w) X.A (handleBy (.ref a) X.env hs) (SP X pins D) X.xe s3
section
variable {X : Cx} {x n : Str} {c : Value} {i : Nat} {body suite : List Stmt} {b₀ : Stmt} {np pos pos' : Pos} {tb : WX → TS} {ts : TS} {hs : List ExceptHandler} {w' : WX → Ends → WX}
end
abbrev Hds := Xc → Env → Os
section
variable {X : Cx} {cl : Cl} {W : WX} {x n : Str} {c : Value} {i : Nat} {body suite : List Stmt} {b₀ : Stmt} {np pos pos' : Pos} {b s : Env → Os} {g : String → Bool} {hs : List ExceptHandler} {r : Hds}
theorem PHd.imp {w w' : WX → Ends → WX} (h : PHd X hs w) (k : ∀ Wout D cls d σ H, w' Wout D cls d σ H → w Wout D cls d σ H) : PHd X hs w' := ⟨fun pins B sI s3 σ H C d a D Wout S tk q => h.run pins B sI s3 σ H C d a D Wout S tk (k _ _ _ _ _ _ q)⟩
end
end Z
set_option maxHeartbeats 4000000
namespace Z
open PySem L2 PySem.Spec PyProof.Rows
section
variable {X : Cx} {cl : Cl} {W : WX}
end
end Z
namespace Z
open PySem PySem.W L2
section
variable {K : Frag} {c d t : String}
theorem fT' (h : fT K t c = true) : kitOne K (.type t) (.ref (He.ga K (Str.ofString c))) = some false := of_decide_eq_true h
theorem fU' (h : fU K c d = true) : kitOne K (.ref (He.ga K (Str.ofString c))) (.ref (He.ga K (Str.ofString d))) = some true := of_decide_eq_true h
theorem fV' (h : fV K c d = true) : kitOne K (.ref (He.ga K (Str.ofString c))) (.ref (He.ga K (Str.ofString d))) = some false := of_decide_eq_true h
end
end Z
namespace Z
open PySem L2
def spO (K : PySem.W.Frag) (cl : Cl) (f : List PV → R PV) : Sp := fun vs H Q E => ∃ F xs, SmT ⟨K, cl⟩ F H ∧ RpL ⟨K, cl⟩ F xs vs ∧ match f xs with
 | .ok x => ∀ F' H' v Ar, Ext F H F' H' → OwR ⟨K, cl⟩ F' H' x v Ar → Ar.Nodup → (∀ a ∈ Ar, H a = none ∧ F' a = none) → Q v H'
 | .er e => ∀ F' H' c d, Ext F H F' H' → XcR ⟨K, cl⟩ F' e c d → E c d H'
 | .no => False
theorem spO.re {K : PySem.W.Frag} {c : Cl} {f : List PV → R PV} (u w : V) {o1 o2 : Bool} {vs H Q E} (h : spO K (c.at2 u o1) f vs H Q E) : spO K (c.at2 w o2) f vs H Q E := by
 obtain ⟨F, xs, s, r, h⟩ := h
 refine ⟨F, xs, s, RpL.re _ _ r, ?_⟩
 cases e : f xs with
 | ok x => rw [e] at h; exact fun F' H' v Ar ex o nd k => h F' H' v Ar ex (OwR.re o) nd k
 | er x => rw [e] at h; exact fun F' H' c d ex rv => h F' H' c d ex rv.re
 | no => rw [e] at h; exact h
section
variable {P : Program} {w : World} {K : PySem.W.Frag} {mg : Str → Option Value} {base : Heap}
end
section
variable {X : Cx} {cl : Cl} {W : WX}
variable {m : String} {tbl : List (String × (List PV → R PV))} {f : Ex} {fs : Env → R (List PV)} {o e : Expr} {es : List Expr} {apos pos : Pos} {pl : Sem Bool} {ds : List Value}
end
end Z
set_option maxHeartbeats 4000000
namespace Z
open PySem L2 PySem.W PyProof.Rows PySem.Spec
section
variable {X : Cx} {pins : List (Addr × Obj)} {σ : L2.St} {H : Hp} {s : Shared}
end
section
variable {X : Cx} {pins : List (Addr × Obj)} {σ : L2.St} {H HZ : Hp} {s : Shared}
end
section
variable {X : Cx} {pins : List (Addr × Obj)} {σ : L2.St} {H : Hp} {s : Shared}
end
end Z
set_option maxHeartbeats 4000000
namespace Z
open PySem L2 PySem.W PyProof.Rows PySem.Spec
section
variable {P : Program} {w : World} {K : PySem.W.Frag} {mg : Str → Option Value} {base : Heap}
end
end Z
set_option maxHeartbeats 4000000
namespace Z
open PySem L2 PySem.W PyProof.Rows PySem.Spec
section
variable {X : Cx} {pins : List (Addr × Obj)} {σ : L2.St} {H : Hp} {s : Shared}
end
section
variable {X : Cx} {pins : List (Addr × Obj)} {σ : L2.St} {H : Hp} {s : Shared}
end
end Z
set_option maxHeartbeats 4000000
namespace Z
open PySem L2 PySem.W PyProof.Rows PySem.Spec PySem.Calls
section
variable {prog : Program} {w : World} {A : Around} {E : Value → Shared → Prop} {s : Shared} {b : Bool}
end
section
variable {X : Cx} {cl : Cl} {W : WX}
end
end Z
set_option maxHeartbeats 4000000
namespace Z
open PySem L2 PySem.Spec PyProof.Rows
section
end
section
variable {X : Cx} {cl : Cl} {W : WX}
end
end Z
set_option maxHeartbeats 4000000
namespace Z
open PySem L2 PySem.Spec PyProof.Rows
section
variable {X : Cx} {cl : Cl} {W : WX}
end
end Z
set_option maxHeartbeats 4000000
namespace OwnNe
open PySem PySem.W Builtin
section
variable {prog : Program} {w : World} {A : Around} {E : Value → Shared → Prop} {s : Shared} {K : Frag} {x y C f : Addr} {ox oy : Obj} {od od' : Option Obj}
end
end OwnNe
set_option maxHeartbeats 4000000
namespace Z
open PySem L2 PySem.Spec PyProof.Rows
section
variable {X : Cx} {cl : Cl} {W : WX}
structure MetG1 (X : Cx) (C : Addr) (m : Str) (sp : Sp) : Prop where
 ex : ∃ (k : Nat) (f : Addr) (fd : FuncData) (ps : List Str), Cls X.K C ∧ Meth X.K C m f ∧ FnG X.prog X.w X.K X.mg X.base k f fd ps sp ∧ Room (k + 1) X.A ∧ Binds X.K fd ps []
end
end Z
set_option maxHeartbeats 4000000
namespace Z
open PySem L2 PySem.Spec PyProof.Rows
section
variable {X : Cx} {cl : Cl} {W : WX}
structure MetE1 (X : Cx) (cl : Cl) (tbl : List (String × (List PV → R PV))) : Prop where
 at_ : ∀ c g C, tbl.lookup c = some g → cl.i c = some C → MetG1 X C (Str.ofString "__eq__") (spQ X.K cl g)
end
end Z
set_option maxHeartbeats 4000000
namespace Z
open PySem L2 PySem.Spec PyProof.Rows
section
variable {X : Cx} {cl : Cl} {tbl : List (String × (List PV → R PV))}
theorem MetE1.t (M : MetE1 X cl tbl) : MetT X cl "__eq__" tbl [] := ⟨fun c g C e hC => by
 obtain ⟨k, f, fd, ps, a, b, F, r, d⟩ := (M.at_ c g C e hC).ex
 exact ⟨⟨k, f, fd, ps, a, b, F, r.mono (by omega), d⟩⟩⟩
end
end Z
namespace Z
open PySem L2
section
variable {X : Cx} {cl : Cl} {W : WX}
end
end Z
namespace Z
open PySem L2
end Z
namespace Z
open PySem L2
section
variable {X : Cx} {cl : Cl} {W : WX}
def apT (l : Vl) (ys : List PV) : R Vl := match l, ys with
 | .fr .ow (.lst xs), [_] => if decide (xs.length < 16777216) then .ok (.z .non) else .no
 | _, _ => .no
def apT1 (l : Vl) (r : R (List PV)) : R Vl := match r with
 | .ok ys => apT l ys
 | _ => .no
mutual
def nmM : Md → PV → Bool
 | .fz, x => h9 x
 | .ow, x => match x with
  | .lst xs => gD xs
  | _ => false
 | .ob ms, x => match x with
  | .obj _ fs => nmF ms fs
  | _ => false
 | .lk, _ => false
def nmF : List Md → List (String × PV) → Bool
 | [], _ => true
 | m :: ms, fs => match fs with
  | [] => false
  | f :: fs => nmM m f.2 && nmF ms fs
end
def nmW : Vl → R Vl
 | .fr m x => if nmM m x then .ok (.fr m x) else .no
 | .pk .fz x => if h9 x then .ok (.fr .fz x) else .no
 | _ => .no
def R.nw (r : R Vl) : R Vl := match r with
 | .ok l => nmW l
 | _ => .no
end
end Z
namespace Z
open PySem L2
section
variable {X : Cx} {cl : Cl} {W : WX}
end
end Z
set_option maxHeartbeats 2000000
namespace Z
open PySem L2 PySem.Spec PyProof.Rows
section
variable {X : Cx} {e : Expr} {t : L2.St → Hp → XK → Prop}
theorem i5 (h : PMk X e t) : PE X e (fun σ H Q => t σ H fun cls d H' => ∃ C, cls = .ref C ∧ ∀ a, H' a = none → Q (.ref a) (upd H' a (ExV a C d))) := by
 refine ⟨fun pins s σ H Q I q => thn (h pins s σ H _ I q) fun u s' hu => ?_⟩
 obtain ⟨a, oe, vs, sI, H', cls, d, rfl, J, k, hne, he, hz, hd, h1, na, os, ag, r, C, rfl, q⟩ := hu
 have nfr : a ∉ frs X.stack := fun hm => by
  obtain ⟨_, o2, e2, _⟩ := J.stack.mem hm
  rw [hne] at e2
  cases e2
 refine ⟨.ref a, upd H' a (ExV a C d), ?_, rfl, q a na⟩
 exact Inv.landedT (B := sI.heap) J (fun b o e _ => e) k (Heap.UpToSlots.of_keeps k) os ag na hne nfr (kI he hz hd)
end
def cH (c : String) (n : Nat) (pf : List PV → List (String × PV)) (fs : Env → R (List PV)) : Ex := fun γ => (fs γ).bind fun xs => if xs.length = n then .ok (.z (.exc c (pf xs))) else .no
def gU (c : String) (fs : Env → R (List PV)) : Ex := fun γ => (fs γ).bind fun xs => if xs.length ≤ 1000 then .ok (.z (.exc c [])) else .no
theorem jc {T : Tb} {F H F' H' : Hp} {c : String} {pf : List (String × PV)} {C : Addr} {d : Option Addr} {vs : List (Str × V)} {a : Addr} (ex : Ext F H F' H') (na : H' a = none) (hC : T.cl.e c = some C) (xd : ExD F' d vs) (rf : RpF T F' pf vs) :
  Ext F H (upd F' a (ExV a C d)) (upd H' a (ExV a C d)) ∧ Rp T (upd F' a (ExV a C d)) (.exc c pf) (.ref a) := by
 have nF : F' a = none := ex.sub.free na
 have up : ∀ b o, F' b = some o → upd F' a (ExV a C d) b = some o := fun b o z => by rw [upd_ne (ne_of_none z nF)]; exact z
 refine ⟨ex.trans (Ext.newF ex.sub na), ?_⟩
 simp only [Rp]
 exact ⟨a, C, d, vs, rfl, hC, upd_same, xd.mono up, rf.mono up⟩
section
variable {X : Cx} {cl : Cl} {W : WX} {fs : Env → R (List PV)} {e : Expr} {es : List Expr} {p p1 : Pos} {c : String}
theorem fR {B newId initId : String} {bmB : List Value} {C : Addr} {x : Str} (R : BxF X.K X.mg cl c B newId initId bmB C) (ha : QZ cl X W fs (e :: es)) (hx : PySem.Str.ofString c = x := by rfl) (hg : Gl X x := by rfl)
  (hdb : (x == ("__debug__" : Str)) = false := by decide) (he : starEach (e :: es) X.env = (false, eval e X.env) :: starEach es X.env := by rfl) (hpl : (backTo p1 (starEach es X.env)).any (·.1) = false := by rfl) :
  QE cl X W (gU c fs) (.Call (.Name x p) (e :: es) [] p1) := by
 subst hx
 refine ⟨(i5 (pmk_ownA R.F R.q R.mgx R.kC (raises_own R.exC R.tyC) hg ha.pa hdb he hpl)).imp fun σ H Q h => ?_⟩
 obtain ⟨F, A, γ, rel, h⟩ := h
 refine ⟨F, A, γ, rel, ?_⟩
 unfold gU at h
 cases ef : fs γ with
 | no => rw [ef] at h; exact h.elim
 | er e => rw [ef] at h; exact h
 | ok xs =>
  rw [ef] at h
  simp only [Z.R.ai] at h
  by_cases hlen : xs.length ≤ 1000
  ·rw [if_pos hlen] at h
   intro F1 H1 vs ex r
   refine ⟨by rw [r.length, sizeLine_eq]; omega, C, rfl, fun a na => ?_⟩
   obtain ⟨e2, rp⟩ := jc (T := ⟨X.K, cl⟩) (pf := []) (vs := []) ex na R.ce (.inl ⟨rfl, rfl⟩) (by simp [RpF])
   exact h _ _ _ e2 (VlR.zz rp)
  ·rw [if_neg hlen] at h; exact h.elim
theorem bS {x : Str} {n : Nat} {fl : List V → List (Str × V)} {pf : List PV → List (String × PV)} (R : RsG X cl x c n fl) (hG : X.A.guards = some []) (hpf : ∀ (T : Tb) (F : Hp) (xs : List PV) (vs : List V), xs.length = n → RpL T F xs vs → RpF T F (pf xs) (fl vs)) (hn : n ≤ 1000) (ha : QZ cl X W fs (e :: es)) (hg : Gl X x := by rfl)
  (hdb : (x == ("__debug__" : Str)) = false := by decide) (he : starEach (e :: es) X.env = (false, eval e X.env) :: starEach es X.env := by rfl) (hpl : (backTo p1 (starEach es X.env)).any (·.1) = false := by rfl) :
  QE cl X W (cH c n pf fs) (.Call (.Name x p) (e :: es) [] p1) := by
 obtain ⟨B, newId, initId, bmB, k, fI, C, fd, ps, T, iC, tI, F1, hr, hb, hm, hcl⟩ := R.ex
 have hx : ∀ σ, PassesAt (L2.CX X.prog X.w) X σ (fun _ _ _ => False) := fun σ pins H s e s' I q => by
  obtain ⟨_, _, _, _, _, _, _, _, _, _, _, _, z⟩ := q
  exact z.elim
 refine ⟨(i5 (j7 T iC tI F1 hr hG hb hx hg hm ha.pa hdb he hpl)).imp fun σ H Q h => ?_⟩
 obtain ⟨F, A, γ, rel, h⟩ := h
 refine ⟨F, A, γ, rel, ?_⟩
 unfold cH at h
 cases ef : fs γ with
 | no => rw [ef] at h; exact h.elim
 | er e => rw [ef] at h; exact h
 | ok xs =>
  rw [ef] at h
  simp only [Z.R.ai] at h
  by_cases hlen : xs.length = n
  ·rw [if_pos hlen] at h
   intro F1 H1 vs ex r
   have hvl : vs.length = n := by rw [RpL.len r]; exact hlen
   refine ⟨by rw [hvl]; exact hn, fun a na => ⟨a, vs, rfl, hvl, upd_same, fun d H2 nd hd ea ed oth => ⟨rfl, d, fl vs, ea, ed, ?_, C, rfl, fun b nb => ?_⟩⟩⟩
   ·rw [upd_ne nd] at hd; exact hd
   ·have nd1 : H1 d = none := by rw [upd_ne nd] at hd; exact hd
    have eq : upd (del H2 a) d (.xd (fl vs)) = upd H1 d (.xd (fl vs)) := funext fun b => by
     by_cases hbd : b = d
     ·rw [hbd, upd_same, upd_same]
     ·rw [upd_ne hbd, upd_ne hbd]
      by_cases hba : b = a
      ·rw [hba, del_same, na]
      ·rw [del_ne hba, oth b hba hbd, upd_ne hba]
    rw [eq] at nb ⊢
    have nF : F1 d = none := ex.sub.free nd1
    have ex2 : Ext F H (upd F1 d (.xd (fl vs))) (upd H1 d (.xd (fl vs))) := ex.trans (Ext.newF ex.sub nd1)
    obtain ⟨e2, rp⟩ := jc (T := ⟨X.K, cl⟩) (pf := pf xs) (vs := fl vs) (d := some d) ex2 nb hcl (.inr ⟨d, rfl, upd_same⟩) (hpf _ _ _ _ hlen (r.mono fun b o z => by rw [upd_ne (ne_of_none z nF)]; exact z))
    exact h _ _ _ e2 (VlR.zz rp)
  ·rw [if_neg hlen] at h; exact h.elim
end
end Z
set_option maxHeartbeats 2000000
namespace Z
open PySem L2 PySem.Spec PyProof.Rows
variable {X : Cx} {cl : Cl} {W : WX}
end Z
set_option maxHeartbeats 2000000
namespace L2
open PySem PySem.Spec PyProof.Rows
section
variable {prog : Program} {w : World} {A : Around} {E : Value → Shared → Prop}
end
end L2
namespace L2
open PySem PySem.Spec PyProof.Rows
end L2
namespace Z
open PySem L2 PySem.Spec PyProof.Rows
section
variable {X : Cx} {cl : Cl} {W : WX}
end
end Z
set_option maxHeartbeats 2000000
namespace Z
open PySem L2 PySem.Spec PyProof.Rows
section
variable {X : Cx} {cl : Cl} {W : WX}
end
end Z
namespace Z
open PySem L2 PySem.Spec PyProof.Rows
section
variable {X : Cx} {cl : Cl} {W : WX}
end
end Z
namespace Z
open PySem L2
mutual
theorem kn {T : Tb} {F H : Hp} : (x : PV) → ∀ {v}, gG x = false → Rp T F x v → OwT T F H x v []
 | .lst xs, v, n, h => by simp [gG] at n
 | .tup xs, v, n, h => by
  simp only [Rp] at h
  simp only [gG] at n
  obtain ⟨a, vs, rfl, q, l⟩ := h
  simp only [OwT]
  exact ⟨a, vs, rfl, q, gC xs n l⟩
 | .non, v, n, h => by simp only [OwT]; exact ⟨h, trivial⟩
 | .bl _, v, n, h => by simp only [OwT]; exact ⟨h, trivial⟩
 | .int _, v, n, h => by simp only [OwT]; exact ⟨h, trivial⟩
 | .str _, v, n, h => by simp only [OwT]; exact ⟨h, trivial⟩
 | .dct _ _, v, n, h => by simp only [OwT]; exact ⟨h, trivial⟩
 | .set _, v, n, h => by simp only [OwT]; exact ⟨h, trivial⟩
 | .obj _ _, v, n, h => by simp only [OwT]; exact ⟨h, trivial⟩
 | .exc _ _, v, n, h => by simp only [OwT]; exact ⟨h, trivial⟩
 | .nul, v, n, h => by simp only [OwT]; exact ⟨h, trivial⟩
theorem gC {T : Tb} {F H : Hp} : (xs : List PV) → ∀ {vs}, cf xs = false → RpL T F xs vs → ax T F H xs vs []
 | [], vs, n, h => by simp only [RpL] at h; simp only [ax]; exact ⟨h, trivial⟩
 | x :: xs, vs, n, h => by
  simp only [RpL] at h
  simp only [cf, Bool.or_eq_false_iff] at n
  obtain ⟨v, ws, rfl, p, q⟩ := h
  simp only [ax]
  exact ⟨v, ws, [], [], rfl, rfl, kn x n.1 p, gC xs n.2 q⟩
end
mutual
theorem i7 {T : Tb} {F H : Hp} : (x : PV) → ∀ {v A}, gG x = false → OwT T F H x v A → Rp T F x v ∧ A = []
 | .lst xs, v, A, n, h => by simp [gG] at n
 | .tup xs, v, A, n, h => by
  simp only [OwT] at h
  simp only [gG] at n
  obtain ⟨a, vs, rfl, q, l⟩ := h
  obtain ⟨l', rfl⟩ := eK xs n l
  simp only [Rp]
  exact ⟨⟨a, vs, rfl, q, l'⟩, trivial⟩
 | .non, v, A, n, h => by simpa only [OwT] using h
 | .bl _, v, A, n, h => by simpa only [OwT] using h
 | .int _, v, A, n, h => by simpa only [OwT] using h
 | .str _, v, A, n, h => by simpa only [OwT] using h
 | .dct _ _, v, A, n, h => by simpa only [OwT] using h
 | .set _, v, A, n, h => by simpa only [OwT] using h
 | .obj _ _, v, A, n, h => by simpa only [OwT] using h
 | .exc _ _, v, A, n, h => by simpa only [OwT] using h
 | .nul, v, A, n, h => by simpa only [OwT] using h
theorem eK {T : Tb} {F H : Hp} : (xs : List PV) → ∀ {vs A}, cf xs = false → ax T F H xs vs A → RpL T F xs vs ∧ A = []
 | [], vs, A, n, h => by
  simp only [ax] at h
  obtain ⟨rfl, rfl⟩ := h
  exact ⟨RpL.nil, rfl⟩
 | x :: xs, vs, A, n, h => by
  simp only [ax] at h
  simp only [cf, Bool.or_eq_false_iff] at n
  obtain ⟨v, ws, A1, A2, rfl, rfl, h1, h2⟩ := h
  obtain ⟨r1, rfl⟩ := i7 x n.1 h1
  obtain ⟨r2, rfl⟩ := eK xs n.2 h2
  exact ⟨RpL.cons r1 r2, rfl⟩
end
theorem ni {T : Tb} {F H : Hp} {xs : List PV} {v A} (n : cf xs = false) (h : OwM T F H .ow (.lst xs) v A) : OwT T F H (.lst xs) v A := by
 simp only [OwM] at h
 obtain ⟨a, rfl, rfl, vs, q, r⟩ := h
 simp only [OwT]
 exact ⟨a, vs, [], rfl, rfl, q, gC xs n r⟩
theorem nh {T : Tb} {F H : Hp} {xs : List PV} {v A} (n : cf xs = false) (h : OwT T F H (.lst xs) v A) : OwM T F H .ow (.lst xs) v A := by
 simp only [OwT] at h
 obtain ⟨a, vs, A', rfl, rfl, q, r⟩ := h
 obtain ⟨r', rfl⟩ := eK xs n r
 simp only [OwM]
 exact ⟨a, rfl, rfl, vs, q, r'⟩
theorem jh {x : PV} (n : trB x = false) (m : isL x = false) : gG x = false := by
 cases x <;> simp_all [gG, trB, isL]
theorem OwR.all {T : Tb} {F H : Hp} {x : PV} {v A} (h : OwR T F H x v A) : OwT T F H x v A := by
 cases n : trB x with
 | true => exact h.t n
 | false =>
  have h1 := h.m n
  cases m : isL x with
  | true =>
   cases x <;> first | (exact ni (by simpa [trB] using n) h1) | (simp [isL] at m)
  | false =>
   rw [kv m] at h1
   simp only [OwM] at h1
   rw [h1.2]
   exact kn x (jh n m) h1.1
theorem OwR.of {T : Tb} {F H : Hp} {x : PV} {v A} (h : OwT T F H x v A) : OwR T F H x v A := by
 cases n : trB x with
 | true => exact OwR.ofT h n
 | false =>
  refine OwR.ofM ?_ n
  cases m : isL x with
  | true =>
   cases x <;> first | (exact nh (by simpa [trB] using n) h) | (simp [isL] at m)
  | false =>
   obtain ⟨r, rfl⟩ := i7 x (jh n m) h
   rw [kv m]
   exact OwM.fz_of r
section
variable {X : Cx} {cl : Cl} {W : WX}
end
end Z
namespace Z
open PySem L2
def atP : List Nat → PV → Option PV
 | [], x => some x
 | j :: p, x => match x with
  | .lst xs => (xs[j]?).bind (atP p)
  | .tup xs => (xs[j]?).bind (atP p)
  | _ => none
def eI : List Nat → PV → PV → PV
 | [], _, y => y
 | j :: p, x, y => match x with
  | .lst xs => .lst (xs.set j (eI p (xs.getD j .non) y))
  | .tup xs => .tup (xs.set j (eI p (xs.getD j .non) y))
  | x => x
def Fol (K : PySem.W.Frag) (H : Hp) : List Nat → V → V → Prop
 | [], v, w => v = w
 | j :: p, v, w => ∃ a xs u, v = .ref a ∧ (SqL K H a xs ∨ SqT K H a xs) ∧ xs[j]? = some u ∧ Fol K H p u w
theorem ax.at {T : Tb} {F H : Hp} : (xs : List PV) → ∀ {vs A} {j : Nat} {x}, ax T F H xs vs A → xs[j]? = some x → ∃ v A1 Ax A2, vs[j]? = some v ∧ A = A1 ++ Ax ++ A2 ∧ OwT T F H x v Ax ∧
  ∀ F' H' x' Ax', Same F F' → c5 H H' (A1 ++ A2) → OwT T F' H' x' v Ax' → ax T F' H' (xs.set j x') vs (A1 ++ Ax' ++ A2)
 | [], vs, A, j, x, h, e => by simp at e
 | y :: xs, vs, A, 0, x, h, e => by
  simp only [ax] at h
  obtain ⟨v, ws, B1, B2, rfl, rfl, h1, h2⟩ := h
  simp at e
  subst e
  refine ⟨v, [], B1, B2, by simp, by simp, h1, fun F' H' x' Ax' s k r => ?_⟩
  simp only [List.set_cons_zero, ax]
  exact ⟨v, ws, Ax', B2, rfl, by simp, r, ax.mono s xs h2 fun a ha => k a (by simpa using ha)⟩
 | y :: xs, vs, A, j + 1, x, h, e => by
  simp only [ax] at h
  obtain ⟨v, ws, B1, B2, rfl, rfl, h1, h2⟩ := h
  obtain ⟨u, A1, Ax, A2, e1, rfl, e3, e4⟩ := ax.at xs h2 (by simpa using e)
  refine ⟨u, B1 ++ A1, Ax, A2, by simpa using e1, by simp, e3, fun F' H' x' Ax' s k r => ?_⟩
  simp only [List.set_cons_succ, ax]
  exact ⟨v, ws, B1, A1 ++ Ax' ++ A2, rfl, by simp, OwT.mono s y h1 fun a ha => k a (by simp [ha]), e4 F' H' x' Ax' s (fun a ha => k a (by
   rcases List.mem_append.mp ha with z | z <;> simp [z])) r⟩
theorem OwT.at {T : Tb} {F H : Hp} (sub : Same F H) : (p : List Nat) → ∀ {x v A y}, OwT T F H x v A → atP p x = some y → ∃ w A1 Ay A2, Fol T.K H p v w ∧ A = A1 ++ Ay ++ A2 ∧ OwT T F H y w Ay ∧
  ∀ F' H' y' Ay', Same F F' → c5 H H' (A1 ++ A2) → OwT T F' H' y' w Ay' → OwT T F' H' (eI p x y') v (A1 ++ Ay' ++ A2)
 | [], x, v, A, y, h, e => by
  cases e
  exact ⟨v, [], A, [], rfl, by simp, h, fun F' H' y' Ay' s k r => by simpa [eI] using r⟩
 | j :: p, x, v, A, y, h, e => by
  cases x with
  | lst xs =>
   simp only [atP, Option.bind_eq_some_iff] at e
   obtain ⟨z, ez, ey⟩ := e
   simp only [OwT] at h
   obtain ⟨a, vs, A', rfl, rfl, q, h⟩ := h
   obtain ⟨u, B1, Bz, B2, e1, rfl, e3, e4⟩ := ax.at xs h ez
   obtain ⟨w, A1, Ay, A2, f1, rfl, f3, f4⟩ := OwT.at sub p e3 ey
   refine ⟨w, a :: (B1 ++ A1), Ay, A2 ++ B2, ⟨a, vs, u, rfl, .inl (.inl (.inl q)), e1, f1⟩, by simp, f3, fun F' H' y' Ay' s k r => ?_⟩
   have g := f4 F' H' y' Ay' s (fun b hb => k b (by rcases List.mem_append.mp hb with z | z <;> simp [z])) r
   have g2 := e4 F' H' _ _ s (fun b hb => k b (by rcases List.mem_append.mp hb with z | z <;> simp [z])) g
   have eg : xs.getD j .non = z := by rw [List.getD_eq_getElem?_getD, ez]; rfl
   simp only [eI, OwT, eg]
   exact ⟨a, vs, B1 ++ (A1 ++ Ay' ++ A2) ++ B2, rfl, by simp, k a (by simp) _ q nofun, g2⟩
  | tup xs =>
   simp only [atP, Option.bind_eq_some_iff] at e
   obtain ⟨z, ez, ey⟩ := e
   simp only [OwT] at h
   obtain ⟨a, vs, rfl, q, h⟩ := h
   obtain ⟨u, B1, Bz, B2, e1, rfl, e3, e4⟩ := ax.at xs h ez
   obtain ⟨w, A1, Ay, A2, f1, rfl, f3, f4⟩ := OwT.at sub p e3 ey
   refine ⟨w, B1 ++ A1, Ay, A2 ++ B2, ⟨a, vs, u, rfl, .inr (SqT.of (sub _ _ q)), e1, f1⟩, by simp, f3, fun F' H' y' Ay' s k r => ?_⟩
   have g := f4 F' H' y' Ay' s (fun b hb => k b (by rcases List.mem_append.mp hb with z | z <;> simp [z])) r
   have g2 := e4 F' H' _ _ s (fun b hb => k b (by rcases List.mem_append.mp hb with z | z <;> simp [z])) g
   have eg : xs.getD j .non = z := by rw [List.getD_eq_getElem?_getD, ez]; rfl
   simp only [eI, OwT, eg]
   refine ⟨a, vs, rfl, s _ _ q, ?_⟩
   have e5 : B1 ++ A1 ++ Ay' ++ (A2 ++ B2) = B1 ++ (A1 ++ Ay' ++ A2) ++ B2 := by simp
   rw [e5]
   exact g2
  | _ => simp [atP] at e
section
variable {X : Cx} {cl : Cl} {W : WX}
end
end Z
namespace Z
open PySem L2
section
variable {X : Cx} {cl : Cl} {W : WX}
end
end Z
namespace Z
open PySem L2
def mL (K : PySem.W.Frag) (cl : Cl) (g : MF) : Sp := fun vs H Q E => ∃ F m x v0 A xs vs', vs = v0 :: vs' ∧ SmT ⟨K, cl⟩ F H ∧ OwM ⟨K, cl⟩ F H m x v0 A ∧ A.Nodup ∧ (∀ a ∈ A, F a = none) ∧ RpL ⟨K, cl⟩ F xs vs' ∧ match g m x xs with
 | .ok r m' x' => ∀ F' A' H' v Ar, Step F A H F' A' H' → Same F' H' → OwM ⟨K, cl⟩ F' H' m' x' v0 A' → A'.Nodup → (∀ a ∈ A', F' a = none) → OwR ⟨K, cl⟩ F' H' r v Ar → Ar.Nodup → (∀ a ∈ Ar, (a ∈ A ∨ H a = none) ∧ F' a = none ∧ a ∉ A') → Q v H'
 | .er e m' x' => ∀ F' A' H' c d, Step F A H F' A' H' → Same F' H' → OwM ⟨K, cl⟩ F' H' m' x' v0 A' → A'.Nodup → (∀ a ∈ A', F' a = none) → XcR ⟨K, cl⟩ F' e c d → E c d H'
 | .no => False
theorem mL.re {K : PySem.W.Frag} {c : Cl} {g : MF} (u w : V) {o1 o2 : Bool} {vs H Q E} (h : mL K (c.at2 u o1) g vs H Q E) : mL K (c.at2 w o2) g vs H Q E := by
 obtain ⟨F, m, x, v0, A, xs, vs', e, s, o, nd, d, r, h⟩ := h
 refine ⟨F, m, x, v0, A, xs, vs', e, s, o.re, nd, d, RpL.re _ _ r, ?_⟩
 cases e : g m x xs with
 | ok y m' x' => rw [e] at h; exact fun F' A' H' v Ar st sb ow nd' d' rv nr k => h F' A' H' v Ar st sb ow.re nd' d' (OwR.re rv) nr k
 | er y m' x' => rw [e] at h; exact fun F' A' H' c d st sb ow nd' d' rv => h F' A' H' c d st sb ow.re nd' d' rv.re
 | no => rw [e] at h; exact h
section
variable {P : Program} {w : World} {K : PySem.W.Frag} {mg : Str → Option Value} {base : Heap}
end
theorem _root_.Z.FnG.at2 {P w K mg base k f fd ps} {cl : Cl} {g : List PV → R PV} (F : FnG P w K mg base k f fd ps (spQ K cl g)) (v : V) (o : Bool) : FnG P w K mg base k f fd ps (spQ K (cl.at2 v o) g) := F.imp fun _ _ _ _ h => spQ.re v cl.r0 h
def SlR (T : Tb) (F H : Hp) : Sl → V → List Addr → Prop
 | .sl m x, v, A => OwM T F H m x v A
 | .tr x, v, A => OwT T F H x v A
 | _, _, _ => False
inductive RVs where
 | ok (rs : List PV) (γ : Env) | er (e : Xc) (γ : Env) | no
def RE.of (r : R PV) (γ : Env) : RE := match r with
 | .ok x => .ok x γ
 | .er e => .er e γ
 | .no => .no
section
variable {X : Cx} {cl : Cl} {W : WX}
end
end Z
namespace Z
open PySem L2 PySem.Spec PyProof.Rows
section
variable {X : Cx} {cl : Cl} {W : WX}
end
section
variable {X : Cx} {cl : Cl} {W : WX}
end
def Os.retV (r : RE) : Os := match r with
 | .ok x γ => .rt x γ
 | .er e γ => .er e γ
 | .no => .no
def RVs.consT (x : PV) (r : RVs) : RVs := match r with
 | .ok xs γ2 => .ok (x :: xs) γ2
 | .er e γ2 => .er e γ2
 | .no => .no
def RVs.cons (r : RE) (fs : Z.Env → RVs) : RVs := match r with
 | .ok x γ1 => RVs.consT x (fs γ1)
 | .er e γ1 => .er e γ1
 | .no => .no
def RE.tup (r : RVs) : RE := match r with
 | .ok xs γ1 => if sm xs.length then .ok (.tup xs) γ1 else .no
 | .er e γ1 => .er e γ1
 | .no => .no
end Z
namespace Z
open PySem L2 PySem.Spec PyProof.Rows
section
variable {X : Cx} {cl : Cl} {W : WX}
end
end Z
namespace Z
open PySem L2 PySem.Spec PyProof.Rows
theorem hJ {r : List Nat} {z : PV} : ∀ (p : List Nat) (x : PV) {y : PV}, atP p x = some y → eI (p ++ r) x z = eI p x (eI r y z)
 | [], x, y, h => by cases h; rfl
 | j :: p, x, y, h => by
  cases x with
  | lst xs =>
   simp only [atP, Option.bind_eq_some_iff] at h
   obtain ⟨u, e1, e2⟩ := h
   have eg : xs.getD j .non = u := by rw [List.getD_eq_getElem?_getD, e1]; rfl
   simp only [List.cons_append, eI, eg]
   rw [hJ p u e2]
  | tup xs =>
   simp only [atP, Option.bind_eq_some_iff] at h
   obtain ⟨u, e1, e2⟩ := h
   have eg : xs.getD j .non = u := by rw [List.getD_eq_getElem?_getD, e1]; rfl
   simp only [List.cons_append, eI, eg]
   rw [hJ p u e2]
  | _ => simp [atP] at h
def okP : List Nat → PV → Bool
 | [], _ => true
 | [_], .tup _ => true
 | _, _ => false
def Anc (F : Hp) : List Nat → V → Addr → Prop
 | [], v, a => v = .ref a
 | [j], v, a => ∃ b vs, v = .ref b ∧ F b = some (.tup vs) ∧ vs[j]? = some (.ref a)
 | _, _, _ => False
theorem Anc.mono {F F' : Hp} (s : Same F F') {p v a} (h : Anc F p v a) : Anc F' p v a := by
 cases p with
 | nil => exact h
 | cons j p =>
  cases p with
  | nil =>
   obtain ⟨b, vs, h1, h2, h3⟩ := h
   exact ⟨b, vs, h1, s _ _ h2, h3⟩
  | cons => exact h
theorem Anc.of {T : Tb} {F H : Hp} (sub : Same F H) {p : List Nat} {x v A us} (h : OwT T F H x v A) (e : atP p x = some (.lst us)) (ok : okP p x = true) : ∃ a, Anc F p v a := by
 cases p with
 | nil =>
  cases e
  simp only [OwT] at h
  obtain ⟨b, vs, A0, e1, _⟩ := h
  exact ⟨b, e1⟩
 | cons j p =>
  cases p with
  | cons _ _ => simp [okP] at ok
  | nil =>
   cases x with
   | tup xs =>
    simp only [atP, Option.bind_eq_some_iff] at e
    obtain ⟨y, ey, e2⟩ := e
    cases e2
    simp only [OwT] at h
    obtain ⟨b, ws, e1, hb, hl⟩ := h
    obtain ⟨u, A1, Ax, A2, e3, _, o, _⟩ := ax.at xs hl ey
    simp only [OwT] at o
    obtain ⟨a', vs, A0, e4, _⟩ := o
    subst e4
    exact ⟨a', b, ws, e1, hb, e3⟩
   | _ => simp [okP] at ok
section
variable {X : Cx} {cl : Cl} {W : WX}
end
end Z
namespace Z
open PySem L2
section
variable {X : Cx} {cl : Cl} {W : WX}
end
end Z
namespace Z
open PySem L2
section
variable {X : Cx} {cl : Cl} {W : WX} {m : String} {tbl : List (String × (List PV → R PV))} {f : Ex} {o : Expr} {apos pos : Pos} {pl : Sem Bool}
end
end Z
namespace Z
open PySem L2 PySem.Spec PyProof.Rows
section
variable {X : Cx} {cl : Cl} {W : WX}
end
end Z
namespace Z
open PySem L2 PySem.Spec PyProof.Rows
section
variable {X : Cx} {cl : Cl} {W : WX}
end
end Z
namespace Z
open PySem L2
section
variable {X : Cx} {cl : Cl} {W : WX}
end
end Z
namespace Z
open PySem L2 PySem.Spec PyProof.Rows
inductive RT where
 | ok (b : Bool) (γ : Env) | er (e : Xc) (γ : Env) | no
def RE.ev (r : RE) (k : PV → Env → RE) : RE := match r with
 | .ok x γ => k x γ
 | .er e γ => .er e γ
 | .no => .no
def RT.ev (r : RT) (k : Bool → Env → RE) : RE := match r with
 | .ok x γ => k x γ
 | .er e γ => .er e γ
 | .no => .no
def PoE (T : Tb) (W : WX) (σ : L2.St) (Q : VK) (F : Hp) (A : List Addr) (H : Hp) : RE → Prop
 | .ok r γ' => ∀ F' A' H' v, Step F A H F' A' H' → Rel T F' A' σ H' γ' → Rp T F' r v → Q v H'
 | .er e γ' => ∀ F' A' H' c d, Step F A H F' A' H' → Rel T F' A' σ H' γ' → XcR T F' e c d → W c d σ H'
 | .no => False
def PoT (T : Tb) (W : WX) (σ : L2.St) (Q : Bool → Hp → Prop) (F : Hp) (A : List Addr) (H : Hp) : RT → Prop
 | .ok b γ' => ∀ F' A' H', Step F A H F' A' H' → Rel T F' A' σ H' γ' → Q b H'
 | .er e γ' => ∀ F' A' H' c d, Step F A H F' A' H' → Rel T F' A' σ H' γ' → XcR T F' e c d → W c d σ H'
 | .no => False
theorem PoE.st {T W σ Q F A H F1 A1 H1} : (r : RE) → PoE T W σ Q F A H r → Step F A H F1 A1 H1 → PoE T W σ Q F1 A1 H1 r
 | .ok _ _, h, s => fun F' A' H' v st => h F' A' H' v (s.trans st)
 | .er _ _, h, s => fun F' A' H' c d st => h F' A' H' c d (s.trans st)
 | .no, h, _ => h
theorem PoT.st {T W σ Q F A H F1 A1 H1} : (r : RT) → PoT T W σ Q F A H r → Step F A H F1 A1 H1 → PoT T W σ Q F1 A1 H1 r
 | .ok _ _, h, s => fun F' A' H' st => h F' A' H' (s.trans st)
 | .er _ _, h, s => fun F' A' H' c d st => h F' A' H' c d (s.trans st)
 | .no, h, _ => h
theorem mI {K : PySem.W.Frag} {cl : Cl} {W : WX} {f : Env → RE} {σ : L2.St} {H : Hp} {Q : VK} (h : ∃ F A γ, Rel ⟨K, cl⟩ F A σ H γ ∧ PoE ⟨K, cl⟩ W σ Q F A H (f γ)) : tqE K cl W f σ H Q := by
 obtain ⟨F, A, γ, rel, h⟩ := h
 refine ⟨F, A, γ, rel, ?_⟩
 cases e : f γ <;> rw [e] at h <;> exact h
theorem jR {K : PySem.W.Frag} {cl : Cl} {W : WX} {f : Env → RE} {σ : L2.St} {H : Hp} {Q : VK} (h : tqE K cl W f σ H Q) : ∃ F A γ, Rel ⟨K, cl⟩ F A σ H γ ∧ PoE ⟨K, cl⟩ W σ Q F A H (f γ) := by
 obtain ⟨F, A, γ, rel, h⟩ := h
 refine ⟨F, A, γ, rel, ?_⟩
 cases e : f γ <;> rw [e] at h <;> exact h
def ot (K : PySem.W.Frag) (cl : Cl) (W : WX) (t : Env → RT) : TT := fun σ H Q => ∃ F A γ, Rel ⟨K, cl⟩ F A σ H γ ∧ PoT ⟨K, cl⟩ W σ Q F A H (t γ)
section
variable {X : Cx} {cl : Cl} {W : WX}
theorem tqE.bind {f : Env → RE} {k : PV → Env → RE} {σ : L2.St} {H : Hp} {Q R1 : VK} (h : tqE X.K cl W (fun γ => (f γ).ev k) σ H Q)
  (g : ∀ F A H v x γ, Rel ⟨X.K, cl⟩ F A σ H γ → Rp ⟨X.K, cl⟩ F x v → PoE ⟨X.K, cl⟩ W σ Q F A H (k x γ) → R1 v H) : tqE X.K cl W f σ H R1 := by
 obtain ⟨F, A, γ, rel, h⟩ := jR h
 refine mI ⟨F, A, γ, rel, ?_⟩
 try dsimp only at h
 cases e : f γ with
 | no => rw [e] at h; exact h
 | er x γ' => rw [e] at h; exact h
 | ok x γ' =>
  rw [e] at h
  intro F1 A1 H1 v st r1 rx
  exact g F1 A1 H1 v x γ' r1 rx (PoE.st _ h st)
theorem ot.bind {t : Env → RT} {k : Bool → Env → RE} {σ : L2.St} {H : Hp} {Q : VK} {R1 : Bool → Hp → Prop} (h : tqE X.K cl W (fun γ => (t γ).ev k) σ H Q)
  (g : ∀ F A H b γ, Rel ⟨X.K, cl⟩ F A σ H γ → PoE ⟨X.K, cl⟩ W σ Q F A H (k b γ) → R1 b H) : ot X.K cl W t σ H R1 := by
 obtain ⟨F, A, γ, rel, h⟩ := jR h
 refine ⟨F, A, γ, rel, ?_⟩
 try dsimp only at h
 cases e : t γ with
 | no => rw [e] at h; exact h
 | er x γ' => rw [e] at h; exact h
 | ok x γ' =>
  rw [e] at h
  intro F1 A1 H1 st r1
  exact g F1 A1 H1 x γ' r1 (PoE.st _ h st)
end
section
variable {X : Cx} {cl : Cl} {W : WX}
end
section
variable {X : Cx} {cl : Cl} {W : WX}
end
end Z
namespace Z
open PySem L2 PySem.Spec PyProof.Rows
section
variable {X : Cx} {cl : Cl} {W : WX}
structure MeK (K : PySem.W.Frag) (cl : Cl) (cs : List String) (m : Str) (qual : Str) (st : Stmt) (ps : List Str) (n : Nat) (ks : List Str) (dv : List V) (a : Addr) (fd : FuncData) (ds : List Value) : Prop where
 me : ∀ c C, c ∈ cs → cl.i c = some C → Meth K C m a
 fn : FnAt K m qual st a fd
 bd : L2.Binds K fd ps ds
 vl : Vals dv ds
 kb : KBn K fd ps n ks (fun us ws => us ++ ws) (fun vs zs => vs ++ zs)
theorem MeK.re {K : PySem.W.Frag} {cl : Cl} {cs m qual st ps n ks dv a fd ds} (h : MeK K cl cs m qual st ps n ks dv a fd ds) (v : V) : MeK K (cl.at v) cs m qual st ps n ks dv a fd ds := ⟨fun c C hm hc => h.me c C hm hc, h.fn, h.bd, h.vl, h.kb⟩
end
end Z
namespace Z
open PySem L2 PySem.Spec PyProof.Rows
section
variable {X : Cx} {cl : Cl} {W : WX}
end
end Z
namespace Z
open PySem L2
section
variable {X : Cx} {cl : Cl} {W : WX}
end
end Z
namespace Z
open PySem L2
section
variable {X : Cx} {cl : Cl} {W : WX}
end
end Z
namespace Z
open PySem L2
section
variable {X : Cx} {cl : Cl} {W : WX}
end
end Z
namespace Z
open PySem L2
section
variable {X : Cx} {cl : Cl} {W : WX}
end
end Z
namespace Z
open PySem L2 PySem.Spec PyProof.Rows
end Z
namespace Z
open PySem L2 PySem.Spec PyProof.Rows
section
variable {prog : Program} {w : World} {A : Around} {E : Value → Shared → Prop} {s : Shared} {z TI TO i1 i2 : Addr} {fp1 fp2 : List Addr} {n1 n2 i : Nat} {P1 P2 : Nat → Value → Prop} {St1 St2 : Nat → Heap → Prop} {a1 a2 : Value}
end
section
variable {M : Model} {A : Around} {E : Value → Shared → Prop} {s : Shared} {env : PySem.Env}
end
section
variable {X : Cx} {cl : Cl} {W : WX}
end
end Z
namespace Z
open PySem L2 PySem.Spec PyProof.Rows
section
variable {prog : Program} {w : World} {A : Around} {R : Result → Shared → Prop}
end
section
variable {X : Cx} {cl : Cl} {W : WX}
end
end Z
namespace Z
open PySem L2 PySem.Spec PyProof.Rows
section
variable {prog : Program} {w : World} {A : Around}
end
section
variable {X : Cx} {cl : Cl} {W : WX}
end
section
variable {X : Cx} {cl : Cl} {W : WX}
end
end Z
set_option maxHeartbeats 4000000
namespace Z
open PySem L2 PySem.Spec PyProof.Rows
section
variable {X : Cx} {cl : Cl} {W : WX}
end
end Z
set_option maxHeartbeats 4000000
namespace Z
open PySem L2 PySem.Spec PyProof.Rows
section
variable {X : Cx} {cl : Cl} {W : WX}
end
end Z
set_option maxHeartbeats 4000000
namespace Z
open PySem L2 PySem.Spec PyProof.Rows
section
variable {X : Cx} {cl : Cl} {W : WX} {body : List Stmt} {h₀ : ExceptHandler} {hs : List ExceptHandler} {pos : Pos} {b : Env → Os}
end
end Z
set_option maxHeartbeats 4000000
namespace Z
open PySem L2 PySem.Spec PySem.W PySem.Calls PyProof.Rows
section
variable {X : Cx} {cl : Cl} {W : WX}
end
end Z
set_option maxHeartbeats 4000000
namespace Z
open PySem L2 PySem.Spec PyProof.Rows
section
variable {X : Cx} {cl : Cl} {W : WX}
end
end Z
set_option maxHeartbeats 4000000
namespace GQN
open PySem PySem.SeqAt
open AutoSeq1 (wpAny_loadPart')
open MeetsSeq MeetsSeq2 MeetsSeq3 SeqRoads2
section
variable {prog : Program} {w : World} {A : Around} {R : Result → Shared → Prop}
end
section
variable {prog : Program} {w : World} {A : Around} {E : Value → Shared → Prop} {s : Shared}
end
end GQN
namespace Z
open PySem L2 PySem.Spec PyProof.Rows
section
variable {X : Cx} {cl : Cl} {W : WX}
end
end Z
set_option maxHeartbeats 4000000
namespace GQN
open PySem PySem.SeqAt
open AutoSeq1 (wpAny_loadPart')
open MeetsSeq MeetsSeq2 MeetsSeq3 SeqRoads2
section
variable {prog : Program} {w : World} {A : Around} {R : Result → Shared → Prop}
end
section
variable {prog : Program} {w : World} {A : Around} {E : Value → Shared → Prop} {s : Shared}
end
end GQN
namespace Z
open PySem L2 PySem.Spec PyProof.Rows
section
variable {X : Cx} {cl : Cl} {W : WX}
end
end Z
set_option maxHeartbeats 4000000
namespace Z
open PySem L2 PySem.Spec PyProof.Rows
section
variable {prog : Program} {w : World} {A : Around} {E : Value → Shared → Prop} {s : Shared} {K : PySem.W.Frag} {x C f L : Addr} {h₀ : Heap} {m : Str → Option Value} {ox : Obj} {od : Option Obj}
end
section
variable {X : Cx} {cl : Cl} {W : WX}
end
end Z
set_option maxHeartbeats 4000000
namespace GQN
open PySem PySem.SeqAt
open AutoSeq1 (wpAny_loadPart')
open MeetsSeq MeetsSeq2 MeetsSeq3 SeqRoads2
section
variable {prog : Program} {w : World} {A : Around} {R : Result → Shared → Prop}
end
section
variable {prog : Program} {w : World} {A : Around} {E : Value → Shared → Prop} {s : Shared}
end
end GQN
namespace Z
open PySem L2 PySem.Spec PyProof.Rows
section
variable {X : Cx} {cl : Cl} {W : WX}
end
end Z
set_option maxHeartbeats 4000000
namespace Z
open PySem L2 PySem.Spec PyProof.Rows
theorem eP {K : PySem.W.Frag} {cl : Cl} {n : String} {cs : List String} (hk : ∀ t ∈ tys, kitB t n = some false) (hi : ∀ c C, cl.i c = some C → PySem.W.kitOne K (.ref C) (.type n) = some (cs.contains c)) (he : ∀ c C, cl.e c = some C → PySem.W.kitOne K (.ref C) (.type n) = some (cs.contains c)) : KitOk K cl (.type n) (isC cs) :=
 ⟨fun x h => by rw [isC, h]; exact kit_ty (hk _ (iQ h)), fun c fs C h => hi c C h, fun c fs C h => he c C h⟩
section
variable {X : Cx} {cl : Cl} {W : WX}
theorem i3 {n : String} {cs : List String} {f} {e : Expr} {p p2 pos : Pos} (O : ClOk X.K cl) (k : KitOk X.K cl (.type n) (isC cs)) (hm : X.mg "isinstance" = none) (hm2 : X.mg (Str.ofString n) = none)
  (hv2 : bootBuiltins (Str.ofString n) = some (.type n)) (he : QE cl X W f e) (hg : Gl X "isinstance" := by rfl) (hg2 : Gl X (Str.ofString n) := by rfl)
  (hn2 : Str.ofString n ≠ "__name__" := by decide) (hd2 : (Str.ofString n == ("__debug__" : Str)) = false := by decide)
  (hs1 : starEach (e :: [.Name (Str.ofString n) p2]) X.env = (false, eval e X.env) :: starEach [.Name (Str.ofString n) p2] X.env := by rfl) (hs2 : starEach [.Name (Str.ofString n) p2] X.env = (false, eval (.Name (Str.ofString n) p2) X.env) :: starEach [] X.env := by rfl)
  (hpl : (backTo pos (starEach [.Name (Str.ofString n) p2] X.env)).any (·.1) = false := by rfl) : QE cl X W (xIs (isC cs) f) (.Call (.Name "isinstance" p) [e, .Name (Str.ofString n) p2] [] pos) :=
 bM O k (.ty n) hm (pe_bltn (v := .ty n) hg2 hm2 hv2 rfl hn2 hd2) he hg hs1 hs2 hpl
end
end Z
set_option maxHeartbeats 4000000
namespace PP
open PySem L2 Z
abbrev bX : Z.Env → Os := sIf (fK (xT (x2 (pb pGe) (ah 3) (x2 dJ (xC (.int 10)) (xC (.int 18))))) (xT (x2 (pb pGt) (ah 4) (xC (.int 0))))) (aN (iq 5 (ae (x2 cy (ah 4) (x2 pIx (ah 2) (ah 6))) (ar))) (aM 4 (x2 iA (ah 4) (x2 pIx (ah 2) (ah 6))))) (aN (aM 7 (x2 cy (x2 dJ (x2 aS (x2 aS (x2 cy (ah 3) (xC (.int 2147483629))) (x2 cU (xC (.int 7919)) (ah 1))) (xC (.int 1))) (xC (.int 3))) (xC (.int 2147483647)))) (aN (aM 7 (x2 cy (x2 cU (x2 aS (ah 7) (x2 cU (xC (.int 104729)) (x2 aS (ah 6) (xC (.int 1))))) (x2 aS (ah 6) (xC (.int 3)))) (xC (.int 2147483629)))) (aN (aM 7 (x2 cy (x2 cU (x2 cy (x2 dJ (ah 7) (xC (.int 5))) (xC (.int 2147483647))) (xC (.int 48271))) (xC (.int 2147483629)))) (iq 5 (ae (x2 cy (x2 iA (ah 7) (xC (.int 16))) (x2 pIx (ah 2) (ah 6))) (ar))))))
abbrev cz : Z.Env → Os := aN (aM 3 (xB fY (bo (ah 0) (bo (x2 lA (x1 kf (xC (.int 1))) (ah 0)) (ar))))) (aN (aM 4 (ah 3)) (aN (aM 5 (bp (ar))) (aN (fg (iH (bo (xB gB (bo (ah 2) (ar))) (ar))) (tgN 6) bX) (bR (ah 5)))))
def aW : List PV → R PV := run 3 8 cz
end PP
set_option maxHeartbeats 4000000
namespace PP
open PySem L2 Z
end PP
set_option maxHeartbeats 4000000
namespace PP
open PySem L2 Z
end PP
set_option maxHeartbeats 4000000
namespace PP
open PySem L2 Z
end PP
set_option maxHeartbeats 4000000
namespace PP
open PySem L2 Z
end PP
set_option maxHeartbeats 4000000
namespace PP
open PySem L2 Z
end PP
set_option maxHeartbeats 4000000
namespace PP
open PySem L2 Z
end PP
set_option maxHeartbeats 4000000
namespace PP
open PySem L2 Z
end PP
set_option maxHeartbeats 4000000
namespace PP
open PySem L2 Z
end PP
set_option maxHeartbeats 4000000
namespace PP
open PySem L2 Z
end PP
section
set_option maxHeartbeats 4000000
namespace K02
open PySem L2 Z PP
abbrev e6 : List Str := ["_law_cell", "_law_salt", "_law_sizes", "_law_number", "_law_left", "_law_found", "_law_k", "_law_one"]
theorem au : FnScope e6 ["_law_cell", "_law_salt", "_law_sizes"] (defScope aw) := fnS rfl rfl rfl rfl (by decide +kernel)
theorem eX : aW = run 3 8 cz := rfl
abbrev fD : List Str := ["self", "thing"]
theorem eG : FnScope fD ["self", "thing"] (defScope aL) := fnS rfl rfl rfl rfl (by decide +kernel)
abbrev e9 : List Str := ["self", "part", "number"]
theorem dH : FnScope e9 ["self", "part", "number"] (defScope aH) := fnS rfl rfl rfl rfl (by decide +kernel)
abbrev dY : List Str := ["self", "things"]
theorem c8 : FnScope dY ["self", "things"] (defScope az) := fnS rfl rfl rfl rfl (by decide +kernel)
abbrev gT : List Str := ["self", "things"]
theorem ff : FnScope gT ["self", "things"] (defScope aP) := fnS rfl rfl rfl rfl (by decide +kernel)
abbrev e8 : List Str := ["self", "size"]
theorem dG : FnScope e8 ["self", "size"] (defScope aG) := fnS rfl rfl rfl rfl (by decide +kernel)
abbrev ee : List Str := ["self", "number"]
theorem dc : FnScope ee ["self", "number"] (defScope aB) := fnS rfl rfl rfl rfl (by decide +kernel)
abbrev gR : List Str := ["self", "thing"]
theorem fe : FnScope gR ["self", "thing"] (defScope aO) := fnS rfl rfl rfl rfl (by decide +kernel)
abbrev dz : List Str := ["self", "part"]
theorem cQ : FnScope dz ["self", "part"] (defScope av) := fnS rfl rfl rfl rfl (by decide +kernel)
abbrev e7 : List Str := ["self", "row"]
theorem dF : FnScope e7 ["self", "row"] (defScope aF) := fnS rfl rfl rfl rfl (by decide +kernel)
abbrev dX : List Str := ["self", "many"]
theorem c7 : FnScope dX ["self", "many"] (defScope ay) := fnS rfl rfl rfl rfl (by decide +kernel)
abbrev dZ : List Str := ["self", "thing"]
theorem c9 : FnScope dZ ["self", "thing"] (defScope aA) := fnS rfl rfl rfl rfl (by decide +kernel)
abbrev fc : List Str := ["self", "name"]
theorem dI : FnScope fc ["self", "name"] (defScope aI) := fnS rfl rfl rfl rfl (by decide +kernel)
abbrev eh : List Str := ["self", "number"]
theorem de : FnScope eh ["self", "number"] (defScope aC) := fnS rfl rfl rfl rfl (by decide +kernel)
abbrev iN : List Str := ["_law_things", "_law_number", "_law_text", "_law_found"]
theorem bJ : FnScope iN ["_law_things", "_law_number", "_law_text"] (defScope aT) := fnS rfl rfl rfl rfl (by decide +kernel)
abbrev eO : Z.Env → Os := aN (aM 3 (bp (ae (cH "NoSet" 1 (fun xs => [("thing", xs[0]?.getD .non)]) (ae (ah 0) (ar))) (ae (cH "NoRule" 2 (fun xs => [("number", xs[1]?.getD .non), ("part", xs[0]?.getD .non)]) (ae (xC (.str "table")) (ae (ah 1) (ar)))) (ae (cH "NotFree" 1 (fun xs => [("things", xs[0]?.getD .non)]) (ae (ah 0) (ar))) (ae (cH "Free" 1 (fun xs => [("things", xs[0]?.getD .non)]) (ae (ah 0) (ar))) (ae (cH "NoSize" 1 (fun xs => [("size", xs[0]?.getD .non)]) (ae (ah 1) (ar))) (ar)))))))) (aN (aM 3 (x2 aS (ah 3) (bp (ae (cH "NoRules" 1 (fun xs => [("number", xs[0]?.getD .non)]) (ae (ah 1) (ar))) (ae (cH "Tied" 1 (fun xs => [("thing", xs[0]?.getD .non)]) (ae (ah 1) (ar))) (ae (cH "NoArrows" 1 (fun xs => [("part", xs[0]?.getD .non)]) (ae (xC (.str "root")) (ar))) (ae (cH "NoText" 1 (fun xs => [("row", xs[0]?.getD .non)]) (ae (ah 1) (ar))) (ae (gU "NoOrder" (ae (ah 2) (ar))) (ae (gU "NoWorths" (ae (ah 2) (ar))) (ar)))))))))) (aN (aM 3 (x2 aS (ah 3) (bp (ae (gU "NoHues" (ae (ah 2) (ar))) (ae (gU "Unlike" (ae (ah 2) (ar))) (ae (cH "TooMany" 1 (fun xs => [("many", xs[0]?.getD .non)]) (ae (ah 1) (ar))) (ae (gU "NoRow" (ae (ah 2) (ar))) (ae (cH "NoThing" 1 (fun xs => [("thing", xs[0]?.getD .non)]) (ae (ah 1) (ar))) (ae (cH "NoName" 1 (fun xs => [("name", xs[0]?.getD .non)]) (ae (ah 2) (ar))) (ar)))))))))) (bR (x2 aS (ah 3) (bp (ae (gU "NoDeed" (ae (ah 2) (ar))) (ae (cH "NoDeeds" 1 (fun xs => [("number", xs[0]?.getD .non)]) (ae (ah 1) (ar))) (ar))))))))
def bI : List PV → R PV := run 3 4 eO
theorem iJ : bI = run 3 4 eO := rfl
abbrev gQ : List Str := ["_law_e", "_law_some"]
theorem aZ : FnScope gQ ["_law_e"] (defScope aK) := fnS rfl rfl rfl rfl (by decide +kernel)
abbrev cY : Z.Env → Os := aN (aM 1 (bp (ae (xIs (isC ["NoSet"]) (ah 0)) (ae (xIs (isC ["NoRule"]) (ah 0)) (ae (xIs (isC ["NotFree"]) (ah 0)) (ae (xIs (isC ["Free"]) (ah 0)) (ar))))))) (aN (aM 1 (x2 aS (ah 1) (bp (ae (xIs (isC ["NoSize"]) (ah 0)) (ae (xIs (isC ["NoRules"]) (ah 0)) (ae (xIs (isC ["Tied"]) (ah 0)) (ae (xIs (isC ["NoArrows"]) (ah 0)) (ar)))))))) (aN (aM 1 (x2 aS (ah 1) (bp (ae (xIs (isC ["NoText"]) (ah 0)) (ae (xIs (isC ["NoOrder"]) (ah 0)) (ae (xIs (isC ["NoWorths"]) (ah 0)) (ae (xIs (isC ["NoHues"]) (ah 0)) (ar)))))))) (aN (aM 1 (x2 aS (ah 1) (bp (ae (xIs (isC ["Unlike"]) (ah 0)) (ae (xIs (isC ["TooMany"]) (ah 0)) (ae (xIs (isC ["NoRow"]) (ah 0)) (ae (xIs (isC ["NoThing"]) (ah 0)) (ar)))))))) (bR (x2 aS (ah 1) (bp (ae (xIs (isC ["NoName"]) (ah 0)) (ae (xIs (isC ["NoDeed"]) (ah 0)) (ae (xIs (isC ["NoDeeds"]) (ah 0)) (ar))))))))))
def bz : List PV → R PV := run 1 2 cY
theorem gK : bz = run 1 2 cY := rfl
abbrev fw : List Str := ["_law_found", "_law_some"]
theorem br : FnScope fw ["_law_found"] (defScope aE) := fnS rfl rfl rfl rfl (by decide +kernel)
abbrev cG : Z.Env → Os := aN (aM 1 (bp (ae (bA "thing" (x2 pIx (ah 0) (xC (.int 0)))) (ae (bA "part" (x2 pIx (ah 0) (xC (.int 1)))) (ae (bA "number" (x2 pIx (ah 0) (xC (.int 1)))) (ae (bA "things" (x2 pIx (ah 0) (xC (.int 2)))) (ae (bA "things" (x2 pIx (ah 0) (xC (.int 3)))) (ae (bA "size" (x2 pIx (ah 0) (xC (.int 4)))) (ar))))))))) (aN (aM 1 (x2 aS (ah 1) (bp (ae (bA "number" (x2 pIx (ah 0) (xC (.int 5)))) (ae (bA "thing" (x2 pIx (ah 0) (xC (.int 6)))) (ae (bA "part" (x2 pIx (ah 0) (xC (.int 7)))) (ae (bA "row" (x2 pIx (ah 0) (xC (.int 8)))) (ae (bA "thing" (x2 pIx (ah 0) (xC (.int 15)))) (ae (bA "name" (x2 pIx (ah 0) (xC (.int 16)))) (ar)))))))))) (aN (aM 1 (x2 aS (ah 1) (bp (ae (bA "many" (x2 pIx (ah 0) (xC (.int 13)))) (ae (bA "number" (x2 pIx (ah 0) (xC (.int 18)))) (ar)))))) (bR (ah 1))))
def bb : List PV → R PV := run 1 2 cG
theorem fq : bb = run 1 2 cG := rfl
abbrev fu : List Str := ["_law_things", "_law_kept", "_law_e"]
theorem bq : FnScope fu ["_law_things"] (defScope aD) := fnS rfl rfl rfl rfl (by decide +kernel)
abbrev cF : Z.Env → Os := aN (aM 1 (xC .non)) (aN (jU (jV "NotFree" 1 (fun xs => [("things", xs[0]?.getD .non)]) (ae (ah 0) (ar))) (fun c => ["Free", "NoArrows", "NoDeeds", "NoHues", "NoOrder", "NoRow", "NoRule", "NoRules", "NoSet", "NoSize", "NoText", "NoWorths", "NotFree", "Tied", "TooMany", "Unlike"].contains c) 2 (aM 1 (ah 2))) (bR (jP (x2 pIx (bD bz (ae (ah 1) (ar))) (xC (.int 2))) (x2 (pb pEq) (bA "things" (ah 1)) (ah 0)))))
def aV : List PV → R PV := run 1 3 cF
theorem fo : aV = run 1 3 cF := rfl
abbrev kT : List Str := ["_law_script", "_law_at", "_law_cell", "_law_digits", "_law_text", "_law_things", "_law_number", "_law_found", "_law_place", "_law_error", "_law_due", "_law_digit", "_law_k"]
theorem aX : FnScope kT ["_law_script"] (defScope cw) := fnS rfl rfl rfl rfl (by decide +kernel)
abbrev gF : Ex := x2 pIx (xC (.str "abcdefghijklmnopqrstuvwxyz")) (ah 11)
abbrev lS : Ex := x2 (pb pEq) (ah 8) (ah 12)
abbrev eD : Z.Env → Os := aN (sIf (xT (x2 (pb pNe) (bD bz (ae (ah 9) (ar))) (xLc (iH (bo (xC (.int 19)) (ar))) (tgN 12) (fJ) (lS) [12]))) (bR (xC (.bl false))) (sNx)) (aN (sIf (dE (xT (x2 (pb pNe) (xIs (isC ["Free", "NoArrows", "NoDeeds", "NoHues", "NoOrder", "NoRow", "NoRule", "NoRules", "NoSet", "NoSize", "NoText", "NoWorths", "NotFree", "Tied", "TooMany", "Unlike"]) (ah 9)) (x2 (pb di) (ah 8) (bp (ae (xC (.int 15)) (ae (xC (.int 16)) (ae (xC (.int 17)) (ar)))))))) (xT (xIs (isC []) (ah 9)))) (bR (xC (.bl false))) (sNx)) (sIf (dE (xT (x2 (pb pLt) (ah 8) (xC (.int 15)))) (xT (x2 (pb pGt) (ah 8) (xC (.int 17))))) (sIf (xT (xIs (fun x => [isC ["NoDeed", "NoName", "NoThing"], isC [], isC [], isC []].any fun g => g x) (ah 9))) (bR (xC (.bl false))) (sNx)) (sNx)))
abbrev c3 : Z.Env → Os := aN (aM 3 (bD aW (ae (ah 2) (ae (x2 aS (xC (.int 200)) (ah 1)) (ae (x2 aS (x2 aS (bp (ae (x2 dJ (xC (.int 10)) (xC (.int 59))) (ae (xC (.int 10)) (ar)))) (kU (bp (ae (xC (.int 26)) (ar))) (xC (.int 9)))) (bp (ae (xC (.int 8)) (ae (xC (.int 8)) (ar))))) (ar)))))) (aN (aM 4 (x1 (cV "") (xLc (kE (xSl (ah 3) (xP (xC (.int 2))) (xP (x2 aS (xC (.int 2)) (x2 pIx (ah 3) (xC (.int 1))))))) (tgN 11) (fJ) (gF) [11]))) (aN (aM 5 (xB iz (bo (xB cA (bo (xSl (ah 3) (xP (xC (.int 11))) (xP (xC (.int 13)))) (ar))) (ar)))) (aN (aM 6 (x2 pIx (ah 3) (xC (.int 0)))) (aN (aM 7 (bD bI (ae (ah 5) (ae (ah 6) (ae (ah 4) (ar)))))) (aN (fg (eT (ah 7)) (tgT (bc (tgN 8) (bc (tgN 9) (dA)))) eD) (aN (sIf (xT (xIs (fun x => [isC ["NoName"], isC ["NoThing"]].any fun g => g x) (x2 pIx (ah 7) (xC (.int 17))))) (bR (xC (.bl false))) (sNx)) (aN (sIf (dE (ck (xT (xIs (isC ["NoThing"]) (x2 pIx (ah 7) (xC (.int 15)))))) (ck (xT (xIs (isC ["NoName"]) (x2 pIx (ah 7) (xC (.int 16))))))) (bR (xC (.bl false))) (sNx)) (aN (aM 10 (bp (ae (ah 5) (ae (xC (.str "table")) (ae (ah 6) (ae (ah 5) (ae (ah 5) (ae (ah 6) (ae (ah 6) (ae (ah 6) (ae (xC (.str "root")) (ae (ah 6) (ae (ah 6) (ae (ah 4) (ar))))))))))))))) (aN (aM 10 (x2 aS (ah 10) (bp (ae (ah 6) (ae (ah 6) (ar)))))) (sIf (dE (xT (x2 (pb pNe) (bD bb (ae (ah 7) (ar))) (ah 10))) (dE (ck (xT (fH aV (ae (ah 5) (ar))))) (ck (xT (xIs (isC ["NoDeed", "NoName", "NoThing"]) (x2 pIx (ah 7) (xC (.int 17)))))))) (bR (xC (.bl false))) (sNx)))))))))))
abbrev jb : Z.Env → Os := aN (fg (eT (x2 aS (bp (ae (xC (.int 2)) (ar))) (xSl (ah 0) (mB) (xP (xC (.int 20)))))) (tgT (bc (tgN 1) (bc (tgN 2) (dA)))) c3) (bR (xC (.bl true)))
def ig : List PV → R PV := run 1 13 jb
theorem pD : ig = run 1 13 jb := rfl
structure Txt (K : PySem.W.Frag) (mg : Str → Option Value) (cl : Cl) : Prop where
 O : ClOk K cl
 ho : iG cl = false
 d__law_numbers : ∃ a fd, DfG K mg "_law_numbers" aw ["_law_cell", "_law_salt", "_law_sizes"] a fd
 d__law_all : ∃ a fd, DfG K mg "_law_all" aT ["_law_things", "_law_number", "_law_text"] a fd
 d__law_kinds : ∃ a fd, DfG K mg "_law_kinds" aK ["_law_e"] a fd
 d__law_fields : ∃ a fd, DfG K mg "_law_fields" aE ["_law_found"] a fd
 d__law_raised : ∃ a fd, DfG K mg "_law_raised" aD ["_law_things"] a fd
 d_law : ∃ a fd, DfG K mg "law" cw ["_law_script"] a fd
 x_NoDeed : ∃ C, BxF K mg cl "NoDeed" "LookupError" "LookupError.__new__" "LookupError.__init__" [.type "LookupError", .type "Exception", .type "BaseException", .type "object"] C
 x_NoHues : ∃ C, BxF K mg cl "NoHues" "Exception" "Exception.__new__" "Exception.__init__" [.type "Exception", .type "BaseException", .type "object"] C
 x_NoOrder : ∃ C, BxF K mg cl "NoOrder" "Exception" "Exception.__new__" "Exception.__init__" [.type "Exception", .type "BaseException", .type "object"] C
 x_NoRow : ∃ C, BxF K mg cl "NoRow" "Exception" "Exception.__new__" "Exception.__init__" [.type "Exception", .type "BaseException", .type "object"] C
 x_NoWorths : ∃ C, BxF K mg cl "NoWorths" "Exception" "Exception.__new__" "Exception.__init__" [.type "Exception", .type "BaseException", .type "object"] C
 x_Unlike : ∃ C, BxF K mg cl "Unlike" "Exception" "Exception.__new__" "Exception.__init__" [.type "Exception", .type "BaseException", .type "object"] C
 x_Free : ∃ C a Cb mc fd, ExF K mg cl "Free" "FreeError" "Free.__init__" "Exception" "Exception.__new__" "Exception.__init__" [.type "Exception", .type "BaseException", .type "object"] aP ["self", "things"] C a Cb mc fd ∧ zN K C "things"
 x_NoArrows : ∃ C a Cb mc fd, ExF K mg cl "NoArrows" "FreeError" "NoArrows.__init__" "Exception" "Exception.__new__" "Exception.__init__" [.type "Exception", .type "BaseException", .type "object"] av ["self", "part"] C a Cb mc fd ∧ zN K C "part"
 x_NoDeeds : ∃ C a Cb mc fd, ExF K mg cl "NoDeeds" "FreeError" "NoDeeds.__init__" "Exception" "Exception.__new__" "Exception.__init__" [.type "Exception", .type "BaseException", .type "object"] aC ["self", "number"] C a Cb mc fd ∧ zN K C "number"
 x_NoName : ∃ C a fd, ExB K mg cl "NoName" "KeyError" "NoName.__init__" "KeyError" "LookupError.__new__" "KeyError.__init__" [.type "KeyError", .type "LookupError", .type "Exception", .type "BaseException", .type "object"] aI ["self", "name"] C a fd ∧ zN K C "name"
 x_NoRule : ∃ C a Cb mc fd, ExF K mg cl "NoRule" "FreeError" "NoRule.__init__" "Exception" "Exception.__new__" "Exception.__init__" [.type "Exception", .type "BaseException", .type "object"] aH ["self", "part", "number"] C a Cb mc fd ∧ zN K C "part" ∧ zN K C "number"
 x_NoRules : ∃ C a Cb mc fd, ExF K mg cl "NoRules" "FreeError" "NoRules.__init__" "Exception" "Exception.__new__" "Exception.__init__" [.type "Exception", .type "BaseException", .type "object"] aB ["self", "number"] C a Cb mc fd ∧ zN K C "number"
 x_NoSet : ∃ C a Cb mc fd, ExF K mg cl "NoSet" "FreeError" "NoSet.__init__" "Exception" "Exception.__new__" "Exception.__init__" [.type "Exception", .type "BaseException", .type "object"] aL ["self", "thing"] C a Cb mc fd ∧ zN K C "thing"
 x_NoSize : ∃ C a Cb mc fd, ExF K mg cl "NoSize" "FreeError" "NoSize.__init__" "Exception" "Exception.__new__" "Exception.__init__" [.type "Exception", .type "BaseException", .type "object"] aG ["self", "size"] C a Cb mc fd ∧ zN K C "size"
 x_NoText : ∃ C a Cb mc fd, ExF K mg cl "NoText" "FreeError" "NoText.__init__" "Exception" "Exception.__new__" "Exception.__init__" [.type "Exception", .type "BaseException", .type "object"] aF ["self", "row"] C a Cb mc fd ∧ zN K C "row"
 x_NoThing : ∃ C a fd, ExB K mg cl "NoThing" "IndexError" "NoThing.__init__" "IndexError" "IndexError.__new__" "IndexError.__init__" [.type "IndexError", .type "LookupError", .type "Exception", .type "BaseException", .type "object"] aA ["self", "thing"] C a fd ∧ zN K C "thing"
 x_NotFree : ∃ C a Cb mc fd, ExF K mg cl "NotFree" "FreeError" "NotFree.__init__" "Exception" "Exception.__new__" "Exception.__init__" [.type "Exception", .type "BaseException", .type "object"] az ["self", "things"] C a Cb mc fd ∧ zN K C "things"
 x_Tied : ∃ C a Cb mc fd, ExF K mg cl "Tied" "FreeError" "Tied.__init__" "Exception" "Exception.__new__" "Exception.__init__" [.type "Exception", .type "BaseException", .type "object"] aO ["self", "thing"] C a Cb mc fd ∧ zN K C "thing"
 x_TooMany : ∃ C a Cb mc fd, ExF K mg cl "TooMany" "FreeError" "TooMany.__init__" "Exception" "Exception.__new__" "Exception.__init__" [.type "Exception", .type "BaseException", .type "object"] ay ["self", "many"] C a Cb mc fd ∧ zN K C "many"
 t_Free : ∃ D, mg "Free" = some (.ref D) ∧ KitOk K cl (.ref D) (isC ["Free"])
 t_FreeError : ∃ D, mg "FreeError" = some (.ref D) ∧ KitOk K cl (.ref D) (isC ["Free", "NoArrows", "NoDeeds", "NoHues", "NoOrder", "NoRow", "NoRule", "NoRules", "NoSet", "NoSize", "NoText", "NoWorths", "NotFree", "Tied", "TooMany", "Unlike"])
 t_NoArrows : ∃ D, mg "NoArrows" = some (.ref D) ∧ KitOk K cl (.ref D) (isC ["NoArrows"])
 t_NoDeed : ∃ D, mg "NoDeed" = some (.ref D) ∧ KitOk K cl (.ref D) (isC ["NoDeed"])
 t_NoDeeds : ∃ D, mg "NoDeeds" = some (.ref D) ∧ KitOk K cl (.ref D) (isC ["NoDeeds"])
 t_NoHues : ∃ D, mg "NoHues" = some (.ref D) ∧ KitOk K cl (.ref D) (isC ["NoHues"])
 t_NoName : ∃ D, mg "NoName" = some (.ref D) ∧ KitOk K cl (.ref D) (isC ["NoName"])
 t_NoOrder : ∃ D, mg "NoOrder" = some (.ref D) ∧ KitOk K cl (.ref D) (isC ["NoOrder"])
 t_NoRow : ∃ D, mg "NoRow" = some (.ref D) ∧ KitOk K cl (.ref D) (isC ["NoRow"])
 t_NoRule : ∃ D, mg "NoRule" = some (.ref D) ∧ KitOk K cl (.ref D) (isC ["NoRule"])
 t_NoRules : ∃ D, mg "NoRules" = some (.ref D) ∧ KitOk K cl (.ref D) (isC ["NoRules"])
 t_NoSet : ∃ D, mg "NoSet" = some (.ref D) ∧ KitOk K cl (.ref D) (isC ["NoSet"])
 t_NoSize : ∃ D, mg "NoSize" = some (.ref D) ∧ KitOk K cl (.ref D) (isC ["NoSize"])
 t_NoText : ∃ D, mg "NoText" = some (.ref D) ∧ KitOk K cl (.ref D) (isC ["NoText"])
 t_NoThing : ∃ D, mg "NoThing" = some (.ref D) ∧ KitOk K cl (.ref D) (isC ["NoThing"])
 t_NoWorths : ∃ D, mg "NoWorths" = some (.ref D) ∧ KitOk K cl (.ref D) (isC ["NoWorths"])
 t_NotFree : ∃ D, mg "NotFree" = some (.ref D) ∧ KitOk K cl (.ref D) (isC ["NotFree"])
 t_Tied : ∃ D, mg "Tied" = some (.ref D) ∧ KitOk K cl (.ref D) (isC ["Tied"])
 t_TooMany : ∃ D, mg "TooMany" = some (.ref D) ∧ KitOk K cl (.ref D) (isC ["TooMany"])
 t_Unlike : ∃ D, mg "Unlike" = some (.ref D) ∧ KitOk K cl (.ref D) (isC ["Unlike"])
 h_FreeError : ∃ D, mg "FreeError" = some (.ref D) ∧ il K cl (.ref D) (fun c => ["Free", "NoArrows", "NoDeeds", "NoHues", "NoOrder", "NoRow", "NoRule", "NoRules", "NoSet", "NoSize", "NoText", "NoWorths", "NotFree", "Tied", "TooMany", "Unlike"].contains c)
 ix_ArithmeticError : KitOk K cl (.type "ArithmeticError") (isC [])
 ix_IndexError : KitOk K cl (.type "IndexError") (isC ["NoThing"])
 ix_KeyError : KitOk K cl (.type "KeyError") (isC ["NoName"])
 ix_LookupError : KitOk K cl (.type "LookupError") (isC ["NoDeed", "NoName", "NoThing"])
 ix_RuntimeError : KitOk K cl (.type "RuntimeError") (isC [])
 ix_TypeError : KitOk K cl (.type "TypeError") (isC [])
 ix_ValueError : KitOk K cl (.type "ValueError") (isC [])
 na_many : ∀ c C, cl.i c = some C → NoAttr K C (PySem.Str.ofString "many")
 nx_many : ∀ c C, cl.e c = some C → PySem.W.findIn K (.ref C) (PySem.Str.ofString "many") = some none
 na_name : ∀ c C, cl.i c = some C → NoAttr K C (PySem.Str.ofString "name")
 nx_name : ∀ c C, cl.e c = some C → PySem.W.findIn K (.ref C) (PySem.Str.ofString "name") = some none
 na_number : ∀ c C, cl.i c = some C → NoAttr K C (PySem.Str.ofString "number")
 nx_number : ∀ c C, cl.e c = some C → PySem.W.findIn K (.ref C) (PySem.Str.ofString "number") = some none
 na_part : ∀ c C, cl.i c = some C → NoAttr K C (PySem.Str.ofString "part")
 nx_part : ∀ c C, cl.e c = some C → PySem.W.findIn K (.ref C) (PySem.Str.ofString "part") = some none
 na_row : ∀ c C, cl.i c = some C → NoAttr K C (PySem.Str.ofString "row")
 nx_row : ∀ c C, cl.e c = some C → PySem.W.findIn K (.ref C) (PySem.Str.ofString "row") = some none
 na_size : ∀ c C, cl.i c = some C → NoAttr K C (PySem.Str.ofString "size")
 nx_size : ∀ c C, cl.e c = some C → PySem.W.findIn K (.ref C) (PySem.Str.ofString "size") = some none
 na_thing : ∀ c C, cl.i c = some C → NoAttr K C (PySem.Str.ofString "thing")
 nx_thing : ∀ c C, cl.e c = some C → PySem.W.findIn K (.ref C) (PySem.Str.ofString "thing") = some none
 na_things : ∀ c C, cl.i c = some C → NoAttr K C (PySem.Str.ofString "things")
 nx_things : ∀ c C, cl.e c = some C → PySem.W.findIn K (.ref C) (PySem.Str.ofString "things") = some none
 b_ArithmeticError : mg "ArithmeticError" = none
 b_IndexError : mg "IndexError" = none
 b_KeyError : mg "KeyError" = none
 b_LookupError : mg "LookupError" = none
 b_RuntimeError : mg "RuntimeError" = none
 b_TypeError : mg "TypeError" = none
 b_ValueError : mg "ValueError" = none
 b_enumerate : mg "enumerate" = none
 b_isinstance : mg "isinstance" = none
 b_len : mg "len" = none
 b_max : mg "max" = none
 b_range : mg "range" = none
 b_set : mg "set" = none
 b_sorted : mg "sorted" = none
 b_tuple : mg "tuple" = none
section
variable {P : Program} {w : World} {K : PySem.W.Frag} {mg : Str → Option Value} {base : Heap} {cl : Cl} (hS : kS base)
include P w K mg base cl hS
theorem dM (T : Txt K mg cl) {a : Addr} {fd : FuncData} (D : DfG K mg "_law_numbers" aw ["_law_cell", "_law_salt", "_law_sizes"] a fd) : FnG P w K mg base 1 a fd ["_law_cell", "_law_salt", "_law_sizes"] (spQ K cl aW) := by
 have ho := T.ho
 refine dg (k := 0) (eX) D.fn au rfl rfl fun cdv A outer s H E hr hG tk => ?_
 have O := T.O
 have hu65 := cB hr
 have hu64 := hr.units
 have hu1 := dw hr
 have hu0 := hr.units0
 exact (ao (aJ (i := 3) au.nd (mY T.b_max rfl (bZ (af 0) (bZ (oJ (oN ak) (af 0)) df)))) (ao (aJ (i := 4) au.nd (af 3)) (ao (aJ (i := 5) au.nd (bg aj)) (ao (iu (body := bX) (L2.passes_of rfl) rfl (fO T.b_range (bZ (oP T.b_len (bZ (af 2) df)) df) (jo kQ)) (bY (i := 6) au.nd) (aQ (dC (g6 (mU (cJ (q_ge (af 3) (iZ ak ak))) (lq (cJ (oR (af 4) ak))))) (ao (fN (i := 5) (aa (eH (af 4) (aq hu1 (af 2) (af 6))) aj)) (aQ (aJ (i := 4) au.nd (mn (af 4) (aq hu1 (af 2) (af 6)))))) (ao (aJ (i := 7) au.nd (eH (iZ (bh (bh (eH (af 3) ak) (i0 ak (af 1))) ak) ak) ak)) (ao (aJ (i := 7) au.nd (eH (i0 (bh (af 7) (i0 ak (bh (af 6) ak))) (bh (af 6) ak)) ak)) (ao (aJ (i := 7) au.nd (eH (i0 (eH (iZ (af 7) ak) ak) ak) ak)) (aQ (fN (i := 5) (aa (eH (mn (af 7) ak) (aq hu1 (af 2) (af 6))) aj))))))))) (aQ (bE (af 5)))))))
theorem eN {C a Cb : Addr} {mc : Value} {fd : FuncData} (R : ExF K mg cl "NoSet" "FreeError" "NoSet.__init__" "Exception" "Exception.__new__" "Exception.__init__" [.type "Exception", .type "BaseException", .type "object"] aL ["self", "thing"] C a Cb mc fd) (h0 : zN K C "thing") : FnG P w K mg base 1 a fd ["self", "thing"] (spI C 1 (fun ws => [(PySem.Str.ofString "thing", ws[0]?.getD .non)])) :=
 bB R.fn eG rfl fun cdv A outer s H vs Q E h => ⟨_, (pss_cons (ps_expr (aR rfl R.mgb R.rd R.fb (pa_cons (pe_var (i := 0) rfl (Or.inl rfl)) (pa_cons pe_str pa_nil)))) (pss_one (bu (pe_var (i := 0) rfl (Or.inl rfl)) (pe_var (i := 1) rfl (Or.inl rfl))))), cc (i := 0) R.ox h0 (by decide) (by decide) h⟩
theorem dQ {C a Cb : Addr} {mc : Value} {fd : FuncData} (R : ExF K mg cl "NoRule" "FreeError" "NoRule.__init__" "Exception" "Exception.__new__" "Exception.__init__" [.type "Exception", .type "BaseException", .type "object"] aH ["self", "part", "number"] C a Cb mc fd) (h0 : zN K C "part") (h1 : zN K C "number") : FnG P w K mg base 1 a fd ["self", "part", "number"] (spI C 2 (fun ws => [(PySem.Str.ofString "number", ws[1]?.getD .non), (PySem.Str.ofString "part", ws[0]?.getD .non)])) :=
 bB R.fn dH rfl fun cdv A outer s H vs Q E h => ⟨_, (pss_cons (ps_expr (aR rfl R.mgb R.rd R.fb (pa_cons (pe_var (i := 0) rfl (Or.inl rfl)) (pa_cons pe_str pa_nil)))) (pss_cons (bu (pe_var (i := 0) rfl (Or.inl rfl)) (pe_var (i := 1) rfl (Or.inl rfl))) (pss_one (bu (pe_var (i := 0) rfl (Or.inl rfl)) (pe_var (i := 2) rfl (Or.inl rfl)))))), pj (i := 0) (j := 1) R.ox h0 h1 (by decide) (by decide) (by decide) h⟩
theorem bT {C a Cb : Addr} {mc : Value} {fd : FuncData} (R : ExF K mg cl "NotFree" "FreeError" "NotFree.__init__" "Exception" "Exception.__new__" "Exception.__init__" [.type "Exception", .type "BaseException", .type "object"] az ["self", "things"] C a Cb mc fd) (h0 : zN K C "things") : FnG P w K mg base 1 a fd ["self", "things"] (spI C 1 (fun ws => [(PySem.Str.ofString "things", ws[0]?.getD .non)])) :=
 bB R.fn c8 rfl fun cdv A outer s H vs Q E h => ⟨_, (pss_cons (ps_expr (aR rfl R.mgb R.rd R.fb (pa_cons (pe_var (i := 0) rfl (Or.inl rfl)) (pa_cons pe_str pa_nil)))) (pss_one (bu (pe_var (i := 0) rfl (Or.inl rfl)) (pe_var (i := 1) rfl (Or.inl rfl))))), cc (i := 0) R.ox h0 (by decide) (by decide) h⟩
theorem fj {C a Cb : Addr} {mc : Value} {fd : FuncData} (R : ExF K mg cl "Free" "FreeError" "Free.__init__" "Exception" "Exception.__new__" "Exception.__init__" [.type "Exception", .type "BaseException", .type "object"] aP ["self", "things"] C a Cb mc fd) (h0 : zN K C "things") : FnG P w K mg base 1 a fd ["self", "things"] (spI C 1 (fun ws => [(PySem.Str.ofString "things", ws[0]?.getD .non)])) :=
 bB R.fn ff rfl fun cdv A outer s H vs Q E h => ⟨_, (pss_cons (ps_expr (aR rfl R.mgb R.rd R.fb (pa_cons (pe_var (i := 0) rfl (Or.inl rfl)) (pa_cons pe_str pa_nil)))) (pss_one (bu (pe_var (i := 0) rfl (Or.inl rfl)) (pe_var (i := 1) rfl (Or.inl rfl))))), cc (i := 0) R.ox h0 (by decide) (by decide) h⟩
theorem dO {C a Cb : Addr} {mc : Value} {fd : FuncData} (R : ExF K mg cl "NoSize" "FreeError" "NoSize.__init__" "Exception" "Exception.__new__" "Exception.__init__" [.type "Exception", .type "BaseException", .type "object"] aG ["self", "size"] C a Cb mc fd) (h0 : zN K C "size") : FnG P w K mg base 1 a fd ["self", "size"] (spI C 1 (fun ws => [(PySem.Str.ofString "size", ws[0]?.getD .non)])) :=
 bB R.fn dG rfl fun cdv A outer s H vs Q E h => ⟨_, (pss_cons (ps_expr (aR rfl R.mgb R.rd R.fb (pa_cons (pe_var (i := 0) rfl (Or.inl rfl)) (pa_cons pe_str pa_nil)))) (pss_one (bu (pe_var (i := 0) rfl (Or.inl rfl)) (pe_var (i := 1) rfl (Or.inl rfl))))), cc (i := 0) R.ox h0 (by decide) (by decide) h⟩
theorem dm {C a Cb : Addr} {mc : Value} {fd : FuncData} (R : ExF K mg cl "NoRules" "FreeError" "NoRules.__init__" "Exception" "Exception.__new__" "Exception.__init__" [.type "Exception", .type "BaseException", .type "object"] aB ["self", "number"] C a Cb mc fd) (h0 : zN K C "number") : FnG P w K mg base 1 a fd ["self", "number"] (spI C 1 (fun ws => [(PySem.Str.ofString "number", ws[0]?.getD .non)])) :=
 bB R.fn dc rfl fun cdv A outer s H vs Q E h => ⟨_, (pss_cons (ps_expr (aR rfl R.mgb R.rd R.fb (pa_cons (pe_var (i := 0) rfl (Or.inl rfl)) (pa_cons pe_str pa_nil)))) (pss_one (bu (pe_var (i := 0) rfl (Or.inl rfl)) (pe_var (i := 1) rfl (Or.inl rfl))))), cc (i := 0) R.ox h0 (by decide) (by decide) h⟩
theorem fh {C a Cb : Addr} {mc : Value} {fd : FuncData} (R : ExF K mg cl "Tied" "FreeError" "Tied.__init__" "Exception" "Exception.__new__" "Exception.__init__" [.type "Exception", .type "BaseException", .type "object"] aO ["self", "thing"] C a Cb mc fd) (h0 : zN K C "thing") : FnG P w K mg base 1 a fd ["self", "thing"] (spI C 1 (fun ws => [(PySem.Str.ofString "thing", ws[0]?.getD .non)])) :=
 bB R.fn fe rfl fun cdv A outer s H vs Q E h => ⟨_, (pss_cons (ps_expr (aR rfl R.mgb R.rd R.fb (pa_cons (pe_var (i := 0) rfl (Or.inl rfl)) (pa_cons pe_str pa_nil)))) (pss_one (bu (pe_var (i := 0) rfl (Or.inl rfl)) (pe_var (i := 1) rfl (Or.inl rfl))))), cc (i := 0) R.ox h0 (by decide) (by decide) h⟩
theorem cW {C a Cb : Addr} {mc : Value} {fd : FuncData} (R : ExF K mg cl "NoArrows" "FreeError" "NoArrows.__init__" "Exception" "Exception.__new__" "Exception.__init__" [.type "Exception", .type "BaseException", .type "object"] av ["self", "part"] C a Cb mc fd) (h0 : zN K C "part") : FnG P w K mg base 1 a fd ["self", "part"] (spI C 1 (fun ws => [(PySem.Str.ofString "part", ws[0]?.getD .non)])) :=
 bB R.fn cQ rfl fun cdv A outer s H vs Q E h => ⟨_, (pss_cons (ps_expr (aR rfl R.mgb R.rd R.fb (pa_cons (pe_var (i := 0) rfl (Or.inl rfl)) (pa_cons pe_str pa_nil)))) (pss_one (bu (pe_var (i := 0) rfl (Or.inl rfl)) (pe_var (i := 1) rfl (Or.inl rfl))))), cc (i := 0) R.ox h0 (by decide) (by decide) h⟩
theorem dN {C a Cb : Addr} {mc : Value} {fd : FuncData} (R : ExF K mg cl "NoText" "FreeError" "NoText.__init__" "Exception" "Exception.__new__" "Exception.__init__" [.type "Exception", .type "BaseException", .type "object"] aF ["self", "row"] C a Cb mc fd) (h0 : zN K C "row") : FnG P w K mg base 1 a fd ["self", "row"] (spI C 1 (fun ws => [(PySem.Str.ofString "row", ws[0]?.getD .non)])) :=
 bB R.fn dF rfl fun cdv A outer s H vs Q E h => ⟨_, (pss_cons (ps_expr (aR rfl R.mgb R.rd R.fb (pa_cons (pe_var (i := 0) rfl (Or.inl rfl)) (pa_cons pe_str pa_nil)))) (pss_one (bu (pe_var (i := 0) rfl (Or.inl rfl)) (pe_var (i := 1) rfl (Or.inl rfl))))), cc (i := 0) R.ox h0 (by decide) (by decide) h⟩
theorem dj {C a Cb : Addr} {mc : Value} {fd : FuncData} (R : ExF K mg cl "TooMany" "FreeError" "TooMany.__init__" "Exception" "Exception.__new__" "Exception.__init__" [.type "Exception", .type "BaseException", .type "object"] ay ["self", "many"] C a Cb mc fd) (h0 : zN K C "many") : FnG P w K mg base 1 a fd ["self", "many"] (spI C 1 (fun ws => [(PySem.Str.ofString "many", ws[0]?.getD .non)])) :=
 bB R.fn c7 rfl fun cdv A outer s H vs Q E h => ⟨_, (pss_cons (ps_expr (aR rfl R.mgb R.rd R.fb (pa_cons (pe_var (i := 0) rfl (Or.inl rfl)) (pa_cons pe_str pa_nil)))) (pss_one (bu (pe_var (i := 0) rfl (Or.inl rfl)) (pe_var (i := 1) rfl (Or.inl rfl))))), cc (i := 0) R.ox h0 (by decide) (by decide) h⟩
theorem dk {C a : Addr} {fd : FuncData} (R : ExB K mg cl "NoThing" "IndexError" "NoThing.__init__" "IndexError" "IndexError.__new__" "IndexError.__init__" [.type "IndexError", .type "LookupError", .type "Exception", .type "BaseException", .type "object"] aA ["self", "thing"] C a fd) (h0 : zN K C "thing") : FnG P w K mg base 1 a fd ["self", "thing"] (spI C 1 (fun ws => [(PySem.Str.ofString "thing", ws[0]?.getD .non)])) :=
 bB R.fn c9 rfl fun cdv A outer s H vs Q E h => ⟨_, (pss_cons (ps_expr (fW R.bx rfl R.mgb R.fb (pa_cons (pe_var (i := 0) rfl (Or.inl rfl)) (pa_cons pe_str pa_nil)))) (pss_one (bu (pe_var (i := 0) rfl (Or.inl rfl)) (pe_var (i := 1) rfl (Or.inl rfl))))), cc (i := 0) R.ox h0 (by decide) (by decide) h⟩
theorem dR {C a : Addr} {fd : FuncData} (R : ExB K mg cl "NoName" "KeyError" "NoName.__init__" "KeyError" "LookupError.__new__" "KeyError.__init__" [.type "KeyError", .type "LookupError", .type "Exception", .type "BaseException", .type "object"] aI ["self", "name"] C a fd) (h0 : zN K C "name") : FnG P w K mg base 1 a fd ["self", "name"] (spI C 1 (fun ws => [(PySem.Str.ofString "name", ws[0]?.getD .non)])) :=
 bB R.fn dI rfl fun cdv A outer s H vs Q E h => ⟨_, (pss_cons (ps_expr (fW R.bx rfl R.mgb R.fb (pa_cons (pe_var (i := 0) rfl (Or.inl rfl)) (pa_cons pe_str pa_nil)))) (pss_one (bu (pe_var (i := 0) rfl (Or.inl rfl)) (pe_var (i := 1) rfl (Or.inl rfl))))), cc (i := 0) R.ox h0 (by decide) (by decide) h⟩
theorem dq {C a Cb : Addr} {mc : Value} {fd : FuncData} (R : ExF K mg cl "NoDeeds" "FreeError" "NoDeeds.__init__" "Exception" "Exception.__new__" "Exception.__init__" [.type "Exception", .type "BaseException", .type "object"] aC ["self", "number"] C a Cb mc fd) (h0 : zN K C "number") : FnG P w K mg base 1 a fd ["self", "number"] (spI C 1 (fun ws => [(PySem.Str.ofString "number", ws[0]?.getD .non)])) :=
 bB R.fn de rfl fun cdv A outer s H vs Q E h => ⟨_, (pss_cons (ps_expr (aR rfl R.mgb R.rd R.fb (pa_cons (pe_var (i := 0) rfl (Or.inl rfl)) (pa_cons pe_str pa_nil)))) (pss_one (bu (pe_var (i := 0) rfl (Or.inl rfl)) (pe_var (i := 1) rfl (Or.inl rfl))))), cc (i := 0) R.ox h0 (by decide) (by decide) h⟩
theorem hZ (T : Txt K mg cl) {a : Addr} {fd : FuncData} (D : DfG K mg "_law_all" aT ["_law_things", "_law_number", "_law_text"] a fd) : FnG P w K mg base 3 a fd ["_law_things", "_law_number", "_law_text"] (spQ K cl bI) := by
 obtain ⟨CR_NoSize, aR_NoSize, CbR_NoSize, mcR_NoSize, fdR_NoSize, R_NoSize, hx0_NoSize⟩ := T.x_NoSize
 have GR_NoSize : FnG P w K mg base 1 aR_NoSize fdR_NoSize ["self", "size"] (spI CR_NoSize 1 (fun ws => [(PySem.Str.ofString "size", ws[0]?.getD .non)])) := dO hS R_NoSize hx0_NoSize
 obtain ⟨CR_Free, aR_Free, CbR_Free, mcR_Free, fdR_Free, R_Free, hx0_Free⟩ := T.x_Free
 have GR_Free : FnG P w K mg base 1 aR_Free fdR_Free ["self", "things"] (spI CR_Free 1 (fun ws => [(PySem.Str.ofString "things", ws[0]?.getD .non)])) := fj hS R_Free hx0_Free
 obtain ⟨CR_NotFree, aR_NotFree, CbR_NotFree, mcR_NotFree, fdR_NotFree, R_NotFree, hx0_NotFree⟩ := T.x_NotFree
 have GR_NotFree : FnG P w K mg base 1 aR_NotFree fdR_NotFree ["self", "things"] (spI CR_NotFree 1 (fun ws => [(PySem.Str.ofString "things", ws[0]?.getD .non)])) := bT hS R_NotFree hx0_NotFree
 obtain ⟨CR_NoRule, aR_NoRule, CbR_NoRule, mcR_NoRule, fdR_NoRule, R_NoRule, hx0_NoRule, hx1_NoRule⟩ := T.x_NoRule
 have GR_NoRule : FnG P w K mg base 1 aR_NoRule fdR_NoRule ["self", "part", "number"] (spI CR_NoRule 2 (fun ws => [(PySem.Str.ofString "number", ws[1]?.getD .non), (PySem.Str.ofString "part", ws[0]?.getD .non)])) := dQ hS R_NoRule hx0_NoRule hx1_NoRule
 obtain ⟨CR_NoSet, aR_NoSet, CbR_NoSet, mcR_NoSet, fdR_NoSet, R_NoSet, hx0_NoSet⟩ := T.x_NoSet
 have GR_NoSet : FnG P w K mg base 1 aR_NoSet fdR_NoSet ["self", "thing"] (spI CR_NoSet 1 (fun ws => [(PySem.Str.ofString "thing", ws[0]?.getD .non)])) := eN hS R_NoSet hx0_NoSet
 obtain ⟨CR_NoWorths, R_NoWorths⟩ := T.x_NoWorths
 obtain ⟨CR_NoOrder, R_NoOrder⟩ := T.x_NoOrder
 obtain ⟨CR_NoText, aR_NoText, CbR_NoText, mcR_NoText, fdR_NoText, R_NoText, hx0_NoText⟩ := T.x_NoText
 have GR_NoText : FnG P w K mg base 1 aR_NoText fdR_NoText ["self", "row"] (spI CR_NoText 1 (fun ws => [(PySem.Str.ofString "row", ws[0]?.getD .non)])) := dN hS R_NoText hx0_NoText
 obtain ⟨CR_NoArrows, aR_NoArrows, CbR_NoArrows, mcR_NoArrows, fdR_NoArrows, R_NoArrows, hx0_NoArrows⟩ := T.x_NoArrows
 have GR_NoArrows : FnG P w K mg base 1 aR_NoArrows fdR_NoArrows ["self", "part"] (spI CR_NoArrows 1 (fun ws => [(PySem.Str.ofString "part", ws[0]?.getD .non)])) := cW hS R_NoArrows hx0_NoArrows
 obtain ⟨CR_Tied, aR_Tied, CbR_Tied, mcR_Tied, fdR_Tied, R_Tied, hx0_Tied⟩ := T.x_Tied
 have GR_Tied : FnG P w K mg base 1 aR_Tied fdR_Tied ["self", "thing"] (spI CR_Tied 1 (fun ws => [(PySem.Str.ofString "thing", ws[0]?.getD .non)])) := fh hS R_Tied hx0_Tied
 obtain ⟨CR_NoRules, aR_NoRules, CbR_NoRules, mcR_NoRules, fdR_NoRules, R_NoRules, hx0_NoRules⟩ := T.x_NoRules
 have GR_NoRules : FnG P w K mg base 1 aR_NoRules fdR_NoRules ["self", "number"] (spI CR_NoRules 1 (fun ws => [(PySem.Str.ofString "number", ws[0]?.getD .non)])) := dm hS R_NoRules hx0_NoRules
 obtain ⟨CR_NoName, aR_NoName, fdR_NoName, R_NoName, hx0_NoName⟩ := T.x_NoName
 have GR_NoName : FnG P w K mg base 1 aR_NoName fdR_NoName ["self", "name"] (spI CR_NoName 1 (fun ws => [(PySem.Str.ofString "name", ws[0]?.getD .non)])) := dR hS R_NoName hx0_NoName
 obtain ⟨CR_NoThing, aR_NoThing, fdR_NoThing, R_NoThing, hx0_NoThing⟩ := T.x_NoThing
 have GR_NoThing : FnG P w K mg base 1 aR_NoThing fdR_NoThing ["self", "thing"] (spI CR_NoThing 1 (fun ws => [(PySem.Str.ofString "thing", ws[0]?.getD .non)])) := dk hS R_NoThing hx0_NoThing
 obtain ⟨CR_NoRow, R_NoRow⟩ := T.x_NoRow
 obtain ⟨CR_TooMany, aR_TooMany, CbR_TooMany, mcR_TooMany, fdR_TooMany, R_TooMany, hx0_TooMany⟩ := T.x_TooMany
 have GR_TooMany : FnG P w K mg base 1 aR_TooMany fdR_TooMany ["self", "many"] (spI CR_TooMany 1 (fun ws => [(PySem.Str.ofString "many", ws[0]?.getD .non)])) := dj hS R_TooMany hx0_TooMany
 obtain ⟨CR_Unlike, R_Unlike⟩ := T.x_Unlike
 obtain ⟨CR_NoHues, R_NoHues⟩ := T.x_NoHues
 obtain ⟨CR_NoDeeds, aR_NoDeeds, CbR_NoDeeds, mcR_NoDeeds, fdR_NoDeeds, R_NoDeeds, hx0_NoDeeds⟩ := T.x_NoDeeds
 have GR_NoDeeds : FnG P w K mg base 1 aR_NoDeeds fdR_NoDeeds ["self", "number"] (spI CR_NoDeeds 1 (fun ws => [(PySem.Str.ofString "number", ws[0]?.getD .non)])) := dq hS R_NoDeeds hx0_NoDeeds
 obtain ⟨CR_NoDeed, R_NoDeed⟩ := T.x_NoDeed
 have ho := T.ho
 refine dg (k := 2) (iJ) D.fn bJ rfl rfl fun cdv A outer s H E hr hG tk => ?_
 have O := T.O
 have hu65 := cB hr
 have hu64 := hr.units
 have hu1 := dw hr
 have hu0 := hr.units0
 have hrR_NoSize := hr.mono (show 2 ≤ 2 by decide)
 have hrR_Free := hr.mono (show 2 ≤ 2 by decide)
 have hrR_NotFree := hr.mono (show 2 ≤ 2 by decide)
 have hrR_NoRule := hr.mono (show 2 ≤ 2 by decide)
 have hrR_NoSet := hr.mono (show 2 ≤ 2 by decide)
 have hrR_NoText := hr.mono (show 2 ≤ 2 by decide)
 have hrR_NoArrows := hr.mono (show 2 ≤ 2 by decide)
 have hrR_Tied := hr.mono (show 2 ≤ 2 by decide)
 have hrR_NoRules := hr.mono (show 2 ≤ 2 by decide)
 have hrR_NoName := hr.mono (show 2 ≤ 2 by decide)
 have hrR_NoThing := hr.mono (show 2 ≤ 2 by decide)
 have hrR_TooMany := hr.mono (show 2 ≤ 2 by decide)
 have hrR_NoDeeds := hr.mono (show 2 ≤ 2 by decide)
 exact (ao (aJ (i := 3) bJ.nd (bg (aa (bS ⟨⟨_, _, _, _, _, _, _, _, _, R_NoSet.ox, R_NoSet.iC, R_NoSet.tI, GR_NoSet, hrR_NoSet, R_NoSet.bd, R_NoSet.mgx, R_NoSet.ce⟩⟩ hG (pf1 (i := 0) (by decide)) (by decide) (aa (af 0) aj)) (aa (bS ⟨⟨_, _, _, _, _, _, _, _, _, R_NoRule.ox, R_NoRule.iC, R_NoRule.tI, GR_NoRule, hrR_NoRule, R_NoRule.bd, R_NoRule.mgx, R_NoRule.ce⟩⟩ hG (pf2 (i := 0) (j := 1) (by decide) (by decide)) (by decide) (aa fP (aa (af 1) aj))) (aa (bS ⟨⟨_, _, _, _, _, _, _, _, _, R_NotFree.ox, R_NotFree.iC, R_NotFree.tI, GR_NotFree, hrR_NotFree, R_NotFree.bd, R_NotFree.mgx, R_NotFree.ce⟩⟩ hG (pf1 (i := 0) (by decide)) (by decide) (aa (af 0) aj)) (aa (bS ⟨⟨_, _, _, _, _, _, _, _, _, R_Free.ox, R_Free.iC, R_Free.tI, GR_Free, hrR_Free, R_Free.bd, R_Free.mgx, R_Free.ce⟩⟩ hG (pf1 (i := 0) (by decide)) (by decide) (aa (af 0) aj)) (aa (bS ⟨⟨_, _, _, _, _, _, _, _, _, R_NoSize.ox, R_NoSize.iC, R_NoSize.tI, GR_NoSize, hrR_NoSize, R_NoSize.bd, R_NoSize.mgx, R_NoSize.ce⟩⟩ hG (pf1 (i := 0) (by decide)) (by decide) (aa (af 1) aj)) aj))))))) (ao (aJ (i := 3) bJ.nd (bh (af 3) (bg (aa (bS ⟨⟨_, _, _, _, _, _, _, _, _, R_NoRules.ox, R_NoRules.iC, R_NoRules.tI, GR_NoRules, hrR_NoRules, R_NoRules.bd, R_NoRules.mgx, R_NoRules.ce⟩⟩ hG (pf1 (i := 0) (by decide)) (by decide) (aa (af 1) aj)) (aa (bS ⟨⟨_, _, _, _, _, _, _, _, _, R_Tied.ox, R_Tied.iC, R_Tied.tI, GR_Tied, hrR_Tied, R_Tied.bd, R_Tied.mgx, R_Tied.ce⟩⟩ hG (pf1 (i := 0) (by decide)) (by decide) (aa (af 1) aj)) (aa (bS ⟨⟨_, _, _, _, _, _, _, _, _, R_NoArrows.ox, R_NoArrows.iC, R_NoArrows.tI, GR_NoArrows, hrR_NoArrows, R_NoArrows.bd, R_NoArrows.mgx, R_NoArrows.ce⟩⟩ hG (pf1 (i := 0) (by decide)) (by decide) (aa fP aj)) (aa (bS ⟨⟨_, _, _, _, _, _, _, _, _, R_NoText.ox, R_NoText.iC, R_NoText.tI, GR_NoText, hrR_NoText, R_NoText.bd, R_NoText.mgx, R_NoText.ce⟩⟩ hG (pf1 (i := 0) (by decide)) (by decide) (aa (af 1) aj)) (aa (fR ⟨R_NoOrder.F, R_NoOrder.q, R_NoOrder.kC, R_NoOrder.exC, R_NoOrder.tyC, R_NoOrder.mgx, R_NoOrder.ce⟩ (aa (af 2) aj)) (aa (fR ⟨R_NoWorths.F, R_NoWorths.q, R_NoWorths.kC, R_NoWorths.exC, R_NoWorths.tyC, R_NoWorths.mgx, R_NoWorths.ce⟩ (aa (af 2) aj)) aj))))))))) (ao (aJ (i := 3) bJ.nd (bh (af 3) (bg (aa (fR ⟨R_NoHues.F, R_NoHues.q, R_NoHues.kC, R_NoHues.exC, R_NoHues.tyC, R_NoHues.mgx, R_NoHues.ce⟩ (aa (af 2) aj)) (aa (fR ⟨R_Unlike.F, R_Unlike.q, R_Unlike.kC, R_Unlike.exC, R_Unlike.tyC, R_Unlike.mgx, R_Unlike.ce⟩ (aa (af 2) aj)) (aa (bS ⟨⟨_, _, _, _, _, _, _, _, _, R_TooMany.ox, R_TooMany.iC, R_TooMany.tI, GR_TooMany, hrR_TooMany, R_TooMany.bd, R_TooMany.mgx, R_TooMany.ce⟩⟩ hG (pf1 (i := 0) (by decide)) (by decide) (aa (af 1) aj)) (aa (fR ⟨R_NoRow.F, R_NoRow.q, R_NoRow.kC, R_NoRow.exC, R_NoRow.tyC, R_NoRow.mgx, R_NoRow.ce⟩ (aa (af 2) aj)) (aa (bS ⟨⟨_, _, _, _, _, _, _, _, _, R_NoThing.ox, R_NoThing.iC, R_NoThing.tI, GR_NoThing, hrR_NoThing, R_NoThing.bd, R_NoThing.mgx, R_NoThing.ce⟩⟩ hG (pf1 (i := 0) (by decide)) (by decide) (aa (af 1) aj)) (aa (bS ⟨⟨_, _, _, _, _, _, _, _, _, R_NoName.ox, R_NoName.iC, R_NoName.tI, GR_NoName, hrR_NoName, R_NoName.bd, R_NoName.mgx, R_NoName.ce⟩⟩ hG (pf1 (i := 0) (by decide)) (by decide) (aa (af 2) aj)) aj))))))))) (aQ (bE (bh (af 3) (bg (aa (fR ⟨R_NoDeed.F, R_NoDeed.q, R_NoDeed.kC, R_NoDeed.exC, R_NoDeed.tyC, R_NoDeed.mgx, R_NoDeed.ce⟩ (aa (af 2) aj)) (aa (bS ⟨⟨_, _, _, _, _, _, _, _, _, R_NoDeeds.ox, R_NoDeeds.iC, R_NoDeeds.tI, GR_NoDeeds, hrR_NoDeeds, R_NoDeeds.bd, R_NoDeeds.mgx, R_NoDeeds.ce⟩⟩ hG (pf1 (i := 0) (by decide)) (by decide) (aa (af 1) aj)) aj)))))))))
theorem cE (T : Txt K mg cl) {a : Addr} {fd : FuncData} (D : DfG K mg "_law_kinds" aK ["_law_e"] a fd) : FnG P w K mg base 1 a fd ["_law_e"] (spQ K cl bz) := by
 obtain ⟨D_Free, md_Free, kt_Free⟩ := T.t_Free
 obtain ⟨D_NotFree, md_NotFree, kt_NotFree⟩ := T.t_NotFree
 obtain ⟨D_NoRule, md_NoRule, kt_NoRule⟩ := T.t_NoRule
 obtain ⟨D_NoSet, md_NoSet, kt_NoSet⟩ := T.t_NoSet
 obtain ⟨D_NoArrows, md_NoArrows, kt_NoArrows⟩ := T.t_NoArrows
 obtain ⟨D_Tied, md_Tied, kt_Tied⟩ := T.t_Tied
 obtain ⟨D_NoRules, md_NoRules, kt_NoRules⟩ := T.t_NoRules
 obtain ⟨D_NoSize, md_NoSize, kt_NoSize⟩ := T.t_NoSize
 obtain ⟨D_NoHues, md_NoHues, kt_NoHues⟩ := T.t_NoHues
 obtain ⟨D_NoWorths, md_NoWorths, kt_NoWorths⟩ := T.t_NoWorths
 obtain ⟨D_NoOrder, md_NoOrder, kt_NoOrder⟩ := T.t_NoOrder
 obtain ⟨D_NoText, md_NoText, kt_NoText⟩ := T.t_NoText
 obtain ⟨D_NoThing, md_NoThing, kt_NoThing⟩ := T.t_NoThing
 obtain ⟨D_NoRow, md_NoRow, kt_NoRow⟩ := T.t_NoRow
 obtain ⟨D_TooMany, md_TooMany, kt_TooMany⟩ := T.t_TooMany
 obtain ⟨D_Unlike, md_Unlike, kt_Unlike⟩ := T.t_Unlike
 obtain ⟨D_NoDeeds, md_NoDeeds, kt_NoDeeds⟩ := T.t_NoDeeds
 obtain ⟨D_NoDeed, md_NoDeed, kt_NoDeed⟩ := T.t_NoDeed
 obtain ⟨D_NoName, md_NoName, kt_NoName⟩ := T.t_NoName
 have ho := T.ho
 refine dg (k := 0) (gK) D.fn aZ rfl rfl fun cdv A outer s H E hr hG tk => ?_
 have O := T.O
 have hu65 := cB hr
 have hu64 := hr.units
 have hu1 := dw hr
 have hu0 := hr.units0
 exact (ao (aJ (i := 1) aZ.nd (bg (aa (bM (u := .ref D_NoSet) (cv := .ref D_NoSet) O kt_NoSet (.own _) T.b_isinstance (pe_glob rfl md_NoSet rfl) (af 0)) (aa (bM (u := .ref D_NoRule) (cv := .ref D_NoRule) O kt_NoRule (.own _) T.b_isinstance (pe_glob rfl md_NoRule rfl) (af 0)) (aa (bM (u := .ref D_NotFree) (cv := .ref D_NotFree) O kt_NotFree (.own _) T.b_isinstance (pe_glob rfl md_NotFree rfl) (af 0)) (aa (bM (u := .ref D_Free) (cv := .ref D_Free) O kt_Free (.own _) T.b_isinstance (pe_glob rfl md_Free rfl) (af 0)) aj)))))) (ao (aJ (i := 1) aZ.nd (bh (af 1) (bg (aa (bM (u := .ref D_NoSize) (cv := .ref D_NoSize) O kt_NoSize (.own _) T.b_isinstance (pe_glob rfl md_NoSize rfl) (af 0)) (aa (bM (u := .ref D_NoRules) (cv := .ref D_NoRules) O kt_NoRules (.own _) T.b_isinstance (pe_glob rfl md_NoRules rfl) (af 0)) (aa (bM (u := .ref D_Tied) (cv := .ref D_Tied) O kt_Tied (.own _) T.b_isinstance (pe_glob rfl md_Tied rfl) (af 0)) (aa (bM (u := .ref D_NoArrows) (cv := .ref D_NoArrows) O kt_NoArrows (.own _) T.b_isinstance (pe_glob rfl md_NoArrows rfl) (af 0)) aj))))))) (ao (aJ (i := 1) aZ.nd (bh (af 1) (bg (aa (bM (u := .ref D_NoText) (cv := .ref D_NoText) O kt_NoText (.own _) T.b_isinstance (pe_glob rfl md_NoText rfl) (af 0)) (aa (bM (u := .ref D_NoOrder) (cv := .ref D_NoOrder) O kt_NoOrder (.own _) T.b_isinstance (pe_glob rfl md_NoOrder rfl) (af 0)) (aa (bM (u := .ref D_NoWorths) (cv := .ref D_NoWorths) O kt_NoWorths (.own _) T.b_isinstance (pe_glob rfl md_NoWorths rfl) (af 0)) (aa (bM (u := .ref D_NoHues) (cv := .ref D_NoHues) O kt_NoHues (.own _) T.b_isinstance (pe_glob rfl md_NoHues rfl) (af 0)) aj))))))) (ao (aJ (i := 1) aZ.nd (bh (af 1) (bg (aa (bM (u := .ref D_Unlike) (cv := .ref D_Unlike) O kt_Unlike (.own _) T.b_isinstance (pe_glob rfl md_Unlike rfl) (af 0)) (aa (bM (u := .ref D_TooMany) (cv := .ref D_TooMany) O kt_TooMany (.own _) T.b_isinstance (pe_glob rfl md_TooMany rfl) (af 0)) (aa (bM (u := .ref D_NoRow) (cv := .ref D_NoRow) O kt_NoRow (.own _) T.b_isinstance (pe_glob rfl md_NoRow rfl) (af 0)) (aa (bM (u := .ref D_NoThing) (cv := .ref D_NoThing) O kt_NoThing (.own _) T.b_isinstance (pe_glob rfl md_NoThing rfl) (af 0)) aj))))))) (aQ (bE (bh (af 1) (bg (aa (bM (u := .ref D_NoName) (cv := .ref D_NoName) O kt_NoName (.own _) T.b_isinstance (pe_glob rfl md_NoName rfl) (af 0)) (aa (bM (u := .ref D_NoDeed) (cv := .ref D_NoDeed) O kt_NoDeed (.own _) T.b_isinstance (pe_glob rfl md_NoDeed rfl) (af 0)) (aa (bM (u := .ref D_NoDeeds) (cv := .ref D_NoDeeds) O kt_NoDeeds (.own _) T.b_isinstance (pe_glob rfl md_NoDeeds rfl) (af 0)) aj)))))))))))
theorem eM (T : Txt K mg cl) {a : Addr} {fd : FuncData} (D : DfG K mg "_law_fields" aE ["_law_found"] a fd) : FnG P w K mg base 1 a fd ["_law_found"] (spQ K cl bb) := by
 have ho := T.ho
 refine dg (k := 0) (fq) D.fn br rfl rfl fun cdv A outer s H E hr hG tk => ?_
 have O := T.O
 have hu65 := cB hr
 have hu64 := hr.units
 have hu1 := dw hr
 have hu0 := hr.units0
 exact (ao (aJ (i := 1) br.nd (bg (aa (bf (n := "thing") O T.na_thing T.nx_thing (aq hu1 (af 0) ak)) (aa (bf (n := "part") O T.na_part T.nx_part (aq hu1 (af 0) ak)) (aa (bf (n := "number") O T.na_number T.nx_number (aq hu1 (af 0) ak)) (aa (bf (n := "things") O T.na_things T.nx_things (aq hu1 (af 0) ak)) (aa (bf (n := "things") O T.na_things T.nx_things (aq hu1 (af 0) ak)) (aa (bf (n := "size") O T.na_size T.nx_size (aq hu1 (af 0) ak)) aj)))))))) (ao (aJ (i := 1) br.nd (bh (af 1) (bg (aa (bf (n := "number") O T.na_number T.nx_number (aq hu1 (af 0) ak)) (aa (bf (n := "thing") O T.na_thing T.nx_thing (aq hu1 (af 0) ak)) (aa (bf (n := "part") O T.na_part T.nx_part (aq hu1 (af 0) ak)) (aa (bf (n := "row") O T.na_row T.nx_row (aq hu1 (af 0) ak)) (aa (bf (n := "thing") O T.na_thing T.nx_thing (aq hu1 (af 0) ak)) (aa (bf (n := "name") O T.na_name T.nx_name (aq hu1 (af 0) ak)) aj))))))))) (ao (aJ (i := 1) br.nd (bh (af 1) (bg (aa (bf (n := "many") O T.na_many T.nx_many (aq hu1 (af 0) ak)) (aa (bf (n := "number") O T.na_number T.nx_number (aq hu1 (af 0) ak)) aj))))) (aQ (bE (af 1))))))
theorem eL (T : Txt K mg cl) {a : Addr} {fd : FuncData} (D : DfG K mg "_law_raised" aD ["_law_things"] a fd) : FnG P w K mg base 3 a fd ["_law_things"] (spQ K cl aV) := by
 obtain ⟨a__law_kinds, fd__law_kinds, D__law_kinds⟩ := T.d__law_kinds
 have G__law_kinds := cE (P := P) (w := w) hS T D__law_kinds
 obtain ⟨CR_NotFree, aR_NotFree, CbR_NotFree, mcR_NotFree, fdR_NotFree, R_NotFree, hx0_NotFree⟩ := T.x_NotFree
 have GR_NotFree : FnG P w K mg base 1 aR_NotFree fdR_NotFree ["self", "things"] (spI CR_NotFree 1 (fun ws => [(PySem.Str.ofString "things", ws[0]?.getD .non)])) := bT hS R_NotFree hx0_NotFree
 obtain ⟨X_FreeError, mx_FreeError, xm_FreeError⟩ := T.h_FreeError
 have ho := T.ho
 refine dg (k := 2) (fo) D.fn bq rfl rfl fun cdv A outer s H E hr hG tk => ?_
 have O := T.O
 have hu65 := cB hr
 have hu64 := hr.units
 have hu1 := dw hr
 have hu0 := hr.units0
 have hr__law_kinds := hr.mono (show 1 ≤ 2 by decide)
 have hrR_NotFree := hr.mono (show 2 ≤ 2 by decide)
 exact (ao (aJ (i := 1) bq.nd oM) (ao (mV (i := 2) rfl rfl bq.nd ⟨rfl, by decide, .inl mx_FreeError⟩ xm_FreeError tk (fun W tkp xe tk _ => (aQ (j3 tk ⟨⟨_, _, _, _, _, _, _, _, _, R_NotFree.ox, R_NotFree.iC, R_NotFree.tI, GR_NotFree, hrR_NotFree, R_NotFree.bd, R_NotFree.mgx, R_NotFree.ce⟩⟩ hG (pf1 (i := 0) (by decide)) (by decide) rfl (aa (af 0) aj)))) (fun _ _ => (aQ (aJ (i := 1) bq.nd (af 2))))) (aQ (bE (oV (aq hu1 (j6 ⟨⟨_, _, _, _, G__law_kinds, hr__law_kinds, D__law_kinds.mgx, D__law_kinds.fn.kp, D__law_kinds.bd⟩⟩ hG (aa (af 1) aj)) ak) (oL (oU hu64 (bf (n := "things") O T.na_things T.nx_things (af 1)) (af 0))))))))
theorem nj (T : Txt K mg cl) {a : Addr} {fd : FuncData} (D : DfG K mg "law" cw ["_law_script"] a fd) : FnG P w K mg base 4 a fd ["_law_script"] (spQ K cl ig) := by
 obtain ⟨a__law_numbers, fd__law_numbers, D__law_numbers⟩ := T.d__law_numbers
 have G__law_numbers := dM (P := P) (w := w) hS T D__law_numbers
 obtain ⟨a__law_all, fd__law_all, D__law_all⟩ := T.d__law_all
 have G__law_all := hZ (P := P) (w := w) hS T D__law_all
 obtain ⟨a__law_kinds, fd__law_kinds, D__law_kinds⟩ := T.d__law_kinds
 have G__law_kinds := cE (P := P) (w := w) hS T D__law_kinds
 obtain ⟨a__law_fields, fd__law_fields, D__law_fields⟩ := T.d__law_fields
 have G__law_fields := eM (P := P) (w := w) hS T D__law_fields
 obtain ⟨a__law_raised, fd__law_raised, D__law_raised⟩ := T.d__law_raised
 have G__law_raised := eL (P := P) (w := w) hS T D__law_raised
 obtain ⟨D_FreeError, md_FreeError, kt_FreeError⟩ := T.t_FreeError
 have ho := T.ho
 refine dg (k := 3) (pD) D.fn aX rfl rfl fun cdv A outer s H E hr hG tk => ?_
 have O := T.O
 have hu65 := cB hr
 have hu64 := hr.units
 have hu1 := dw hr
 have hu0 := hr.units0
 have hr__law_numbers := hr.mono (show 1 ≤ 3 by decide)
 have hr__law_all := hr.mono (show 3 ≤ 3 by decide)
 have hr__law_kinds := hr.mono (show 1 ≤ 3 by decide)
 have hr__law_fields := hr.mono (show 1 ≤ 3 by decide)
 have hr__law_raised := hr.mono (show 3 ≤ 3 by decide)
 exact (ao (iu (body := c3) (L2.passes_of rfl) rfl (g8 T.b_enumerate (bh (bg (aa ak aj)) (gw (af 0) lr (cR ak)))) (j4 (n := 2) rfl (cS (bY (i := 1) aX.nd) (cS (bY (i := 2) aX.nd) iY)) (cP (cP iR))) (ao (aJ (i := 3) aX.nd (j6 ⟨⟨_, _, _, _, G__law_numbers, hr__law_numbers, D__law_numbers.mgx, D__law_numbers.fn.kp, D__law_numbers.bd⟩⟩ hG (aa (af 2) (aa (bh ak (af 1)) (aa (bh (bh (bg (aa (iZ ak ak) (aa ak aj))) (oK (bg (aa ak aj)) ak)) (bg (aa ak (aa ak aj)))) aj))))) (ao (aJ (i := 4) aX.nd (mZ fP (oQ (own := [("_law_digit", 11)]) rfl aX.nd (show BlkOk kT (defScope cw) _ _ from bkS rfl (by decide +kernel)) (by decide) (mW (gw (af 3) (cR ak) (cR (bh ak (aq hu1 (af 3) ak))))) (fun _ _ _ _ _ => (bY (i := 11) aX.nd)) (fun _ _ _ _ _ => iX) (fun _ _ _ _ _ => (aq hu1 fP (af 11)))))) (ao (aJ (i := 5) aX.nd (lu T.b_tuple (bZ (g9 T.b_sorted T.b_set rfl (bZ (gw (af 3) (cR ak) (cR ak)) df)) df))) (ao (aJ (i := 6) aX.nd (aq hu1 (af 3) ak)) (ao (aJ (i := 7) aX.nd (j6 ⟨⟨_, _, _, _, G__law_all, hr__law_all, D__law_all.mgx, D__law_all.fn.kp, D__law_all.bd⟩⟩ hG (aa (af 5) (aa (af 6) (aa (af 4) aj))))) (ao (iu (body := eD) (L2.passes_of rfl) rfl (g8 T.b_enumerate (af 7)) (j4 (n := 2) rfl (cS (bY (i := 8) aX.nd) (cS (bY (i := 9) aX.nd) iY)) (cP (cP iR))) (ao (dC (cJ (mX hu64 (j6 ⟨⟨_, _, _, _, G__law_kinds, hr__law_kinds, D__law_kinds.mgx, D__law_kinds.fn.kp, D__law_kinds.bd⟩⟩ hG (aa (af 9) aj)) (oQ (own := [("_law_k", 12)]) rfl aX.nd (show BlkOk kT (defScope cw) _ _ from bkS rfl (by decide +kernel)) (by decide) (fO T.b_range (bZ ak df) (jo kQ)) (fun _ _ _ _ _ => (bY (i := 12) aX.nd)) (fun _ _ _ _ _ => iX) (fun _ _ _ _ _ => (oU hu64 (af 8) (af 12)))))) (aQ (bE iw)) cK) (ao (dC (g6 (g7 (cJ (mX hu64 (bM (u := .ref D_FreeError) (cv := .ref D_FreeError) O kt_FreeError (.own _) T.b_isinstance (pe_glob rfl md_FreeError rfl) (af 9)) (lx hu65 (af 8) (bg (aa ak (aa ak (aa ak aj))))))) (gu (cI (i3 (n := "ValueError") O T.ix_ValueError T.b_isinstance T.b_ValueError (by decide +kernel) (af 9)))))) (aQ (bE iw)) cK) (aQ (dC (g6 (g7 (cJ (q_lt (af 8) ak)) (gu (cJ (oR (af 8) ak))))) (aQ (dC (cI (ml O (.cons T.ix_LookupError (.cons T.ix_RuntimeError (.cons T.ix_ArithmeticError (.cons T.ix_TypeError .nil)))) (.cons (.ty "LookupError") (.cons (.ty "RuntimeError") (.cons (.ty "ArithmeticError") (.cons (.ty "TypeError") .nil)))) (by simp) T.b_isinstance (pa_cons (pe_bltn (v := .ty "LookupError") rfl T.b_LookupError (by decide +kernel) rfl (by decide) (by decide)) (pa_cons (pe_bltn (v := .ty "RuntimeError") rfl T.b_RuntimeError (by decide +kernel) rfl (by decide) (by decide)) (pa_cons (pe_bltn (v := .ty "ArithmeticError") rfl T.b_ArithmeticError (by decide +kernel) rfl (by decide) (by decide)) (pa_cons (pe_bltn (v := .ty "TypeError") rfl T.b_TypeError (by decide +kernel) rfl (by decide) (by decide)) pa_nil)))) (fun _ _ _ h => h) (af 9))) (aQ (bE iw)) cK)) cK))))) (ao (dC (cI (ml O (.cons T.ix_KeyError (.cons T.ix_IndexError .nil)) (.cons (.ty "KeyError") (.cons (.ty "IndexError") .nil)) (by simp) T.b_isinstance (pa_cons (pe_bltn (v := .ty "KeyError") rfl T.b_KeyError (by decide +kernel) rfl (by decide) (by decide)) (pa_cons (pe_bltn (v := .ty "IndexError") rfl T.b_IndexError (by decide +kernel) rfl (by decide) (by decide)) pa_nil)) (fun _ _ _ h => h) (aq hu1 (af 7) ak))) (aQ (bE iw)) cK) (ao (dC (g6 (g7 (gv (cI (i3 (n := "IndexError") O T.ix_IndexError T.b_isinstance T.b_IndexError (by decide +kernel) (aq hu1 (af 7) ak)))) (gu (gv (cI (i3 (n := "KeyError") O T.ix_KeyError T.b_isinstance T.b_KeyError (by decide +kernel) (aq hu1 (af 7) ak))))))) (aQ (bE iw)) cK) (ao (aJ (i := 10) aX.nd (bg (aa (af 5) (aa fP (aa (af 6) (aa (af 5) (aa (af 5) (aa (af 6) (aa (af 6) (aa (af 6) (aa fP (aa (af 6) (aa (af 6) (aa (af 4) aj)))))))))))))) (ao (aJ (i := 10) aX.nd (bh (af 10) (bg (aa (af 6) (aa (af 6) aj))))) (aQ (dC (g6 (g7 (cJ (mX hu64 (j6 ⟨⟨_, _, _, _, G__law_fields, hr__law_fields, D__law_fields.mgx, D__law_fields.fn.kp, D__law_fields.bd⟩⟩ hG (aa (af 7) aj)) (af 10))) (g7 (gv (cI (q_cX tk ⟨⟨_, _, _, _, G__law_raised, hr__law_raised, D__law_raised.mgx, D__law_raised.fn.kp, D__law_raised.bd⟩⟩ hG (aa (af 5) aj)))) (gu (gv (cI (i3 (n := "LookupError") O T.ix_LookupError T.b_isinstance T.b_LookupError (by decide +kernel) (aq hu1 (af 7) ak)))))))) (aQ (bE iw)) cK))))))))))))) (aQ (bE iw)))
end
set_option linter.unusedVariables false in
theorem all_mk {l : PySem.W.OpenLaw} {w : World} {K : PySem.W.Frag} {h : Heap} {mg : Str → Option Value} {fa : Addr} (X : K.In h) (G : h.Ns mainGlobals mg) (hfa : mg "law" = some (.ref fa)) (nl : gb K = true) (lt : jr ig 63)
  {C_Free : Addr} (g_Free : zM K "Free" C_Free)
  {C_NoArrows : Addr} (g_NoArrows : zM K "NoArrows" C_NoArrows)
  {C_NoDeed : Addr} (g_NoDeed : zM K "NoDeed" C_NoDeed)
  {C_NoDeeds : Addr} (g_NoDeeds : zM K "NoDeeds" C_NoDeeds)
  {C_NoHues : Addr} (g_NoHues : zM K "NoHues" C_NoHues)
  {C_NoName : Addr} (g_NoName : zM K "NoName" C_NoName)
  {C_NoOrder : Addr} (g_NoOrder : zM K "NoOrder" C_NoOrder)
  {C_NoRow : Addr} (g_NoRow : zM K "NoRow" C_NoRow)
  {C_NoRule : Addr} (g_NoRule : zM K "NoRule" C_NoRule)
  {C_NoRules : Addr} (g_NoRules : zM K "NoRules" C_NoRules)
  {C_NoSet : Addr} (g_NoSet : zM K "NoSet" C_NoSet)
  {C_NoSize : Addr} (g_NoSize : zM K "NoSize" C_NoSize)
  {C_NoText : Addr} (g_NoText : zM K "NoText" C_NoText)
  {C_NoThing : Addr} (g_NoThing : zM K "NoThing" C_NoThing)
  {C_NoWorths : Addr} (g_NoWorths : zM K "NoWorths" C_NoWorths)
  {C_NotFree : Addr} (g_NotFree : zM K "NotFree" C_NotFree)
  {C_Tied : Addr} (g_Tied : zM K "Tied" C_Tied)
  {C_TooMany : Addr} (g_TooMany : zM K "TooMany" C_TooMany)
  {C_Unlike : Addr} (g_Unlike : zM K "Unlike" C_Unlike)
  {C_FreeError : Addr} (g_FreeError : zM K "FreeError" C_FreeError)
  {f0 : Addr} (a0 : zM K "_law_numbers" f0)
  {fd0 : FuncData} (FD0 : zD K "_law_numbers" "_law_numbers" aw f0 fd0)
  {f1 : Addr} (a1 : zR K C_NoSet "__init__" f1)
  {fd1 : FuncData} (FD1 : zD K "__init__" "NoSet.__init__" aL f1 fd1)
  {f2 : Addr} (a2 : zR K C_NoRule "__init__" f2)
  {fd2 : FuncData} (FD2 : zD K "__init__" "NoRule.__init__" aH f2 fd2)
  {f3 : Addr} (a3 : zR K C_NotFree "__init__" f3)
  {fd3 : FuncData} (FD3 : zD K "__init__" "NotFree.__init__" az f3 fd3)
  {f4 : Addr} (a4 : zR K C_Free "__init__" f4)
  {fd4 : FuncData} (FD4 : zD K "__init__" "Free.__init__" aP f4 fd4)
  {f5 : Addr} (a5 : zR K C_NoSize "__init__" f5)
  {fd5 : FuncData} (FD5 : zD K "__init__" "NoSize.__init__" aG f5 fd5)
  {f6 : Addr} (a6 : zR K C_NoRules "__init__" f6)
  {fd6 : FuncData} (FD6 : zD K "__init__" "NoRules.__init__" aB f6 fd6)
  {f7 : Addr} (a7 : zR K C_Tied "__init__" f7)
  {fd7 : FuncData} (FD7 : zD K "__init__" "Tied.__init__" aO f7 fd7)
  {f8 : Addr} (a8 : zR K C_NoArrows "__init__" f8)
  {fd8 : FuncData} (FD8 : zD K "__init__" "NoArrows.__init__" av f8 fd8)
  {f9 : Addr} (a9 : zR K C_NoText "__init__" f9)
  {fd9 : FuncData} (FD9 : zD K "__init__" "NoText.__init__" aF f9 fd9)
  {f10 : Addr} (a10 : zR K C_TooMany "__init__" f10)
  {fd10 : FuncData} (FD10 : zD K "__init__" "TooMany.__init__" ay f10 fd10)
  {f11 : Addr} (a11 : zR K C_NoThing "__init__" f11)
  {fd11 : FuncData} (FD11 : zD K "__init__" "NoThing.__init__" aA f11 fd11)
  {f12 : Addr} (a12 : zR K C_NoName "__init__" f12)
  {fd12 : FuncData} (FD12 : zD K "__init__" "NoName.__init__" aI f12 fd12)
  {f13 : Addr} (a13 : zR K C_NoDeeds "__init__" f13)
  {fd13 : FuncData} (FD13 : zD K "__init__" "NoDeeds.__init__" aC f13 fd13)
  {f14 : Addr} (a14 : zM K "_law_all" f14)
  {fd14 : FuncData} (FD14 : zD K "_law_all" "_law_all" aT f14 fd14)
  {f15 : Addr} (a15 : zM K "_law_kinds" f15)
  {fd15 : FuncData} (FD15 : zD K "_law_kinds" "_law_kinds" aK f15 fd15)
  {f16 : Addr} (a16 : zM K "_law_fields" f16)
  {fd16 : FuncData} (FD16 : zD K "_law_fields" "_law_fields" aE f16 fd16)
  {f17 : Addr} (a17 : zM K "_law_raised" f17)
  {fd17 : FuncData} (FD17 : zD K "_law_raised" "_law_raised" aD f17 fd17)
  {f18 : Addr} (a18 : zM K "law" f18)
  {fd18 : FuncData} (FD18 : zD K "law" "law" cw f18 fd18)
  (hn0 : PySem.W.specialIn K (.builtin "object.__class__") "__get__" = some (some (.builtin "getset_descriptor.__get__")))
  (ht0 : PySem.W.takesIn K (.builtin "object.__class__") = some true)
  (e1_NoDeed : zB K C_NoDeed "__getattribute__" "BaseException.__getattribute__")
  (e2_NoDeed : zN K C_NoDeed "__getattr__")
  (e3_NoDeed : PySem.W.subIn K (.ref C_NoDeed) (.type "BaseException") = some true)
  (e4_NoDeed : PySem.W.hasDictIn K C_NoDeed = true)
  (e5_NoDeed : zB K C_NoDeed "__class__" "object.__class__")
  (e6_NoDeed : PySem.W.mroIn K C_NoDeed (.type "object") = some true)
  (e7_NoDeed : PySem.W.excIn K C_NoDeed [.type "LookupError", .type "Exception", .type "BaseException", .type "object"] "LookupError.__new__" = true)
  (e10_NoDeed : PySem.W.typeIn K (.ref C_NoDeed) = some (.type "type"))
  (e11_NoDeed : PySem.W.keepIn K (.ref C_NoDeed) = true)
  (nx_many_NoDeed : zN K C_NoDeed "many")
  (nx_name_NoDeed : zN K C_NoDeed "name")
  (nx_number_NoDeed : zN K C_NoDeed "number")
  (nx_part_NoDeed : zN K C_NoDeed "part")
  (nx_row_NoDeed : zN K C_NoDeed "row")
  (nx_size_NoDeed : zN K C_NoDeed "size")
  (nx_thing_NoDeed : zN K C_NoDeed "thing")
  (nx_things_NoDeed : zN K C_NoDeed "things")
  (e1_NoHues : zB K C_NoHues "__getattribute__" "BaseException.__getattribute__")
  (e2_NoHues : zN K C_NoHues "__getattr__")
  (e3_NoHues : PySem.W.subIn K (.ref C_NoHues) (.type "BaseException") = some true)
  (e4_NoHues : PySem.W.hasDictIn K C_NoHues = true)
  (e5_NoHues : zB K C_NoHues "__class__" "object.__class__")
  (e6_NoHues : PySem.W.mroIn K C_NoHues (.type "object") = some true)
  (e7_NoHues : PySem.W.excIn K C_NoHues [.type "Exception", .type "BaseException", .type "object"] "Exception.__new__" = true)
  (e10_NoHues : PySem.W.typeIn K (.ref C_NoHues) = some (.type "type"))
  (e11_NoHues : PySem.W.keepIn K (.ref C_NoHues) = true)
  (nx_many_NoHues : zN K C_NoHues "many")
  (nx_name_NoHues : zN K C_NoHues "name")
  (nx_number_NoHues : zN K C_NoHues "number")
  (nx_part_NoHues : zN K C_NoHues "part")
  (nx_row_NoHues : zN K C_NoHues "row")
  (nx_size_NoHues : zN K C_NoHues "size")
  (nx_thing_NoHues : zN K C_NoHues "thing")
  (nx_things_NoHues : zN K C_NoHues "things")
  (e1_NoOrder : zB K C_NoOrder "__getattribute__" "BaseException.__getattribute__")
  (e2_NoOrder : zN K C_NoOrder "__getattr__")
  (e3_NoOrder : PySem.W.subIn K (.ref C_NoOrder) (.type "BaseException") = some true)
  (e4_NoOrder : PySem.W.hasDictIn K C_NoOrder = true)
  (e5_NoOrder : zB K C_NoOrder "__class__" "object.__class__")
  (e6_NoOrder : PySem.W.mroIn K C_NoOrder (.type "object") = some true)
  (e7_NoOrder : PySem.W.excIn K C_NoOrder [.type "Exception", .type "BaseException", .type "object"] "Exception.__new__" = true)
  (e10_NoOrder : PySem.W.typeIn K (.ref C_NoOrder) = some (.type "type"))
  (e11_NoOrder : PySem.W.keepIn K (.ref C_NoOrder) = true)
  (nx_many_NoOrder : zN K C_NoOrder "many")
  (nx_name_NoOrder : zN K C_NoOrder "name")
  (nx_number_NoOrder : zN K C_NoOrder "number")
  (nx_part_NoOrder : zN K C_NoOrder "part")
  (nx_row_NoOrder : zN K C_NoOrder "row")
  (nx_size_NoOrder : zN K C_NoOrder "size")
  (nx_thing_NoOrder : zN K C_NoOrder "thing")
  (nx_things_NoOrder : zN K C_NoOrder "things")
  (e1_NoRow : zB K C_NoRow "__getattribute__" "BaseException.__getattribute__")
  (e2_NoRow : zN K C_NoRow "__getattr__")
  (e3_NoRow : PySem.W.subIn K (.ref C_NoRow) (.type "BaseException") = some true)
  (e4_NoRow : PySem.W.hasDictIn K C_NoRow = true)
  (e5_NoRow : zB K C_NoRow "__class__" "object.__class__")
  (e6_NoRow : PySem.W.mroIn K C_NoRow (.type "object") = some true)
  (e7_NoRow : PySem.W.excIn K C_NoRow [.type "Exception", .type "BaseException", .type "object"] "Exception.__new__" = true)
  (e10_NoRow : PySem.W.typeIn K (.ref C_NoRow) = some (.type "type"))
  (e11_NoRow : PySem.W.keepIn K (.ref C_NoRow) = true)
  (nx_many_NoRow : zN K C_NoRow "many")
  (nx_name_NoRow : zN K C_NoRow "name")
  (nx_number_NoRow : zN K C_NoRow "number")
  (nx_part_NoRow : zN K C_NoRow "part")
  (nx_row_NoRow : zN K C_NoRow "row")
  (nx_size_NoRow : zN K C_NoRow "size")
  (nx_thing_NoRow : zN K C_NoRow "thing")
  (nx_things_NoRow : zN K C_NoRow "things")
  (e1_NoWorths : zB K C_NoWorths "__getattribute__" "BaseException.__getattribute__")
  (e2_NoWorths : zN K C_NoWorths "__getattr__")
  (e3_NoWorths : PySem.W.subIn K (.ref C_NoWorths) (.type "BaseException") = some true)
  (e4_NoWorths : PySem.W.hasDictIn K C_NoWorths = true)
  (e5_NoWorths : zB K C_NoWorths "__class__" "object.__class__")
  (e6_NoWorths : PySem.W.mroIn K C_NoWorths (.type "object") = some true)
  (e7_NoWorths : PySem.W.excIn K C_NoWorths [.type "Exception", .type "BaseException", .type "object"] "Exception.__new__" = true)
  (e10_NoWorths : PySem.W.typeIn K (.ref C_NoWorths) = some (.type "type"))
  (e11_NoWorths : PySem.W.keepIn K (.ref C_NoWorths) = true)
  (nx_many_NoWorths : zN K C_NoWorths "many")
  (nx_name_NoWorths : zN K C_NoWorths "name")
  (nx_number_NoWorths : zN K C_NoWorths "number")
  (nx_part_NoWorths : zN K C_NoWorths "part")
  (nx_row_NoWorths : zN K C_NoWorths "row")
  (nx_size_NoWorths : zN K C_NoWorths "size")
  (nx_thing_NoWorths : zN K C_NoWorths "thing")
  (nx_things_NoWorths : zN K C_NoWorths "things")
  (e1_Unlike : zB K C_Unlike "__getattribute__" "BaseException.__getattribute__")
  (e2_Unlike : zN K C_Unlike "__getattr__")
  (e3_Unlike : PySem.W.subIn K (.ref C_Unlike) (.type "BaseException") = some true)
  (e4_Unlike : PySem.W.hasDictIn K C_Unlike = true)
  (e5_Unlike : zB K C_Unlike "__class__" "object.__class__")
  (e6_Unlike : PySem.W.mroIn K C_Unlike (.type "object") = some true)
  (e7_Unlike : PySem.W.excIn K C_Unlike [.type "Exception", .type "BaseException", .type "object"] "Exception.__new__" = true)
  (e10_Unlike : PySem.W.typeIn K (.ref C_Unlike) = some (.type "type"))
  (e11_Unlike : PySem.W.keepIn K (.ref C_Unlike) = true)
  (nx_many_Unlike : zN K C_Unlike "many")
  (nx_name_Unlike : zN K C_Unlike "name")
  (nx_number_Unlike : zN K C_Unlike "number")
  (nx_part_Unlike : zN K C_Unlike "part")
  (nx_row_Unlike : zN K C_Unlike "row")
  (nx_size_Unlike : zN K C_Unlike "size")
  (nx_thing_Unlike : zN K C_Unlike "thing")
  (nx_things_Unlike : zN K C_Unlike "things")
  (e1_Free : zB K C_Free "__getattribute__" "BaseException.__getattribute__")
  (e2_Free : zN K C_Free "__getattr__")
  (e3_Free : PySem.W.subIn K (.ref C_Free) (.type "BaseException") = some true)
  (e4_Free : PySem.W.hasDictIn K C_Free = true)
  (e5_Free : zB K C_Free "__class__" "object.__class__")
  (e6_Free : PySem.W.mroIn K C_Free (.type "object") = some true)
  (e7_Free : PySem.W.excInitIn K C_Free [.type "Exception", .type "BaseException", .type "object"] "Exception.__new__" = true)
  (e8_Free : PySem.W.excOver K C_Free [.type "Exception", .type "BaseException", .type "object"] = true)
  (e9_Free : zB K C_Free "__setattr__" "object.__setattr__")
  (e10_Free : PySem.W.typeIn K (.ref C_Free) = some (.type "type"))
  (e11_Free : PySem.W.keepIn K (.ref C_Free) = true)
  (e12_Free : PySem.W.typeIn K (.ref f4) = some (.type "function"))
  (e13_Free : PySem.W.readsIn K C_FreeError (.type "type") = true)
  (e14_Free : PySem.W.specialIn K (.ref C_FreeError) "__getattribute__" = some (some (.builtin "type.__getattribute__")))
  (e15_Free : PySem.W.findCls K (.ref C_FreeError) (.type "type") "__init__" = some (.val (.builtin "Exception.__init__")))
  (nx_many_Free : zN K C_Free "many")
  (nx_name_Free : zN K C_Free "name")
  (nx_number_Free : zN K C_Free "number")
  (nx_part_Free : zN K C_Free "part")
  (nx_row_Free : zN K C_Free "row")
  (nx_size_Free : zN K C_Free "size")
  (nx_thing_Free : zN K C_Free "thing")
  (nx_things_Free : zN K C_Free "things")
  (ef0_Free : zN K C_Free "things")
  (e1_NoArrows : zB K C_NoArrows "__getattribute__" "BaseException.__getattribute__")
  (e2_NoArrows : zN K C_NoArrows "__getattr__")
  (e3_NoArrows : PySem.W.subIn K (.ref C_NoArrows) (.type "BaseException") = some true)
  (e4_NoArrows : PySem.W.hasDictIn K C_NoArrows = true)
  (e5_NoArrows : zB K C_NoArrows "__class__" "object.__class__")
  (e6_NoArrows : PySem.W.mroIn K C_NoArrows (.type "object") = some true)
  (e7_NoArrows : PySem.W.excInitIn K C_NoArrows [.type "Exception", .type "BaseException", .type "object"] "Exception.__new__" = true)
  (e8_NoArrows : PySem.W.excOver K C_NoArrows [.type "Exception", .type "BaseException", .type "object"] = true)
  (e9_NoArrows : zB K C_NoArrows "__setattr__" "object.__setattr__")
  (e10_NoArrows : PySem.W.typeIn K (.ref C_NoArrows) = some (.type "type"))
  (e11_NoArrows : PySem.W.keepIn K (.ref C_NoArrows) = true)
  (e12_NoArrows : PySem.W.typeIn K (.ref f8) = some (.type "function"))
  (e13_NoArrows : PySem.W.readsIn K C_FreeError (.type "type") = true)
  (e14_NoArrows : PySem.W.specialIn K (.ref C_FreeError) "__getattribute__" = some (some (.builtin "type.__getattribute__")))
  (e15_NoArrows : PySem.W.findCls K (.ref C_FreeError) (.type "type") "__init__" = some (.val (.builtin "Exception.__init__")))
  (nx_many_NoArrows : zN K C_NoArrows "many")
  (nx_name_NoArrows : zN K C_NoArrows "name")
  (nx_number_NoArrows : zN K C_NoArrows "number")
  (nx_part_NoArrows : zN K C_NoArrows "part")
  (nx_row_NoArrows : zN K C_NoArrows "row")
  (nx_size_NoArrows : zN K C_NoArrows "size")
  (nx_thing_NoArrows : zN K C_NoArrows "thing")
  (nx_things_NoArrows : zN K C_NoArrows "things")
  (ef0_NoArrows : zN K C_NoArrows "part")
  (e1_NoDeeds : zB K C_NoDeeds "__getattribute__" "BaseException.__getattribute__")
  (e2_NoDeeds : zN K C_NoDeeds "__getattr__")
  (e3_NoDeeds : PySem.W.subIn K (.ref C_NoDeeds) (.type "BaseException") = some true)
  (e4_NoDeeds : PySem.W.hasDictIn K C_NoDeeds = true)
  (e5_NoDeeds : zB K C_NoDeeds "__class__" "object.__class__")
  (e6_NoDeeds : PySem.W.mroIn K C_NoDeeds (.type "object") = some true)
  (e7_NoDeeds : PySem.W.excInitIn K C_NoDeeds [.type "Exception", .type "BaseException", .type "object"] "Exception.__new__" = true)
  (e8_NoDeeds : PySem.W.excOver K C_NoDeeds [.type "Exception", .type "BaseException", .type "object"] = true)
  (e9_NoDeeds : zB K C_NoDeeds "__setattr__" "object.__setattr__")
  (e10_NoDeeds : PySem.W.typeIn K (.ref C_NoDeeds) = some (.type "type"))
  (e11_NoDeeds : PySem.W.keepIn K (.ref C_NoDeeds) = true)
  (e12_NoDeeds : PySem.W.typeIn K (.ref f13) = some (.type "function"))
  (e13_NoDeeds : PySem.W.readsIn K C_FreeError (.type "type") = true)
  (e14_NoDeeds : PySem.W.specialIn K (.ref C_FreeError) "__getattribute__" = some (some (.builtin "type.__getattribute__")))
  (e15_NoDeeds : PySem.W.findCls K (.ref C_FreeError) (.type "type") "__init__" = some (.val (.builtin "Exception.__init__")))
  (nx_many_NoDeeds : zN K C_NoDeeds "many")
  (nx_name_NoDeeds : zN K C_NoDeeds "name")
  (nx_number_NoDeeds : zN K C_NoDeeds "number")
  (nx_part_NoDeeds : zN K C_NoDeeds "part")
  (nx_row_NoDeeds : zN K C_NoDeeds "row")
  (nx_size_NoDeeds : zN K C_NoDeeds "size")
  (nx_thing_NoDeeds : zN K C_NoDeeds "thing")
  (nx_things_NoDeeds : zN K C_NoDeeds "things")
  (ef0_NoDeeds : zN K C_NoDeeds "number")
  (e1_NoName : zB K C_NoName "__getattribute__" "BaseException.__getattribute__")
  (e2_NoName : zN K C_NoName "__getattr__")
  (e3_NoName : PySem.W.subIn K (.ref C_NoName) (.type "BaseException") = some true)
  (e4_NoName : PySem.W.hasDictIn K C_NoName = true)
  (e5_NoName : zB K C_NoName "__class__" "object.__class__")
  (e6_NoName : PySem.W.mroIn K C_NoName (.type "object") = some true)
  (e7_NoName : PySem.W.excInitIn K C_NoName [.type "KeyError", .type "LookupError", .type "Exception", .type "BaseException", .type "object"] "LookupError.__new__" = true)
  (e8_NoName : PySem.W.excOver K C_NoName [.type "KeyError", .type "LookupError", .type "Exception", .type "BaseException", .type "object"] = true)
  (e9_NoName : zB K C_NoName "__setattr__" "object.__setattr__")
  (e10_NoName : PySem.W.typeIn K (.ref C_NoName) = some (.type "type"))
  (e11_NoName : PySem.W.keepIn K (.ref C_NoName) = true)
  (e12_NoName : PySem.W.typeIn K (.ref f12) = some (.type "function"))
  (e13_NoName : PySem.W.nsIn K mainGlobals "KeyError" = some none)
  (e15_NoName : PySem.W.findCls K (.type "KeyError") (.type "type") "__init__" = some (.val (.builtin "KeyError.__init__")))
  (nx_many_NoName : zN K C_NoName "many")
  (nx_name_NoName : zN K C_NoName "name")
  (nx_number_NoName : zN K C_NoName "number")
  (nx_part_NoName : zN K C_NoName "part")
  (nx_row_NoName : zN K C_NoName "row")
  (nx_size_NoName : zN K C_NoName "size")
  (nx_thing_NoName : zN K C_NoName "thing")
  (nx_things_NoName : zN K C_NoName "things")
  (ef0_NoName : zN K C_NoName "name")
  (e1_NoRule : zB K C_NoRule "__getattribute__" "BaseException.__getattribute__")
  (e2_NoRule : zN K C_NoRule "__getattr__")
  (e3_NoRule : PySem.W.subIn K (.ref C_NoRule) (.type "BaseException") = some true)
  (e4_NoRule : PySem.W.hasDictIn K C_NoRule = true)
  (e5_NoRule : zB K C_NoRule "__class__" "object.__class__")
  (e6_NoRule : PySem.W.mroIn K C_NoRule (.type "object") = some true)
  (e7_NoRule : PySem.W.excInitIn K C_NoRule [.type "Exception", .type "BaseException", .type "object"] "Exception.__new__" = true)
  (e8_NoRule : PySem.W.excOver K C_NoRule [.type "Exception", .type "BaseException", .type "object"] = true)
  (e9_NoRule : zB K C_NoRule "__setattr__" "object.__setattr__")
  (e10_NoRule : PySem.W.typeIn K (.ref C_NoRule) = some (.type "type"))
  (e11_NoRule : PySem.W.keepIn K (.ref C_NoRule) = true)
  (e12_NoRule : PySem.W.typeIn K (.ref f2) = some (.type "function"))
  (e13_NoRule : PySem.W.readsIn K C_FreeError (.type "type") = true)
  (e14_NoRule : PySem.W.specialIn K (.ref C_FreeError) "__getattribute__" = some (some (.builtin "type.__getattribute__")))
  (e15_NoRule : PySem.W.findCls K (.ref C_FreeError) (.type "type") "__init__" = some (.val (.builtin "Exception.__init__")))
  (nx_many_NoRule : zN K C_NoRule "many")
  (nx_name_NoRule : zN K C_NoRule "name")
  (nx_number_NoRule : zN K C_NoRule "number")
  (nx_part_NoRule : zN K C_NoRule "part")
  (nx_row_NoRule : zN K C_NoRule "row")
  (nx_size_NoRule : zN K C_NoRule "size")
  (nx_thing_NoRule : zN K C_NoRule "thing")
  (nx_things_NoRule : zN K C_NoRule "things")
  (ef0_NoRule : zN K C_NoRule "part")
  (ef1_NoRule : zN K C_NoRule "number")
  (e1_NoRules : zB K C_NoRules "__getattribute__" "BaseException.__getattribute__")
  (e2_NoRules : zN K C_NoRules "__getattr__")
  (e3_NoRules : PySem.W.subIn K (.ref C_NoRules) (.type "BaseException") = some true)
  (e4_NoRules : PySem.W.hasDictIn K C_NoRules = true)
  (e5_NoRules : zB K C_NoRules "__class__" "object.__class__")
  (e6_NoRules : PySem.W.mroIn K C_NoRules (.type "object") = some true)
  (e7_NoRules : PySem.W.excInitIn K C_NoRules [.type "Exception", .type "BaseException", .type "object"] "Exception.__new__" = true)
  (e8_NoRules : PySem.W.excOver K C_NoRules [.type "Exception", .type "BaseException", .type "object"] = true)
  (e9_NoRules : zB K C_NoRules "__setattr__" "object.__setattr__")
  (e10_NoRules : PySem.W.typeIn K (.ref C_NoRules) = some (.type "type"))
  (e11_NoRules : PySem.W.keepIn K (.ref C_NoRules) = true)
  (e12_NoRules : PySem.W.typeIn K (.ref f6) = some (.type "function"))
  (e13_NoRules : PySem.W.readsIn K C_FreeError (.type "type") = true)
  (e14_NoRules : PySem.W.specialIn K (.ref C_FreeError) "__getattribute__" = some (some (.builtin "type.__getattribute__")))
  (e15_NoRules : PySem.W.findCls K (.ref C_FreeError) (.type "type") "__init__" = some (.val (.builtin "Exception.__init__")))
  (nx_many_NoRules : zN K C_NoRules "many")
  (nx_name_NoRules : zN K C_NoRules "name")
  (nx_number_NoRules : zN K C_NoRules "number")
  (nx_part_NoRules : zN K C_NoRules "part")
  (nx_row_NoRules : zN K C_NoRules "row")
  (nx_size_NoRules : zN K C_NoRules "size")
  (nx_thing_NoRules : zN K C_NoRules "thing")
  (nx_things_NoRules : zN K C_NoRules "things")
  (ef0_NoRules : zN K C_NoRules "number")
  (e1_NoSet : zB K C_NoSet "__getattribute__" "BaseException.__getattribute__")
  (e2_NoSet : zN K C_NoSet "__getattr__")
  (e3_NoSet : PySem.W.subIn K (.ref C_NoSet) (.type "BaseException") = some true)
  (e4_NoSet : PySem.W.hasDictIn K C_NoSet = true)
  (e5_NoSet : zB K C_NoSet "__class__" "object.__class__")
  (e6_NoSet : PySem.W.mroIn K C_NoSet (.type "object") = some true)
  (e7_NoSet : PySem.W.excInitIn K C_NoSet [.type "Exception", .type "BaseException", .type "object"] "Exception.__new__" = true)
  (e8_NoSet : PySem.W.excOver K C_NoSet [.type "Exception", .type "BaseException", .type "object"] = true)
  (e9_NoSet : zB K C_NoSet "__setattr__" "object.__setattr__")
  (e10_NoSet : PySem.W.typeIn K (.ref C_NoSet) = some (.type "type"))
  (e11_NoSet : PySem.W.keepIn K (.ref C_NoSet) = true)
  (e12_NoSet : PySem.W.typeIn K (.ref f1) = some (.type "function"))
  (e13_NoSet : PySem.W.readsIn K C_FreeError (.type "type") = true)
  (e14_NoSet : PySem.W.specialIn K (.ref C_FreeError) "__getattribute__" = some (some (.builtin "type.__getattribute__")))
  (e15_NoSet : PySem.W.findCls K (.ref C_FreeError) (.type "type") "__init__" = some (.val (.builtin "Exception.__init__")))
  (nx_many_NoSet : zN K C_NoSet "many")
  (nx_name_NoSet : zN K C_NoSet "name")
  (nx_number_NoSet : zN K C_NoSet "number")
  (nx_part_NoSet : zN K C_NoSet "part")
  (nx_row_NoSet : zN K C_NoSet "row")
  (nx_size_NoSet : zN K C_NoSet "size")
  (nx_thing_NoSet : zN K C_NoSet "thing")
  (nx_things_NoSet : zN K C_NoSet "things")
  (ef0_NoSet : zN K C_NoSet "thing")
  (e1_NoSize : zB K C_NoSize "__getattribute__" "BaseException.__getattribute__")
  (e2_NoSize : zN K C_NoSize "__getattr__")
  (e3_NoSize : PySem.W.subIn K (.ref C_NoSize) (.type "BaseException") = some true)
  (e4_NoSize : PySem.W.hasDictIn K C_NoSize = true)
  (e5_NoSize : zB K C_NoSize "__class__" "object.__class__")
  (e6_NoSize : PySem.W.mroIn K C_NoSize (.type "object") = some true)
  (e7_NoSize : PySem.W.excInitIn K C_NoSize [.type "Exception", .type "BaseException", .type "object"] "Exception.__new__" = true)
  (e8_NoSize : PySem.W.excOver K C_NoSize [.type "Exception", .type "BaseException", .type "object"] = true)
  (e9_NoSize : zB K C_NoSize "__setattr__" "object.__setattr__")
  (e10_NoSize : PySem.W.typeIn K (.ref C_NoSize) = some (.type "type"))
  (e11_NoSize : PySem.W.keepIn K (.ref C_NoSize) = true)
  (e12_NoSize : PySem.W.typeIn K (.ref f5) = some (.type "function"))
  (e13_NoSize : PySem.W.readsIn K C_FreeError (.type "type") = true)
  (e14_NoSize : PySem.W.specialIn K (.ref C_FreeError) "__getattribute__" = some (some (.builtin "type.__getattribute__")))
  (e15_NoSize : PySem.W.findCls K (.ref C_FreeError) (.type "type") "__init__" = some (.val (.builtin "Exception.__init__")))
  (nx_many_NoSize : zN K C_NoSize "many")
  (nx_name_NoSize : zN K C_NoSize "name")
  (nx_number_NoSize : zN K C_NoSize "number")
  (nx_part_NoSize : zN K C_NoSize "part")
  (nx_row_NoSize : zN K C_NoSize "row")
  (nx_size_NoSize : zN K C_NoSize "size")
  (nx_thing_NoSize : zN K C_NoSize "thing")
  (nx_things_NoSize : zN K C_NoSize "things")
  (ef0_NoSize : zN K C_NoSize "size")
  (e1_NoText : zB K C_NoText "__getattribute__" "BaseException.__getattribute__")
  (e2_NoText : zN K C_NoText "__getattr__")
  (e3_NoText : PySem.W.subIn K (.ref C_NoText) (.type "BaseException") = some true)
  (e4_NoText : PySem.W.hasDictIn K C_NoText = true)
  (e5_NoText : zB K C_NoText "__class__" "object.__class__")
  (e6_NoText : PySem.W.mroIn K C_NoText (.type "object") = some true)
  (e7_NoText : PySem.W.excInitIn K C_NoText [.type "Exception", .type "BaseException", .type "object"] "Exception.__new__" = true)
  (e8_NoText : PySem.W.excOver K C_NoText [.type "Exception", .type "BaseException", .type "object"] = true)
  (e9_NoText : zB K C_NoText "__setattr__" "object.__setattr__")
  (e10_NoText : PySem.W.typeIn K (.ref C_NoText) = some (.type "type"))
  (e11_NoText : PySem.W.keepIn K (.ref C_NoText) = true)
  (e12_NoText : PySem.W.typeIn K (.ref f9) = some (.type "function"))
  (e13_NoText : PySem.W.readsIn K C_FreeError (.type "type") = true)
  (e14_NoText : PySem.W.specialIn K (.ref C_FreeError) "__getattribute__" = some (some (.builtin "type.__getattribute__")))
  (e15_NoText : PySem.W.findCls K (.ref C_FreeError) (.type "type") "__init__" = some (.val (.builtin "Exception.__init__")))
  (nx_many_NoText : zN K C_NoText "many")
  (nx_name_NoText : zN K C_NoText "name")
  (nx_number_NoText : zN K C_NoText "number")
  (nx_part_NoText : zN K C_NoText "part")
  (nx_row_NoText : zN K C_NoText "row")
  (nx_size_NoText : zN K C_NoText "size")
  (nx_thing_NoText : zN K C_NoText "thing")
  (nx_things_NoText : zN K C_NoText "things")
  (ef0_NoText : zN K C_NoText "row")
  (e1_NoThing : zB K C_NoThing "__getattribute__" "BaseException.__getattribute__")
  (e2_NoThing : zN K C_NoThing "__getattr__")
  (e3_NoThing : PySem.W.subIn K (.ref C_NoThing) (.type "BaseException") = some true)
  (e4_NoThing : PySem.W.hasDictIn K C_NoThing = true)
  (e5_NoThing : zB K C_NoThing "__class__" "object.__class__")
  (e6_NoThing : PySem.W.mroIn K C_NoThing (.type "object") = some true)
  (e7_NoThing : PySem.W.excInitIn K C_NoThing [.type "IndexError", .type "LookupError", .type "Exception", .type "BaseException", .type "object"] "IndexError.__new__" = true)
  (e8_NoThing : PySem.W.excOver K C_NoThing [.type "IndexError", .type "LookupError", .type "Exception", .type "BaseException", .type "object"] = true)
  (e9_NoThing : zB K C_NoThing "__setattr__" "object.__setattr__")
  (e10_NoThing : PySem.W.typeIn K (.ref C_NoThing) = some (.type "type"))
  (e11_NoThing : PySem.W.keepIn K (.ref C_NoThing) = true)
  (e12_NoThing : PySem.W.typeIn K (.ref f11) = some (.type "function"))
  (e13_NoThing : PySem.W.nsIn K mainGlobals "IndexError" = some none)
  (e15_NoThing : PySem.W.findCls K (.type "IndexError") (.type "type") "__init__" = some (.val (.builtin "IndexError.__init__")))
  (nx_many_NoThing : zN K C_NoThing "many")
  (nx_name_NoThing : zN K C_NoThing "name")
  (nx_number_NoThing : zN K C_NoThing "number")
  (nx_part_NoThing : zN K C_NoThing "part")
  (nx_row_NoThing : zN K C_NoThing "row")
  (nx_size_NoThing : zN K C_NoThing "size")
  (nx_thing_NoThing : zN K C_NoThing "thing")
  (nx_things_NoThing : zN K C_NoThing "things")
  (ef0_NoThing : zN K C_NoThing "thing")
  (e1_NotFree : zB K C_NotFree "__getattribute__" "BaseException.__getattribute__")
  (e2_NotFree : zN K C_NotFree "__getattr__")
  (e3_NotFree : PySem.W.subIn K (.ref C_NotFree) (.type "BaseException") = some true)
  (e4_NotFree : PySem.W.hasDictIn K C_NotFree = true)
  (e5_NotFree : zB K C_NotFree "__class__" "object.__class__")
  (e6_NotFree : PySem.W.mroIn K C_NotFree (.type "object") = some true)
  (e7_NotFree : PySem.W.excInitIn K C_NotFree [.type "Exception", .type "BaseException", .type "object"] "Exception.__new__" = true)
  (e8_NotFree : PySem.W.excOver K C_NotFree [.type "Exception", .type "BaseException", .type "object"] = true)
  (e9_NotFree : zB K C_NotFree "__setattr__" "object.__setattr__")
  (e10_NotFree : PySem.W.typeIn K (.ref C_NotFree) = some (.type "type"))
  (e11_NotFree : PySem.W.keepIn K (.ref C_NotFree) = true)
  (e12_NotFree : PySem.W.typeIn K (.ref f3) = some (.type "function"))
  (e13_NotFree : PySem.W.readsIn K C_FreeError (.type "type") = true)
  (e14_NotFree : PySem.W.specialIn K (.ref C_FreeError) "__getattribute__" = some (some (.builtin "type.__getattribute__")))
  (e15_NotFree : PySem.W.findCls K (.ref C_FreeError) (.type "type") "__init__" = some (.val (.builtin "Exception.__init__")))
  (nx_many_NotFree : zN K C_NotFree "many")
  (nx_name_NotFree : zN K C_NotFree "name")
  (nx_number_NotFree : zN K C_NotFree "number")
  (nx_part_NotFree : zN K C_NotFree "part")
  (nx_row_NotFree : zN K C_NotFree "row")
  (nx_size_NotFree : zN K C_NotFree "size")
  (nx_thing_NotFree : zN K C_NotFree "thing")
  (nx_things_NotFree : zN K C_NotFree "things")
  (ef0_NotFree : zN K C_NotFree "things")
  (e1_Tied : zB K C_Tied "__getattribute__" "BaseException.__getattribute__")
  (e2_Tied : zN K C_Tied "__getattr__")
  (e3_Tied : PySem.W.subIn K (.ref C_Tied) (.type "BaseException") = some true)
  (e4_Tied : PySem.W.hasDictIn K C_Tied = true)
  (e5_Tied : zB K C_Tied "__class__" "object.__class__")
  (e6_Tied : PySem.W.mroIn K C_Tied (.type "object") = some true)
  (e7_Tied : PySem.W.excInitIn K C_Tied [.type "Exception", .type "BaseException", .type "object"] "Exception.__new__" = true)
  (e8_Tied : PySem.W.excOver K C_Tied [.type "Exception", .type "BaseException", .type "object"] = true)
  (e9_Tied : zB K C_Tied "__setattr__" "object.__setattr__")
  (e10_Tied : PySem.W.typeIn K (.ref C_Tied) = some (.type "type"))
  (e11_Tied : PySem.W.keepIn K (.ref C_Tied) = true)
  (e12_Tied : PySem.W.typeIn K (.ref f7) = some (.type "function"))
  (e13_Tied : PySem.W.readsIn K C_FreeError (.type "type") = true)
  (e14_Tied : PySem.W.specialIn K (.ref C_FreeError) "__getattribute__" = some (some (.builtin "type.__getattribute__")))
  (e15_Tied : PySem.W.findCls K (.ref C_FreeError) (.type "type") "__init__" = some (.val (.builtin "Exception.__init__")))
  (nx_many_Tied : zN K C_Tied "many")
  (nx_name_Tied : zN K C_Tied "name")
  (nx_number_Tied : zN K C_Tied "number")
  (nx_part_Tied : zN K C_Tied "part")
  (nx_row_Tied : zN K C_Tied "row")
  (nx_size_Tied : zN K C_Tied "size")
  (nx_thing_Tied : zN K C_Tied "thing")
  (nx_things_Tied : zN K C_Tied "things")
  (ef0_Tied : zN K C_Tied "thing")
  (e1_TooMany : zB K C_TooMany "__getattribute__" "BaseException.__getattribute__")
  (e2_TooMany : zN K C_TooMany "__getattr__")
  (e3_TooMany : PySem.W.subIn K (.ref C_TooMany) (.type "BaseException") = some true)
  (e4_TooMany : PySem.W.hasDictIn K C_TooMany = true)
  (e5_TooMany : zB K C_TooMany "__class__" "object.__class__")
  (e6_TooMany : PySem.W.mroIn K C_TooMany (.type "object") = some true)
  (e7_TooMany : PySem.W.excInitIn K C_TooMany [.type "Exception", .type "BaseException", .type "object"] "Exception.__new__" = true)
  (e8_TooMany : PySem.W.excOver K C_TooMany [.type "Exception", .type "BaseException", .type "object"] = true)
  (e9_TooMany : zB K C_TooMany "__setattr__" "object.__setattr__")
  (e10_TooMany : PySem.W.typeIn K (.ref C_TooMany) = some (.type "type"))
  (e11_TooMany : PySem.W.keepIn K (.ref C_TooMany) = true)
  (e12_TooMany : PySem.W.typeIn K (.ref f10) = some (.type "function"))
  (e13_TooMany : PySem.W.readsIn K C_FreeError (.type "type") = true)
  (e14_TooMany : PySem.W.specialIn K (.ref C_FreeError) "__getattribute__" = some (some (.builtin "type.__getattribute__")))
  (e15_TooMany : PySem.W.findCls K (.ref C_FreeError) (.type "type") "__init__" = some (.val (.builtin "Exception.__init__")))
  (nx_many_TooMany : zN K C_TooMany "many")
  (nx_name_TooMany : zN K C_TooMany "name")
  (nx_number_TooMany : zN K C_TooMany "number")
  (nx_part_TooMany : zN K C_TooMany "part")
  (nx_row_TooMany : zN K C_TooMany "row")
  (nx_size_TooMany : zN K C_TooMany "size")
  (nx_thing_TooMany : zN K C_TooMany "thing")
  (nx_things_TooMany : zN K C_TooMany "things")
  (ef0_TooMany : zN K C_TooMany "many")
  (t00_Free : PySem.W.kitOne K (.type "NoneType") (.ref C_Free) = some false)
  (t01_Free : PySem.W.kitOne K (.type "bool") (.ref C_Free) = some false)
  (t02_Free : PySem.W.kitOne K (.type "int") (.ref C_Free) = some false)
  (t03_Free : PySem.W.kitOne K (.type "str") (.ref C_Free) = some false)
  (t04_Free : PySem.W.kitOne K (.type "tuple") (.ref C_Free) = some false)
  (t05_Free : PySem.W.kitOne K (.type "list") (.ref C_Free) = some false)
  (t06_Free : PySem.W.kitOne K (.type "dict") (.ref C_Free) = some false)
  (t07_Free : PySem.W.kitOne K (.type "set") (.ref C_Free) = some false)
  (t_Free_Free : zT K C_Free (.ref C_Free))
  (t_Free_NoArrows : zF K C_NoArrows (.ref C_Free))
  (t_Free_NoDeed : zF K C_NoDeed (.ref C_Free))
  (t_Free_NoDeeds : zF K C_NoDeeds (.ref C_Free))
  (t_Free_NoHues : zF K C_NoHues (.ref C_Free))
  (t_Free_NoName : zF K C_NoName (.ref C_Free))
  (t_Free_NoOrder : zF K C_NoOrder (.ref C_Free))
  (t_Free_NoRow : zF K C_NoRow (.ref C_Free))
  (t_Free_NoRule : zF K C_NoRule (.ref C_Free))
  (t_Free_NoRules : zF K C_NoRules (.ref C_Free))
  (t_Free_NoSet : zF K C_NoSet (.ref C_Free))
  (t_Free_NoSize : zF K C_NoSize (.ref C_Free))
  (t_Free_NoText : zF K C_NoText (.ref C_Free))
  (t_Free_NoThing : zF K C_NoThing (.ref C_Free))
  (t_Free_NoWorths : zF K C_NoWorths (.ref C_Free))
  (t_Free_NotFree : zF K C_NotFree (.ref C_Free))
  (t_Free_Tied : zF K C_Tied (.ref C_Free))
  (t_Free_TooMany : zF K C_TooMany (.ref C_Free))
  (t_Free_Unlike : zF K C_Unlike (.ref C_Free))
  (t00_FreeError : PySem.W.kitOne K (.type "NoneType") (.ref C_FreeError) = some false)
  (t01_FreeError : PySem.W.kitOne K (.type "bool") (.ref C_FreeError) = some false)
  (t02_FreeError : PySem.W.kitOne K (.type "int") (.ref C_FreeError) = some false)
  (t03_FreeError : PySem.W.kitOne K (.type "str") (.ref C_FreeError) = some false)
  (t04_FreeError : PySem.W.kitOne K (.type "tuple") (.ref C_FreeError) = some false)
  (t05_FreeError : PySem.W.kitOne K (.type "list") (.ref C_FreeError) = some false)
  (t06_FreeError : PySem.W.kitOne K (.type "dict") (.ref C_FreeError) = some false)
  (t07_FreeError : PySem.W.kitOne K (.type "set") (.ref C_FreeError) = some false)
  (t_FreeError_Free : zT K C_Free (.ref C_FreeError))
  (t_FreeError_NoArrows : zT K C_NoArrows (.ref C_FreeError))
  (t_FreeError_NoDeed : zF K C_NoDeed (.ref C_FreeError))
  (t_FreeError_NoDeeds : zT K C_NoDeeds (.ref C_FreeError))
  (t_FreeError_NoHues : zT K C_NoHues (.ref C_FreeError))
  (t_FreeError_NoName : zF K C_NoName (.ref C_FreeError))
  (t_FreeError_NoOrder : zT K C_NoOrder (.ref C_FreeError))
  (t_FreeError_NoRow : zT K C_NoRow (.ref C_FreeError))
  (t_FreeError_NoRule : zT K C_NoRule (.ref C_FreeError))
  (t_FreeError_NoRules : zT K C_NoRules (.ref C_FreeError))
  (t_FreeError_NoSet : zT K C_NoSet (.ref C_FreeError))
  (t_FreeError_NoSize : zT K C_NoSize (.ref C_FreeError))
  (t_FreeError_NoText : zT K C_NoText (.ref C_FreeError))
  (t_FreeError_NoThing : zF K C_NoThing (.ref C_FreeError))
  (t_FreeError_NoWorths : zT K C_NoWorths (.ref C_FreeError))
  (t_FreeError_NotFree : zT K C_NotFree (.ref C_FreeError))
  (t_FreeError_Tied : zT K C_Tied (.ref C_FreeError))
  (t_FreeError_TooMany : zT K C_TooMany (.ref C_FreeError))
  (t_FreeError_Unlike : zT K C_Unlike (.ref C_FreeError))
  (t00_NoArrows : PySem.W.kitOne K (.type "NoneType") (.ref C_NoArrows) = some false)
  (t01_NoArrows : PySem.W.kitOne K (.type "bool") (.ref C_NoArrows) = some false)
  (t02_NoArrows : PySem.W.kitOne K (.type "int") (.ref C_NoArrows) = some false)
  (t03_NoArrows : PySem.W.kitOne K (.type "str") (.ref C_NoArrows) = some false)
  (t04_NoArrows : PySem.W.kitOne K (.type "tuple") (.ref C_NoArrows) = some false)
  (t05_NoArrows : PySem.W.kitOne K (.type "list") (.ref C_NoArrows) = some false)
  (t06_NoArrows : PySem.W.kitOne K (.type "dict") (.ref C_NoArrows) = some false)
  (t07_NoArrows : PySem.W.kitOne K (.type "set") (.ref C_NoArrows) = some false)
  (t_NoArrows_Free : zF K C_Free (.ref C_NoArrows))
  (t_NoArrows_NoArrows : zT K C_NoArrows (.ref C_NoArrows))
  (t_NoArrows_NoDeed : zF K C_NoDeed (.ref C_NoArrows))
  (t_NoArrows_NoDeeds : zF K C_NoDeeds (.ref C_NoArrows))
  (t_NoArrows_NoHues : zF K C_NoHues (.ref C_NoArrows))
  (t_NoArrows_NoName : zF K C_NoName (.ref C_NoArrows))
  (t_NoArrows_NoOrder : zF K C_NoOrder (.ref C_NoArrows))
  (t_NoArrows_NoRow : zF K C_NoRow (.ref C_NoArrows))
  (t_NoArrows_NoRule : zF K C_NoRule (.ref C_NoArrows))
  (t_NoArrows_NoRules : zF K C_NoRules (.ref C_NoArrows))
  (t_NoArrows_NoSet : zF K C_NoSet (.ref C_NoArrows))
  (t_NoArrows_NoSize : zF K C_NoSize (.ref C_NoArrows))
  (t_NoArrows_NoText : zF K C_NoText (.ref C_NoArrows))
  (t_NoArrows_NoThing : zF K C_NoThing (.ref C_NoArrows))
  (t_NoArrows_NoWorths : zF K C_NoWorths (.ref C_NoArrows))
  (t_NoArrows_NotFree : zF K C_NotFree (.ref C_NoArrows))
  (t_NoArrows_Tied : zF K C_Tied (.ref C_NoArrows))
  (t_NoArrows_TooMany : zF K C_TooMany (.ref C_NoArrows))
  (t_NoArrows_Unlike : zF K C_Unlike (.ref C_NoArrows))
  (t00_NoDeed : PySem.W.kitOne K (.type "NoneType") (.ref C_NoDeed) = some false)
  (t01_NoDeed : PySem.W.kitOne K (.type "bool") (.ref C_NoDeed) = some false)
  (t02_NoDeed : PySem.W.kitOne K (.type "int") (.ref C_NoDeed) = some false)
  (t03_NoDeed : PySem.W.kitOne K (.type "str") (.ref C_NoDeed) = some false)
  (t04_NoDeed : PySem.W.kitOne K (.type "tuple") (.ref C_NoDeed) = some false)
  (t05_NoDeed : PySem.W.kitOne K (.type "list") (.ref C_NoDeed) = some false)
  (t06_NoDeed : PySem.W.kitOne K (.type "dict") (.ref C_NoDeed) = some false)
  (t07_NoDeed : PySem.W.kitOne K (.type "set") (.ref C_NoDeed) = some false)
  (t_NoDeed_Free : zF K C_Free (.ref C_NoDeed))
  (t_NoDeed_NoArrows : zF K C_NoArrows (.ref C_NoDeed))
  (t_NoDeed_NoDeed : zT K C_NoDeed (.ref C_NoDeed))
  (t_NoDeed_NoDeeds : zF K C_NoDeeds (.ref C_NoDeed))
  (t_NoDeed_NoHues : zF K C_NoHues (.ref C_NoDeed))
  (t_NoDeed_NoName : zF K C_NoName (.ref C_NoDeed))
  (t_NoDeed_NoOrder : zF K C_NoOrder (.ref C_NoDeed))
  (t_NoDeed_NoRow : zF K C_NoRow (.ref C_NoDeed))
  (t_NoDeed_NoRule : zF K C_NoRule (.ref C_NoDeed))
  (t_NoDeed_NoRules : zF K C_NoRules (.ref C_NoDeed))
  (t_NoDeed_NoSet : zF K C_NoSet (.ref C_NoDeed))
  (t_NoDeed_NoSize : zF K C_NoSize (.ref C_NoDeed))
  (t_NoDeed_NoText : zF K C_NoText (.ref C_NoDeed))
  (t_NoDeed_NoThing : zF K C_NoThing (.ref C_NoDeed))
  (t_NoDeed_NoWorths : zF K C_NoWorths (.ref C_NoDeed))
  (t_NoDeed_NotFree : zF K C_NotFree (.ref C_NoDeed))
  (t_NoDeed_Tied : zF K C_Tied (.ref C_NoDeed))
  (t_NoDeed_TooMany : zF K C_TooMany (.ref C_NoDeed))
  (t_NoDeed_Unlike : zF K C_Unlike (.ref C_NoDeed))
  (t00_NoDeeds : PySem.W.kitOne K (.type "NoneType") (.ref C_NoDeeds) = some false)
  (t01_NoDeeds : PySem.W.kitOne K (.type "bool") (.ref C_NoDeeds) = some false)
  (t02_NoDeeds : PySem.W.kitOne K (.type "int") (.ref C_NoDeeds) = some false)
  (t03_NoDeeds : PySem.W.kitOne K (.type "str") (.ref C_NoDeeds) = some false)
  (t04_NoDeeds : PySem.W.kitOne K (.type "tuple") (.ref C_NoDeeds) = some false)
  (t05_NoDeeds : PySem.W.kitOne K (.type "list") (.ref C_NoDeeds) = some false)
  (t06_NoDeeds : PySem.W.kitOne K (.type "dict") (.ref C_NoDeeds) = some false)
  (t07_NoDeeds : PySem.W.kitOne K (.type "set") (.ref C_NoDeeds) = some false)
  (t_NoDeeds_Free : zF K C_Free (.ref C_NoDeeds))
  (t_NoDeeds_NoArrows : zF K C_NoArrows (.ref C_NoDeeds))
  (t_NoDeeds_NoDeed : zF K C_NoDeed (.ref C_NoDeeds))
  (t_NoDeeds_NoDeeds : zT K C_NoDeeds (.ref C_NoDeeds))
  (t_NoDeeds_NoHues : zF K C_NoHues (.ref C_NoDeeds))
  (t_NoDeeds_NoName : zF K C_NoName (.ref C_NoDeeds))
  (t_NoDeeds_NoOrder : zF K C_NoOrder (.ref C_NoDeeds))
  (t_NoDeeds_NoRow : zF K C_NoRow (.ref C_NoDeeds))
  (t_NoDeeds_NoRule : zF K C_NoRule (.ref C_NoDeeds))
  (t_NoDeeds_NoRules : zF K C_NoRules (.ref C_NoDeeds))
  (t_NoDeeds_NoSet : zF K C_NoSet (.ref C_NoDeeds))
  (t_NoDeeds_NoSize : zF K C_NoSize (.ref C_NoDeeds))
  (t_NoDeeds_NoText : zF K C_NoText (.ref C_NoDeeds))
  (t_NoDeeds_NoThing : zF K C_NoThing (.ref C_NoDeeds))
  (t_NoDeeds_NoWorths : zF K C_NoWorths (.ref C_NoDeeds))
  (t_NoDeeds_NotFree : zF K C_NotFree (.ref C_NoDeeds))
  (t_NoDeeds_Tied : zF K C_Tied (.ref C_NoDeeds))
  (t_NoDeeds_TooMany : zF K C_TooMany (.ref C_NoDeeds))
  (t_NoDeeds_Unlike : zF K C_Unlike (.ref C_NoDeeds))
  (t00_NoHues : PySem.W.kitOne K (.type "NoneType") (.ref C_NoHues) = some false)
  (t01_NoHues : PySem.W.kitOne K (.type "bool") (.ref C_NoHues) = some false)
  (t02_NoHues : PySem.W.kitOne K (.type "int") (.ref C_NoHues) = some false)
  (t03_NoHues : PySem.W.kitOne K (.type "str") (.ref C_NoHues) = some false)
  (t04_NoHues : PySem.W.kitOne K (.type "tuple") (.ref C_NoHues) = some false)
  (t05_NoHues : PySem.W.kitOne K (.type "list") (.ref C_NoHues) = some false)
  (t06_NoHues : PySem.W.kitOne K (.type "dict") (.ref C_NoHues) = some false)
  (t07_NoHues : PySem.W.kitOne K (.type "set") (.ref C_NoHues) = some false)
  (t_NoHues_Free : zF K C_Free (.ref C_NoHues))
  (t_NoHues_NoArrows : zF K C_NoArrows (.ref C_NoHues))
  (t_NoHues_NoDeed : zF K C_NoDeed (.ref C_NoHues))
  (t_NoHues_NoDeeds : zF K C_NoDeeds (.ref C_NoHues))
  (t_NoHues_NoHues : zT K C_NoHues (.ref C_NoHues))
  (t_NoHues_NoName : zF K C_NoName (.ref C_NoHues))
  (t_NoHues_NoOrder : zF K C_NoOrder (.ref C_NoHues))
  (t_NoHues_NoRow : zF K C_NoRow (.ref C_NoHues))
  (t_NoHues_NoRule : zF K C_NoRule (.ref C_NoHues))
  (t_NoHues_NoRules : zF K C_NoRules (.ref C_NoHues))
  (t_NoHues_NoSet : zF K C_NoSet (.ref C_NoHues))
  (t_NoHues_NoSize : zF K C_NoSize (.ref C_NoHues))
  (t_NoHues_NoText : zF K C_NoText (.ref C_NoHues))
  (t_NoHues_NoThing : zF K C_NoThing (.ref C_NoHues))
  (t_NoHues_NoWorths : zF K C_NoWorths (.ref C_NoHues))
  (t_NoHues_NotFree : zF K C_NotFree (.ref C_NoHues))
  (t_NoHues_Tied : zF K C_Tied (.ref C_NoHues))
  (t_NoHues_TooMany : zF K C_TooMany (.ref C_NoHues))
  (t_NoHues_Unlike : zF K C_Unlike (.ref C_NoHues))
  (t00_NoName : PySem.W.kitOne K (.type "NoneType") (.ref C_NoName) = some false)
  (t01_NoName : PySem.W.kitOne K (.type "bool") (.ref C_NoName) = some false)
  (t02_NoName : PySem.W.kitOne K (.type "int") (.ref C_NoName) = some false)
  (t03_NoName : PySem.W.kitOne K (.type "str") (.ref C_NoName) = some false)
  (t04_NoName : PySem.W.kitOne K (.type "tuple") (.ref C_NoName) = some false)
  (t05_NoName : PySem.W.kitOne K (.type "list") (.ref C_NoName) = some false)
  (t06_NoName : PySem.W.kitOne K (.type "dict") (.ref C_NoName) = some false)
  (t07_NoName : PySem.W.kitOne K (.type "set") (.ref C_NoName) = some false)
  (t_NoName_Free : zF K C_Free (.ref C_NoName))
  (t_NoName_NoArrows : zF K C_NoArrows (.ref C_NoName))
  (t_NoName_NoDeed : zF K C_NoDeed (.ref C_NoName))
  (t_NoName_NoDeeds : zF K C_NoDeeds (.ref C_NoName))
  (t_NoName_NoHues : zF K C_NoHues (.ref C_NoName))
  (t_NoName_NoName : zT K C_NoName (.ref C_NoName))
  (t_NoName_NoOrder : zF K C_NoOrder (.ref C_NoName))
  (t_NoName_NoRow : zF K C_NoRow (.ref C_NoName))
  (t_NoName_NoRule : zF K C_NoRule (.ref C_NoName))
  (t_NoName_NoRules : zF K C_NoRules (.ref C_NoName))
  (t_NoName_NoSet : zF K C_NoSet (.ref C_NoName))
  (t_NoName_NoSize : zF K C_NoSize (.ref C_NoName))
  (t_NoName_NoText : zF K C_NoText (.ref C_NoName))
  (t_NoName_NoThing : zF K C_NoThing (.ref C_NoName))
  (t_NoName_NoWorths : zF K C_NoWorths (.ref C_NoName))
  (t_NoName_NotFree : zF K C_NotFree (.ref C_NoName))
  (t_NoName_Tied : zF K C_Tied (.ref C_NoName))
  (t_NoName_TooMany : zF K C_TooMany (.ref C_NoName))
  (t_NoName_Unlike : zF K C_Unlike (.ref C_NoName))
  (t00_NoOrder : PySem.W.kitOne K (.type "NoneType") (.ref C_NoOrder) = some false)
  (t01_NoOrder : PySem.W.kitOne K (.type "bool") (.ref C_NoOrder) = some false)
  (t02_NoOrder : PySem.W.kitOne K (.type "int") (.ref C_NoOrder) = some false)
  (t03_NoOrder : PySem.W.kitOne K (.type "str") (.ref C_NoOrder) = some false)
  (t04_NoOrder : PySem.W.kitOne K (.type "tuple") (.ref C_NoOrder) = some false)
  (t05_NoOrder : PySem.W.kitOne K (.type "list") (.ref C_NoOrder) = some false)
  (t06_NoOrder : PySem.W.kitOne K (.type "dict") (.ref C_NoOrder) = some false)
  (t07_NoOrder : PySem.W.kitOne K (.type "set") (.ref C_NoOrder) = some false)
  (t_NoOrder_Free : zF K C_Free (.ref C_NoOrder))
  (t_NoOrder_NoArrows : zF K C_NoArrows (.ref C_NoOrder))
  (t_NoOrder_NoDeed : zF K C_NoDeed (.ref C_NoOrder))
  (t_NoOrder_NoDeeds : zF K C_NoDeeds (.ref C_NoOrder))
  (t_NoOrder_NoHues : zF K C_NoHues (.ref C_NoOrder))
  (t_NoOrder_NoName : zF K C_NoName (.ref C_NoOrder))
  (t_NoOrder_NoOrder : zT K C_NoOrder (.ref C_NoOrder))
  (t_NoOrder_NoRow : zF K C_NoRow (.ref C_NoOrder))
  (t_NoOrder_NoRule : zF K C_NoRule (.ref C_NoOrder))
  (t_NoOrder_NoRules : zF K C_NoRules (.ref C_NoOrder))
  (t_NoOrder_NoSet : zF K C_NoSet (.ref C_NoOrder))
  (t_NoOrder_NoSize : zF K C_NoSize (.ref C_NoOrder))
  (t_NoOrder_NoText : zF K C_NoText (.ref C_NoOrder))
  (t_NoOrder_NoThing : zF K C_NoThing (.ref C_NoOrder))
  (t_NoOrder_NoWorths : zF K C_NoWorths (.ref C_NoOrder))
  (t_NoOrder_NotFree : zF K C_NotFree (.ref C_NoOrder))
  (t_NoOrder_Tied : zF K C_Tied (.ref C_NoOrder))
  (t_NoOrder_TooMany : zF K C_TooMany (.ref C_NoOrder))
  (t_NoOrder_Unlike : zF K C_Unlike (.ref C_NoOrder))
  (t00_NoRow : PySem.W.kitOne K (.type "NoneType") (.ref C_NoRow) = some false)
  (t01_NoRow : PySem.W.kitOne K (.type "bool") (.ref C_NoRow) = some false)
  (t02_NoRow : PySem.W.kitOne K (.type "int") (.ref C_NoRow) = some false)
  (t03_NoRow : PySem.W.kitOne K (.type "str") (.ref C_NoRow) = some false)
  (t04_NoRow : PySem.W.kitOne K (.type "tuple") (.ref C_NoRow) = some false)
  (t05_NoRow : PySem.W.kitOne K (.type "list") (.ref C_NoRow) = some false)
  (t06_NoRow : PySem.W.kitOne K (.type "dict") (.ref C_NoRow) = some false)
  (t07_NoRow : PySem.W.kitOne K (.type "set") (.ref C_NoRow) = some false)
  (t_NoRow_Free : zF K C_Free (.ref C_NoRow))
  (t_NoRow_NoArrows : zF K C_NoArrows (.ref C_NoRow))
  (t_NoRow_NoDeed : zF K C_NoDeed (.ref C_NoRow))
  (t_NoRow_NoDeeds : zF K C_NoDeeds (.ref C_NoRow))
  (t_NoRow_NoHues : zF K C_NoHues (.ref C_NoRow))
  (t_NoRow_NoName : zF K C_NoName (.ref C_NoRow))
  (t_NoRow_NoOrder : zF K C_NoOrder (.ref C_NoRow))
  (t_NoRow_NoRow : zT K C_NoRow (.ref C_NoRow))
  (t_NoRow_NoRule : zF K C_NoRule (.ref C_NoRow))
  (t_NoRow_NoRules : zF K C_NoRules (.ref C_NoRow))
  (t_NoRow_NoSet : zF K C_NoSet (.ref C_NoRow))
  (t_NoRow_NoSize : zF K C_NoSize (.ref C_NoRow))
  (t_NoRow_NoText : zF K C_NoText (.ref C_NoRow))
  (t_NoRow_NoThing : zF K C_NoThing (.ref C_NoRow))
  (t_NoRow_NoWorths : zF K C_NoWorths (.ref C_NoRow))
  (t_NoRow_NotFree : zF K C_NotFree (.ref C_NoRow))
  (t_NoRow_Tied : zF K C_Tied (.ref C_NoRow))
  (t_NoRow_TooMany : zF K C_TooMany (.ref C_NoRow))
  (t_NoRow_Unlike : zF K C_Unlike (.ref C_NoRow))
  (t00_NoRule : PySem.W.kitOne K (.type "NoneType") (.ref C_NoRule) = some false)
  (t01_NoRule : PySem.W.kitOne K (.type "bool") (.ref C_NoRule) = some false)
  (t02_NoRule : PySem.W.kitOne K (.type "int") (.ref C_NoRule) = some false)
  (t03_NoRule : PySem.W.kitOne K (.type "str") (.ref C_NoRule) = some false)
  (t04_NoRule : PySem.W.kitOne K (.type "tuple") (.ref C_NoRule) = some false)
  (t05_NoRule : PySem.W.kitOne K (.type "list") (.ref C_NoRule) = some false)
  (t06_NoRule : PySem.W.kitOne K (.type "dict") (.ref C_NoRule) = some false)
  (t07_NoRule : PySem.W.kitOne K (.type "set") (.ref C_NoRule) = some false)
  (t_NoRule_Free : zF K C_Free (.ref C_NoRule))
  (t_NoRule_NoArrows : zF K C_NoArrows (.ref C_NoRule))
  (t_NoRule_NoDeed : zF K C_NoDeed (.ref C_NoRule))
  (t_NoRule_NoDeeds : zF K C_NoDeeds (.ref C_NoRule))
  (t_NoRule_NoHues : zF K C_NoHues (.ref C_NoRule))
  (t_NoRule_NoName : zF K C_NoName (.ref C_NoRule))
  (t_NoRule_NoOrder : zF K C_NoOrder (.ref C_NoRule))
  (t_NoRule_NoRow : zF K C_NoRow (.ref C_NoRule))
  (t_NoRule_NoRule : zT K C_NoRule (.ref C_NoRule))
  (t_NoRule_NoRules : zF K C_NoRules (.ref C_NoRule))
  (t_NoRule_NoSet : zF K C_NoSet (.ref C_NoRule))
  (t_NoRule_NoSize : zF K C_NoSize (.ref C_NoRule))
  (t_NoRule_NoText : zF K C_NoText (.ref C_NoRule))
  (t_NoRule_NoThing : zF K C_NoThing (.ref C_NoRule))
  (t_NoRule_NoWorths : zF K C_NoWorths (.ref C_NoRule))
  (t_NoRule_NotFree : zF K C_NotFree (.ref C_NoRule))
  (t_NoRule_Tied : zF K C_Tied (.ref C_NoRule))
  (t_NoRule_TooMany : zF K C_TooMany (.ref C_NoRule))
  (t_NoRule_Unlike : zF K C_Unlike (.ref C_NoRule))
  (t00_NoRules : PySem.W.kitOne K (.type "NoneType") (.ref C_NoRules) = some false)
  (t01_NoRules : PySem.W.kitOne K (.type "bool") (.ref C_NoRules) = some false)
  (t02_NoRules : PySem.W.kitOne K (.type "int") (.ref C_NoRules) = some false)
  (t03_NoRules : PySem.W.kitOne K (.type "str") (.ref C_NoRules) = some false)
  (t04_NoRules : PySem.W.kitOne K (.type "tuple") (.ref C_NoRules) = some false)
  (t05_NoRules : PySem.W.kitOne K (.type "list") (.ref C_NoRules) = some false)
  (t06_NoRules : PySem.W.kitOne K (.type "dict") (.ref C_NoRules) = some false)
  (t07_NoRules : PySem.W.kitOne K (.type "set") (.ref C_NoRules) = some false)
  (t_NoRules_Free : zF K C_Free (.ref C_NoRules))
  (t_NoRules_NoArrows : zF K C_NoArrows (.ref C_NoRules))
  (t_NoRules_NoDeed : zF K C_NoDeed (.ref C_NoRules))
  (t_NoRules_NoDeeds : zF K C_NoDeeds (.ref C_NoRules))
  (t_NoRules_NoHues : zF K C_NoHues (.ref C_NoRules))
  (t_NoRules_NoName : zF K C_NoName (.ref C_NoRules))
  (t_NoRules_NoOrder : zF K C_NoOrder (.ref C_NoRules))
  (t_NoRules_NoRow : zF K C_NoRow (.ref C_NoRules))
  (t_NoRules_NoRule : zF K C_NoRule (.ref C_NoRules))
  (t_NoRules_NoRules : zT K C_NoRules (.ref C_NoRules))
  (t_NoRules_NoSet : zF K C_NoSet (.ref C_NoRules))
  (t_NoRules_NoSize : zF K C_NoSize (.ref C_NoRules))
  (t_NoRules_NoText : zF K C_NoText (.ref C_NoRules))
  (t_NoRules_NoThing : zF K C_NoThing (.ref C_NoRules))
  (t_NoRules_NoWorths : zF K C_NoWorths (.ref C_NoRules))
  (t_NoRules_NotFree : zF K C_NotFree (.ref C_NoRules))
  (t_NoRules_Tied : zF K C_Tied (.ref C_NoRules))
  (t_NoRules_TooMany : zF K C_TooMany (.ref C_NoRules))
  (t_NoRules_Unlike : zF K C_Unlike (.ref C_NoRules))
  (t00_NoSet : PySem.W.kitOne K (.type "NoneType") (.ref C_NoSet) = some false)
  (t01_NoSet : PySem.W.kitOne K (.type "bool") (.ref C_NoSet) = some false)
  (t02_NoSet : PySem.W.kitOne K (.type "int") (.ref C_NoSet) = some false)
  (t03_NoSet : PySem.W.kitOne K (.type "str") (.ref C_NoSet) = some false)
  (t04_NoSet : PySem.W.kitOne K (.type "tuple") (.ref C_NoSet) = some false)
  (t05_NoSet : PySem.W.kitOne K (.type "list") (.ref C_NoSet) = some false)
  (t06_NoSet : PySem.W.kitOne K (.type "dict") (.ref C_NoSet) = some false)
  (t07_NoSet : PySem.W.kitOne K (.type "set") (.ref C_NoSet) = some false)
  (t_NoSet_Free : zF K C_Free (.ref C_NoSet))
  (t_NoSet_NoArrows : zF K C_NoArrows (.ref C_NoSet))
  (t_NoSet_NoDeed : zF K C_NoDeed (.ref C_NoSet))
  (t_NoSet_NoDeeds : zF K C_NoDeeds (.ref C_NoSet))
  (t_NoSet_NoHues : zF K C_NoHues (.ref C_NoSet))
  (t_NoSet_NoName : zF K C_NoName (.ref C_NoSet))
  (t_NoSet_NoOrder : zF K C_NoOrder (.ref C_NoSet))
  (t_NoSet_NoRow : zF K C_NoRow (.ref C_NoSet))
  (t_NoSet_NoRule : zF K C_NoRule (.ref C_NoSet))
  (t_NoSet_NoRules : zF K C_NoRules (.ref C_NoSet))
  (t_NoSet_NoSet : zT K C_NoSet (.ref C_NoSet))
  (t_NoSet_NoSize : zF K C_NoSize (.ref C_NoSet))
  (t_NoSet_NoText : zF K C_NoText (.ref C_NoSet))
  (t_NoSet_NoThing : zF K C_NoThing (.ref C_NoSet))
  (t_NoSet_NoWorths : zF K C_NoWorths (.ref C_NoSet))
  (t_NoSet_NotFree : zF K C_NotFree (.ref C_NoSet))
  (t_NoSet_Tied : zF K C_Tied (.ref C_NoSet))
  (t_NoSet_TooMany : zF K C_TooMany (.ref C_NoSet))
  (t_NoSet_Unlike : zF K C_Unlike (.ref C_NoSet))
  (t00_NoSize : PySem.W.kitOne K (.type "NoneType") (.ref C_NoSize) = some false)
  (t01_NoSize : PySem.W.kitOne K (.type "bool") (.ref C_NoSize) = some false)
  (t02_NoSize : PySem.W.kitOne K (.type "int") (.ref C_NoSize) = some false)
  (t03_NoSize : PySem.W.kitOne K (.type "str") (.ref C_NoSize) = some false)
  (t04_NoSize : PySem.W.kitOne K (.type "tuple") (.ref C_NoSize) = some false)
  (t05_NoSize : PySem.W.kitOne K (.type "list") (.ref C_NoSize) = some false)
  (t06_NoSize : PySem.W.kitOne K (.type "dict") (.ref C_NoSize) = some false)
  (t07_NoSize : PySem.W.kitOne K (.type "set") (.ref C_NoSize) = some false)
  (t_NoSize_Free : zF K C_Free (.ref C_NoSize))
  (t_NoSize_NoArrows : zF K C_NoArrows (.ref C_NoSize))
  (t_NoSize_NoDeed : zF K C_NoDeed (.ref C_NoSize))
  (t_NoSize_NoDeeds : zF K C_NoDeeds (.ref C_NoSize))
  (t_NoSize_NoHues : zF K C_NoHues (.ref C_NoSize))
  (t_NoSize_NoName : zF K C_NoName (.ref C_NoSize))
  (t_NoSize_NoOrder : zF K C_NoOrder (.ref C_NoSize))
  (t_NoSize_NoRow : zF K C_NoRow (.ref C_NoSize))
  (t_NoSize_NoRule : zF K C_NoRule (.ref C_NoSize))
  (t_NoSize_NoRules : zF K C_NoRules (.ref C_NoSize))
  (t_NoSize_NoSet : zF K C_NoSet (.ref C_NoSize))
  (t_NoSize_NoSize : zT K C_NoSize (.ref C_NoSize))
  (t_NoSize_NoText : zF K C_NoText (.ref C_NoSize))
  (t_NoSize_NoThing : zF K C_NoThing (.ref C_NoSize))
  (t_NoSize_NoWorths : zF K C_NoWorths (.ref C_NoSize))
  (t_NoSize_NotFree : zF K C_NotFree (.ref C_NoSize))
  (t_NoSize_Tied : zF K C_Tied (.ref C_NoSize))
  (t_NoSize_TooMany : zF K C_TooMany (.ref C_NoSize))
  (t_NoSize_Unlike : zF K C_Unlike (.ref C_NoSize))
  (t00_NoText : PySem.W.kitOne K (.type "NoneType") (.ref C_NoText) = some false)
  (t01_NoText : PySem.W.kitOne K (.type "bool") (.ref C_NoText) = some false)
  (t02_NoText : PySem.W.kitOne K (.type "int") (.ref C_NoText) = some false)
  (t03_NoText : PySem.W.kitOne K (.type "str") (.ref C_NoText) = some false)
  (t04_NoText : PySem.W.kitOne K (.type "tuple") (.ref C_NoText) = some false)
  (t05_NoText : PySem.W.kitOne K (.type "list") (.ref C_NoText) = some false)
  (t06_NoText : PySem.W.kitOne K (.type "dict") (.ref C_NoText) = some false)
  (t07_NoText : PySem.W.kitOne K (.type "set") (.ref C_NoText) = some false)
  (t_NoText_Free : zF K C_Free (.ref C_NoText))
  (t_NoText_NoArrows : zF K C_NoArrows (.ref C_NoText))
  (t_NoText_NoDeed : zF K C_NoDeed (.ref C_NoText))
  (t_NoText_NoDeeds : zF K C_NoDeeds (.ref C_NoText))
  (t_NoText_NoHues : zF K C_NoHues (.ref C_NoText))
  (t_NoText_NoName : zF K C_NoName (.ref C_NoText))
  (t_NoText_NoOrder : zF K C_NoOrder (.ref C_NoText))
  (t_NoText_NoRow : zF K C_NoRow (.ref C_NoText))
  (t_NoText_NoRule : zF K C_NoRule (.ref C_NoText))
  (t_NoText_NoRules : zF K C_NoRules (.ref C_NoText))
  (t_NoText_NoSet : zF K C_NoSet (.ref C_NoText))
  (t_NoText_NoSize : zF K C_NoSize (.ref C_NoText))
  (t_NoText_NoText : zT K C_NoText (.ref C_NoText))
  (t_NoText_NoThing : zF K C_NoThing (.ref C_NoText))
  (t_NoText_NoWorths : zF K C_NoWorths (.ref C_NoText))
  (t_NoText_NotFree : zF K C_NotFree (.ref C_NoText))
  (t_NoText_Tied : zF K C_Tied (.ref C_NoText))
  (t_NoText_TooMany : zF K C_TooMany (.ref C_NoText))
  (t_NoText_Unlike : zF K C_Unlike (.ref C_NoText))
  (t00_NoThing : PySem.W.kitOne K (.type "NoneType") (.ref C_NoThing) = some false)
  (t01_NoThing : PySem.W.kitOne K (.type "bool") (.ref C_NoThing) = some false)
  (t02_NoThing : PySem.W.kitOne K (.type "int") (.ref C_NoThing) = some false)
  (t03_NoThing : PySem.W.kitOne K (.type "str") (.ref C_NoThing) = some false)
  (t04_NoThing : PySem.W.kitOne K (.type "tuple") (.ref C_NoThing) = some false)
  (t05_NoThing : PySem.W.kitOne K (.type "list") (.ref C_NoThing) = some false)
  (t06_NoThing : PySem.W.kitOne K (.type "dict") (.ref C_NoThing) = some false)
  (t07_NoThing : PySem.W.kitOne K (.type "set") (.ref C_NoThing) = some false)
  (t_NoThing_Free : zF K C_Free (.ref C_NoThing))
  (t_NoThing_NoArrows : zF K C_NoArrows (.ref C_NoThing))
  (t_NoThing_NoDeed : zF K C_NoDeed (.ref C_NoThing))
  (t_NoThing_NoDeeds : zF K C_NoDeeds (.ref C_NoThing))
  (t_NoThing_NoHues : zF K C_NoHues (.ref C_NoThing))
  (t_NoThing_NoName : zF K C_NoName (.ref C_NoThing))
  (t_NoThing_NoOrder : zF K C_NoOrder (.ref C_NoThing))
  (t_NoThing_NoRow : zF K C_NoRow (.ref C_NoThing))
  (t_NoThing_NoRule : zF K C_NoRule (.ref C_NoThing))
  (t_NoThing_NoRules : zF K C_NoRules (.ref C_NoThing))
  (t_NoThing_NoSet : zF K C_NoSet (.ref C_NoThing))
  (t_NoThing_NoSize : zF K C_NoSize (.ref C_NoThing))
  (t_NoThing_NoText : zF K C_NoText (.ref C_NoThing))
  (t_NoThing_NoThing : zT K C_NoThing (.ref C_NoThing))
  (t_NoThing_NoWorths : zF K C_NoWorths (.ref C_NoThing))
  (t_NoThing_NotFree : zF K C_NotFree (.ref C_NoThing))
  (t_NoThing_Tied : zF K C_Tied (.ref C_NoThing))
  (t_NoThing_TooMany : zF K C_TooMany (.ref C_NoThing))
  (t_NoThing_Unlike : zF K C_Unlike (.ref C_NoThing))
  (t00_NoWorths : PySem.W.kitOne K (.type "NoneType") (.ref C_NoWorths) = some false)
  (t01_NoWorths : PySem.W.kitOne K (.type "bool") (.ref C_NoWorths) = some false)
  (t02_NoWorths : PySem.W.kitOne K (.type "int") (.ref C_NoWorths) = some false)
  (t03_NoWorths : PySem.W.kitOne K (.type "str") (.ref C_NoWorths) = some false)
  (t04_NoWorths : PySem.W.kitOne K (.type "tuple") (.ref C_NoWorths) = some false)
  (t05_NoWorths : PySem.W.kitOne K (.type "list") (.ref C_NoWorths) = some false)
  (t06_NoWorths : PySem.W.kitOne K (.type "dict") (.ref C_NoWorths) = some false)
  (t07_NoWorths : PySem.W.kitOne K (.type "set") (.ref C_NoWorths) = some false)
  (t_NoWorths_Free : zF K C_Free (.ref C_NoWorths))
  (t_NoWorths_NoArrows : zF K C_NoArrows (.ref C_NoWorths))
  (t_NoWorths_NoDeed : zF K C_NoDeed (.ref C_NoWorths))
  (t_NoWorths_NoDeeds : zF K C_NoDeeds (.ref C_NoWorths))
  (t_NoWorths_NoHues : zF K C_NoHues (.ref C_NoWorths))
  (t_NoWorths_NoName : zF K C_NoName (.ref C_NoWorths))
  (t_NoWorths_NoOrder : zF K C_NoOrder (.ref C_NoWorths))
  (t_NoWorths_NoRow : zF K C_NoRow (.ref C_NoWorths))
  (t_NoWorths_NoRule : zF K C_NoRule (.ref C_NoWorths))
  (t_NoWorths_NoRules : zF K C_NoRules (.ref C_NoWorths))
  (t_NoWorths_NoSet : zF K C_NoSet (.ref C_NoWorths))
  (t_NoWorths_NoSize : zF K C_NoSize (.ref C_NoWorths))
  (t_NoWorths_NoText : zF K C_NoText (.ref C_NoWorths))
  (t_NoWorths_NoThing : zF K C_NoThing (.ref C_NoWorths))
  (t_NoWorths_NoWorths : zT K C_NoWorths (.ref C_NoWorths))
  (t_NoWorths_NotFree : zF K C_NotFree (.ref C_NoWorths))
  (t_NoWorths_Tied : zF K C_Tied (.ref C_NoWorths))
  (t_NoWorths_TooMany : zF K C_TooMany (.ref C_NoWorths))
  (t_NoWorths_Unlike : zF K C_Unlike (.ref C_NoWorths))
  (t00_NotFree : PySem.W.kitOne K (.type "NoneType") (.ref C_NotFree) = some false)
  (t01_NotFree : PySem.W.kitOne K (.type "bool") (.ref C_NotFree) = some false)
  (t02_NotFree : PySem.W.kitOne K (.type "int") (.ref C_NotFree) = some false)
  (t03_NotFree : PySem.W.kitOne K (.type "str") (.ref C_NotFree) = some false)
  (t04_NotFree : PySem.W.kitOne K (.type "tuple") (.ref C_NotFree) = some false)
  (t05_NotFree : PySem.W.kitOne K (.type "list") (.ref C_NotFree) = some false)
  (t06_NotFree : PySem.W.kitOne K (.type "dict") (.ref C_NotFree) = some false)
  (t07_NotFree : PySem.W.kitOne K (.type "set") (.ref C_NotFree) = some false)
  (t_NotFree_Free : zF K C_Free (.ref C_NotFree))
  (t_NotFree_NoArrows : zF K C_NoArrows (.ref C_NotFree))
  (t_NotFree_NoDeed : zF K C_NoDeed (.ref C_NotFree))
  (t_NotFree_NoDeeds : zF K C_NoDeeds (.ref C_NotFree))
  (t_NotFree_NoHues : zF K C_NoHues (.ref C_NotFree))
  (t_NotFree_NoName : zF K C_NoName (.ref C_NotFree))
  (t_NotFree_NoOrder : zF K C_NoOrder (.ref C_NotFree))
  (t_NotFree_NoRow : zF K C_NoRow (.ref C_NotFree))
  (t_NotFree_NoRule : zF K C_NoRule (.ref C_NotFree))
  (t_NotFree_NoRules : zF K C_NoRules (.ref C_NotFree))
  (t_NotFree_NoSet : zF K C_NoSet (.ref C_NotFree))
  (t_NotFree_NoSize : zF K C_NoSize (.ref C_NotFree))
  (t_NotFree_NoText : zF K C_NoText (.ref C_NotFree))
  (t_NotFree_NoThing : zF K C_NoThing (.ref C_NotFree))
  (t_NotFree_NoWorths : zF K C_NoWorths (.ref C_NotFree))
  (t_NotFree_NotFree : zT K C_NotFree (.ref C_NotFree))
  (t_NotFree_Tied : zF K C_Tied (.ref C_NotFree))
  (t_NotFree_TooMany : zF K C_TooMany (.ref C_NotFree))
  (t_NotFree_Unlike : zF K C_Unlike (.ref C_NotFree))
  (t00_Tied : PySem.W.kitOne K (.type "NoneType") (.ref C_Tied) = some false)
  (t01_Tied : PySem.W.kitOne K (.type "bool") (.ref C_Tied) = some false)
  (t02_Tied : PySem.W.kitOne K (.type "int") (.ref C_Tied) = some false)
  (t03_Tied : PySem.W.kitOne K (.type "str") (.ref C_Tied) = some false)
  (t04_Tied : PySem.W.kitOne K (.type "tuple") (.ref C_Tied) = some false)
  (t05_Tied : PySem.W.kitOne K (.type "list") (.ref C_Tied) = some false)
  (t06_Tied : PySem.W.kitOne K (.type "dict") (.ref C_Tied) = some false)
  (t07_Tied : PySem.W.kitOne K (.type "set") (.ref C_Tied) = some false)
  (t_Tied_Free : zF K C_Free (.ref C_Tied))
  (t_Tied_NoArrows : zF K C_NoArrows (.ref C_Tied))
  (t_Tied_NoDeed : zF K C_NoDeed (.ref C_Tied))
  (t_Tied_NoDeeds : zF K C_NoDeeds (.ref C_Tied))
  (t_Tied_NoHues : zF K C_NoHues (.ref C_Tied))
  (t_Tied_NoName : zF K C_NoName (.ref C_Tied))
  (t_Tied_NoOrder : zF K C_NoOrder (.ref C_Tied))
  (t_Tied_NoRow : zF K C_NoRow (.ref C_Tied))
  (t_Tied_NoRule : zF K C_NoRule (.ref C_Tied))
  (t_Tied_NoRules : zF K C_NoRules (.ref C_Tied))
  (t_Tied_NoSet : zF K C_NoSet (.ref C_Tied))
  (t_Tied_NoSize : zF K C_NoSize (.ref C_Tied))
  (t_Tied_NoText : zF K C_NoText (.ref C_Tied))
  (t_Tied_NoThing : zF K C_NoThing (.ref C_Tied))
  (t_Tied_NoWorths : zF K C_NoWorths (.ref C_Tied))
  (t_Tied_NotFree : zF K C_NotFree (.ref C_Tied))
  (t_Tied_Tied : zT K C_Tied (.ref C_Tied))
  (t_Tied_TooMany : zF K C_TooMany (.ref C_Tied))
  (t_Tied_Unlike : zF K C_Unlike (.ref C_Tied))
  (t00_TooMany : PySem.W.kitOne K (.type "NoneType") (.ref C_TooMany) = some false)
  (t01_TooMany : PySem.W.kitOne K (.type "bool") (.ref C_TooMany) = some false)
  (t02_TooMany : PySem.W.kitOne K (.type "int") (.ref C_TooMany) = some false)
  (t03_TooMany : PySem.W.kitOne K (.type "str") (.ref C_TooMany) = some false)
  (t04_TooMany : PySem.W.kitOne K (.type "tuple") (.ref C_TooMany) = some false)
  (t05_TooMany : PySem.W.kitOne K (.type "list") (.ref C_TooMany) = some false)
  (t06_TooMany : PySem.W.kitOne K (.type "dict") (.ref C_TooMany) = some false)
  (t07_TooMany : PySem.W.kitOne K (.type "set") (.ref C_TooMany) = some false)
  (t_TooMany_Free : zF K C_Free (.ref C_TooMany))
  (t_TooMany_NoArrows : zF K C_NoArrows (.ref C_TooMany))
  (t_TooMany_NoDeed : zF K C_NoDeed (.ref C_TooMany))
  (t_TooMany_NoDeeds : zF K C_NoDeeds (.ref C_TooMany))
  (t_TooMany_NoHues : zF K C_NoHues (.ref C_TooMany))
  (t_TooMany_NoName : zF K C_NoName (.ref C_TooMany))
  (t_TooMany_NoOrder : zF K C_NoOrder (.ref C_TooMany))
  (t_TooMany_NoRow : zF K C_NoRow (.ref C_TooMany))
  (t_TooMany_NoRule : zF K C_NoRule (.ref C_TooMany))
  (t_TooMany_NoRules : zF K C_NoRules (.ref C_TooMany))
  (t_TooMany_NoSet : zF K C_NoSet (.ref C_TooMany))
  (t_TooMany_NoSize : zF K C_NoSize (.ref C_TooMany))
  (t_TooMany_NoText : zF K C_NoText (.ref C_TooMany))
  (t_TooMany_NoThing : zF K C_NoThing (.ref C_TooMany))
  (t_TooMany_NoWorths : zF K C_NoWorths (.ref C_TooMany))
  (t_TooMany_NotFree : zF K C_NotFree (.ref C_TooMany))
  (t_TooMany_Tied : zF K C_Tied (.ref C_TooMany))
  (t_TooMany_TooMany : zT K C_TooMany (.ref C_TooMany))
  (t_TooMany_Unlike : zF K C_Unlike (.ref C_TooMany))
  (t00_Unlike : PySem.W.kitOne K (.type "NoneType") (.ref C_Unlike) = some false)
  (t01_Unlike : PySem.W.kitOne K (.type "bool") (.ref C_Unlike) = some false)
  (t02_Unlike : PySem.W.kitOne K (.type "int") (.ref C_Unlike) = some false)
  (t03_Unlike : PySem.W.kitOne K (.type "str") (.ref C_Unlike) = some false)
  (t04_Unlike : PySem.W.kitOne K (.type "tuple") (.ref C_Unlike) = some false)
  (t05_Unlike : PySem.W.kitOne K (.type "list") (.ref C_Unlike) = some false)
  (t06_Unlike : PySem.W.kitOne K (.type "dict") (.ref C_Unlike) = some false)
  (t07_Unlike : PySem.W.kitOne K (.type "set") (.ref C_Unlike) = some false)
  (t_Unlike_Free : zF K C_Free (.ref C_Unlike))
  (t_Unlike_NoArrows : zF K C_NoArrows (.ref C_Unlike))
  (t_Unlike_NoDeed : zF K C_NoDeed (.ref C_Unlike))
  (t_Unlike_NoDeeds : zF K C_NoDeeds (.ref C_Unlike))
  (t_Unlike_NoHues : zF K C_NoHues (.ref C_Unlike))
  (t_Unlike_NoName : zF K C_NoName (.ref C_Unlike))
  (t_Unlike_NoOrder : zF K C_NoOrder (.ref C_Unlike))
  (t_Unlike_NoRow : zF K C_NoRow (.ref C_Unlike))
  (t_Unlike_NoRule : zF K C_NoRule (.ref C_Unlike))
  (t_Unlike_NoRules : zF K C_NoRules (.ref C_Unlike))
  (t_Unlike_NoSet : zF K C_NoSet (.ref C_Unlike))
  (t_Unlike_NoSize : zF K C_NoSize (.ref C_Unlike))
  (t_Unlike_NoText : zF K C_NoText (.ref C_Unlike))
  (t_Unlike_NoThing : zF K C_NoThing (.ref C_Unlike))
  (t_Unlike_NoWorths : zF K C_NoWorths (.ref C_Unlike))
  (t_Unlike_NotFree : zF K C_NotFree (.ref C_Unlike))
  (t_Unlike_Tied : zF K C_Tied (.ref C_Unlike))
  (t_Unlike_TooMany : zF K C_TooMany (.ref C_Unlike))
  (t_Unlike_Unlike : zT K C_Unlike (.ref C_Unlike))
  (tx_ArithmeticError_Free : zF K C_Free (.type "ArithmeticError"))
  (tx_ArithmeticError_NoArrows : zF K C_NoArrows (.type "ArithmeticError"))
  (tx_ArithmeticError_NoDeed : zF K C_NoDeed (.type "ArithmeticError"))
  (tx_ArithmeticError_NoDeeds : zF K C_NoDeeds (.type "ArithmeticError"))
  (tx_ArithmeticError_NoHues : zF K C_NoHues (.type "ArithmeticError"))
  (tx_ArithmeticError_NoName : zF K C_NoName (.type "ArithmeticError"))
  (tx_ArithmeticError_NoOrder : zF K C_NoOrder (.type "ArithmeticError"))
  (tx_ArithmeticError_NoRow : zF K C_NoRow (.type "ArithmeticError"))
  (tx_ArithmeticError_NoRule : zF K C_NoRule (.type "ArithmeticError"))
  (tx_ArithmeticError_NoRules : zF K C_NoRules (.type "ArithmeticError"))
  (tx_ArithmeticError_NoSet : zF K C_NoSet (.type "ArithmeticError"))
  (tx_ArithmeticError_NoSize : zF K C_NoSize (.type "ArithmeticError"))
  (tx_ArithmeticError_NoText : zF K C_NoText (.type "ArithmeticError"))
  (tx_ArithmeticError_NoThing : zF K C_NoThing (.type "ArithmeticError"))
  (tx_ArithmeticError_NoWorths : zF K C_NoWorths (.type "ArithmeticError"))
  (tx_ArithmeticError_NotFree : zF K C_NotFree (.type "ArithmeticError"))
  (tx_ArithmeticError_Tied : zF K C_Tied (.type "ArithmeticError"))
  (tx_ArithmeticError_TooMany : zF K C_TooMany (.type "ArithmeticError"))
  (tx_ArithmeticError_Unlike : zF K C_Unlike (.type "ArithmeticError"))
  (tx_IndexError_Free : zF K C_Free (.type "IndexError"))
  (tx_IndexError_NoArrows : zF K C_NoArrows (.type "IndexError"))
  (tx_IndexError_NoDeed : zF K C_NoDeed (.type "IndexError"))
  (tx_IndexError_NoDeeds : zF K C_NoDeeds (.type "IndexError"))
  (tx_IndexError_NoHues : zF K C_NoHues (.type "IndexError"))
  (tx_IndexError_NoName : zF K C_NoName (.type "IndexError"))
  (tx_IndexError_NoOrder : zF K C_NoOrder (.type "IndexError"))
  (tx_IndexError_NoRow : zF K C_NoRow (.type "IndexError"))
  (tx_IndexError_NoRule : zF K C_NoRule (.type "IndexError"))
  (tx_IndexError_NoRules : zF K C_NoRules (.type "IndexError"))
  (tx_IndexError_NoSet : zF K C_NoSet (.type "IndexError"))
  (tx_IndexError_NoSize : zF K C_NoSize (.type "IndexError"))
  (tx_IndexError_NoText : zF K C_NoText (.type "IndexError"))
  (tx_IndexError_NoThing : zT K C_NoThing (.type "IndexError"))
  (tx_IndexError_NoWorths : zF K C_NoWorths (.type "IndexError"))
  (tx_IndexError_NotFree : zF K C_NotFree (.type "IndexError"))
  (tx_IndexError_Tied : zF K C_Tied (.type "IndexError"))
  (tx_IndexError_TooMany : zF K C_TooMany (.type "IndexError"))
  (tx_IndexError_Unlike : zF K C_Unlike (.type "IndexError"))
  (tx_KeyError_Free : zF K C_Free (.type "KeyError"))
  (tx_KeyError_NoArrows : zF K C_NoArrows (.type "KeyError"))
  (tx_KeyError_NoDeed : zF K C_NoDeed (.type "KeyError"))
  (tx_KeyError_NoDeeds : zF K C_NoDeeds (.type "KeyError"))
  (tx_KeyError_NoHues : zF K C_NoHues (.type "KeyError"))
  (tx_KeyError_NoName : zT K C_NoName (.type "KeyError"))
  (tx_KeyError_NoOrder : zF K C_NoOrder (.type "KeyError"))
  (tx_KeyError_NoRow : zF K C_NoRow (.type "KeyError"))
  (tx_KeyError_NoRule : zF K C_NoRule (.type "KeyError"))
  (tx_KeyError_NoRules : zF K C_NoRules (.type "KeyError"))
  (tx_KeyError_NoSet : zF K C_NoSet (.type "KeyError"))
  (tx_KeyError_NoSize : zF K C_NoSize (.type "KeyError"))
  (tx_KeyError_NoText : zF K C_NoText (.type "KeyError"))
  (tx_KeyError_NoThing : zF K C_NoThing (.type "KeyError"))
  (tx_KeyError_NoWorths : zF K C_NoWorths (.type "KeyError"))
  (tx_KeyError_NotFree : zF K C_NotFree (.type "KeyError"))
  (tx_KeyError_Tied : zF K C_Tied (.type "KeyError"))
  (tx_KeyError_TooMany : zF K C_TooMany (.type "KeyError"))
  (tx_KeyError_Unlike : zF K C_Unlike (.type "KeyError"))
  (tx_LookupError_Free : zF K C_Free (.type "LookupError"))
  (tx_LookupError_NoArrows : zF K C_NoArrows (.type "LookupError"))
  (tx_LookupError_NoDeed : zT K C_NoDeed (.type "LookupError"))
  (tx_LookupError_NoDeeds : zF K C_NoDeeds (.type "LookupError"))
  (tx_LookupError_NoHues : zF K C_NoHues (.type "LookupError"))
  (tx_LookupError_NoName : zT K C_NoName (.type "LookupError"))
  (tx_LookupError_NoOrder : zF K C_NoOrder (.type "LookupError"))
  (tx_LookupError_NoRow : zF K C_NoRow (.type "LookupError"))
  (tx_LookupError_NoRule : zF K C_NoRule (.type "LookupError"))
  (tx_LookupError_NoRules : zF K C_NoRules (.type "LookupError"))
  (tx_LookupError_NoSet : zF K C_NoSet (.type "LookupError"))
  (tx_LookupError_NoSize : zF K C_NoSize (.type "LookupError"))
  (tx_LookupError_NoText : zF K C_NoText (.type "LookupError"))
  (tx_LookupError_NoThing : zT K C_NoThing (.type "LookupError"))
  (tx_LookupError_NoWorths : zF K C_NoWorths (.type "LookupError"))
  (tx_LookupError_NotFree : zF K C_NotFree (.type "LookupError"))
  (tx_LookupError_Tied : zF K C_Tied (.type "LookupError"))
  (tx_LookupError_TooMany : zF K C_TooMany (.type "LookupError"))
  (tx_LookupError_Unlike : zF K C_Unlike (.type "LookupError"))
  (tx_RuntimeError_Free : zF K C_Free (.type "RuntimeError"))
  (tx_RuntimeError_NoArrows : zF K C_NoArrows (.type "RuntimeError"))
  (tx_RuntimeError_NoDeed : zF K C_NoDeed (.type "RuntimeError"))
  (tx_RuntimeError_NoDeeds : zF K C_NoDeeds (.type "RuntimeError"))
  (tx_RuntimeError_NoHues : zF K C_NoHues (.type "RuntimeError"))
  (tx_RuntimeError_NoName : zF K C_NoName (.type "RuntimeError"))
  (tx_RuntimeError_NoOrder : zF K C_NoOrder (.type "RuntimeError"))
  (tx_RuntimeError_NoRow : zF K C_NoRow (.type "RuntimeError"))
  (tx_RuntimeError_NoRule : zF K C_NoRule (.type "RuntimeError"))
  (tx_RuntimeError_NoRules : zF K C_NoRules (.type "RuntimeError"))
  (tx_RuntimeError_NoSet : zF K C_NoSet (.type "RuntimeError"))
  (tx_RuntimeError_NoSize : zF K C_NoSize (.type "RuntimeError"))
  (tx_RuntimeError_NoText : zF K C_NoText (.type "RuntimeError"))
  (tx_RuntimeError_NoThing : zF K C_NoThing (.type "RuntimeError"))
  (tx_RuntimeError_NoWorths : zF K C_NoWorths (.type "RuntimeError"))
  (tx_RuntimeError_NotFree : zF K C_NotFree (.type "RuntimeError"))
  (tx_RuntimeError_Tied : zF K C_Tied (.type "RuntimeError"))
  (tx_RuntimeError_TooMany : zF K C_TooMany (.type "RuntimeError"))
  (tx_RuntimeError_Unlike : zF K C_Unlike (.type "RuntimeError"))
  (tx_TypeError_Free : zF K C_Free (.type "TypeError"))
  (tx_TypeError_NoArrows : zF K C_NoArrows (.type "TypeError"))
  (tx_TypeError_NoDeed : zF K C_NoDeed (.type "TypeError"))
  (tx_TypeError_NoDeeds : zF K C_NoDeeds (.type "TypeError"))
  (tx_TypeError_NoHues : zF K C_NoHues (.type "TypeError"))
  (tx_TypeError_NoName : zF K C_NoName (.type "TypeError"))
  (tx_TypeError_NoOrder : zF K C_NoOrder (.type "TypeError"))
  (tx_TypeError_NoRow : zF K C_NoRow (.type "TypeError"))
  (tx_TypeError_NoRule : zF K C_NoRule (.type "TypeError"))
  (tx_TypeError_NoRules : zF K C_NoRules (.type "TypeError"))
  (tx_TypeError_NoSet : zF K C_NoSet (.type "TypeError"))
  (tx_TypeError_NoSize : zF K C_NoSize (.type "TypeError"))
  (tx_TypeError_NoText : zF K C_NoText (.type "TypeError"))
  (tx_TypeError_NoThing : zF K C_NoThing (.type "TypeError"))
  (tx_TypeError_NoWorths : zF K C_NoWorths (.type "TypeError"))
  (tx_TypeError_NotFree : zF K C_NotFree (.type "TypeError"))
  (tx_TypeError_Tied : zF K C_Tied (.type "TypeError"))
  (tx_TypeError_TooMany : zF K C_TooMany (.type "TypeError"))
  (tx_TypeError_Unlike : zF K C_Unlike (.type "TypeError"))
  (tx_ValueError_Free : zF K C_Free (.type "ValueError"))
  (tx_ValueError_NoArrows : zF K C_NoArrows (.type "ValueError"))
  (tx_ValueError_NoDeed : zF K C_NoDeed (.type "ValueError"))
  (tx_ValueError_NoDeeds : zF K C_NoDeeds (.type "ValueError"))
  (tx_ValueError_NoHues : zF K C_NoHues (.type "ValueError"))
  (tx_ValueError_NoName : zF K C_NoName (.type "ValueError"))
  (tx_ValueError_NoOrder : zF K C_NoOrder (.type "ValueError"))
  (tx_ValueError_NoRow : zF K C_NoRow (.type "ValueError"))
  (tx_ValueError_NoRule : zF K C_NoRule (.type "ValueError"))
  (tx_ValueError_NoRules : zF K C_NoRules (.type "ValueError"))
  (tx_ValueError_NoSet : zF K C_NoSet (.type "ValueError"))
  (tx_ValueError_NoSize : zF K C_NoSize (.type "ValueError"))
  (tx_ValueError_NoText : zF K C_NoText (.type "ValueError"))
  (tx_ValueError_NoThing : zF K C_NoThing (.type "ValueError"))
  (tx_ValueError_NoWorths : zF K C_NoWorths (.type "ValueError"))
  (tx_ValueError_NotFree : zF K C_NotFree (.type "ValueError"))
  (tx_ValueError_Tied : zF K C_Tied (.type "ValueError"))
  (tx_ValueError_TooMany : zF K C_TooMany (.type "ValueError"))
  (tx_ValueError_Unlike : zF K C_Unlike (.type "ValueError"))
  (h_FreeError_Free : PySem.W.exmOne K (.ref C_Free) (.ref C_FreeError) = some true)
  (h_FreeError_NoArrows : PySem.W.exmOne K (.ref C_NoArrows) (.ref C_FreeError) = some true)
  (h_FreeError_NoDeed : PySem.W.exmOne K (.ref C_NoDeed) (.ref C_FreeError) = some false)
  (h_FreeError_NoDeeds : PySem.W.exmOne K (.ref C_NoDeeds) (.ref C_FreeError) = some true)
  (h_FreeError_NoHues : PySem.W.exmOne K (.ref C_NoHues) (.ref C_FreeError) = some true)
  (h_FreeError_NoName : PySem.W.exmOne K (.ref C_NoName) (.ref C_FreeError) = some false)
  (h_FreeError_NoOrder : PySem.W.exmOne K (.ref C_NoOrder) (.ref C_FreeError) = some true)
  (h_FreeError_NoRow : PySem.W.exmOne K (.ref C_NoRow) (.ref C_FreeError) = some true)
  (h_FreeError_NoRule : PySem.W.exmOne K (.ref C_NoRule) (.ref C_FreeError) = some true)
  (h_FreeError_NoRules : PySem.W.exmOne K (.ref C_NoRules) (.ref C_FreeError) = some true)
  (h_FreeError_NoSet : PySem.W.exmOne K (.ref C_NoSet) (.ref C_FreeError) = some true)
  (h_FreeError_NoSize : PySem.W.exmOne K (.ref C_NoSize) (.ref C_FreeError) = some true)
  (h_FreeError_NoText : PySem.W.exmOne K (.ref C_NoText) (.ref C_FreeError) = some true)
  (h_FreeError_NoThing : PySem.W.exmOne K (.ref C_NoThing) (.ref C_FreeError) = some false)
  (h_FreeError_NoWorths : PySem.W.exmOne K (.ref C_NoWorths) (.ref C_FreeError) = some true)
  (h_FreeError_NotFree : PySem.W.exmOne K (.ref C_NotFree) (.ref C_FreeError) = some true)
  (h_FreeError_Tied : PySem.W.exmOne K (.ref C_Tied) (.ref C_FreeError) = some true)
  (h_FreeError_TooMany : PySem.W.exmOne K (.ref C_TooMany) (.ref C_FreeError) = some true)
  (h_FreeError_Unlike : PySem.W.exmOne K (.ref C_Unlike) (.ref C_FreeError) = some true)
  (z_ArithmeticError : PySem.W.nsIn K mainGlobals "ArithmeticError" = some none)
  (z_IndexError : PySem.W.nsIn K mainGlobals "IndexError" = some none)
  (z_KeyError : PySem.W.nsIn K mainGlobals "KeyError" = some none)
  (z_LookupError : PySem.W.nsIn K mainGlobals "LookupError" = some none)
  (z_RuntimeError : PySem.W.nsIn K mainGlobals "RuntimeError" = some none)
  (z_TypeError : PySem.W.nsIn K mainGlobals "TypeError" = some none)
  (z_ValueError : PySem.W.nsIn K mainGlobals "ValueError" = some none)
  (z_enumerate : PySem.W.nsIn K mainGlobals "enumerate" = some none)
  (z_isinstance : PySem.W.nsIn K mainGlobals "isinstance" = some none)
  (z_len : PySem.W.nsIn K mainGlobals "len" = some none)
  (z_max : PySem.W.nsIn K mainGlobals "max" = some none)
  (z_range : PySem.W.nsIn K mainGlobals "range" = some none)
  (z_set : PySem.W.nsIn K mainGlobals "set" = some none)
  (z_sorted : PySem.W.nsIn K mainGlobals "sorted" = some none)
  (z_tuple : PySem.W.nsIn K mainGlobals "tuple" = some none)
  : ∃ fd : FuncData, (∀ (s : Shared) (v : Value), BindsTo s fd ⟨[v], []⟩ [("_law_script", v)]) ∧ ∀ base : Heap, K.In base → base.Ns mainGlobals mg → kS base → FnG l.prog w K mg base 4 fa fd ["_law_script"] (gX K 63) := by
 have e := hfa.symm.trans (PySem.W.mg_of X G a18)
 cases e
 have F0 : FnAt K "_law_numbers" "_law_numbers" aw _ fd0 := .ofD FD0
 have B0 := FD0.bindsN (ps := ["_law_cell", "_law_salt", "_law_sizes"]) fun _ _ _ _ _ _ us hl => match us, hl with | [_, _, _], _ => rfl
 have D0 : DfG K mg "_law_numbers" aw ["_law_cell", "_law_salt", "_law_sizes"] _ _ := ⟨F0, PySem.W.mg_of X G a0, B0⟩
 have F1 : FnAt K "__init__" "NoSet.__init__" aL _ fd1 := .ofD FD1
 have B1 := FD1.bindsN (ps := ["self", "thing"]) fun _ _ _ _ _ _ us hl => match us, hl with | [_, _], _ => rfl
 have F2 : FnAt K "__init__" "NoRule.__init__" aH _ fd2 := .ofD FD2
 have B2 := FD2.bindsN (ps := ["self", "part", "number"]) fun _ _ _ _ _ _ us hl => match us, hl with | [_, _, _], _ => rfl
 have F3 : FnAt K "__init__" "NotFree.__init__" az _ fd3 := .ofD FD3
 have B3 := FD3.bindsN (ps := ["self", "things"]) fun _ _ _ _ _ _ us hl => match us, hl with | [_, _], _ => rfl
 have F4 : FnAt K "__init__" "Free.__init__" aP _ fd4 := .ofD FD4
 have B4 := FD4.bindsN (ps := ["self", "things"]) fun _ _ _ _ _ _ us hl => match us, hl with | [_, _], _ => rfl
 have F5 : FnAt K "__init__" "NoSize.__init__" aG _ fd5 := .ofD FD5
 have B5 := FD5.bindsN (ps := ["self", "size"]) fun _ _ _ _ _ _ us hl => match us, hl with | [_, _], _ => rfl
 have F6 : FnAt K "__init__" "NoRules.__init__" aB _ fd6 := .ofD FD6
 have B6 := FD6.bindsN (ps := ["self", "number"]) fun _ _ _ _ _ _ us hl => match us, hl with | [_, _], _ => rfl
 have F7 : FnAt K "__init__" "Tied.__init__" aO _ fd7 := .ofD FD7
 have B7 := FD7.bindsN (ps := ["self", "thing"]) fun _ _ _ _ _ _ us hl => match us, hl with | [_, _], _ => rfl
 have F8 : FnAt K "__init__" "NoArrows.__init__" av _ fd8 := .ofD FD8
 have B8 := FD8.bindsN (ps := ["self", "part"]) fun _ _ _ _ _ _ us hl => match us, hl with | [_, _], _ => rfl
 have F9 : FnAt K "__init__" "NoText.__init__" aF _ fd9 := .ofD FD9
 have B9 := FD9.bindsN (ps := ["self", "row"]) fun _ _ _ _ _ _ us hl => match us, hl with | [_, _], _ => rfl
 have F10 : FnAt K "__init__" "TooMany.__init__" ay _ fd10 := .ofD FD10
 have B10 := FD10.bindsN (ps := ["self", "many"]) fun _ _ _ _ _ _ us hl => match us, hl with | [_, _], _ => rfl
 have F11 : FnAt K "__init__" "NoThing.__init__" aA _ fd11 := .ofD FD11
 have B11 := FD11.bindsN (ps := ["self", "thing"]) fun _ _ _ _ _ _ us hl => match us, hl with | [_, _], _ => rfl
 have F12 : FnAt K "__init__" "NoName.__init__" aI _ fd12 := .ofD FD12
 have B12 := FD12.bindsN (ps := ["self", "name"]) fun _ _ _ _ _ _ us hl => match us, hl with | [_, _], _ => rfl
 have F13 : FnAt K "__init__" "NoDeeds.__init__" aC _ fd13 := .ofD FD13
 have B13 := FD13.bindsN (ps := ["self", "number"]) fun _ _ _ _ _ _ us hl => match us, hl with | [_, _], _ => rfl
 have F14 : FnAt K "_law_all" "_law_all" aT _ fd14 := .ofD FD14
 have B14 := FD14.bindsN (ps := ["_law_things", "_law_number", "_law_text"]) fun _ _ _ _ _ _ us hl => match us, hl with | [_, _, _], _ => rfl
 have D14 : DfG K mg "_law_all" aT ["_law_things", "_law_number", "_law_text"] _ _ := ⟨F14, PySem.W.mg_of X G a14, B14⟩
 have F15 : FnAt K "_law_kinds" "_law_kinds" aK _ fd15 := .ofD FD15
 have B15 := FD15.bindsN (ps := ["_law_e"]) fun _ _ _ _ _ _ us hl => match us, hl with | [_], _ => rfl
 have D15 : DfG K mg "_law_kinds" aK ["_law_e"] _ _ := ⟨F15, PySem.W.mg_of X G a15, B15⟩
 have F16 : FnAt K "_law_fields" "_law_fields" aE _ fd16 := .ofD FD16
 have B16 := FD16.bindsN (ps := ["_law_found"]) fun _ _ _ _ _ _ us hl => match us, hl with | [_], _ => rfl
 have D16 : DfG K mg "_law_fields" aE ["_law_found"] _ _ := ⟨F16, PySem.W.mg_of X G a16, B16⟩
 have F17 : FnAt K "_law_raised" "_law_raised" aD _ fd17 := .ofD FD17
 have B17 := FD17.bindsN (ps := ["_law_things"]) fun _ _ _ _ _ _ us hl => match us, hl with | [_], _ => rfl
 have D17 : DfG K mg "_law_raised" aD ["_law_things"] _ _ := ⟨F17, PySem.W.mg_of X G a17, B17⟩
 have F18 : FnAt K "law" "law" cw _ fd18 := .ofD FD18
 have B18 := FD18.bindsN (ps := ["_law_script"]) fun _ _ _ _ _ _ us hl => match us, hl with | [_], _ => rfl
 have D18 : DfG K mg "law" cw ["_law_script"] _ _ := ⟨F18, PySem.W.mg_of X G a18, B18⟩
 let cl : Cl := { i := fun c => List.lookup c ([] : List (String × Addr)), e := fun c => List.lookup c ([("Free", C_Free), ("NoArrows", C_NoArrows), ("NoDeed", C_NoDeed), ("NoDeeds", C_NoDeeds), ("NoHues", C_NoHues), ("NoName", C_NoName), ("NoOrder", C_NoOrder), ("NoRow", C_NoRow), ("NoRule", C_NoRule), ("NoRules", C_NoRules), ("NoSet", C_NoSet), ("NoSize", C_NoSize), ("NoText", C_NoText), ("NoThing", C_NoThing), ("NoWorths", C_NoWorths), ("NotFree", C_NotFree), ("Tied", C_Tied), ("TooMany", C_TooMany), ("Unlike", C_Unlike)] : List (String × Addr)), r0 := .non }
 have T : Txt K mg cl := {
  O := ⟨(lookup_all (l := []) fN0), (lookup_all (l := [("Free", C_Free), ("NoArrows", C_NoArrows), ("NoDeed", C_NoDeed), ("NoDeeds", C_NoDeeds), ("NoHues", C_NoHues), ("NoName", C_NoName), ("NoOrder", C_NoOrder), ("NoRow", C_NoRow), ("NoRule", C_NoRule), ("NoRules", C_NoRules), ("NoSet", C_NoSet), ("NoSize", C_NoSize), ("NoText", C_NoText), ("NoThing", C_NoThing), ("NoWorths", C_NoWorths), ("NotFree", C_NotFree), ("Tied", C_Tied), ("TooMany", C_TooMany), ("Unlike", C_Unlike)]) (fQ (⟨e1_Free, e2_Free, e3_Free, e4_Free, e5_Free, hn0, ht0, e6_Free⟩) (fQ (⟨e1_NoArrows, e2_NoArrows, e3_NoArrows, e4_NoArrows, e5_NoArrows, hn0, ht0, e6_NoArrows⟩) (fQ (⟨e1_NoDeed, e2_NoDeed, e3_NoDeed, e4_NoDeed, e5_NoDeed, hn0, ht0, e6_NoDeed⟩) (fQ (⟨e1_NoDeeds, e2_NoDeeds, e3_NoDeeds, e4_NoDeeds, e5_NoDeeds, hn0, ht0, e6_NoDeeds⟩) (fQ (⟨e1_NoHues, e2_NoHues, e3_NoHues, e4_NoHues, e5_NoHues, hn0, ht0, e6_NoHues⟩) (fQ (⟨e1_NoName, e2_NoName, e3_NoName, e4_NoName, e5_NoName, hn0, ht0, e6_NoName⟩) (fQ (⟨e1_NoOrder, e2_NoOrder, e3_NoOrder, e4_NoOrder, e5_NoOrder, hn0, ht0, e6_NoOrder⟩) (fQ (⟨e1_NoRow, e2_NoRow, e3_NoRow, e4_NoRow, e5_NoRow, hn0, ht0, e6_NoRow⟩) (fQ (⟨e1_NoRule, e2_NoRule, e3_NoRule, e4_NoRule, e5_NoRule, hn0, ht0, e6_NoRule⟩) (fQ (⟨e1_NoRules, e2_NoRules, e3_NoRules, e4_NoRules, e5_NoRules, hn0, ht0, e6_NoRules⟩) (fQ (⟨e1_NoSet, e2_NoSet, e3_NoSet, e4_NoSet, e5_NoSet, hn0, ht0, e6_NoSet⟩) (fQ (⟨e1_NoSize, e2_NoSize, e3_NoSize, e4_NoSize, e5_NoSize, hn0, ht0, e6_NoSize⟩) (fQ (⟨e1_NoText, e2_NoText, e3_NoText, e4_NoText, e5_NoText, hn0, ht0, e6_NoText⟩) (fQ (⟨e1_NoThing, e2_NoThing, e3_NoThing, e4_NoThing, e5_NoThing, hn0, ht0, e6_NoThing⟩) (fQ (⟨e1_NoWorths, e2_NoWorths, e3_NoWorths, e4_NoWorths, e5_NoWorths, hn0, ht0, e6_NoWorths⟩) (fQ (⟨e1_NotFree, e2_NotFree, e3_NotFree, e4_NotFree, e5_NotFree, hn0, ht0, e6_NotFree⟩) (fQ (⟨e1_Tied, e2_Tied, e3_Tied, e4_Tied, e5_Tied, hn0, ht0, e6_Tied⟩) (fQ (⟨e1_TooMany, e2_TooMany, e3_TooMany, e4_TooMany, e5_TooMany, hn0, ht0, e6_TooMany⟩) (fQ (⟨e1_Unlike, e2_Unlike, e3_Unlike, e4_Unlike, e5_Unlike, hn0, ht0, e6_Unlike⟩) fN0))))))))))))))))))))⟩
  ho := rfl
  d__law_numbers := ⟨_, _, D0⟩
  d__law_all := ⟨_, _, D14⟩
  d__law_kinds := ⟨_, _, D15⟩
  d__law_fields := ⟨_, _, D16⟩
  d__law_raised := ⟨_, _, D17⟩
  d_law := ⟨_, _, D18⟩
  x_NoDeed := ⟨_, PySem.F.excBase_LookupError, e7_NoDeed, e11_NoDeed, e3_NoDeed, e10_NoDeed, PySem.W.mg_of X G g_NoDeed, by simp [cl, List.lookup]⟩
  x_NoHues := ⟨_, PySem.F.excBase_Exception, e7_NoHues, e11_NoHues, e3_NoHues, e10_NoHues, PySem.W.mg_of X G g_NoHues, by simp [cl, List.lookup]⟩
  x_NoOrder := ⟨_, PySem.F.excBase_Exception, e7_NoOrder, e11_NoOrder, e3_NoOrder, e10_NoOrder, PySem.W.mg_of X G g_NoOrder, by simp [cl, List.lookup]⟩
  x_NoRow := ⟨_, PySem.F.excBase_Exception, e7_NoRow, e11_NoRow, e3_NoRow, e10_NoRow, PySem.W.mg_of X G g_NoRow, by simp [cl, List.lookup]⟩
  x_NoWorths := ⟨_, PySem.F.excBase_Exception, e7_NoWorths, e11_NoWorths, e3_NoWorths, e10_NoWorths, PySem.W.mg_of X G g_NoWorths, by simp [cl, List.lookup]⟩
  x_Unlike := ⟨_, PySem.F.excBase_Exception, e7_Unlike, e11_Unlike, e3_Unlike, e10_Unlike, PySem.W.mg_of X G g_Unlike, by simp [cl, List.lookup]⟩
  x_Free := ⟨_, _, _, .type "type", _, ⟨⟨(KEr.ox PySem.F.excBase_Exception), PySem.F.store_Exception, e7_Free, e4_Free, e8_Free, e9_Free, e3_Free, e10_Free, e11_Free⟩, a4, e12_Free, PySem.W.mg_of X G g_Free, by simp [cl, List.lookup], F4, B4, PySem.W.mg_of X G g_FreeError, ⟨e13_Free, e14_Free⟩, e15_Free⟩, ef0_Free⟩
  x_NoArrows := ⟨_, _, _, .type "type", _, ⟨⟨(KEr.ox PySem.F.excBase_Exception), PySem.F.store_Exception, e7_NoArrows, e4_NoArrows, e8_NoArrows, e9_NoArrows, e3_NoArrows, e10_NoArrows, e11_NoArrows⟩, a8, e12_NoArrows, PySem.W.mg_of X G g_NoArrows, by simp [cl, List.lookup], F8, B8, PySem.W.mg_of X G g_FreeError, ⟨e13_NoArrows, e14_NoArrows⟩, e15_NoArrows⟩, ef0_NoArrows⟩
  x_NoDeeds := ⟨_, _, _, .type "type", _, ⟨⟨(KEr.ox PySem.F.excBase_Exception), PySem.F.store_Exception, e7_NoDeeds, e4_NoDeeds, e8_NoDeeds, e9_NoDeeds, e3_NoDeeds, e10_NoDeeds, e11_NoDeeds⟩, a13, e12_NoDeeds, PySem.W.mg_of X G g_NoDeeds, by simp [cl, List.lookup], F13, B13, PySem.W.mg_of X G g_FreeError, ⟨e13_NoDeeds, e14_NoDeeds⟩, e15_NoDeeds⟩, ef0_NoDeeds⟩
  x_NoName := ⟨_, _, _, ⟨⟨KEr.oxK, KEr.mK, e7_NoName, e4_NoName, e8_NoName, e9_NoName, e3_NoName, e10_NoName, e11_NoName⟩, a12, e12_NoName, PySem.W.mg_of X G g_NoName, by simp [cl, List.lookup], F12, B12, ft, PySem.W.mg_none_of X G e13_NoName, e15_NoName⟩, ef0_NoName⟩
  x_NoRule := ⟨_, _, _, .type "type", _, ⟨⟨(KEr.ox PySem.F.excBase_Exception), PySem.F.store_Exception, e7_NoRule, e4_NoRule, e8_NoRule, e9_NoRule, e3_NoRule, e10_NoRule, e11_NoRule⟩, a2, e12_NoRule, PySem.W.mg_of X G g_NoRule, by simp [cl, List.lookup], F2, B2, PySem.W.mg_of X G g_FreeError, ⟨e13_NoRule, e14_NoRule⟩, e15_NoRule⟩, ef0_NoRule, ef1_NoRule⟩
  x_NoRules := ⟨_, _, _, .type "type", _, ⟨⟨(KEr.ox PySem.F.excBase_Exception), PySem.F.store_Exception, e7_NoRules, e4_NoRules, e8_NoRules, e9_NoRules, e3_NoRules, e10_NoRules, e11_NoRules⟩, a6, e12_NoRules, PySem.W.mg_of X G g_NoRules, by simp [cl, List.lookup], F6, B6, PySem.W.mg_of X G g_FreeError, ⟨e13_NoRules, e14_NoRules⟩, e15_NoRules⟩, ef0_NoRules⟩
  x_NoSet := ⟨_, _, _, .type "type", _, ⟨⟨(KEr.ox PySem.F.excBase_Exception), PySem.F.store_Exception, e7_NoSet, e4_NoSet, e8_NoSet, e9_NoSet, e3_NoSet, e10_NoSet, e11_NoSet⟩, a1, e12_NoSet, PySem.W.mg_of X G g_NoSet, by simp [cl, List.lookup], F1, B1, PySem.W.mg_of X G g_FreeError, ⟨e13_NoSet, e14_NoSet⟩, e15_NoSet⟩, ef0_NoSet⟩
  x_NoSize := ⟨_, _, _, .type "type", _, ⟨⟨(KEr.ox PySem.F.excBase_Exception), PySem.F.store_Exception, e7_NoSize, e4_NoSize, e8_NoSize, e9_NoSize, e3_NoSize, e10_NoSize, e11_NoSize⟩, a5, e12_NoSize, PySem.W.mg_of X G g_NoSize, by simp [cl, List.lookup], F5, B5, PySem.W.mg_of X G g_FreeError, ⟨e13_NoSize, e14_NoSize⟩, e15_NoSize⟩, ef0_NoSize⟩
  x_NoText := ⟨_, _, _, .type "type", _, ⟨⟨(KEr.ox PySem.F.excBase_Exception), PySem.F.store_Exception, e7_NoText, e4_NoText, e8_NoText, e9_NoText, e3_NoText, e10_NoText, e11_NoText⟩, a9, e12_NoText, PySem.W.mg_of X G g_NoText, by simp [cl, List.lookup], F9, B9, PySem.W.mg_of X G g_FreeError, ⟨e13_NoText, e14_NoText⟩, e15_NoText⟩, ef0_NoText⟩
  x_NoThing := ⟨_, _, _, ⟨⟨(KEr.ox PySem.F.excBase_IndexError), PySem.F.store_IndexError, e7_NoThing, e4_NoThing, e8_NoThing, e9_NoThing, e3_NoThing, e10_NoThing, e11_NoThing⟩, a11, e12_NoThing, PySem.W.mg_of X G g_NoThing, by simp [cl, List.lookup], F11, B11, dW, PySem.W.mg_none_of X G e13_NoThing, e15_NoThing⟩, ef0_NoThing⟩
  x_NotFree := ⟨_, _, _, .type "type", _, ⟨⟨(KEr.ox PySem.F.excBase_Exception), PySem.F.store_Exception, e7_NotFree, e4_NotFree, e8_NotFree, e9_NotFree, e3_NotFree, e10_NotFree, e11_NotFree⟩, a3, e12_NotFree, PySem.W.mg_of X G g_NotFree, by simp [cl, List.lookup], F3, B3, PySem.W.mg_of X G g_FreeError, ⟨e13_NotFree, e14_NotFree⟩, e15_NotFree⟩, ef0_NotFree⟩
  x_Tied := ⟨_, _, _, .type "type", _, ⟨⟨(KEr.ox PySem.F.excBase_Exception), PySem.F.store_Exception, e7_Tied, e4_Tied, e8_Tied, e9_Tied, e3_Tied, e10_Tied, e11_Tied⟩, a7, e12_Tied, PySem.W.mg_of X G g_Tied, by simp [cl, List.lookup], F7, B7, PySem.W.mg_of X G g_FreeError, ⟨e13_Tied, e14_Tied⟩, e15_Tied⟩, ef0_Tied⟩
  x_TooMany := ⟨_, _, _, .type "type", _, ⟨⟨(KEr.ox PySem.F.excBase_Exception), PySem.F.store_Exception, e7_TooMany, e4_TooMany, e8_TooMany, e9_TooMany, e3_TooMany, e10_TooMany, e11_TooMany⟩, a10, e12_TooMany, PySem.W.mg_of X G g_TooMany, by simp [cl, List.lookup], F10, B10, PySem.W.mg_of X G g_FreeError, ⟨e13_TooMany, e14_TooMany⟩, e15_TooMany⟩, ef0_TooMany⟩
  t_Free := ⟨_, PySem.W.mg_of X G g_Free, bj (fQ t00_Free (fQ t01_Free (fQ t02_Free (fQ t03_Free (fQ t04_Free (fQ t05_Free (fQ t06_Free (fQ t07_Free fN0)))))))) (lookup_all (l := []) fN0) (lookup_all (l := [("Free", C_Free), ("NoArrows", C_NoArrows), ("NoDeed", C_NoDeed), ("NoDeeds", C_NoDeeds), ("NoHues", C_NoHues), ("NoName", C_NoName), ("NoOrder", C_NoOrder), ("NoRow", C_NoRow), ("NoRule", C_NoRule), ("NoRules", C_NoRules), ("NoSet", C_NoSet), ("NoSize", C_NoSize), ("NoText", C_NoText), ("NoThing", C_NoThing), ("NoWorths", C_NoWorths), ("NotFree", C_NotFree), ("Tied", C_Tied), ("TooMany", C_TooMany), ("Unlike", C_Unlike)]) (fQ ((t_Free_Free.trans (by simp))) (fQ ((t_Free_NoArrows.trans (by simp))) (fQ ((t_Free_NoDeed.trans (by simp))) (fQ ((t_Free_NoDeeds.trans (by simp))) (fQ ((t_Free_NoHues.trans (by simp))) (fQ ((t_Free_NoName.trans (by simp))) (fQ ((t_Free_NoOrder.trans (by simp))) (fQ ((t_Free_NoRow.trans (by simp))) (fQ ((t_Free_NoRule.trans (by simp))) (fQ ((t_Free_NoRules.trans (by simp))) (fQ ((t_Free_NoSet.trans (by simp))) (fQ ((t_Free_NoSize.trans (by simp))) (fQ ((t_Free_NoText.trans (by simp))) (fQ ((t_Free_NoThing.trans (by simp))) (fQ ((t_Free_NoWorths.trans (by simp))) (fQ ((t_Free_NotFree.trans (by simp))) (fQ ((t_Free_Tied.trans (by simp))) (fQ ((t_Free_TooMany.trans (by simp))) (fQ ((t_Free_Unlike.trans (by simp))) fN0))))))))))))))))))))⟩
  t_FreeError := ⟨_, PySem.W.mg_of X G g_FreeError, bj (fQ t00_FreeError (fQ t01_FreeError (fQ t02_FreeError (fQ t03_FreeError (fQ t04_FreeError (fQ t05_FreeError (fQ t06_FreeError (fQ t07_FreeError fN0)))))))) (lookup_all (l := []) fN0) (lookup_all (l := [("Free", C_Free), ("NoArrows", C_NoArrows), ("NoDeed", C_NoDeed), ("NoDeeds", C_NoDeeds), ("NoHues", C_NoHues), ("NoName", C_NoName), ("NoOrder", C_NoOrder), ("NoRow", C_NoRow), ("NoRule", C_NoRule), ("NoRules", C_NoRules), ("NoSet", C_NoSet), ("NoSize", C_NoSize), ("NoText", C_NoText), ("NoThing", C_NoThing), ("NoWorths", C_NoWorths), ("NotFree", C_NotFree), ("Tied", C_Tied), ("TooMany", C_TooMany), ("Unlike", C_Unlike)]) (fQ ((t_FreeError_Free.trans (by simp))) (fQ ((t_FreeError_NoArrows.trans (by simp))) (fQ ((t_FreeError_NoDeed.trans (by simp))) (fQ ((t_FreeError_NoDeeds.trans (by simp))) (fQ ((t_FreeError_NoHues.trans (by simp))) (fQ ((t_FreeError_NoName.trans (by simp))) (fQ ((t_FreeError_NoOrder.trans (by simp))) (fQ ((t_FreeError_NoRow.trans (by simp))) (fQ ((t_FreeError_NoRule.trans (by simp))) (fQ ((t_FreeError_NoRules.trans (by simp))) (fQ ((t_FreeError_NoSet.trans (by simp))) (fQ ((t_FreeError_NoSize.trans (by simp))) (fQ ((t_FreeError_NoText.trans (by simp))) (fQ ((t_FreeError_NoThing.trans (by simp))) (fQ ((t_FreeError_NoWorths.trans (by simp))) (fQ ((t_FreeError_NotFree.trans (by simp))) (fQ ((t_FreeError_Tied.trans (by simp))) (fQ ((t_FreeError_TooMany.trans (by simp))) (fQ ((t_FreeError_Unlike.trans (by simp))) fN0))))))))))))))))))))⟩
  t_NoArrows := ⟨_, PySem.W.mg_of X G g_NoArrows, bj (fQ t00_NoArrows (fQ t01_NoArrows (fQ t02_NoArrows (fQ t03_NoArrows (fQ t04_NoArrows (fQ t05_NoArrows (fQ t06_NoArrows (fQ t07_NoArrows fN0)))))))) (lookup_all (l := []) fN0) (lookup_all (l := [("Free", C_Free), ("NoArrows", C_NoArrows), ("NoDeed", C_NoDeed), ("NoDeeds", C_NoDeeds), ("NoHues", C_NoHues), ("NoName", C_NoName), ("NoOrder", C_NoOrder), ("NoRow", C_NoRow), ("NoRule", C_NoRule), ("NoRules", C_NoRules), ("NoSet", C_NoSet), ("NoSize", C_NoSize), ("NoText", C_NoText), ("NoThing", C_NoThing), ("NoWorths", C_NoWorths), ("NotFree", C_NotFree), ("Tied", C_Tied), ("TooMany", C_TooMany), ("Unlike", C_Unlike)]) (fQ ((t_NoArrows_Free.trans (by simp))) (fQ ((t_NoArrows_NoArrows.trans (by simp))) (fQ ((t_NoArrows_NoDeed.trans (by simp))) (fQ ((t_NoArrows_NoDeeds.trans (by simp))) (fQ ((t_NoArrows_NoHues.trans (by simp))) (fQ ((t_NoArrows_NoName.trans (by simp))) (fQ ((t_NoArrows_NoOrder.trans (by simp))) (fQ ((t_NoArrows_NoRow.trans (by simp))) (fQ ((t_NoArrows_NoRule.trans (by simp))) (fQ ((t_NoArrows_NoRules.trans (by simp))) (fQ ((t_NoArrows_NoSet.trans (by simp))) (fQ ((t_NoArrows_NoSize.trans (by simp))) (fQ ((t_NoArrows_NoText.trans (by simp))) (fQ ((t_NoArrows_NoThing.trans (by simp))) (fQ ((t_NoArrows_NoWorths.trans (by simp))) (fQ ((t_NoArrows_NotFree.trans (by simp))) (fQ ((t_NoArrows_Tied.trans (by simp))) (fQ ((t_NoArrows_TooMany.trans (by simp))) (fQ ((t_NoArrows_Unlike.trans (by simp))) fN0))))))))))))))))))))⟩
  t_NoDeed := ⟨_, PySem.W.mg_of X G g_NoDeed, bj (fQ t00_NoDeed (fQ t01_NoDeed (fQ t02_NoDeed (fQ t03_NoDeed (fQ t04_NoDeed (fQ t05_NoDeed (fQ t06_NoDeed (fQ t07_NoDeed fN0)))))))) (lookup_all (l := []) fN0) (lookup_all (l := [("Free", C_Free), ("NoArrows", C_NoArrows), ("NoDeed", C_NoDeed), ("NoDeeds", C_NoDeeds), ("NoHues", C_NoHues), ("NoName", C_NoName), ("NoOrder", C_NoOrder), ("NoRow", C_NoRow), ("NoRule", C_NoRule), ("NoRules", C_NoRules), ("NoSet", C_NoSet), ("NoSize", C_NoSize), ("NoText", C_NoText), ("NoThing", C_NoThing), ("NoWorths", C_NoWorths), ("NotFree", C_NotFree), ("Tied", C_Tied), ("TooMany", C_TooMany), ("Unlike", C_Unlike)]) (fQ ((t_NoDeed_Free.trans (by simp))) (fQ ((t_NoDeed_NoArrows.trans (by simp))) (fQ ((t_NoDeed_NoDeed.trans (by simp))) (fQ ((t_NoDeed_NoDeeds.trans (by simp))) (fQ ((t_NoDeed_NoHues.trans (by simp))) (fQ ((t_NoDeed_NoName.trans (by simp))) (fQ ((t_NoDeed_NoOrder.trans (by simp))) (fQ ((t_NoDeed_NoRow.trans (by simp))) (fQ ((t_NoDeed_NoRule.trans (by simp))) (fQ ((t_NoDeed_NoRules.trans (by simp))) (fQ ((t_NoDeed_NoSet.trans (by simp))) (fQ ((t_NoDeed_NoSize.trans (by simp))) (fQ ((t_NoDeed_NoText.trans (by simp))) (fQ ((t_NoDeed_NoThing.trans (by simp))) (fQ ((t_NoDeed_NoWorths.trans (by simp))) (fQ ((t_NoDeed_NotFree.trans (by simp))) (fQ ((t_NoDeed_Tied.trans (by simp))) (fQ ((t_NoDeed_TooMany.trans (by simp))) (fQ ((t_NoDeed_Unlike.trans (by simp))) fN0))))))))))))))))))))⟩
  t_NoDeeds := ⟨_, PySem.W.mg_of X G g_NoDeeds, bj (fQ t00_NoDeeds (fQ t01_NoDeeds (fQ t02_NoDeeds (fQ t03_NoDeeds (fQ t04_NoDeeds (fQ t05_NoDeeds (fQ t06_NoDeeds (fQ t07_NoDeeds fN0)))))))) (lookup_all (l := []) fN0) (lookup_all (l := [("Free", C_Free), ("NoArrows", C_NoArrows), ("NoDeed", C_NoDeed), ("NoDeeds", C_NoDeeds), ("NoHues", C_NoHues), ("NoName", C_NoName), ("NoOrder", C_NoOrder), ("NoRow", C_NoRow), ("NoRule", C_NoRule), ("NoRules", C_NoRules), ("NoSet", C_NoSet), ("NoSize", C_NoSize), ("NoText", C_NoText), ("NoThing", C_NoThing), ("NoWorths", C_NoWorths), ("NotFree", C_NotFree), ("Tied", C_Tied), ("TooMany", C_TooMany), ("Unlike", C_Unlike)]) (fQ ((t_NoDeeds_Free.trans (by simp))) (fQ ((t_NoDeeds_NoArrows.trans (by simp))) (fQ ((t_NoDeeds_NoDeed.trans (by simp))) (fQ ((t_NoDeeds_NoDeeds.trans (by simp))) (fQ ((t_NoDeeds_NoHues.trans (by simp))) (fQ ((t_NoDeeds_NoName.trans (by simp))) (fQ ((t_NoDeeds_NoOrder.trans (by simp))) (fQ ((t_NoDeeds_NoRow.trans (by simp))) (fQ ((t_NoDeeds_NoRule.trans (by simp))) (fQ ((t_NoDeeds_NoRules.trans (by simp))) (fQ ((t_NoDeeds_NoSet.trans (by simp))) (fQ ((t_NoDeeds_NoSize.trans (by simp))) (fQ ((t_NoDeeds_NoText.trans (by simp))) (fQ ((t_NoDeeds_NoThing.trans (by simp))) (fQ ((t_NoDeeds_NoWorths.trans (by simp))) (fQ ((t_NoDeeds_NotFree.trans (by simp))) (fQ ((t_NoDeeds_Tied.trans (by simp))) (fQ ((t_NoDeeds_TooMany.trans (by simp))) (fQ ((t_NoDeeds_Unlike.trans (by simp))) fN0))))))))))))))))))))⟩
  t_NoHues := ⟨_, PySem.W.mg_of X G g_NoHues, bj (fQ t00_NoHues (fQ t01_NoHues (fQ t02_NoHues (fQ t03_NoHues (fQ t04_NoHues (fQ t05_NoHues (fQ t06_NoHues (fQ t07_NoHues fN0)))))))) (lookup_all (l := []) fN0) (lookup_all (l := [("Free", C_Free), ("NoArrows", C_NoArrows), ("NoDeed", C_NoDeed), ("NoDeeds", C_NoDeeds), ("NoHues", C_NoHues), ("NoName", C_NoName), ("NoOrder", C_NoOrder), ("NoRow", C_NoRow), ("NoRule", C_NoRule), ("NoRules", C_NoRules), ("NoSet", C_NoSet), ("NoSize", C_NoSize), ("NoText", C_NoText), ("NoThing", C_NoThing), ("NoWorths", C_NoWorths), ("NotFree", C_NotFree), ("Tied", C_Tied), ("TooMany", C_TooMany), ("Unlike", C_Unlike)]) (fQ ((t_NoHues_Free.trans (by simp))) (fQ ((t_NoHues_NoArrows.trans (by simp))) (fQ ((t_NoHues_NoDeed.trans (by simp))) (fQ ((t_NoHues_NoDeeds.trans (by simp))) (fQ ((t_NoHues_NoHues.trans (by simp))) (fQ ((t_NoHues_NoName.trans (by simp))) (fQ ((t_NoHues_NoOrder.trans (by simp))) (fQ ((t_NoHues_NoRow.trans (by simp))) (fQ ((t_NoHues_NoRule.trans (by simp))) (fQ ((t_NoHues_NoRules.trans (by simp))) (fQ ((t_NoHues_NoSet.trans (by simp))) (fQ ((t_NoHues_NoSize.trans (by simp))) (fQ ((t_NoHues_NoText.trans (by simp))) (fQ ((t_NoHues_NoThing.trans (by simp))) (fQ ((t_NoHues_NoWorths.trans (by simp))) (fQ ((t_NoHues_NotFree.trans (by simp))) (fQ ((t_NoHues_Tied.trans (by simp))) (fQ ((t_NoHues_TooMany.trans (by simp))) (fQ ((t_NoHues_Unlike.trans (by simp))) fN0))))))))))))))))))))⟩
  t_NoName := ⟨_, PySem.W.mg_of X G g_NoName, bj (fQ t00_NoName (fQ t01_NoName (fQ t02_NoName (fQ t03_NoName (fQ t04_NoName (fQ t05_NoName (fQ t06_NoName (fQ t07_NoName fN0)))))))) (lookup_all (l := []) fN0) (lookup_all (l := [("Free", C_Free), ("NoArrows", C_NoArrows), ("NoDeed", C_NoDeed), ("NoDeeds", C_NoDeeds), ("NoHues", C_NoHues), ("NoName", C_NoName), ("NoOrder", C_NoOrder), ("NoRow", C_NoRow), ("NoRule", C_NoRule), ("NoRules", C_NoRules), ("NoSet", C_NoSet), ("NoSize", C_NoSize), ("NoText", C_NoText), ("NoThing", C_NoThing), ("NoWorths", C_NoWorths), ("NotFree", C_NotFree), ("Tied", C_Tied), ("TooMany", C_TooMany), ("Unlike", C_Unlike)]) (fQ ((t_NoName_Free.trans (by simp))) (fQ ((t_NoName_NoArrows.trans (by simp))) (fQ ((t_NoName_NoDeed.trans (by simp))) (fQ ((t_NoName_NoDeeds.trans (by simp))) (fQ ((t_NoName_NoHues.trans (by simp))) (fQ ((t_NoName_NoName.trans (by simp))) (fQ ((t_NoName_NoOrder.trans (by simp))) (fQ ((t_NoName_NoRow.trans (by simp))) (fQ ((t_NoName_NoRule.trans (by simp))) (fQ ((t_NoName_NoRules.trans (by simp))) (fQ ((t_NoName_NoSet.trans (by simp))) (fQ ((t_NoName_NoSize.trans (by simp))) (fQ ((t_NoName_NoText.trans (by simp))) (fQ ((t_NoName_NoThing.trans (by simp))) (fQ ((t_NoName_NoWorths.trans (by simp))) (fQ ((t_NoName_NotFree.trans (by simp))) (fQ ((t_NoName_Tied.trans (by simp))) (fQ ((t_NoName_TooMany.trans (by simp))) (fQ ((t_NoName_Unlike.trans (by simp))) fN0))))))))))))))))))))⟩
  t_NoOrder := ⟨_, PySem.W.mg_of X G g_NoOrder, bj (fQ t00_NoOrder (fQ t01_NoOrder (fQ t02_NoOrder (fQ t03_NoOrder (fQ t04_NoOrder (fQ t05_NoOrder (fQ t06_NoOrder (fQ t07_NoOrder fN0)))))))) (lookup_all (l := []) fN0) (lookup_all (l := [("Free", C_Free), ("NoArrows", C_NoArrows), ("NoDeed", C_NoDeed), ("NoDeeds", C_NoDeeds), ("NoHues", C_NoHues), ("NoName", C_NoName), ("NoOrder", C_NoOrder), ("NoRow", C_NoRow), ("NoRule", C_NoRule), ("NoRules", C_NoRules), ("NoSet", C_NoSet), ("NoSize", C_NoSize), ("NoText", C_NoText), ("NoThing", C_NoThing), ("NoWorths", C_NoWorths), ("NotFree", C_NotFree), ("Tied", C_Tied), ("TooMany", C_TooMany), ("Unlike", C_Unlike)]) (fQ ((t_NoOrder_Free.trans (by simp))) (fQ ((t_NoOrder_NoArrows.trans (by simp))) (fQ ((t_NoOrder_NoDeed.trans (by simp))) (fQ ((t_NoOrder_NoDeeds.trans (by simp))) (fQ ((t_NoOrder_NoHues.trans (by simp))) (fQ ((t_NoOrder_NoName.trans (by simp))) (fQ ((t_NoOrder_NoOrder.trans (by simp))) (fQ ((t_NoOrder_NoRow.trans (by simp))) (fQ ((t_NoOrder_NoRule.trans (by simp))) (fQ ((t_NoOrder_NoRules.trans (by simp))) (fQ ((t_NoOrder_NoSet.trans (by simp))) (fQ ((t_NoOrder_NoSize.trans (by simp))) (fQ ((t_NoOrder_NoText.trans (by simp))) (fQ ((t_NoOrder_NoThing.trans (by simp))) (fQ ((t_NoOrder_NoWorths.trans (by simp))) (fQ ((t_NoOrder_NotFree.trans (by simp))) (fQ ((t_NoOrder_Tied.trans (by simp))) (fQ ((t_NoOrder_TooMany.trans (by simp))) (fQ ((t_NoOrder_Unlike.trans (by simp))) fN0))))))))))))))))))))⟩
  t_NoRow := ⟨_, PySem.W.mg_of X G g_NoRow, bj (fQ t00_NoRow (fQ t01_NoRow (fQ t02_NoRow (fQ t03_NoRow (fQ t04_NoRow (fQ t05_NoRow (fQ t06_NoRow (fQ t07_NoRow fN0)))))))) (lookup_all (l := []) fN0) (lookup_all (l := [("Free", C_Free), ("NoArrows", C_NoArrows), ("NoDeed", C_NoDeed), ("NoDeeds", C_NoDeeds), ("NoHues", C_NoHues), ("NoName", C_NoName), ("NoOrder", C_NoOrder), ("NoRow", C_NoRow), ("NoRule", C_NoRule), ("NoRules", C_NoRules), ("NoSet", C_NoSet), ("NoSize", C_NoSize), ("NoText", C_NoText), ("NoThing", C_NoThing), ("NoWorths", C_NoWorths), ("NotFree", C_NotFree), ("Tied", C_Tied), ("TooMany", C_TooMany), ("Unlike", C_Unlike)]) (fQ ((t_NoRow_Free.trans (by simp))) (fQ ((t_NoRow_NoArrows.trans (by simp))) (fQ ((t_NoRow_NoDeed.trans (by simp))) (fQ ((t_NoRow_NoDeeds.trans (by simp))) (fQ ((t_NoRow_NoHues.trans (by simp))) (fQ ((t_NoRow_NoName.trans (by simp))) (fQ ((t_NoRow_NoOrder.trans (by simp))) (fQ ((t_NoRow_NoRow.trans (by simp))) (fQ ((t_NoRow_NoRule.trans (by simp))) (fQ ((t_NoRow_NoRules.trans (by simp))) (fQ ((t_NoRow_NoSet.trans (by simp))) (fQ ((t_NoRow_NoSize.trans (by simp))) (fQ ((t_NoRow_NoText.trans (by simp))) (fQ ((t_NoRow_NoThing.trans (by simp))) (fQ ((t_NoRow_NoWorths.trans (by simp))) (fQ ((t_NoRow_NotFree.trans (by simp))) (fQ ((t_NoRow_Tied.trans (by simp))) (fQ ((t_NoRow_TooMany.trans (by simp))) (fQ ((t_NoRow_Unlike.trans (by simp))) fN0))))))))))))))))))))⟩
  t_NoRule := ⟨_, PySem.W.mg_of X G g_NoRule, bj (fQ t00_NoRule (fQ t01_NoRule (fQ t02_NoRule (fQ t03_NoRule (fQ t04_NoRule (fQ t05_NoRule (fQ t06_NoRule (fQ t07_NoRule fN0)))))))) (lookup_all (l := []) fN0) (lookup_all (l := [("Free", C_Free), ("NoArrows", C_NoArrows), ("NoDeed", C_NoDeed), ("NoDeeds", C_NoDeeds), ("NoHues", C_NoHues), ("NoName", C_NoName), ("NoOrder", C_NoOrder), ("NoRow", C_NoRow), ("NoRule", C_NoRule), ("NoRules", C_NoRules), ("NoSet", C_NoSet), ("NoSize", C_NoSize), ("NoText", C_NoText), ("NoThing", C_NoThing), ("NoWorths", C_NoWorths), ("NotFree", C_NotFree), ("Tied", C_Tied), ("TooMany", C_TooMany), ("Unlike", C_Unlike)]) (fQ ((t_NoRule_Free.trans (by simp))) (fQ ((t_NoRule_NoArrows.trans (by simp))) (fQ ((t_NoRule_NoDeed.trans (by simp))) (fQ ((t_NoRule_NoDeeds.trans (by simp))) (fQ ((t_NoRule_NoHues.trans (by simp))) (fQ ((t_NoRule_NoName.trans (by simp))) (fQ ((t_NoRule_NoOrder.trans (by simp))) (fQ ((t_NoRule_NoRow.trans (by simp))) (fQ ((t_NoRule_NoRule.trans (by simp))) (fQ ((t_NoRule_NoRules.trans (by simp))) (fQ ((t_NoRule_NoSet.trans (by simp))) (fQ ((t_NoRule_NoSize.trans (by simp))) (fQ ((t_NoRule_NoText.trans (by simp))) (fQ ((t_NoRule_NoThing.trans (by simp))) (fQ ((t_NoRule_NoWorths.trans (by simp))) (fQ ((t_NoRule_NotFree.trans (by simp))) (fQ ((t_NoRule_Tied.trans (by simp))) (fQ ((t_NoRule_TooMany.trans (by simp))) (fQ ((t_NoRule_Unlike.trans (by simp))) fN0))))))))))))))))))))⟩
  t_NoRules := ⟨_, PySem.W.mg_of X G g_NoRules, bj (fQ t00_NoRules (fQ t01_NoRules (fQ t02_NoRules (fQ t03_NoRules (fQ t04_NoRules (fQ t05_NoRules (fQ t06_NoRules (fQ t07_NoRules fN0)))))))) (lookup_all (l := []) fN0) (lookup_all (l := [("Free", C_Free), ("NoArrows", C_NoArrows), ("NoDeed", C_NoDeed), ("NoDeeds", C_NoDeeds), ("NoHues", C_NoHues), ("NoName", C_NoName), ("NoOrder", C_NoOrder), ("NoRow", C_NoRow), ("NoRule", C_NoRule), ("NoRules", C_NoRules), ("NoSet", C_NoSet), ("NoSize", C_NoSize), ("NoText", C_NoText), ("NoThing", C_NoThing), ("NoWorths", C_NoWorths), ("NotFree", C_NotFree), ("Tied", C_Tied), ("TooMany", C_TooMany), ("Unlike", C_Unlike)]) (fQ ((t_NoRules_Free.trans (by simp))) (fQ ((t_NoRules_NoArrows.trans (by simp))) (fQ ((t_NoRules_NoDeed.trans (by simp))) (fQ ((t_NoRules_NoDeeds.trans (by simp))) (fQ ((t_NoRules_NoHues.trans (by simp))) (fQ ((t_NoRules_NoName.trans (by simp))) (fQ ((t_NoRules_NoOrder.trans (by simp))) (fQ ((t_NoRules_NoRow.trans (by simp))) (fQ ((t_NoRules_NoRule.trans (by simp))) (fQ ((t_NoRules_NoRules.trans (by simp))) (fQ ((t_NoRules_NoSet.trans (by simp))) (fQ ((t_NoRules_NoSize.trans (by simp))) (fQ ((t_NoRules_NoText.trans (by simp))) (fQ ((t_NoRules_NoThing.trans (by simp))) (fQ ((t_NoRules_NoWorths.trans (by simp))) (fQ ((t_NoRules_NotFree.trans (by simp))) (fQ ((t_NoRules_Tied.trans (by simp))) (fQ ((t_NoRules_TooMany.trans (by simp))) (fQ ((t_NoRules_Unlike.trans (by simp))) fN0))))))))))))))))))))⟩
  t_NoSet := ⟨_, PySem.W.mg_of X G g_NoSet, bj (fQ t00_NoSet (fQ t01_NoSet (fQ t02_NoSet (fQ t03_NoSet (fQ t04_NoSet (fQ t05_NoSet (fQ t06_NoSet (fQ t07_NoSet fN0)))))))) (lookup_all (l := []) fN0) (lookup_all (l := [("Free", C_Free), ("NoArrows", C_NoArrows), ("NoDeed", C_NoDeed), ("NoDeeds", C_NoDeeds), ("NoHues", C_NoHues), ("NoName", C_NoName), ("NoOrder", C_NoOrder), ("NoRow", C_NoRow), ("NoRule", C_NoRule), ("NoRules", C_NoRules), ("NoSet", C_NoSet), ("NoSize", C_NoSize), ("NoText", C_NoText), ("NoThing", C_NoThing), ("NoWorths", C_NoWorths), ("NotFree", C_NotFree), ("Tied", C_Tied), ("TooMany", C_TooMany), ("Unlike", C_Unlike)]) (fQ ((t_NoSet_Free.trans (by simp))) (fQ ((t_NoSet_NoArrows.trans (by simp))) (fQ ((t_NoSet_NoDeed.trans (by simp))) (fQ ((t_NoSet_NoDeeds.trans (by simp))) (fQ ((t_NoSet_NoHues.trans (by simp))) (fQ ((t_NoSet_NoName.trans (by simp))) (fQ ((t_NoSet_NoOrder.trans (by simp))) (fQ ((t_NoSet_NoRow.trans (by simp))) (fQ ((t_NoSet_NoRule.trans (by simp))) (fQ ((t_NoSet_NoRules.trans (by simp))) (fQ ((t_NoSet_NoSet.trans (by simp))) (fQ ((t_NoSet_NoSize.trans (by simp))) (fQ ((t_NoSet_NoText.trans (by simp))) (fQ ((t_NoSet_NoThing.trans (by simp))) (fQ ((t_NoSet_NoWorths.trans (by simp))) (fQ ((t_NoSet_NotFree.trans (by simp))) (fQ ((t_NoSet_Tied.trans (by simp))) (fQ ((t_NoSet_TooMany.trans (by simp))) (fQ ((t_NoSet_Unlike.trans (by simp))) fN0))))))))))))))))))))⟩
  t_NoSize := ⟨_, PySem.W.mg_of X G g_NoSize, bj (fQ t00_NoSize (fQ t01_NoSize (fQ t02_NoSize (fQ t03_NoSize (fQ t04_NoSize (fQ t05_NoSize (fQ t06_NoSize (fQ t07_NoSize fN0)))))))) (lookup_all (l := []) fN0) (lookup_all (l := [("Free", C_Free), ("NoArrows", C_NoArrows), ("NoDeed", C_NoDeed), ("NoDeeds", C_NoDeeds), ("NoHues", C_NoHues), ("NoName", C_NoName), ("NoOrder", C_NoOrder), ("NoRow", C_NoRow), ("NoRule", C_NoRule), ("NoRules", C_NoRules), ("NoSet", C_NoSet), ("NoSize", C_NoSize), ("NoText", C_NoText), ("NoThing", C_NoThing), ("NoWorths", C_NoWorths), ("NotFree", C_NotFree), ("Tied", C_Tied), ("TooMany", C_TooMany), ("Unlike", C_Unlike)]) (fQ ((t_NoSize_Free.trans (by simp))) (fQ ((t_NoSize_NoArrows.trans (by simp))) (fQ ((t_NoSize_NoDeed.trans (by simp))) (fQ ((t_NoSize_NoDeeds.trans (by simp))) (fQ ((t_NoSize_NoHues.trans (by simp))) (fQ ((t_NoSize_NoName.trans (by simp))) (fQ ((t_NoSize_NoOrder.trans (by simp))) (fQ ((t_NoSize_NoRow.trans (by simp))) (fQ ((t_NoSize_NoRule.trans (by simp))) (fQ ((t_NoSize_NoRules.trans (by simp))) (fQ ((t_NoSize_NoSet.trans (by simp))) (fQ ((t_NoSize_NoSize.trans (by simp))) (fQ ((t_NoSize_NoText.trans (by simp))) (fQ ((t_NoSize_NoThing.trans (by simp))) (fQ ((t_NoSize_NoWorths.trans (by simp))) (fQ ((t_NoSize_NotFree.trans (by simp))) (fQ ((t_NoSize_Tied.trans (by simp))) (fQ ((t_NoSize_TooMany.trans (by simp))) (fQ ((t_NoSize_Unlike.trans (by simp))) fN0))))))))))))))))))))⟩
  t_NoText := ⟨_, PySem.W.mg_of X G g_NoText, bj (fQ t00_NoText (fQ t01_NoText (fQ t02_NoText (fQ t03_NoText (fQ t04_NoText (fQ t05_NoText (fQ t06_NoText (fQ t07_NoText fN0)))))))) (lookup_all (l := []) fN0) (lookup_all (l := [("Free", C_Free), ("NoArrows", C_NoArrows), ("NoDeed", C_NoDeed), ("NoDeeds", C_NoDeeds), ("NoHues", C_NoHues), ("NoName", C_NoName), ("NoOrder", C_NoOrder), ("NoRow", C_NoRow), ("NoRule", C_NoRule), ("NoRules", C_NoRules), ("NoSet", C_NoSet), ("NoSize", C_NoSize), ("NoText", C_NoText), ("NoThing", C_NoThing), ("NoWorths", C_NoWorths), ("NotFree", C_NotFree), ("Tied", C_Tied), ("TooMany", C_TooMany), ("Unlike", C_Unlike)]) (fQ ((t_NoText_Free.trans (by simp))) (fQ ((t_NoText_NoArrows.trans (by simp))) (fQ ((t_NoText_NoDeed.trans (by simp))) (fQ ((t_NoText_NoDeeds.trans (by simp))) (fQ ((t_NoText_NoHues.trans (by simp))) (fQ ((t_NoText_NoName.trans (by simp))) (fQ ((t_NoText_NoOrder.trans (by simp))) (fQ ((t_NoText_NoRow.trans (by simp))) (fQ ((t_NoText_NoRule.trans (by simp))) (fQ ((t_NoText_NoRules.trans (by simp))) (fQ ((t_NoText_NoSet.trans (by simp))) (fQ ((t_NoText_NoSize.trans (by simp))) (fQ ((t_NoText_NoText.trans (by simp))) (fQ ((t_NoText_NoThing.trans (by simp))) (fQ ((t_NoText_NoWorths.trans (by simp))) (fQ ((t_NoText_NotFree.trans (by simp))) (fQ ((t_NoText_Tied.trans (by simp))) (fQ ((t_NoText_TooMany.trans (by simp))) (fQ ((t_NoText_Unlike.trans (by simp))) fN0))))))))))))))))))))⟩
  t_NoThing := ⟨_, PySem.W.mg_of X G g_NoThing, bj (fQ t00_NoThing (fQ t01_NoThing (fQ t02_NoThing (fQ t03_NoThing (fQ t04_NoThing (fQ t05_NoThing (fQ t06_NoThing (fQ t07_NoThing fN0)))))))) (lookup_all (l := []) fN0) (lookup_all (l := [("Free", C_Free), ("NoArrows", C_NoArrows), ("NoDeed", C_NoDeed), ("NoDeeds", C_NoDeeds), ("NoHues", C_NoHues), ("NoName", C_NoName), ("NoOrder", C_NoOrder), ("NoRow", C_NoRow), ("NoRule", C_NoRule), ("NoRules", C_NoRules), ("NoSet", C_NoSet), ("NoSize", C_NoSize), ("NoText", C_NoText), ("NoThing", C_NoThing), ("NoWorths", C_NoWorths), ("NotFree", C_NotFree), ("Tied", C_Tied), ("TooMany", C_TooMany), ("Unlike", C_Unlike)]) (fQ ((t_NoThing_Free.trans (by simp))) (fQ ((t_NoThing_NoArrows.trans (by simp))) (fQ ((t_NoThing_NoDeed.trans (by simp))) (fQ ((t_NoThing_NoDeeds.trans (by simp))) (fQ ((t_NoThing_NoHues.trans (by simp))) (fQ ((t_NoThing_NoName.trans (by simp))) (fQ ((t_NoThing_NoOrder.trans (by simp))) (fQ ((t_NoThing_NoRow.trans (by simp))) (fQ ((t_NoThing_NoRule.trans (by simp))) (fQ ((t_NoThing_NoRules.trans (by simp))) (fQ ((t_NoThing_NoSet.trans (by simp))) (fQ ((t_NoThing_NoSize.trans (by simp))) (fQ ((t_NoThing_NoText.trans (by simp))) (fQ ((t_NoThing_NoThing.trans (by simp))) (fQ ((t_NoThing_NoWorths.trans (by simp))) (fQ ((t_NoThing_NotFree.trans (by simp))) (fQ ((t_NoThing_Tied.trans (by simp))) (fQ ((t_NoThing_TooMany.trans (by simp))) (fQ ((t_NoThing_Unlike.trans (by simp))) fN0))))))))))))))))))))⟩
  t_NoWorths := ⟨_, PySem.W.mg_of X G g_NoWorths, bj (fQ t00_NoWorths (fQ t01_NoWorths (fQ t02_NoWorths (fQ t03_NoWorths (fQ t04_NoWorths (fQ t05_NoWorths (fQ t06_NoWorths (fQ t07_NoWorths fN0)))))))) (lookup_all (l := []) fN0) (lookup_all (l := [("Free", C_Free), ("NoArrows", C_NoArrows), ("NoDeed", C_NoDeed), ("NoDeeds", C_NoDeeds), ("NoHues", C_NoHues), ("NoName", C_NoName), ("NoOrder", C_NoOrder), ("NoRow", C_NoRow), ("NoRule", C_NoRule), ("NoRules", C_NoRules), ("NoSet", C_NoSet), ("NoSize", C_NoSize), ("NoText", C_NoText), ("NoThing", C_NoThing), ("NoWorths", C_NoWorths), ("NotFree", C_NotFree), ("Tied", C_Tied), ("TooMany", C_TooMany), ("Unlike", C_Unlike)]) (fQ ((t_NoWorths_Free.trans (by simp))) (fQ ((t_NoWorths_NoArrows.trans (by simp))) (fQ ((t_NoWorths_NoDeed.trans (by simp))) (fQ ((t_NoWorths_NoDeeds.trans (by simp))) (fQ ((t_NoWorths_NoHues.trans (by simp))) (fQ ((t_NoWorths_NoName.trans (by simp))) (fQ ((t_NoWorths_NoOrder.trans (by simp))) (fQ ((t_NoWorths_NoRow.trans (by simp))) (fQ ((t_NoWorths_NoRule.trans (by simp))) (fQ ((t_NoWorths_NoRules.trans (by simp))) (fQ ((t_NoWorths_NoSet.trans (by simp))) (fQ ((t_NoWorths_NoSize.trans (by simp))) (fQ ((t_NoWorths_NoText.trans (by simp))) (fQ ((t_NoWorths_NoThing.trans (by simp))) (fQ ((t_NoWorths_NoWorths.trans (by simp))) (fQ ((t_NoWorths_NotFree.trans (by simp))) (fQ ((t_NoWorths_Tied.trans (by simp))) (fQ ((t_NoWorths_TooMany.trans (by simp))) (fQ ((t_NoWorths_Unlike.trans (by simp))) fN0))))))))))))))))))))⟩
  t_NotFree := ⟨_, PySem.W.mg_of X G g_NotFree, bj (fQ t00_NotFree (fQ t01_NotFree (fQ t02_NotFree (fQ t03_NotFree (fQ t04_NotFree (fQ t05_NotFree (fQ t06_NotFree (fQ t07_NotFree fN0)))))))) (lookup_all (l := []) fN0) (lookup_all (l := [("Free", C_Free), ("NoArrows", C_NoArrows), ("NoDeed", C_NoDeed), ("NoDeeds", C_NoDeeds), ("NoHues", C_NoHues), ("NoName", C_NoName), ("NoOrder", C_NoOrder), ("NoRow", C_NoRow), ("NoRule", C_NoRule), ("NoRules", C_NoRules), ("NoSet", C_NoSet), ("NoSize", C_NoSize), ("NoText", C_NoText), ("NoThing", C_NoThing), ("NoWorths", C_NoWorths), ("NotFree", C_NotFree), ("Tied", C_Tied), ("TooMany", C_TooMany), ("Unlike", C_Unlike)]) (fQ ((t_NotFree_Free.trans (by simp))) (fQ ((t_NotFree_NoArrows.trans (by simp))) (fQ ((t_NotFree_NoDeed.trans (by simp))) (fQ ((t_NotFree_NoDeeds.trans (by simp))) (fQ ((t_NotFree_NoHues.trans (by simp))) (fQ ((t_NotFree_NoName.trans (by simp))) (fQ ((t_NotFree_NoOrder.trans (by simp))) (fQ ((t_NotFree_NoRow.trans (by simp))) (fQ ((t_NotFree_NoRule.trans (by simp))) (fQ ((t_NotFree_NoRules.trans (by simp))) (fQ ((t_NotFree_NoSet.trans (by simp))) (fQ ((t_NotFree_NoSize.trans (by simp))) (fQ ((t_NotFree_NoText.trans (by simp))) (fQ ((t_NotFree_NoThing.trans (by simp))) (fQ ((t_NotFree_NoWorths.trans (by simp))) (fQ ((t_NotFree_NotFree.trans (by simp))) (fQ ((t_NotFree_Tied.trans (by simp))) (fQ ((t_NotFree_TooMany.trans (by simp))) (fQ ((t_NotFree_Unlike.trans (by simp))) fN0))))))))))))))))))))⟩
  t_Tied := ⟨_, PySem.W.mg_of X G g_Tied, bj (fQ t00_Tied (fQ t01_Tied (fQ t02_Tied (fQ t03_Tied (fQ t04_Tied (fQ t05_Tied (fQ t06_Tied (fQ t07_Tied fN0)))))))) (lookup_all (l := []) fN0) (lookup_all (l := [("Free", C_Free), ("NoArrows", C_NoArrows), ("NoDeed", C_NoDeed), ("NoDeeds", C_NoDeeds), ("NoHues", C_NoHues), ("NoName", C_NoName), ("NoOrder", C_NoOrder), ("NoRow", C_NoRow), ("NoRule", C_NoRule), ("NoRules", C_NoRules), ("NoSet", C_NoSet), ("NoSize", C_NoSize), ("NoText", C_NoText), ("NoThing", C_NoThing), ("NoWorths", C_NoWorths), ("NotFree", C_NotFree), ("Tied", C_Tied), ("TooMany", C_TooMany), ("Unlike", C_Unlike)]) (fQ ((t_Tied_Free.trans (by simp))) (fQ ((t_Tied_NoArrows.trans (by simp))) (fQ ((t_Tied_NoDeed.trans (by simp))) (fQ ((t_Tied_NoDeeds.trans (by simp))) (fQ ((t_Tied_NoHues.trans (by simp))) (fQ ((t_Tied_NoName.trans (by simp))) (fQ ((t_Tied_NoOrder.trans (by simp))) (fQ ((t_Tied_NoRow.trans (by simp))) (fQ ((t_Tied_NoRule.trans (by simp))) (fQ ((t_Tied_NoRules.trans (by simp))) (fQ ((t_Tied_NoSet.trans (by simp))) (fQ ((t_Tied_NoSize.trans (by simp))) (fQ ((t_Tied_NoText.trans (by simp))) (fQ ((t_Tied_NoThing.trans (by simp))) (fQ ((t_Tied_NoWorths.trans (by simp))) (fQ ((t_Tied_NotFree.trans (by simp))) (fQ ((t_Tied_Tied.trans (by simp))) (fQ ((t_Tied_TooMany.trans (by simp))) (fQ ((t_Tied_Unlike.trans (by simp))) fN0))))))))))))))))))))⟩
  t_TooMany := ⟨_, PySem.W.mg_of X G g_TooMany, bj (fQ t00_TooMany (fQ t01_TooMany (fQ t02_TooMany (fQ t03_TooMany (fQ t04_TooMany (fQ t05_TooMany (fQ t06_TooMany (fQ t07_TooMany fN0)))))))) (lookup_all (l := []) fN0) (lookup_all (l := [("Free", C_Free), ("NoArrows", C_NoArrows), ("NoDeed", C_NoDeed), ("NoDeeds", C_NoDeeds), ("NoHues", C_NoHues), ("NoName", C_NoName), ("NoOrder", C_NoOrder), ("NoRow", C_NoRow), ("NoRule", C_NoRule), ("NoRules", C_NoRules), ("NoSet", C_NoSet), ("NoSize", C_NoSize), ("NoText", C_NoText), ("NoThing", C_NoThing), ("NoWorths", C_NoWorths), ("NotFree", C_NotFree), ("Tied", C_Tied), ("TooMany", C_TooMany), ("Unlike", C_Unlike)]) (fQ ((t_TooMany_Free.trans (by simp))) (fQ ((t_TooMany_NoArrows.trans (by simp))) (fQ ((t_TooMany_NoDeed.trans (by simp))) (fQ ((t_TooMany_NoDeeds.trans (by simp))) (fQ ((t_TooMany_NoHues.trans (by simp))) (fQ ((t_TooMany_NoName.trans (by simp))) (fQ ((t_TooMany_NoOrder.trans (by simp))) (fQ ((t_TooMany_NoRow.trans (by simp))) (fQ ((t_TooMany_NoRule.trans (by simp))) (fQ ((t_TooMany_NoRules.trans (by simp))) (fQ ((t_TooMany_NoSet.trans (by simp))) (fQ ((t_TooMany_NoSize.trans (by simp))) (fQ ((t_TooMany_NoText.trans (by simp))) (fQ ((t_TooMany_NoThing.trans (by simp))) (fQ ((t_TooMany_NoWorths.trans (by simp))) (fQ ((t_TooMany_NotFree.trans (by simp))) (fQ ((t_TooMany_Tied.trans (by simp))) (fQ ((t_TooMany_TooMany.trans (by simp))) (fQ ((t_TooMany_Unlike.trans (by simp))) fN0))))))))))))))))))))⟩
  t_Unlike := ⟨_, PySem.W.mg_of X G g_Unlike, bj (fQ t00_Unlike (fQ t01_Unlike (fQ t02_Unlike (fQ t03_Unlike (fQ t04_Unlike (fQ t05_Unlike (fQ t06_Unlike (fQ t07_Unlike fN0)))))))) (lookup_all (l := []) fN0) (lookup_all (l := [("Free", C_Free), ("NoArrows", C_NoArrows), ("NoDeed", C_NoDeed), ("NoDeeds", C_NoDeeds), ("NoHues", C_NoHues), ("NoName", C_NoName), ("NoOrder", C_NoOrder), ("NoRow", C_NoRow), ("NoRule", C_NoRule), ("NoRules", C_NoRules), ("NoSet", C_NoSet), ("NoSize", C_NoSize), ("NoText", C_NoText), ("NoThing", C_NoThing), ("NoWorths", C_NoWorths), ("NotFree", C_NotFree), ("Tied", C_Tied), ("TooMany", C_TooMany), ("Unlike", C_Unlike)]) (fQ ((t_Unlike_Free.trans (by simp))) (fQ ((t_Unlike_NoArrows.trans (by simp))) (fQ ((t_Unlike_NoDeed.trans (by simp))) (fQ ((t_Unlike_NoDeeds.trans (by simp))) (fQ ((t_Unlike_NoHues.trans (by simp))) (fQ ((t_Unlike_NoName.trans (by simp))) (fQ ((t_Unlike_NoOrder.trans (by simp))) (fQ ((t_Unlike_NoRow.trans (by simp))) (fQ ((t_Unlike_NoRule.trans (by simp))) (fQ ((t_Unlike_NoRules.trans (by simp))) (fQ ((t_Unlike_NoSet.trans (by simp))) (fQ ((t_Unlike_NoSize.trans (by simp))) (fQ ((t_Unlike_NoText.trans (by simp))) (fQ ((t_Unlike_NoThing.trans (by simp))) (fQ ((t_Unlike_NoWorths.trans (by simp))) (fQ ((t_Unlike_NotFree.trans (by simp))) (fQ ((t_Unlike_Tied.trans (by simp))) (fQ ((t_Unlike_TooMany.trans (by simp))) (fQ ((t_Unlike_Unlike.trans (by simp))) fN0))))))))))))))))))))⟩
  h_FreeError := ⟨_, PySem.W.mg_of X G g_FreeError, (lookup_all (l := [("Free", C_Free), ("NoArrows", C_NoArrows), ("NoDeed", C_NoDeed), ("NoDeeds", C_NoDeeds), ("NoHues", C_NoHues), ("NoName", C_NoName), ("NoOrder", C_NoOrder), ("NoRow", C_NoRow), ("NoRule", C_NoRule), ("NoRules", C_NoRules), ("NoSet", C_NoSet), ("NoSize", C_NoSize), ("NoText", C_NoText), ("NoThing", C_NoThing), ("NoWorths", C_NoWorths), ("NotFree", C_NotFree), ("Tied", C_Tied), ("TooMany", C_TooMany), ("Unlike", C_Unlike)]) (fQ ((h_FreeError_Free.trans (by simp))) (fQ ((h_FreeError_NoArrows.trans (by simp))) (fQ ((h_FreeError_NoDeed.trans (by simp))) (fQ ((h_FreeError_NoDeeds.trans (by simp))) (fQ ((h_FreeError_NoHues.trans (by simp))) (fQ ((h_FreeError_NoName.trans (by simp))) (fQ ((h_FreeError_NoOrder.trans (by simp))) (fQ ((h_FreeError_NoRow.trans (by simp))) (fQ ((h_FreeError_NoRule.trans (by simp))) (fQ ((h_FreeError_NoRules.trans (by simp))) (fQ ((h_FreeError_NoSet.trans (by simp))) (fQ ((h_FreeError_NoSize.trans (by simp))) (fQ ((h_FreeError_NoText.trans (by simp))) (fQ ((h_FreeError_NoThing.trans (by simp))) (fQ ((h_FreeError_NoWorths.trans (by simp))) (fQ ((h_FreeError_NotFree.trans (by simp))) (fQ ((h_FreeError_Tied.trans (by simp))) (fQ ((h_FreeError_TooMany.trans (by simp))) (fQ ((h_FreeError_Unlike.trans (by simp))) fN0))))))))))))))))))))⟩
  ix_ArithmeticError := eP (by decide +kernel) (lookup_all (l := []) fN0) (lookup_all (l := [("Free", C_Free), ("NoArrows", C_NoArrows), ("NoDeed", C_NoDeed), ("NoDeeds", C_NoDeeds), ("NoHues", C_NoHues), ("NoName", C_NoName), ("NoOrder", C_NoOrder), ("NoRow", C_NoRow), ("NoRule", C_NoRule), ("NoRules", C_NoRules), ("NoSet", C_NoSet), ("NoSize", C_NoSize), ("NoText", C_NoText), ("NoThing", C_NoThing), ("NoWorths", C_NoWorths), ("NotFree", C_NotFree), ("Tied", C_Tied), ("TooMany", C_TooMany), ("Unlike", C_Unlike)]) (fQ ((tx_ArithmeticError_Free.trans (by simp))) (fQ ((tx_ArithmeticError_NoArrows.trans (by simp))) (fQ ((tx_ArithmeticError_NoDeed.trans (by simp))) (fQ ((tx_ArithmeticError_NoDeeds.trans (by simp))) (fQ ((tx_ArithmeticError_NoHues.trans (by simp))) (fQ ((tx_ArithmeticError_NoName.trans (by simp))) (fQ ((tx_ArithmeticError_NoOrder.trans (by simp))) (fQ ((tx_ArithmeticError_NoRow.trans (by simp))) (fQ ((tx_ArithmeticError_NoRule.trans (by simp))) (fQ ((tx_ArithmeticError_NoRules.trans (by simp))) (fQ ((tx_ArithmeticError_NoSet.trans (by simp))) (fQ ((tx_ArithmeticError_NoSize.trans (by simp))) (fQ ((tx_ArithmeticError_NoText.trans (by simp))) (fQ ((tx_ArithmeticError_NoThing.trans (by simp))) (fQ ((tx_ArithmeticError_NoWorths.trans (by simp))) (fQ ((tx_ArithmeticError_NotFree.trans (by simp))) (fQ ((tx_ArithmeticError_Tied.trans (by simp))) (fQ ((tx_ArithmeticError_TooMany.trans (by simp))) (fQ ((tx_ArithmeticError_Unlike.trans (by simp))) fN0))))))))))))))))))))
  ix_IndexError := eP (by decide +kernel) (lookup_all (l := []) fN0) (lookup_all (l := [("Free", C_Free), ("NoArrows", C_NoArrows), ("NoDeed", C_NoDeed), ("NoDeeds", C_NoDeeds), ("NoHues", C_NoHues), ("NoName", C_NoName), ("NoOrder", C_NoOrder), ("NoRow", C_NoRow), ("NoRule", C_NoRule), ("NoRules", C_NoRules), ("NoSet", C_NoSet), ("NoSize", C_NoSize), ("NoText", C_NoText), ("NoThing", C_NoThing), ("NoWorths", C_NoWorths), ("NotFree", C_NotFree), ("Tied", C_Tied), ("TooMany", C_TooMany), ("Unlike", C_Unlike)]) (fQ ((tx_IndexError_Free.trans (by simp))) (fQ ((tx_IndexError_NoArrows.trans (by simp))) (fQ ((tx_IndexError_NoDeed.trans (by simp))) (fQ ((tx_IndexError_NoDeeds.trans (by simp))) (fQ ((tx_IndexError_NoHues.trans (by simp))) (fQ ((tx_IndexError_NoName.trans (by simp))) (fQ ((tx_IndexError_NoOrder.trans (by simp))) (fQ ((tx_IndexError_NoRow.trans (by simp))) (fQ ((tx_IndexError_NoRule.trans (by simp))) (fQ ((tx_IndexError_NoRules.trans (by simp))) (fQ ((tx_IndexError_NoSet.trans (by simp))) (fQ ((tx_IndexError_NoSize.trans (by simp))) (fQ ((tx_IndexError_NoText.trans (by simp))) (fQ ((tx_IndexError_NoThing.trans (by simp))) (fQ ((tx_IndexError_NoWorths.trans (by simp))) (fQ ((tx_IndexError_NotFree.trans (by simp))) (fQ ((tx_IndexError_Tied.trans (by simp))) (fQ ((tx_IndexError_TooMany.trans (by simp))) (fQ ((tx_IndexError_Unlike.trans (by simp))) fN0))))))))))))))))))))
  ix_KeyError := eP (by decide +kernel) (lookup_all (l := []) fN0) (lookup_all (l := [("Free", C_Free), ("NoArrows", C_NoArrows), ("NoDeed", C_NoDeed), ("NoDeeds", C_NoDeeds), ("NoHues", C_NoHues), ("NoName", C_NoName), ("NoOrder", C_NoOrder), ("NoRow", C_NoRow), ("NoRule", C_NoRule), ("NoRules", C_NoRules), ("NoSet", C_NoSet), ("NoSize", C_NoSize), ("NoText", C_NoText), ("NoThing", C_NoThing), ("NoWorths", C_NoWorths), ("NotFree", C_NotFree), ("Tied", C_Tied), ("TooMany", C_TooMany), ("Unlike", C_Unlike)]) (fQ ((tx_KeyError_Free.trans (by simp))) (fQ ((tx_KeyError_NoArrows.trans (by simp))) (fQ ((tx_KeyError_NoDeed.trans (by simp))) (fQ ((tx_KeyError_NoDeeds.trans (by simp))) (fQ ((tx_KeyError_NoHues.trans (by simp))) (fQ ((tx_KeyError_NoName.trans (by simp))) (fQ ((tx_KeyError_NoOrder.trans (by simp))) (fQ ((tx_KeyError_NoRow.trans (by simp))) (fQ ((tx_KeyError_NoRule.trans (by simp))) (fQ ((tx_KeyError_NoRules.trans (by simp))) (fQ ((tx_KeyError_NoSet.trans (by simp))) (fQ ((tx_KeyError_NoSize.trans (by simp))) (fQ ((tx_KeyError_NoText.trans (by simp))) (fQ ((tx_KeyError_NoThing.trans (by simp))) (fQ ((tx_KeyError_NoWorths.trans (by simp))) (fQ ((tx_KeyError_NotFree.trans (by simp))) (fQ ((tx_KeyError_Tied.trans (by simp))) (fQ ((tx_KeyError_TooMany.trans (by simp))) (fQ ((tx_KeyError_Unlike.trans (by simp))) fN0))))))))))))))))))))
  ix_LookupError := eP (by decide +kernel) (lookup_all (l := []) fN0) (lookup_all (l := [("Free", C_Free), ("NoArrows", C_NoArrows), ("NoDeed", C_NoDeed), ("NoDeeds", C_NoDeeds), ("NoHues", C_NoHues), ("NoName", C_NoName), ("NoOrder", C_NoOrder), ("NoRow", C_NoRow), ("NoRule", C_NoRule), ("NoRules", C_NoRules), ("NoSet", C_NoSet), ("NoSize", C_NoSize), ("NoText", C_NoText), ("NoThing", C_NoThing), ("NoWorths", C_NoWorths), ("NotFree", C_NotFree), ("Tied", C_Tied), ("TooMany", C_TooMany), ("Unlike", C_Unlike)]) (fQ ((tx_LookupError_Free.trans (by simp))) (fQ ((tx_LookupError_NoArrows.trans (by simp))) (fQ ((tx_LookupError_NoDeed.trans (by simp))) (fQ ((tx_LookupError_NoDeeds.trans (by simp))) (fQ ((tx_LookupError_NoHues.trans (by simp))) (fQ ((tx_LookupError_NoName.trans (by simp))) (fQ ((tx_LookupError_NoOrder.trans (by simp))) (fQ ((tx_LookupError_NoRow.trans (by simp))) (fQ ((tx_LookupError_NoRule.trans (by simp))) (fQ ((tx_LookupError_NoRules.trans (by simp))) (fQ ((tx_LookupError_NoSet.trans (by simp))) (fQ ((tx_LookupError_NoSize.trans (by simp))) (fQ ((tx_LookupError_NoText.trans (by simp))) (fQ ((tx_LookupError_NoThing.trans (by simp))) (fQ ((tx_LookupError_NoWorths.trans (by simp))) (fQ ((tx_LookupError_NotFree.trans (by simp))) (fQ ((tx_LookupError_Tied.trans (by simp))) (fQ ((tx_LookupError_TooMany.trans (by simp))) (fQ ((tx_LookupError_Unlike.trans (by simp))) fN0))))))))))))))))))))
  ix_RuntimeError := eP (by decide +kernel) (lookup_all (l := []) fN0) (lookup_all (l := [("Free", C_Free), ("NoArrows", C_NoArrows), ("NoDeed", C_NoDeed), ("NoDeeds", C_NoDeeds), ("NoHues", C_NoHues), ("NoName", C_NoName), ("NoOrder", C_NoOrder), ("NoRow", C_NoRow), ("NoRule", C_NoRule), ("NoRules", C_NoRules), ("NoSet", C_NoSet), ("NoSize", C_NoSize), ("NoText", C_NoText), ("NoThing", C_NoThing), ("NoWorths", C_NoWorths), ("NotFree", C_NotFree), ("Tied", C_Tied), ("TooMany", C_TooMany), ("Unlike", C_Unlike)]) (fQ ((tx_RuntimeError_Free.trans (by simp))) (fQ ((tx_RuntimeError_NoArrows.trans (by simp))) (fQ ((tx_RuntimeError_NoDeed.trans (by simp))) (fQ ((tx_RuntimeError_NoDeeds.trans (by simp))) (fQ ((tx_RuntimeError_NoHues.trans (by simp))) (fQ ((tx_RuntimeError_NoName.trans (by simp))) (fQ ((tx_RuntimeError_NoOrder.trans (by simp))) (fQ ((tx_RuntimeError_NoRow.trans (by simp))) (fQ ((tx_RuntimeError_NoRule.trans (by simp))) (fQ ((tx_RuntimeError_NoRules.trans (by simp))) (fQ ((tx_RuntimeError_NoSet.trans (by simp))) (fQ ((tx_RuntimeError_NoSize.trans (by simp))) (fQ ((tx_RuntimeError_NoText.trans (by simp))) (fQ ((tx_RuntimeError_NoThing.trans (by simp))) (fQ ((tx_RuntimeError_NoWorths.trans (by simp))) (fQ ((tx_RuntimeError_NotFree.trans (by simp))) (fQ ((tx_RuntimeError_Tied.trans (by simp))) (fQ ((tx_RuntimeError_TooMany.trans (by simp))) (fQ ((tx_RuntimeError_Unlike.trans (by simp))) fN0))))))))))))))))))))
  ix_TypeError := eP (by decide +kernel) (lookup_all (l := []) fN0) (lookup_all (l := [("Free", C_Free), ("NoArrows", C_NoArrows), ("NoDeed", C_NoDeed), ("NoDeeds", C_NoDeeds), ("NoHues", C_NoHues), ("NoName", C_NoName), ("NoOrder", C_NoOrder), ("NoRow", C_NoRow), ("NoRule", C_NoRule), ("NoRules", C_NoRules), ("NoSet", C_NoSet), ("NoSize", C_NoSize), ("NoText", C_NoText), ("NoThing", C_NoThing), ("NoWorths", C_NoWorths), ("NotFree", C_NotFree), ("Tied", C_Tied), ("TooMany", C_TooMany), ("Unlike", C_Unlike)]) (fQ ((tx_TypeError_Free.trans (by simp))) (fQ ((tx_TypeError_NoArrows.trans (by simp))) (fQ ((tx_TypeError_NoDeed.trans (by simp))) (fQ ((tx_TypeError_NoDeeds.trans (by simp))) (fQ ((tx_TypeError_NoHues.trans (by simp))) (fQ ((tx_TypeError_NoName.trans (by simp))) (fQ ((tx_TypeError_NoOrder.trans (by simp))) (fQ ((tx_TypeError_NoRow.trans (by simp))) (fQ ((tx_TypeError_NoRule.trans (by simp))) (fQ ((tx_TypeError_NoRules.trans (by simp))) (fQ ((tx_TypeError_NoSet.trans (by simp))) (fQ ((tx_TypeError_NoSize.trans (by simp))) (fQ ((tx_TypeError_NoText.trans (by simp))) (fQ ((tx_TypeError_NoThing.trans (by simp))) (fQ ((tx_TypeError_NoWorths.trans (by simp))) (fQ ((tx_TypeError_NotFree.trans (by simp))) (fQ ((tx_TypeError_Tied.trans (by simp))) (fQ ((tx_TypeError_TooMany.trans (by simp))) (fQ ((tx_TypeError_Unlike.trans (by simp))) fN0))))))))))))))))))))
  ix_ValueError := eP (by decide +kernel) (lookup_all (l := []) fN0) (lookup_all (l := [("Free", C_Free), ("NoArrows", C_NoArrows), ("NoDeed", C_NoDeed), ("NoDeeds", C_NoDeeds), ("NoHues", C_NoHues), ("NoName", C_NoName), ("NoOrder", C_NoOrder), ("NoRow", C_NoRow), ("NoRule", C_NoRule), ("NoRules", C_NoRules), ("NoSet", C_NoSet), ("NoSize", C_NoSize), ("NoText", C_NoText), ("NoThing", C_NoThing), ("NoWorths", C_NoWorths), ("NotFree", C_NotFree), ("Tied", C_Tied), ("TooMany", C_TooMany), ("Unlike", C_Unlike)]) (fQ ((tx_ValueError_Free.trans (by simp))) (fQ ((tx_ValueError_NoArrows.trans (by simp))) (fQ ((tx_ValueError_NoDeed.trans (by simp))) (fQ ((tx_ValueError_NoDeeds.trans (by simp))) (fQ ((tx_ValueError_NoHues.trans (by simp))) (fQ ((tx_ValueError_NoName.trans (by simp))) (fQ ((tx_ValueError_NoOrder.trans (by simp))) (fQ ((tx_ValueError_NoRow.trans (by simp))) (fQ ((tx_ValueError_NoRule.trans (by simp))) (fQ ((tx_ValueError_NoRules.trans (by simp))) (fQ ((tx_ValueError_NoSet.trans (by simp))) (fQ ((tx_ValueError_NoSize.trans (by simp))) (fQ ((tx_ValueError_NoText.trans (by simp))) (fQ ((tx_ValueError_NoThing.trans (by simp))) (fQ ((tx_ValueError_NoWorths.trans (by simp))) (fQ ((tx_ValueError_NotFree.trans (by simp))) (fQ ((tx_ValueError_Tied.trans (by simp))) (fQ ((tx_ValueError_TooMany.trans (by simp))) (fQ ((tx_ValueError_Unlike.trans (by simp))) fN0))))))))))))))))))))
  na_many := (lookup_all (l := []) fN0)
  nx_many := (lookup_all (l := [("Free", C_Free), ("NoArrows", C_NoArrows), ("NoDeed", C_NoDeed), ("NoDeeds", C_NoDeeds), ("NoHues", C_NoHues), ("NoName", C_NoName), ("NoOrder", C_NoOrder), ("NoRow", C_NoRow), ("NoRule", C_NoRule), ("NoRules", C_NoRules), ("NoSet", C_NoSet), ("NoSize", C_NoSize), ("NoText", C_NoText), ("NoThing", C_NoThing), ("NoWorths", C_NoWorths), ("NotFree", C_NotFree), ("Tied", C_Tied), ("TooMany", C_TooMany), ("Unlike", C_Unlike)]) (fQ nx_many_Free (fQ nx_many_NoArrows (fQ nx_many_NoDeed (fQ nx_many_NoDeeds (fQ nx_many_NoHues (fQ nx_many_NoName (fQ nx_many_NoOrder (fQ nx_many_NoRow (fQ nx_many_NoRule (fQ nx_many_NoRules (fQ nx_many_NoSet (fQ nx_many_NoSize (fQ nx_many_NoText (fQ nx_many_NoThing (fQ nx_many_NoWorths (fQ nx_many_NotFree (fQ nx_many_Tied (fQ nx_many_TooMany (fQ nx_many_Unlike fN0))))))))))))))))))))
  na_name := (lookup_all (l := []) fN0)
  nx_name := (lookup_all (l := [("Free", C_Free), ("NoArrows", C_NoArrows), ("NoDeed", C_NoDeed), ("NoDeeds", C_NoDeeds), ("NoHues", C_NoHues), ("NoName", C_NoName), ("NoOrder", C_NoOrder), ("NoRow", C_NoRow), ("NoRule", C_NoRule), ("NoRules", C_NoRules), ("NoSet", C_NoSet), ("NoSize", C_NoSize), ("NoText", C_NoText), ("NoThing", C_NoThing), ("NoWorths", C_NoWorths), ("NotFree", C_NotFree), ("Tied", C_Tied), ("TooMany", C_TooMany), ("Unlike", C_Unlike)]) (fQ nx_name_Free (fQ nx_name_NoArrows (fQ nx_name_NoDeed (fQ nx_name_NoDeeds (fQ nx_name_NoHues (fQ nx_name_NoName (fQ nx_name_NoOrder (fQ nx_name_NoRow (fQ nx_name_NoRule (fQ nx_name_NoRules (fQ nx_name_NoSet (fQ nx_name_NoSize (fQ nx_name_NoText (fQ nx_name_NoThing (fQ nx_name_NoWorths (fQ nx_name_NotFree (fQ nx_name_Tied (fQ nx_name_TooMany (fQ nx_name_Unlike fN0))))))))))))))))))))
  na_number := (lookup_all (l := []) fN0)
  nx_number := (lookup_all (l := [("Free", C_Free), ("NoArrows", C_NoArrows), ("NoDeed", C_NoDeed), ("NoDeeds", C_NoDeeds), ("NoHues", C_NoHues), ("NoName", C_NoName), ("NoOrder", C_NoOrder), ("NoRow", C_NoRow), ("NoRule", C_NoRule), ("NoRules", C_NoRules), ("NoSet", C_NoSet), ("NoSize", C_NoSize), ("NoText", C_NoText), ("NoThing", C_NoThing), ("NoWorths", C_NoWorths), ("NotFree", C_NotFree), ("Tied", C_Tied), ("TooMany", C_TooMany), ("Unlike", C_Unlike)]) (fQ nx_number_Free (fQ nx_number_NoArrows (fQ nx_number_NoDeed (fQ nx_number_NoDeeds (fQ nx_number_NoHues (fQ nx_number_NoName (fQ nx_number_NoOrder (fQ nx_number_NoRow (fQ nx_number_NoRule (fQ nx_number_NoRules (fQ nx_number_NoSet (fQ nx_number_NoSize (fQ nx_number_NoText (fQ nx_number_NoThing (fQ nx_number_NoWorths (fQ nx_number_NotFree (fQ nx_number_Tied (fQ nx_number_TooMany (fQ nx_number_Unlike fN0))))))))))))))))))))
  na_part := (lookup_all (l := []) fN0)
  nx_part := (lookup_all (l := [("Free", C_Free), ("NoArrows", C_NoArrows), ("NoDeed", C_NoDeed), ("NoDeeds", C_NoDeeds), ("NoHues", C_NoHues), ("NoName", C_NoName), ("NoOrder", C_NoOrder), ("NoRow", C_NoRow), ("NoRule", C_NoRule), ("NoRules", C_NoRules), ("NoSet", C_NoSet), ("NoSize", C_NoSize), ("NoText", C_NoText), ("NoThing", C_NoThing), ("NoWorths", C_NoWorths), ("NotFree", C_NotFree), ("Tied", C_Tied), ("TooMany", C_TooMany), ("Unlike", C_Unlike)]) (fQ nx_part_Free (fQ nx_part_NoArrows (fQ nx_part_NoDeed (fQ nx_part_NoDeeds (fQ nx_part_NoHues (fQ nx_part_NoName (fQ nx_part_NoOrder (fQ nx_part_NoRow (fQ nx_part_NoRule (fQ nx_part_NoRules (fQ nx_part_NoSet (fQ nx_part_NoSize (fQ nx_part_NoText (fQ nx_part_NoThing (fQ nx_part_NoWorths (fQ nx_part_NotFree (fQ nx_part_Tied (fQ nx_part_TooMany (fQ nx_part_Unlike fN0))))))))))))))))))))
  na_row := (lookup_all (l := []) fN0)
  nx_row := (lookup_all (l := [("Free", C_Free), ("NoArrows", C_NoArrows), ("NoDeed", C_NoDeed), ("NoDeeds", C_NoDeeds), ("NoHues", C_NoHues), ("NoName", C_NoName), ("NoOrder", C_NoOrder), ("NoRow", C_NoRow), ("NoRule", C_NoRule), ("NoRules", C_NoRules), ("NoSet", C_NoSet), ("NoSize", C_NoSize), ("NoText", C_NoText), ("NoThing", C_NoThing), ("NoWorths", C_NoWorths), ("NotFree", C_NotFree), ("Tied", C_Tied), ("TooMany", C_TooMany), ("Unlike", C_Unlike)]) (fQ nx_row_Free (fQ nx_row_NoArrows (fQ nx_row_NoDeed (fQ nx_row_NoDeeds (fQ nx_row_NoHues (fQ nx_row_NoName (fQ nx_row_NoOrder (fQ nx_row_NoRow (fQ nx_row_NoRule (fQ nx_row_NoRules (fQ nx_row_NoSet (fQ nx_row_NoSize (fQ nx_row_NoText (fQ nx_row_NoThing (fQ nx_row_NoWorths (fQ nx_row_NotFree (fQ nx_row_Tied (fQ nx_row_TooMany (fQ nx_row_Unlike fN0))))))))))))))))))))
  na_size := (lookup_all (l := []) fN0)
  nx_size := (lookup_all (l := [("Free", C_Free), ("NoArrows", C_NoArrows), ("NoDeed", C_NoDeed), ("NoDeeds", C_NoDeeds), ("NoHues", C_NoHues), ("NoName", C_NoName), ("NoOrder", C_NoOrder), ("NoRow", C_NoRow), ("NoRule", C_NoRule), ("NoRules", C_NoRules), ("NoSet", C_NoSet), ("NoSize", C_NoSize), ("NoText", C_NoText), ("NoThing", C_NoThing), ("NoWorths", C_NoWorths), ("NotFree", C_NotFree), ("Tied", C_Tied), ("TooMany", C_TooMany), ("Unlike", C_Unlike)]) (fQ nx_size_Free (fQ nx_size_NoArrows (fQ nx_size_NoDeed (fQ nx_size_NoDeeds (fQ nx_size_NoHues (fQ nx_size_NoName (fQ nx_size_NoOrder (fQ nx_size_NoRow (fQ nx_size_NoRule (fQ nx_size_NoRules (fQ nx_size_NoSet (fQ nx_size_NoSize (fQ nx_size_NoText (fQ nx_size_NoThing (fQ nx_size_NoWorths (fQ nx_size_NotFree (fQ nx_size_Tied (fQ nx_size_TooMany (fQ nx_size_Unlike fN0))))))))))))))))))))
  na_thing := (lookup_all (l := []) fN0)
  nx_thing := (lookup_all (l := [("Free", C_Free), ("NoArrows", C_NoArrows), ("NoDeed", C_NoDeed), ("NoDeeds", C_NoDeeds), ("NoHues", C_NoHues), ("NoName", C_NoName), ("NoOrder", C_NoOrder), ("NoRow", C_NoRow), ("NoRule", C_NoRule), ("NoRules", C_NoRules), ("NoSet", C_NoSet), ("NoSize", C_NoSize), ("NoText", C_NoText), ("NoThing", C_NoThing), ("NoWorths", C_NoWorths), ("NotFree", C_NotFree), ("Tied", C_Tied), ("TooMany", C_TooMany), ("Unlike", C_Unlike)]) (fQ nx_thing_Free (fQ nx_thing_NoArrows (fQ nx_thing_NoDeed (fQ nx_thing_NoDeeds (fQ nx_thing_NoHues (fQ nx_thing_NoName (fQ nx_thing_NoOrder (fQ nx_thing_NoRow (fQ nx_thing_NoRule (fQ nx_thing_NoRules (fQ nx_thing_NoSet (fQ nx_thing_NoSize (fQ nx_thing_NoText (fQ nx_thing_NoThing (fQ nx_thing_NoWorths (fQ nx_thing_NotFree (fQ nx_thing_Tied (fQ nx_thing_TooMany (fQ nx_thing_Unlike fN0))))))))))))))))))))
  na_things := (lookup_all (l := []) fN0)
  nx_things := (lookup_all (l := [("Free", C_Free), ("NoArrows", C_NoArrows), ("NoDeed", C_NoDeed), ("NoDeeds", C_NoDeeds), ("NoHues", C_NoHues), ("NoName", C_NoName), ("NoOrder", C_NoOrder), ("NoRow", C_NoRow), ("NoRule", C_NoRule), ("NoRules", C_NoRules), ("NoSet", C_NoSet), ("NoSize", C_NoSize), ("NoText", C_NoText), ("NoThing", C_NoThing), ("NoWorths", C_NoWorths), ("NotFree", C_NotFree), ("Tied", C_Tied), ("TooMany", C_TooMany), ("Unlike", C_Unlike)]) (fQ nx_things_Free (fQ nx_things_NoArrows (fQ nx_things_NoDeed (fQ nx_things_NoDeeds (fQ nx_things_NoHues (fQ nx_things_NoName (fQ nx_things_NoOrder (fQ nx_things_NoRow (fQ nx_things_NoRule (fQ nx_things_NoRules (fQ nx_things_NoSet (fQ nx_things_NoSize (fQ nx_things_NoText (fQ nx_things_NoThing (fQ nx_things_NoWorths (fQ nx_things_NotFree (fQ nx_things_Tied (fQ nx_things_TooMany (fQ nx_things_Unlike fN0))))))))))))))))))))
  b_ArithmeticError := PySem.W.mg_none_of X G z_ArithmeticError
  b_IndexError := PySem.W.mg_none_of X G z_IndexError
  b_KeyError := PySem.W.mg_none_of X G z_KeyError
  b_LookupError := PySem.W.mg_none_of X G z_LookupError
  b_RuntimeError := PySem.W.mg_none_of X G z_RuntimeError
  b_TypeError := PySem.W.mg_none_of X G z_TypeError
  b_ValueError := PySem.W.mg_none_of X G z_ValueError
  b_enumerate := PySem.W.mg_none_of X G z_enumerate
  b_isinstance := PySem.W.mg_none_of X G z_isinstance
  b_len := PySem.W.mg_none_of X G z_len
  b_max := PySem.W.mg_none_of X G z_max
  b_range := PySem.W.mg_none_of X G z_range
  b_set := PySem.W.mg_none_of X G z_set
  b_sorted := PySem.W.mg_none_of X G z_sorted
  b_tuple := PySem.W.mg_none_of X G z_tuple
 }
 exact ⟨fd18, fun s v => FD18.bindsA (ps := ["_law_script"]) (fun _ _ _ _ _ _ us hl => match us, hl with | [_], _ => rfl) s [v] rfl, fun base _ _ hS => (nj hS T D18).imp fun _ _ _ _ q => jS lt nl q⟩
end K02
end
set_option maxHeartbeats 4000000
namespace K02
open PySem L2 Z PP
theorem jE {c s N L : Int} {zs ds : List Int} {i : Nat} {z : Int} {w : Sl} (hs : -(2 ^ 40) < s ∧ s < 2 ^ 40) (hN : 0 ≤ N) (hL : 0 ≤ L) (hz : zs[i]? = some z) (hz1 : 0 < z ∧ z.natAbs < 2 ^ 200) (hi : i < 1000) (hl : ds.length ≤ 1000) :
  ∃ L' d w', bU [.sl .fz (.int c), .sl .fz (.int s), .sl .fz (.lst (zs.map .int)), .sl .fz (.int N), .sl .fz (.int L), .sl .ow (.lst (ds.map .int)), .sl .fz (.int i), w] =
   .nx [.sl .fz (.int c), .sl .fz (.int s), .sl .fz (.lst (zs.map .int)), .sl .fz (.int N), .sl .fz (.int L'), .sl .ow (.lst ((ds ++ [d]).map .int)), .sl .fz (.int i), w'] ∧ 0 ≤ L' ∧ 0 ≤ d ∧ d < z := by
 have hlt : i < zs.length := (List.getElem?_eq_some_iff.mp hz).1
 have hat : L2.atI (zs.map PV.int) (i : Int) = some (.int z) := by
  rw [atI_nat (by simpa using hlt), List.getElem?_map, hz]; rfl
 have hlg : z.natAbs.log2 < 9000 := by
  have h2 : z.natAbs ≠ 0 := by omega
  have := (Nat.log2_lt h2).mpr hz1.2
  omega
 have hz0 : 0 < z := hz1.1
 clear hz1
 have hlen : ds.length + 1 ≤ 16777216 := by omega
 have m1 : ∀ a b : Int, 0 < b → 0 ≤ a % b ∧ a % b < b := fun a b h => ⟨Int.emod_nonneg _ (by omega), Int.emod_lt_of_pos _ h⟩
 by_cases hc : (1000000000000000000 : Int) ≤ N ∧ 0 < L
 ·refine ⟨L / z, L % z, w, ?_, Int.ediv_nonneg hL (by omega), (m1 L z hz0).1, (m1 L z hz0).2⟩
  unfold bU
  simp [hat, hc.1, hc.2, hz0, hlg, hlen]
 ·have hA : (N % 2147483629 + 7919 * s + 1).natAbs < 18446744073709551616 := by
   have := m1 N 2147483629 (by decide)
   omega
  have hB := m1 ((N % 2147483629 + 7919 * s + 1) ^ 3) 2147483647 (by decide)
  generalize hb : (N % 2147483629 + 7919 * s + 1) ^ 3 % 2147483647 = b at hB
  have hC := m1 ((b + 104729 * ((i : Int) + 1)) * ((i : Int) + 3)) 2147483629 (by decide)
  generalize hcc : (b + 104729 * ((i : Int) + 1)) * ((i : Int) + 3) % 2147483629 = e at hC
  refine ⟨L, e ^ 5 % 2147483647 * 48271 % 2147483629 / 16 % z, .sl .fz (.int (e ^ 5 % 2147483647 * 48271 % 2147483629)), ?_, hL, (m1 _ z hz0).1, (m1 _ z hz0).2⟩
  have hE : e.natAbs < 18446744073709551616 := by omega
  have hI : (i : Int) + 3 < 18446744073709551616 := by omega
  have hI' : -18446744073709551616 < (i : Int) + 3 := by omega
  have h16 : Nat.log2 16 < 9000 := by decide +kernel
  unfold bU
  by_cases h1 : (1000000000000000000 : Int) ≤ N
  ·have h2 : ¬ 0 < L := fun h => hc ⟨h1, h⟩
   simp [hat, h1, h2, hA, hb, hcc, hE, hI, hI', hz0, hlg, hlen, h16]
  ·simp [hat, h1, hA, hb, hcc, hE, hI, hI', hz0, hlg, hlen, h16]
theorem iD {c s N : Int} {zs : List Int} (hs : -(2 ^ 40) < s ∧ s < 2 ^ 40) (hN : 0 ≤ N) (hz : ∀ z ∈ zs, 0 < z ∧ z.natAbs < 2 ^ 200) (hl : zs.length ≤ 1000) :
  ∃ w w' L' ds, forL (tgN 6) bU (cx 0 zs.length) [.sl .fz (.int c), .sl .fz (.int s), .sl .fz (.lst (zs.map .int)), .sl .fz (.int N), .sl .fz (.int N), .sl .ow (.lst []), .un, .un] = .nx [.sl .fz (.int c), .sl .fz (.int s), .sl .fz (.lst (zs.map .int)), .sl .fz (.int N), .sl .fz (.int L'), .sl .ow (.lst (List.map PV.int ds)), w, w'] ∧ Below ds zs := by
 obtain ⟨γ', e1, w, w', L', ds, e2, hL', hB⟩ := eU (tg := tgN 6) (body := bU) (fun k γ => ∃ w6 w7 L ds, γ = [.sl .fz (.int c), .sl .fz (.int s), .sl .fz (.lst (zs.map .int)), .sl .fz (.int N), .sl .fz (.int L), .sl .ow (.lst (List.map PV.int ds)), w6, w7] ∧ 0 ≤ L ∧ Below ds (zs.take k))
  (cx 0 zs.length) 0 [.sl .fz (.int c), .sl .fz (.int s), .sl .fz (.lst (zs.map .int)), .sl .fz (.int N), .sl .fz (.int N), .sl .ow (.lst []), .un, .un] ⟨.un, .un, N, [], rfl, hN, by simp [Below]⟩ (by
   rintro i x γ hx ⟨w6, w7, L, ds, rfl, hL, hB⟩
   rw [Nat.zero_add] at hB ⊢
   obtain ⟨hi, rfl⟩ := jz hx
   have hz' := List.getElem?_eq_getElem hi
   have hdl : ds.length ≤ 1000 := by rw [hB.length]; simp; omega
   obtain ⟨L', d, w', e, h1, h2, h3⟩ := jE (c := c) (s := s) (N := N) (w := w7) hs hN hL hz' (hz _ (List.getElem_mem hi)) (by omega) hdl
   refine ⟨_, _, rfl, .inl e, .sl .fz (.int i), w', L', ds ++ [d], rfl, h1, hB.take_succ hz' ⟨h2, h3⟩⟩)
 have hB : Below ds zs := by simpa using hB
 subst e2
 exact ⟨w, w', L', ds, e1, hB⟩
theorem ku (c s : Int) (zs : List Int) (hs : -(2 ^ 40) < s ∧ s < 2 ^ 40) (hz : ∀ z ∈ zs, 0 < z ∧ z.natAbs < 2 ^ 200) (hl : zs.length ≤ 1000) : ∃ ds : List Int, o7 [.int c, .int s, .lst (zs.map .int)] = .ok (.lst (ds.map .int)) ∧ Below ds zs := by
 have hN : 0 ≤ (if -1 - c > c then -1 - c else c) := by split <;> omega
 generalize hNN : (if -1 - c > c then -1 - c else c) = N at hN
 obtain ⟨w, w', L', ds, e1, hB⟩ := iD (c := c) hs hN hz hl
 refine ⟨ds, ?_, hB⟩
 have hr : gA [.int (zs.length : Int)] = .ok (cx 0 zs.length) := ka (by omega)
 have s1 : aM 3 (xB fY (bo (ah 0) (bo (x2 lA (x1 kf (xC (.int 1))) (ah 0)) (ar)))) (frame 8 [.int c, .int s, .lst (zs.map .int)]) = .nx [.sl .fz (.int c), .sl .fz (.int s), .sl .fz (.lst (zs.map .int)), .sl .fz (.int N), .un, .un, .un, .un] := by
  rw [← hNN]; rfl
 unfold o7 h8
 refine (mP rfl).trans ?_
 rw [aU s1]
 rw [aU (g := aM 4 (ah 3)) (γ' := [.sl .fz (.int c), .sl .fz (.int s), .sl .fz (.lst (zs.map .int)), .sl .fz (.int N), .sl .fz (.int N), .un, .un, .un]) rfl]
 rw [aU (g := aM 5 (bp ar)) (γ' := [.sl .fz (.int c), .sl .fz (.int s), .sl .fz (.lst (zs.map .int)), .sl .fz (.int N), .sl .fz (.int N), .sl .ow (.lst []), .un, .un]) rfl]
 rw [aU (γ' := [.sl .fz (.int c), .sl .fz (.int s), .sl .fz (.lst (zs.map .int)), .sl .fz (.int N), .sl .fz (.int L'), .sl .ow (.lst (List.map PV.int ds)), w, w']) ?_]
 ·rfl
 ·exact iT (lX (xs := [.int (zs.length : Int)]) (by simp) hr) e1
end K02
set_option maxHeartbeats 4000000
namespace K02
open PySem L2 Z PP
def XS (V : PV) (n : Int) (T : Str) : List PV := [.exc "NoSet" [("thing", V)], .exc "NoRule" [("number", .int n), ("part", .str "table")], .exc "NotFree" [("things", V)], .exc "Free" [("things", V)], .exc "NoSize" [("size", .int n)], .exc "NoRules" [("number", .int n)], .exc "Tied" [("thing", .int n)], .exc "NoArrows" [("part", .str "root")], .exc "NoText" [("row", .int n)], .exc "NoOrder" [], .exc "NoWorths" [], .exc "NoHues" [], .exc "Unlike" [], .exc "TooMany" [("many", .int n)], .exc "NoRow" [], .exc "NoThing" [("thing", .int n)], .exc "NoName" [("name", .str T)], .exc "NoDeed" [], .exc "NoDeeds" [("number", .int n)]]
def D1 (V : PV) (n : Int) (T : Str) : List PV := [V, .str "table", .int n, V, V, .int n, .int n, .int n, .str "root", .int n, .int n, .str T]
def D2 (V : PV) (n : Int) (T : Str) : List PV := [V, .str "table", .int n, V, V, .int n, .int n, .int n, .str "root", .int n, .int n, .str T, .int n, .int n]
theorem nV (V : PV) (n : Int) (T : Str) : bI [V, .int n, .str T] = .ok (.lst (XS V n T)) := by kernel_rfl
theorem jJ (V : PV) (n : Int) (T : Str) : bb [.lst (XS V n T)] = .ok (.lst (D2 V n T)) := by kernel_rfl
theorem lP (V : PV) (n : Int) (T : Str) (s0 s1 s2 s3 s4 s5 s6 s8 s9 s10 s11 s12 : Sl) : fg (eT (ah 7)) (tgT (bc (tgN 8) (bc (tgN 9) (dA)))) eD [s0, s1, s2, s3, s4, s5, s6, .sl .fz (.lst (XS V n T)), s8, s9, s10, s11, s12] = .nx [s0, s1, s2, s3, s4, s5, s6, .sl .fz (.lst (XS V n T)), .sl .fz (.int 18), .sl .fz (.exc "NoDeeds" [("number", .int n)]), s10, s11, s12] := by kernel_rfl
end K02
set_option maxHeartbeats 4000000
namespace K02
open PySem L2 Z PP
theorem nu {α : Type} (g : α → PV) (p : α → PV) {tg : Tg} {c : Z.Env → R Bool} {f : Ex} {γ : Z.Env} {xs : List α} (h : ∀ x ∈ xs, lcT tg c f γ (p x) = .ok (some (g x))) : lcL tg c f γ (xs.map p) = .ok (xs.map g) := by
 induction xs with
 | nil => rfl
 | cons x xs ih =>
  rw [List.map_cons, ky, h x List.mem_cons_self, ih fun y hy => h y (List.mem_cons_of_mem _ hy)]; rfl
theorem iS {a b : Str} : PyData.strOk (a ++ b) = (PyData.strOk a && PyData.strOk b) := by
 show (a.cps ++ b.cps).all _ = _
 rw [Array.all_append]; rfl
theorem gZ {sep : Str} (hs : PyData.strOk sep = true) : ∀ ts : List Str, (∀ t ∈ ts, PyData.strOk t = true) → PyData.strOk (Str.join sep ts) = true
 | [], _ => by unfold Str.join; decide +kernel
 | [t], h => h t (by simp)
 | t :: u :: r, h => by
  show PyData.strOk (t ++ sep ++ Str.join sep (u :: r)) = true
  rw [iS, iS, h t (by simp), hs, gZ hs (u :: r) fun x hx => h x (List.mem_cons_of_mem _ hx)]; rfl
theorem strs_map : ∀ {ys : List Str}, strsOf (ys.map PV.str) = some ys
 | [] => rfl
 | y :: ys => by rw [List.map_cons]; unfold strsOf; rw [strs_map]; rfl
def alpha : Str := "abcdefghijklmnopqrstuvwxyz"
def lt (d : Nat) : Str := match L2.atI alpha.cps.toList (d : Int) with
 | some c => ⟨#[c]⟩
 | none => Str.empty
def chk (d : Nat) : Bool := (match pIx (.str alpha) (.int (d : Nat)) with
 | .ok (.fr .fz (.str t)) => t == lt d
 | _ => false) && (PyData.strOk (lt d) && decide ((lt d).length ≤ 1))
theorem l5 : ∀ d ∈ List.range 26, chk d = true := by decide +kernel
theorem kx {d : Nat} (h : d < 26) : pIx (.str alpha) (.int (d : Nat)) = .ok (.z (.str (lt d))) ∧ PyData.strOk (lt d) = true ∧ (lt d).length ≤ 1 := by
 have e := l5 d (List.mem_range.mpr h)
 unfold chk at e
 simp only [Bool.and_eq_true, decide_eq_true_eq] at e
 refine ⟨?_, e.2⟩
 have e1 := e.1
 split at e1
 ·rename_i t et
  rw [et, eq_of_beq e1]
 ·cases e1
theorem kZ {es : List Nat} (h : ∀ e ∈ es, e < 26) (hl : es.length ≤ 20) : cV "" (.lst ((es.map lt).map PV.str)) = .ok (.z (.str (Txt.join "" (es.map lt)))) ∧ PyData.strOk (Txt.join "" (es.map lt)) = true := by
 constructor
 ·unfold cV
  simp only [strs_map]
  rw [if_pos]
  have key : ∀ es : List Nat, (∀ e ∈ es, e < 26) → ((es.map lt).map (·.length)).sum ≤ es.length := fun es => by
   induction es with
   | nil => intro _; simp
   | cons e es ih =>
    intro h
    have := (kx (h e List.mem_cons_self)).2.2
    have := ih fun x hx => h x (List.mem_cons_of_mem _ hx)
    simp only [List.map_cons, List.sum_cons, List.length_cons]
    omega
  have := key es h
  have e0 : ("" : Str).length = 0 := by decide
  rw [e0]
  omega
 ·rw [TL.join_eq]
  refine gZ (by decide +kernel) _ fun t ht => ?_
  obtain ⟨e, he, rfl⟩ := List.mem_map.mp ht
  exact (kx (h e he)).2.1
theorem nO (a b : Int) : (dedup [a, b]).length ≤ 2 := by
 have e : dedup [b] = [b] := rfl
 show (if a ∈ dedup [b] then dedup [b] else a :: dedup [b]).length ≤ 2
 rw [e]
 split <;> simp
theorem jt (a b : Int) : ∃ ns : List Int, cA [.lst [.int a, .int b]] = .ok (.fr .ow (.lst (ns.map .int))) ∧ ns.length ≤ 100 := by
 have hd := nO a b
 refine ⟨sdd [a, b], ?_, ?_⟩
 ·unfold cA
  have e : bw [.lst [.int a, .int b]] = .ok [a, b] := rfl
  rw [e, R.ai, if_pos (by omega)]
 ·unfold sdd
  rw [(b0 _).length_eq]
  omega
theorem jA {V : PV} (h : isD 60 V = true) : aV [V] = .ok (.bl true) := by
 have e := kj h
 have k : bz [.exc "NotFree" [("things", V)]] = .ok (.lst [.bl false, .bl false, .bl true, .bl false, .bl false, .bl false, .bl false, .bl false, .bl false, .bl false, .bl false, .bl false, .bl false, .bl false, .bl false, .bl false, .bl false, .bl false, .bl false]) := by kernel_rfl
 have ix : pIx (.lst [.bl false, .bl false, .bl true, .bl false, .bl false, .bl false, .bl false, .bl false, .bl false, .bl false, .bl false, .bl false, .bl false, .bl false, .bl false, .bl false, .bl false, .bl false, .bl false]) (.int 2) = .ok (.z (.bl true)) := rfl
 unfold aV
 simp [k, ix, e, List.lookup]
end K02
set_option maxHeartbeats 4000000
namespace K02
open PySem L2 Z PP
theorem ja : ∀ {ds : List Int} {b : Int}, (∀ d ∈ ds, 0 ≤ d ∧ d < b) → ∃ es : List Nat, ds = es.map Int.ofNat ∧ ∀ e ∈ es, (e : Int) < b
 | [], _, _ => ⟨[], rfl, fun e he => by cases he⟩
 | d :: ds, b, h => by
  obtain ⟨es, e1, e2⟩ := ja (ds := ds) (b := b) fun x hx => h x (List.mem_cons_of_mem _ hx)
  obtain ⟨n, rfl⟩ := Int.eq_ofNat_of_zero_le (h d List.mem_cons_self).1
  refine ⟨n :: es, by rw [e1]; rfl, fun e he => ?_⟩
  rcases List.mem_cons.mp he with rfl | he
  ·exact (h _ List.mem_cons_self).2
  ·exact e2 e he
theorem oo {k : Nat} (hk : k ≤ 1000) {c : Int} {s0 w3 w4 w5 w6 w7 w8 w9 w10 : Sl} : ∃ v3 v4 v5 v6 v7 v8 v9 v10, c3 [s0, .sl .fz (.int (k : Nat)), .sl .fz (.int c), w3, w4, w5, w6, w7, w8, w9, w10, .un, .un] = .nx [s0, .sl .fz (.int (k : Nat)), .sl .fz (.int c), v3, v4, v5, v6, v7, v8, v9, v10, .un, .un] := by
 obtain ⟨ds, ed, Bd⟩ := ku c (200 + (k : Int)) [100000000000000000000000000000000000000000000000000000000000, 10, 26, 26, 26, 26, 26, 26, 26, 26, 26, 8, 8] (by omega) (by decide +kernel) (by decide)
 have ed : aW [.int c, .int (200 + (k : Int)), .lst [.int 100000000000000000000000000000000000000000000000000000000000, .int 10, .int 26, .int 26, .int 26, .int 26, .int 26, .int 26, .int 26, .int 26, .int 26, .int 8, .int 8]] = .ok (.lst (ds.map .int)) := ed
 match ds, Bd with
 | [d0, d1, d2, d3, d4, d5, d6, d7, d8, d9, d10, d11, d12], Bd =>
 obtain ⟨_, b1, b2, b3, b4, b5, b6, b7, b8, b9, b10, _, _, _⟩ := Bd
 obtain ⟨n1, rfl⟩ := Int.eq_ofNat_of_zero_le b1.1
 have hn1 : n1 < 10 := by have := b1.2; omega
 obtain ⟨es, he, hes⟩ := ja (ds := [d2, d3, d4, d5, d6, d7, d8, d9, d10]) (b := 26) (by
  intro d hd
  simp only [List.mem_cons, List.not_mem_nil, or_false] at hd
  rcases hd with rfl | rfl | rfl | rfl | rfl | rfl | rfl | rfl | rfl <;> assumption)
 have hel : es.length = 9 := by
  have := congrArg List.length he
  simpa using this.symm
 have hcut : cT [.int d0, .int (n1 : Nat), .int d2, .int d3, .int d4, .int d5, .int d6, .int d7, .int d8, .int d9, .int d10, .int d11, .int d12] (some 2) (some (2 + (n1 : Nat))) = (es.take n1).map fun e : Nat => PV.int e := by
  have e0 := j9 (xs := [PV.int d0, .int (n1 : Nat), .int d2, .int d3, .int d4, .int d5, .int d6, .int d7, .int d8, .int d9, .int d10, .int d11, .int d12]) (k := 2) (n := n1)
  push_cast at e0
  rw [e0]
  have e1 : List.drop 2 [PV.int d0, .int (n1 : Nat), .int d2, .int d3, .int d4, .int d5, .int d6, .int d7, .int d8, .int d9, .int d10, .int d11, .int d12] = ([d2, d3, d4, d5, d6, d7, d8, d9, d10].map PV.int) ++ [.int d11, .int d12] := rfl
  rw [e1, List.take_append_of_le_length (by simp; omega), he, List.map_map, ← List.map_take]
  rfl
 obtain ⟨tj, tk⟩ := kZ (es := es.take n1) (fun e he => by have := hes e (List.mem_of_mem_take he); omega) (by simp; omega)
 generalize hT : Txt.join "" ((es.take n1).map lt) = T at tj tk
 have lc : ∀ (t3 t4 t5 t6 t7 t8 t9 t10 t12 w : Sl), lcL (tgN 11) fJ gF [s0, .sl .fz (.int (k : Nat)), .sl .fz (.int c), t3, t4, t5, t6, t7, t8, t9, t10, w, t12] ((es.take n1).map fun e : Nat => PV.int e) = .ok (((es.take n1).map lt).map PV.str) := fun t3 t4 t5 t6 t7 t8 t9 t10 t12 w => by
  rw [List.map_map]
  refine nu (fun e : Nat => PV.str (lt e)) (fun e : Nat => PV.int e) fun e hm => ?_
  have e1 := (kx (d := e) (by have := hes e (List.mem_of_mem_take hm); omega)).1
  have e2 : pIx (.str "abcdefghijklmnopqrstuvwxyz") (.int (e : Nat)) = .ok (.z (.str (lt e))) := e1
  generalize lt e = L at *
  simp [lcT, e2]
 obtain ⟨ns, hns, hnl⟩ := jt d11 d12
 have hcut2 : cT [.int d0, .int (n1 : Nat), .int d2, .int d3, .int d4, .int d5, .int d6, .int d7, .int d8, .int d9, .int d10, .int d11, .int d12] (some 11) (some 13) = [.int d11, .int d12] := rfl
 have tp : iz [.lst (ns.map .int)] = .ok (.z (.tup (ns.map .int))) := by
  have : (ns.map PV.int).length ≤ 16777216 := by simp; omega
  simp [iz, this]
 have hVn : ∀ m : Nat, isD (m + 1) (.tup (ns.map .int)) = true := fun m => by
  rw [jd, ib, List.all_eq_true]
  intro x hx
  obtain ⟨i, _, rfl⟩ := List.mem_map.mp hx
  exact jf
 have hV : isD 60 (.tup (ns.map .int)) = true := hVn 59
 have hV' : isD 59 (.tup (ns.map .int)) = true := hVn 58
 clear hVn
 generalize hVV : PV.tup (ns.map .int) = V at tp hV hV'
 have hlen : ((es.take n1).map fun e : Nat => PV.int e).length ≤ 16777216 := by simp; omega
 generalize ((es.take n1).map fun e : Nat => PV.int e) = ES at *
 generalize (((es.take n1).map lt).map PV.str) = LS at *
 generalize ns.map PV.int = NS at *
 have ix0 : pIx (.lst [.int d0, .int (n1 : Nat), .int d2, .int d3, .int d4, .int d5, .int d6, .int d7, .int d8, .int d9, .int d10, .int d11, .int d12]) (.int 0) = .ok (.z (.int d0)) := rfl
 have ix1 : pIx (.lst [.int d0, .int (n1 : Nat), .int d2, .int d3, .int d4, .int d5, .int d6, .int d7, .int d8, .int d9, .int d10, .int d11, .int d12]) (.int 1) = .ok (.z (.int (n1 : Nat))) := rfl
 have ea := nV V d0 T
 have ef := jJ V d0 T
 have er := jA hV
 have nD : pNe (.lst (D2 V d0 T)) (.lst (D2 V d0 T)) = .ok false := kg (by
  rw [je, ib]
  simp only [D2, List.all_cons, List.all_nil, Bool.and_true, jf, lW, Bool.and_eq_true, Bool.true_and]
  exact ⟨hV', by decide +kernel, hV', hV', by decide +kernel, tk⟩)
 have rz : dD (.fr .ow (.lst [.int 26])) (.int 9) = .ok (.fr .ow (.lst [.int 26, .int 26, .int 26, .int 26, .int 26, .int 26, .int 26, .int 26, .int 26])) := by kernel_rfl
 have pw : dJ (.int 10) (.int 59) = .ok (.z (.int 100000000000000000000000000000000000000000000000000000000000)) := by kernel_rfl
 have i17 : pIx (.lst (XS V d0 T)) (.int 17) = .ok (.z (.exc "NoDeed" [])) := rfl
 have i15 : pIx (.lst (XS V d0 T)) (.int 15) = .ok (.z (.exc "NoThing" [("thing", .int d0)])) := rfl
 have i16 : pIx (.lst (XS V d0 T)) (.int 16) = .ok (.z (.exc "NoName" [("name", .str T)])) := rfl
 simp only [List.map_cons, List.map_nil] at ed
 generalize ((n1 : Nat) : Int) = N1 at *
 generalize hDS : ([.int d0, .int N1, .int d2, .int d3, .int d4, .int d5, .int d6, .int d7, .int d8, .int d9, .int d10, .int d11, .int d12] : List PV) = DS at *
 have hds : DS.length ≤ 16777216 := by rw [← hDS]; simp
 refine ⟨.sl .fz (.lst DS), .sl .fz (.str T), .sl .fz V, .sl .fz (.int d0), .sl .fz (.lst (XS V d0 T)), .sl .fz (.int 18), .sl .fz (.exc "NoDeeds" [("number", .int d0)]), .sl .ow (.lst (D2 V d0 T)), ?_⟩
 clear hDS hVV hT he hes hel
 have q0 : (aM 3 (bD aW (ae (ah 2) (ae (x2 aS (xC (.int 200)) (ah 1)) (ae (x2 aS (x2 aS (bp (ae (x2 dJ (xC (.int 10)) (xC (.int 59))) (ae (xC (.int 10)) (ar)))) (kU (bp (ae (xC (.int 26)) (ar))) (xC (.int 9)))) (bp (ae (xC (.int 8)) (ae (xC (.int 8)) (ar))))) (ar)))))) [s0, .sl .fz (.int (k : Nat)), .sl .fz (.int c), w3, w4, w5, w6, w7, w8, w9, w10, .un, .un] = .nx [s0, .sl .fz (.int (k : Nat)), .sl .fz (.int c), .sl .fz (.lst DS), w4, w5, w6, w7, w8, w9, w10, .un, .un] := by
  simp [-bC, kU, rz, pw, ed]
 have q1 : (aM 4 (x1 (cV "") (xLc (kE (xSl (ah 3) (xP (xC (.int 2))) (xP (x2 aS (xC (.int 2)) (x2 pIx (ah 3) (xC (.int 1))))))) (tgN 11) (fJ) (gF) [11]))) [s0, .sl .fz (.int (k : Nat)), .sl .fz (.int c), .sl .fz (.lst DS), w4, w5, w6, w7, w8, w9, w10, .un, .un] = .nx [s0, .sl .fz (.int (k : Nat)), .sl .fz (.int c), .sl .fz (.lst DS), .sl .fz (.str T), w5, w6, w7, w8, w9, w10, .un, .un] := by
  simp [-bC, pC, kE, ix1, hcut, lc, hlen, tj, hds]
 have q2 : (aM 5 (xB iz (bo (xB cA (bo (xSl (ah 3) (xP (xC (.int 11))) (xP (xC (.int 13)))) (ar))) (ar)))) [s0, .sl .fz (.int (k : Nat)), .sl .fz (.int c), .sl .fz (.lst DS), .sl .fz (.str T), w5, w6, w7, w8, w9, w10, .un, .un] = .nx [s0, .sl .fz (.int (k : Nat)), .sl .fz (.int c), .sl .fz (.lst DS), .sl .fz (.str T), .sl .fz V, w6, w7, w8, w9, w10, .un, .un] := by
  simp [-bC, hcut2, hds, hns, tp]
 have q3 : (aM 6 (x2 pIx (ah 3) (xC (.int 0)))) [s0, .sl .fz (.int (k : Nat)), .sl .fz (.int c), .sl .fz (.lst DS), .sl .fz (.str T), .sl .fz V, w6, w7, w8, w9, w10, .un, .un] = .nx [s0, .sl .fz (.int (k : Nat)), .sl .fz (.int c), .sl .fz (.lst DS), .sl .fz (.str T), .sl .fz V, .sl .fz (.int d0), w7, w8, w9, w10, .un, .un] := by
  simp [-bC, ix0]
 have q4 : (aM 7 (bD bI (ae (ah 5) (ae (ah 6) (ae (ah 4) (ar)))))) [s0, .sl .fz (.int (k : Nat)), .sl .fz (.int c), .sl .fz (.lst DS), .sl .fz (.str T), .sl .fz V, .sl .fz (.int d0), w7, w8, w9, w10, .un, .un] = .nx [s0, .sl .fz (.int (k : Nat)), .sl .fz (.int c), .sl .fz (.lst DS), .sl .fz (.str T), .sl .fz V, .sl .fz (.int d0), .sl .fz (.lst (XS V d0 T)), w8, w9, w10, .un, .un] := by
  simp [-bC, ea]
 have q5 : (fg (eT (ah 7)) (tgT (bc (tgN 8) (bc (tgN 9) (dA)))) eD) [s0, .sl .fz (.int (k : Nat)), .sl .fz (.int c), .sl .fz (.lst DS), .sl .fz (.str T), .sl .fz V, .sl .fz (.int d0), .sl .fz (.lst (XS V d0 T)), w8, w9, w10, .un, .un] = .nx [s0, .sl .fz (.int (k : Nat)), .sl .fz (.int c), .sl .fz (.lst DS), .sl .fz (.str T), .sl .fz V, .sl .fz (.int d0), .sl .fz (.lst (XS V d0 T)), .sl .fz (.int 18), .sl .fz (.exc "NoDeeds" [("number", .int d0)]), w10, .un, .un] := by
  exact lP V d0 T _ _ _ _ _ _ _ _ _ _ _ _
 have q6 : (sIf (xT (xIs (fun x => [isC ["NoName"], isC ["NoThing"]].any fun g => g x) (x2 pIx (ah 7) (xC (.int 17))))) (bR (xC (.bl false))) (sNx)) [s0, .sl .fz (.int (k : Nat)), .sl .fz (.int c), .sl .fz (.lst DS), .sl .fz (.str T), .sl .fz V, .sl .fz (.int d0), .sl .fz (.lst (XS V d0 T)), .sl .fz (.int 18), .sl .fz (.exc "NoDeeds" [("number", .int d0)]), w10, .un, .un] = .nx [s0, .sl .fz (.int (k : Nat)), .sl .fz (.int c), .sl .fz (.lst DS), .sl .fz (.str T), .sl .fz V, .sl .fz (.int d0), .sl .fz (.lst (XS V d0 T)), .sl .fz (.int 18), .sl .fz (.exc "NoDeeds" [("number", .int d0)]), w10, .un, .un] := by
  simp [-bC, i17]
 have q7 : (sIf (dE (ck (xT (xIs (isC ["NoThing"]) (x2 pIx (ah 7) (xC (.int 15)))))) (ck (xT (xIs (isC ["NoName"]) (x2 pIx (ah 7) (xC (.int 16))))))) (bR (xC (.bl false))) (sNx)) [s0, .sl .fz (.int (k : Nat)), .sl .fz (.int c), .sl .fz (.lst DS), .sl .fz (.str T), .sl .fz V, .sl .fz (.int d0), .sl .fz (.lst (XS V d0 T)), .sl .fz (.int 18), .sl .fz (.exc "NoDeeds" [("number", .int d0)]), w10, .un, .un] = .nx [s0, .sl .fz (.int (k : Nat)), .sl .fz (.int c), .sl .fz (.lst DS), .sl .fz (.str T), .sl .fz V, .sl .fz (.int d0), .sl .fz (.lst (XS V d0 T)), .sl .fz (.int 18), .sl .fz (.exc "NoDeeds" [("number", .int d0)]), w10, .un, .un] := by
  simp [-bC, i15, i16]
 have q8 : (aM 10 (bp (ae (ah 5) (ae (xC (.str "table")) (ae (ah 6) (ae (ah 5) (ae (ah 5) (ae (ah 6) (ae (ah 6) (ae (ah 6) (ae (xC (.str "root")) (ae (ah 6) (ae (ah 6) (ae (ah 4) (ar))))))))))))))) [s0, .sl .fz (.int (k : Nat)), .sl .fz (.int c), .sl .fz (.lst DS), .sl .fz (.str T), .sl .fz V, .sl .fz (.int d0), .sl .fz (.lst (XS V d0 T)), .sl .fz (.int 18), .sl .fz (.exc "NoDeeds" [("number", .int d0)]), w10, .un, .un] = .nx [s0, .sl .fz (.int (k : Nat)), .sl .fz (.int c), .sl .fz (.lst DS), .sl .fz (.str T), .sl .fz V, .sl .fz (.int d0), .sl .fz (.lst (XS V d0 T)), .sl .fz (.int 18), .sl .fz (.exc "NoDeeds" [("number", .int d0)]), .sl .ow (.lst (D1 V d0 T)), .un, .un] := by
  simp [-bC, D1]
 have q9 : (aM 10 (x2 aS (ah 10) (bp (ae (ah 6) (ae (ah 6) (ar)))))) [s0, .sl .fz (.int (k : Nat)), .sl .fz (.int c), .sl .fz (.lst DS), .sl .fz (.str T), .sl .fz V, .sl .fz (.int d0), .sl .fz (.lst (XS V d0 T)), .sl .fz (.int 18), .sl .fz (.exc "NoDeeds" [("number", .int d0)]), .sl .ow (.lst (D1 V d0 T)), .un, .un] = .nx [s0, .sl .fz (.int (k : Nat)), .sl .fz (.int c), .sl .fz (.lst DS), .sl .fz (.str T), .sl .fz V, .sl .fz (.int d0), .sl .fz (.lst (XS V d0 T)), .sl .fz (.int 18), .sl .fz (.exc "NoDeeds" [("number", .int d0)]), .sl .ow (.lst (D2 V d0 T)), .un, .un] := by
  simp [-bC, D1, D2, aS]
 have q10 : (sIf (dE (xT (x2 (pb pNe) (bD bb (ae (ah 7) (ar))) (ah 10))) (dE (ck (xT (fH aV (ae (ah 5) (ar))))) (ck (xT (xIs (isC ["NoDeed", "NoName", "NoThing"]) (x2 pIx (ah 7) (xC (.int 17)))))))) (bR (xC (.bl false))) (sNx)) [s0, .sl .fz (.int (k : Nat)), .sl .fz (.int c), .sl .fz (.lst DS), .sl .fz (.str T), .sl .fz V, .sl .fz (.int d0), .sl .fz (.lst (XS V d0 T)), .sl .fz (.int 18), .sl .fz (.exc "NoDeeds" [("number", .int d0)]), .sl .ow (.lst (D2 V d0 T)), .un, .un] = .nx [s0, .sl .fz (.int (k : Nat)), .sl .fz (.int c), .sl .fz (.lst DS), .sl .fz (.str T), .sl .fz V, .sl .fz (.int d0), .sl .fz (.lst (XS V d0 T)), .sl .fz (.int 18), .sl .fz (.exc "NoDeeds" [("number", .int d0)]), .sl .ow (.lst (D2 V d0 T)), .un, .un] := by
  simp [-bC, ef, nD, er, i17]
 unfold c3
 rw [aU q0, aU q1, aU q2, aU q3, aU q4, aU q5, aU q6, aU q7, aU q8, aU q9, q10]
theorem kz : jr ig 63 := by
 intro ns hl
 have hz : (ns.map PV.int).length ≤ 63 := by simp; omega
 have hc : cT (ns.map PV.int) none (some 20) = (ns.take 20).map .int := by
  have := lz (xs := ns.map PV.int) (k := 20)
  rw [show ((20 : Nat) : Int) = 20 from rfl] at this
  rw [this, List.map_take]
 have ad : aS (.lst [.int 2]) (.lst ((ns.take 20).map .int)) = .ok (.fr .ow (.lst ((2 :: ns.take 20).map .int))) := by
  have : ((ns.take 20).map PV.int).length ≤ 20 := by simp; omega
  rw [List.map_cons]
  generalize (ns.take 20).map PV.int = L at *
  simp [aS]
  omega
 obtain ⟨γ', f, w1, w2, w3, w4, w5, w6, w7, w8, w9, w10, rfl⟩ := eU (tg := tgT (bc (tgN 1) (bc (tgN 2) (dA)))) (body := c3) (fun _ γ => ∃ w1 w2 w3 w4 w5 w6 w7 w8 w9 w10, γ = [.sl .fz (.lst (ns.map .int)), w1, w2, w3, w4, w5, w6, w7, w8, w9, w10, .un, .un]) (cg 0 ((2 :: ns.take 20).map .int)) 0 [.sl .fz (.lst (ns.map .int)), .un, .un, .un, .un, .un, .un, .un, .un, .un, .un, .un, .un] ⟨_, _, _, _, _, _, _, _, _, _, rfl⟩ (by
  rintro i x γ hx ⟨w1, w2, w3, w4, w5, w6, w7, w8, w9, w10, rfl⟩
  rw [cC, List.getElem?_map] at hx
  cases e : (2 :: ns.take 20)[i]? with
  | none => rw [e] at hx; cases hx
  | some c =>
   rw [e] at hx
   have hi : i < (2 :: ns.take 20).length := (List.getElem?_eq_some_iff.mp e).1
   have hi2 : i ≤ 1000 := by simp at hi; omega
   simp at hx
   subst hx
   obtain ⟨v3, v4, v5, v6, v7, v8, v9, v10, e2⟩ := oo (k := i) hi2 (c := c) (s0 := .sl .fz (.lst (ns.map .int))) (w3 := w3) (w4 := w4) (w5 := w5) (w6 := w6) (w7 := w7) (w8 := w8) (w9 := w9) (w10 := w10)
   exact ⟨_, _, rfl, .inl e2, _, _, _, _, _, _, _, _, _, _, rfl⟩)
 unfold ig
 show hU (jb [.sl .fz (.lst (ns.map .int)), .un, .un, .un, .un, .un, .un, .un, .un, .un, .un, .un, .un]) = _
 unfold jb
 rw [aU (iT ?_ f)]
 ·simp
 ·generalize (2 :: ns.take 20).map PV.int = L at *
  generalize (ns.take 20).map PV.int = L2 at *
  generalize ns.map PV.int = NS at *
  have : NS.length ≤ 16777216 := by omega
  simp [hc, ad, this, nM]
end K02
namespace K02
open PySem L2 Z PySem.Spec PyProof.Rows
theorem nW {l : PySem.W.OpenLaw} {w : World} {K : PySem.W.Frag} {h : Heap} {mg : Str → Option Value} {fa : Addr} (KX : K.In h) (G : h.Ns mainGlobals mg) (hfa : mg "law" = some (.ref fa)) (c : gm fl fnl K) :
  ∃ fd : FuncData, (∀ (s : Shared) (v : Value), BindsTo s fd ⟨[v], []⟩ [("_law_script", v)]) ∧ ∀ base : Heap, K.In base → base.Ns mainGlobals mg → kS base → FnG l.prog w K mg base 4 fa fd ["_law_script"] (gX K 63) := by
 obtain ⟨fd0, FD0⟩ := c.def_ 0 (d := dd0) rfl
 obtain ⟨fd1, FD1⟩ := c.def_ 1 (d := dd1) rfl
 obtain ⟨fd2, FD2⟩ := c.def_ 2 (d := dd2) rfl
 obtain ⟨fd3, FD3⟩ := c.def_ 3 (d := dd3) rfl
 obtain ⟨fd4, FD4⟩ := c.def_ 4 (d := dd4) rfl
 obtain ⟨fd5, FD5⟩ := c.def_ 5 (d := dd5) rfl
 obtain ⟨fd6, FD6⟩ := c.def_ 6 (d := dd6) rfl
 obtain ⟨fd7, FD7⟩ := c.def_ 7 (d := dd7) rfl
 obtain ⟨fd8, FD8⟩ := c.def_ 8 (d := dd8) rfl
 obtain ⟨fd9, FD9⟩ := c.def_ 9 (d := dd9) rfl
 obtain ⟨fd10, FD10⟩ := c.def_ 10 (d := pM) rfl
 obtain ⟨fd11, FD11⟩ := c.def_ 11 (d := pL) rfl
 obtain ⟨fd12, FD12⟩ := c.def_ 12 (d := pK) rfl
 obtain ⟨fd13, FD13⟩ := c.def_ 13 (d := pJ) rfl
 obtain ⟨fd14, FD14⟩ := c.def_ 14 (d := pI) rfl
 obtain ⟨fd15, FD15⟩ := c.def_ 15 (d := pH) rfl
 obtain ⟨fd16, FD16⟩ := c.def_ 16 (d := pG) rfl
 obtain ⟨fd17, FD17⟩ := c.def_ 17 (d := pF) rfl
 obtain ⟨fd18, FD18⟩ := c.def_ 18 (d := pE) rfl
 exact all_mk KX G hfa (show (gb K) = true from (c.at_ 0 0)) kz (C_Free := (He.ga K "Free")) (C_NoArrows := (He.ga K "NoArrows")) (C_NoDeed := (He.ga K "NoDeed")) (C_NoDeeds := (He.ga K "NoDeeds")) (C_NoHues := (He.ga K "NoHues")) (C_NoName := (He.ga K "NoName")) (C_NoOrder := (He.ga K "NoOrder")) (C_NoRow := (He.ga K "NoRow")) (C_NoRule := (He.ga K "NoRule")) (C_NoRules := (He.ga K "NoRules")) (C_NoSet := (He.ga K "NoSet")) (C_NoSize := (He.ga K "NoSize")) (C_NoText := (He.ga K "NoText")) (C_NoThing := (He.ga K "NoThing")) (C_NoWorths := (He.ga K "NoWorths")) (C_NotFree := (He.ga K "NotFree")) (C_Tied := (He.ga K "Tied")) (C_TooMany := (He.ga K "TooMany")) (C_Unlike := (He.ga K "Unlike")) (C_FreeError := (He.ga K "FreeError")) (f0 := (He.ga K "_law_numbers")) (f1 := (He.ma K (He.ga K "NoSet") "__init__")) (f2 := (He.ma K (He.ga K "NoRule") "__init__")) (f3 := (He.ma K (He.ga K "NotFree") "__init__")) (f4 := (He.ma K (He.ga K "Free") "__init__")) (f5 := (He.ma K (He.ga K "NoSize") "__init__")) (f6 := (He.ma K (He.ga K "NoRules") "__init__")) (f7 := (He.ma K (He.ga K "Tied") "__init__")) (f8 := (He.ma K (He.ga K "NoArrows") "__init__")) (f9 := (He.ma K (He.ga K "NoText") "__init__")) (f10 := (He.ma K (He.ga K "TooMany") "__init__")) (f11 := (He.ma K (He.ga K "NoThing") "__init__")) (f12 := (He.ma K (He.ga K "NoName") "__init__")) (f13 := (He.ma K (He.ga K "NoDeeds") "__init__")) (f14 := (He.ga K "_law_all")) (f15 := (He.ga K "_law_kinds")) (f16 := (He.ga K "_law_fields")) (f17 := (He.ga K "_law_raised")) (f18 := (He.ga K "law")) (FD0 := FD0) (FD1 := FD1) (FD2 := FD2) (FD3 := FD3) (FD4 := FD4) (FD5 := FD5) (FD6 := FD6) (FD7 := FD7) (FD8 := FD8) (FD9 := FD9) (FD10 := FD10) (FD11 := FD11) (FD12 := FD12) (FD13 := FD13) (FD14 := FD14) (FD15 := FD15) (FD16 := FD16) (FD17 := FD17) (FD18 := FD18) (g_Free := (fC' (c.at_ 0 1))) (g_NoArrows := (fC' (c.at_ 0 2))) (g_NoDeed := (fC' (c.at_ 0 3))) (g_NoDeeds := (fC' (c.at_ 0 4))) (g_NoHues := (fC' (c.at_ 0 5))) (g_NoName := (fC' (c.at_ 0 6))) (g_NoOrder := (fC' (c.at_ 0 7))) (g_NoRow := (fC' (c.at_ 0 8))) (g_NoRule := (fC' (c.at_ 0 9))) (g_NoRules := (fC' (c.at_ 0 10))) (g_NoSet := (fC' (c.at_ 0 11))) (g_NoSize := (fC' (c.at_ 0 12))) (g_NoText := (fC' (c.at_ 0 13))) (g_NoThing := (fC' (c.at_ 0 14))) (g_NoWorths := (fC' (c.at_ 0 15))) (g_NotFree := (fC' (c.at_ 0 16))) (g_Tied := (fC' (c.at_ 0 17))) (g_TooMany := (fC' (c.at_ 0 18))) (g_Unlike := (fC' (c.at_ 0 19))) (g_FreeError := (fC' (c.at_ 0 20))) (a0 := (fC' (c.at_ 0 21))) (a1 := (fB' (c.at_ 0 22))) (a2 := (fB' (c.at_ 0 23))) (a3 := (fB' (c.at_ 0 24))) (a4 := (fB' (c.at_ 1 0))) (a5 := (fB' (c.at_ 1 1))) (a6 := (fB' (c.at_ 1 2))) (a7 := (fB' (c.at_ 1 3))) (a8 := (fB' (c.at_ 1 4))) (a9 := (fB' (c.at_ 1 5))) (a10 := (fB' (c.at_ 1 6))) (a11 := (fB' (c.at_ 1 7))) (a12 := (fB' (c.at_ 1 8))) (a13 := (fB' (c.at_ 1 9))) (a14 := (fC' (c.at_ 1 10))) (a15 := (fC' (c.at_ 1 11))) (a16 := (fC' (c.at_ 1 12))) (a17 := (fC' (c.at_ 1 13))) (a18 := (fC' (c.at_ 1 14))) (hn0 := (of_decide_eq_true (show (decide (PySem.W.specialIn K (.builtin "object.__class__") "__get__" = some (some (.builtin "getset_descriptor.__get__")))) = true from (c.at_ 1 15)))) (ht0 := (of_decide_eq_true (show (decide (PySem.W.takesIn K (.builtin "object.__class__") = some true)) = true from (c.at_ 1 16)))) (e1_NoDeed := (fF' (c.at_ 1 17))) (e2_NoDeed := (fA' (c.at_ 1 18))) (e3_NoDeed := (of_decide_eq_true (show (decide (PySem.W.subIn K (.ref (He.ga K "NoDeed")) (.type "BaseException") = some true)) = true from (c.at_ 1 19)))) (e4_NoDeed := (show (PySem.W.hasDictIn K (He.ga K "NoDeed")) = true from (c.at_ 1 20))) (e5_NoDeed := (fF' (c.at_ 1 21))) (e6_NoDeed := (of_decide_eq_true (show (decide (PySem.W.mroIn K (He.ga K "NoDeed") (.type "object") = some true)) = true from (c.at_ 1 22)))) (e7_NoDeed := (show (PySem.W.excIn K (He.ga K "NoDeed") [.type "LookupError", .type "Exception", .type "BaseException", .type "object"] "LookupError.__new__") = true from (c.at_ 1 23))) (e10_NoDeed := (of_decide_eq_true (show (decide (PySem.W.typeIn K (.ref (He.ga K "NoDeed")) = some (.type "type"))) = true from (c.at_ 1 24)))) (e11_NoDeed := (show (PySem.W.keepIn K (.ref (He.ga K "NoDeed"))) = true from (c.at_ 2 0))) (nx_many_NoDeed := (fA' (c.at_ 2 1))) (nx_name_NoDeed := (fA' (c.at_ 2 2))) (nx_number_NoDeed := (fA' (c.at_ 2 3))) (nx_part_NoDeed := (fA' (c.at_ 2 4))) (nx_row_NoDeed := (fA' (c.at_ 2 5))) (nx_size_NoDeed := (fA' (c.at_ 2 6))) (nx_thing_NoDeed := (fA' (c.at_ 2 7))) (nx_things_NoDeed := (fA' (c.at_ 2 8))) (e1_NoHues := (fF' (c.at_ 2 9))) (e2_NoHues := (fA' (c.at_ 2 10))) (e3_NoHues := (of_decide_eq_true (show (decide (PySem.W.subIn K (.ref (He.ga K "NoHues")) (.type "BaseException") = some true)) = true from (c.at_ 2 11)))) (e4_NoHues := (show (PySem.W.hasDictIn K (He.ga K "NoHues")) = true from (c.at_ 2 12))) (e5_NoHues := (fF' (c.at_ 2 13))) (e6_NoHues := (of_decide_eq_true (show (decide (PySem.W.mroIn K (He.ga K "NoHues") (.type "object") = some true)) = true from (c.at_ 2 14)))) (e7_NoHues := (show (PySem.W.excIn K (He.ga K "NoHues") [.type "Exception", .type "BaseException", .type "object"] "Exception.__new__") = true from (c.at_ 2 15))) (e10_NoHues := (of_decide_eq_true (show (decide (PySem.W.typeIn K (.ref (He.ga K "NoHues")) = some (.type "type"))) = true from (c.at_ 2 16)))) (e11_NoHues := (show (PySem.W.keepIn K (.ref (He.ga K "NoHues"))) = true from (c.at_ 2 17))) (nx_many_NoHues := (fA' (c.at_ 2 18))) (nx_name_NoHues := (fA' (c.at_ 2 19))) (nx_number_NoHues := (fA' (c.at_ 2 20))) (nx_part_NoHues := (fA' (c.at_ 2 21))) (nx_row_NoHues := (fA' (c.at_ 2 22))) (nx_size_NoHues := (fA' (c.at_ 2 23))) (nx_thing_NoHues := (fA' (c.at_ 2 24))) (nx_things_NoHues := (fA' (c.at_ 3 0))) (e1_NoOrder := (fF' (c.at_ 3 1))) (e2_NoOrder := (fA' (c.at_ 3 2))) (e3_NoOrder := (of_decide_eq_true (show (decide (PySem.W.subIn K (.ref (He.ga K "NoOrder")) (.type "BaseException") = some true)) = true from (c.at_ 3 3)))) (e4_NoOrder := (show (PySem.W.hasDictIn K (He.ga K "NoOrder")) = true from (c.at_ 3 4))) (e5_NoOrder := (fF' (c.at_ 3 5))) (e6_NoOrder := (of_decide_eq_true (show (decide (PySem.W.mroIn K (He.ga K "NoOrder") (.type "object") = some true)) = true from (c.at_ 3 6)))) (e7_NoOrder := (show (PySem.W.excIn K (He.ga K "NoOrder") [.type "Exception", .type "BaseException", .type "object"] "Exception.__new__") = true from (c.at_ 3 7))) (e10_NoOrder := (of_decide_eq_true (show (decide (PySem.W.typeIn K (.ref (He.ga K "NoOrder")) = some (.type "type"))) = true from (c.at_ 3 8)))) (e11_NoOrder := (show (PySem.W.keepIn K (.ref (He.ga K "NoOrder"))) = true from (c.at_ 3 9))) (nx_many_NoOrder := (fA' (c.at_ 3 10))) (nx_name_NoOrder := (fA' (c.at_ 3 11))) (nx_number_NoOrder := (fA' (c.at_ 3 12))) (nx_part_NoOrder := (fA' (c.at_ 3 13))) (nx_row_NoOrder := (fA' (c.at_ 3 14))) (nx_size_NoOrder := (fA' (c.at_ 3 15))) (nx_thing_NoOrder := (fA' (c.at_ 3 16))) (nx_things_NoOrder := (fA' (c.at_ 3 17))) (e1_NoRow := (fF' (c.at_ 3 18))) (e2_NoRow := (fA' (c.at_ 3 19))) (e3_NoRow := (of_decide_eq_true (show (decide (PySem.W.subIn K (.ref (He.ga K "NoRow")) (.type "BaseException") = some true)) = true from (c.at_ 3 20)))) (e4_NoRow := (show (PySem.W.hasDictIn K (He.ga K "NoRow")) = true from (c.at_ 3 21))) (e5_NoRow := (fF' (c.at_ 3 22))) (e6_NoRow := (of_decide_eq_true (show (decide (PySem.W.mroIn K (He.ga K "NoRow") (.type "object") = some true)) = true from (c.at_ 3 23)))) (e7_NoRow := (show (PySem.W.excIn K (He.ga K "NoRow") [.type "Exception", .type "BaseException", .type "object"] "Exception.__new__") = true from (c.at_ 3 24))) (e10_NoRow := (of_decide_eq_true (show (decide (PySem.W.typeIn K (.ref (He.ga K "NoRow")) = some (.type "type"))) = true from (c.at_ 4 0)))) (e11_NoRow := (show (PySem.W.keepIn K (.ref (He.ga K "NoRow"))) = true from (c.at_ 4 1))) (nx_many_NoRow := (fA' (c.at_ 4 2))) (nx_name_NoRow := (fA' (c.at_ 4 3))) (nx_number_NoRow := (fA' (c.at_ 4 4))) (nx_part_NoRow := (fA' (c.at_ 4 5))) (nx_row_NoRow := (fA' (c.at_ 4 6))) (nx_size_NoRow := (fA' (c.at_ 4 7))) (nx_thing_NoRow := (fA' (c.at_ 4 8))) (nx_things_NoRow := (fA' (c.at_ 4 9))) (e1_NoWorths := (fF' (c.at_ 4 10))) (e2_NoWorths := (fA' (c.at_ 4 11))) (e3_NoWorths := (of_decide_eq_true (show (decide (PySem.W.subIn K (.ref (He.ga K "NoWorths")) (.type "BaseException") = some true)) = true from (c.at_ 4 12)))) (e4_NoWorths := (show (PySem.W.hasDictIn K (He.ga K "NoWorths")) = true from (c.at_ 4 13))) (e5_NoWorths := (fF' (c.at_ 4 14))) (e6_NoWorths := (of_decide_eq_true (show (decide (PySem.W.mroIn K (He.ga K "NoWorths") (.type "object") = some true)) = true from (c.at_ 4 15)))) (e7_NoWorths := (show (PySem.W.excIn K (He.ga K "NoWorths") [.type "Exception", .type "BaseException", .type "object"] "Exception.__new__") = true from (c.at_ 4 16))) (e10_NoWorths := (of_decide_eq_true (show (decide (PySem.W.typeIn K (.ref (He.ga K "NoWorths")) = some (.type "type"))) = true from (c.at_ 4 17)))) (e11_NoWorths := (show (PySem.W.keepIn K (.ref (He.ga K "NoWorths"))) = true from (c.at_ 4 18))) (nx_many_NoWorths := (fA' (c.at_ 4 19))) (nx_name_NoWorths := (fA' (c.at_ 4 20))) (nx_number_NoWorths := (fA' (c.at_ 4 21))) (nx_part_NoWorths := (fA' (c.at_ 4 22))) (nx_row_NoWorths := (fA' (c.at_ 4 23))) (nx_size_NoWorths := (fA' (c.at_ 4 24))) (nx_thing_NoWorths := (fA' (c.at_ 5 0))) (nx_things_NoWorths := (fA' (c.at_ 5 1))) (e1_Unlike := (fF' (c.at_ 5 2))) (e2_Unlike := (fA' (c.at_ 5 3))) (e3_Unlike := (of_decide_eq_true (show (decide (PySem.W.subIn K (.ref (He.ga K "Unlike")) (.type "BaseException") = some true)) = true from (c.at_ 5 4)))) (e4_Unlike := (show (PySem.W.hasDictIn K (He.ga K "Unlike")) = true from (c.at_ 5 5))) (e5_Unlike := (fF' (c.at_ 5 6))) (e6_Unlike := (of_decide_eq_true (show (decide (PySem.W.mroIn K (He.ga K "Unlike") (.type "object") = some true)) = true from (c.at_ 5 7)))) (e7_Unlike := (show (PySem.W.excIn K (He.ga K "Unlike") [.type "Exception", .type "BaseException", .type "object"] "Exception.__new__") = true from (c.at_ 5 8))) (e10_Unlike := (of_decide_eq_true (show (decide (PySem.W.typeIn K (.ref (He.ga K "Unlike")) = some (.type "type"))) = true from (c.at_ 5 9)))) (e11_Unlike := (show (PySem.W.keepIn K (.ref (He.ga K "Unlike"))) = true from (c.at_ 5 10))) (nx_many_Unlike := (fA' (c.at_ 5 11))) (nx_name_Unlike := (fA' (c.at_ 5 12))) (nx_number_Unlike := (fA' (c.at_ 5 13))) (nx_part_Unlike := (fA' (c.at_ 5 14))) (nx_row_Unlike := (fA' (c.at_ 5 15))) (nx_size_Unlike := (fA' (c.at_ 5 16))) (nx_thing_Unlike := (fA' (c.at_ 5 17))) (nx_things_Unlike := (fA' (c.at_ 5 18))) (e1_Free := (fF' (c.at_ 5 19))) (e2_Free := (fA' (c.at_ 5 20))) (e3_Free := (of_decide_eq_true (show (decide (PySem.W.subIn K (.ref (He.ga K "Free")) (.type "BaseException") = some true)) = true from (c.at_ 5 21)))) (e4_Free := (show (PySem.W.hasDictIn K (He.ga K "Free")) = true from (c.at_ 5 22))) (e5_Free := (fF' (c.at_ 5 23))) (e6_Free := (of_decide_eq_true (show (decide (PySem.W.mroIn K (He.ga K "Free") (.type "object") = some true)) = true from (c.at_ 5 24)))) (e7_Free := (show (PySem.W.excInitIn K (He.ga K "Free") [.type "Exception", .type "BaseException", .type "object"] "Exception.__new__") = true from (c.at_ 6 0))) (e8_Free := (show (PySem.W.excOver K (He.ga K "Free") [.type "Exception", .type "BaseException", .type "object"]) = true from (c.at_ 6 1))) (e9_Free := (fF' (c.at_ 6 2))) (e10_Free := (of_decide_eq_true (show (decide (PySem.W.typeIn K (.ref (He.ga K "Free")) = some (.type "type"))) = true from (c.at_ 6 3)))) (e11_Free := (show (PySem.W.keepIn K (.ref (He.ga K "Free"))) = true from (c.at_ 6 4))) (e12_Free := (of_decide_eq_true (show (decide (PySem.W.typeIn K (.ref (He.ma K (He.ga K "Free") "__init__")) = some (.type "function"))) = true from (c.at_ 6 5)))) (e13_Free := (show (PySem.W.readsIn K (He.ga K "FreeError") (.type "type")) = true from (c.at_ 6 6))) (e14_Free := (of_decide_eq_true (show (decide (PySem.W.specialIn K (.ref (He.ga K "FreeError")) "__getattribute__" = some (some (.builtin "type.__getattribute__")))) = true from (c.at_ 6 7)))) (e15_Free := (bH (show (fcB K (He.ga K "FreeError") "__init__" (.builtin "Exception.__init__")) = true from (c.at_ 6 8)))) (nx_many_Free := (fA' (c.at_ 6 9))) (nx_name_Free := (fA' (c.at_ 6 10))) (nx_number_Free := (fA' (c.at_ 6 11))) (nx_part_Free := (fA' (c.at_ 6 12))) (nx_row_Free := (fA' (c.at_ 6 13))) (nx_size_Free := (fA' (c.at_ 6 14))) (nx_thing_Free := (fA' (c.at_ 6 15))) (nx_things_Free := (fA' (c.at_ 6 16))) (ef0_Free := (fA' (c.at_ 6 17))) (e1_NoArrows := (fF' (c.at_ 6 18))) (e2_NoArrows := (fA' (c.at_ 6 19))) (e3_NoArrows := (of_decide_eq_true (show (decide (PySem.W.subIn K (.ref (He.ga K "NoArrows")) (.type "BaseException") = some true)) = true from (c.at_ 6 20)))) (e4_NoArrows := (show (PySem.W.hasDictIn K (He.ga K "NoArrows")) = true from (c.at_ 6 21))) (e5_NoArrows := (fF' (c.at_ 6 22))) (e6_NoArrows := (of_decide_eq_true (show (decide (PySem.W.mroIn K (He.ga K "NoArrows") (.type "object") = some true)) = true from (c.at_ 6 23)))) (e7_NoArrows := (show (PySem.W.excInitIn K (He.ga K "NoArrows") [.type "Exception", .type "BaseException", .type "object"] "Exception.__new__") = true from (c.at_ 6 24))) (e8_NoArrows := (show (PySem.W.excOver K (He.ga K "NoArrows") [.type "Exception", .type "BaseException", .type "object"]) = true from (c.at_ 7 0))) (e9_NoArrows := (fF' (c.at_ 7 1))) (e10_NoArrows := (of_decide_eq_true (show (decide (PySem.W.typeIn K (.ref (He.ga K "NoArrows")) = some (.type "type"))) = true from (c.at_ 7 2)))) (e11_NoArrows := (show (PySem.W.keepIn K (.ref (He.ga K "NoArrows"))) = true from (c.at_ 7 3))) (e12_NoArrows := (of_decide_eq_true (show (decide (PySem.W.typeIn K (.ref (He.ma K (He.ga K "NoArrows") "__init__")) = some (.type "function"))) = true from (c.at_ 7 4)))) (e13_NoArrows := (show (PySem.W.readsIn K (He.ga K "FreeError") (.type "type")) = true from (c.at_ 7 5))) (e14_NoArrows := (of_decide_eq_true (show (decide (PySem.W.specialIn K (.ref (He.ga K "FreeError")) "__getattribute__" = some (some (.builtin "type.__getattribute__")))) = true from (c.at_ 7 6)))) (e15_NoArrows := (bH (show (fcB K (He.ga K "FreeError") "__init__" (.builtin "Exception.__init__")) = true from (c.at_ 7 7)))) (nx_many_NoArrows := (fA' (c.at_ 7 8))) (nx_name_NoArrows := (fA' (c.at_ 7 9))) (nx_number_NoArrows := (fA' (c.at_ 7 10))) (nx_part_NoArrows := (fA' (c.at_ 7 11))) (nx_row_NoArrows := (fA' (c.at_ 7 12))) (nx_size_NoArrows := (fA' (c.at_ 7 13))) (nx_thing_NoArrows := (fA' (c.at_ 7 14))) (nx_things_NoArrows := (fA' (c.at_ 7 15))) (ef0_NoArrows := (fA' (c.at_ 7 16))) (e1_NoDeeds := (fF' (c.at_ 7 17))) (e2_NoDeeds := (fA' (c.at_ 7 18))) (e3_NoDeeds := (of_decide_eq_true (show (decide (PySem.W.subIn K (.ref (He.ga K "NoDeeds")) (.type "BaseException") = some true)) = true from (c.at_ 7 19)))) (e4_NoDeeds := (show (PySem.W.hasDictIn K (He.ga K "NoDeeds")) = true from (c.at_ 7 20))) (e5_NoDeeds := (fF' (c.at_ 7 21))) (e6_NoDeeds := (of_decide_eq_true (show (decide (PySem.W.mroIn K (He.ga K "NoDeeds") (.type "object") = some true)) = true from (c.at_ 7 22)))) (e7_NoDeeds := (show (PySem.W.excInitIn K (He.ga K "NoDeeds") [.type "Exception", .type "BaseException", .type "object"] "Exception.__new__") = true from (c.at_ 7 23))) (e8_NoDeeds := (show (PySem.W.excOver K (He.ga K "NoDeeds") [.type "Exception", .type "BaseException", .type "object"]) = true from (c.at_ 7 24))) (e9_NoDeeds := (fF' (c.at_ 8 0))) (e10_NoDeeds := (of_decide_eq_true (show (decide (PySem.W.typeIn K (.ref (He.ga K "NoDeeds")) = some (.type "type"))) = true from (c.at_ 8 1)))) (e11_NoDeeds := (show (PySem.W.keepIn K (.ref (He.ga K "NoDeeds"))) = true from (c.at_ 8 2))) (e12_NoDeeds := (of_decide_eq_true (show (decide (PySem.W.typeIn K (.ref (He.ma K (He.ga K "NoDeeds") "__init__")) = some (.type "function"))) = true from (c.at_ 8 3)))) (e13_NoDeeds := (show (PySem.W.readsIn K (He.ga K "FreeError") (.type "type")) = true from (c.at_ 8 4))) (e14_NoDeeds := (of_decide_eq_true (show (decide (PySem.W.specialIn K (.ref (He.ga K "FreeError")) "__getattribute__" = some (some (.builtin "type.__getattribute__")))) = true from (c.at_ 8 5)))) (e15_NoDeeds := (bH (show (fcB K (He.ga K "FreeError") "__init__" (.builtin "Exception.__init__")) = true from (c.at_ 8 6)))) (nx_many_NoDeeds := (fA' (c.at_ 8 7))) (nx_name_NoDeeds := (fA' (c.at_ 8 8))) (nx_number_NoDeeds := (fA' (c.at_ 8 9))) (nx_part_NoDeeds := (fA' (c.at_ 8 10))) (nx_row_NoDeeds := (fA' (c.at_ 8 11))) (nx_size_NoDeeds := (fA' (c.at_ 8 12))) (nx_thing_NoDeeds := (fA' (c.at_ 8 13))) (nx_things_NoDeeds := (fA' (c.at_ 8 14))) (ef0_NoDeeds := (fA' (c.at_ 8 15))) (e1_NoName := (fF' (c.at_ 8 16))) (e2_NoName := (fA' (c.at_ 8 17))) (e3_NoName := (of_decide_eq_true (show (decide (PySem.W.subIn K (.ref (He.ga K "NoName")) (.type "BaseException") = some true)) = true from (c.at_ 8 18)))) (e4_NoName := (show (PySem.W.hasDictIn K (He.ga K "NoName")) = true from (c.at_ 8 19))) (e5_NoName := (fF' (c.at_ 8 20))) (e6_NoName := (of_decide_eq_true (show (decide (PySem.W.mroIn K (He.ga K "NoName") (.type "object") = some true)) = true from (c.at_ 8 21)))) (e7_NoName := (show (PySem.W.excInitIn K (He.ga K "NoName") [.type "KeyError", .type "LookupError", .type "Exception", .type "BaseException", .type "object"] "LookupError.__new__") = true from (c.at_ 8 22))) (e8_NoName := (show (PySem.W.excOver K (He.ga K "NoName") [.type "KeyError", .type "LookupError", .type "Exception", .type "BaseException", .type "object"]) = true from (c.at_ 8 23))) (e9_NoName := (fF' (c.at_ 8 24))) (e10_NoName := (of_decide_eq_true (show (decide (PySem.W.typeIn K (.ref (He.ga K "NoName")) = some (.type "type"))) = true from (c.at_ 9 0)))) (e11_NoName := (show (PySem.W.keepIn K (.ref (He.ga K "NoName"))) = true from (c.at_ 9 1))) (e12_NoName := (of_decide_eq_true (show (decide (PySem.W.typeIn K (.ref (He.ma K (He.ga K "NoName") "__init__")) = some (.type "function"))) = true from (c.at_ 9 2)))) (e13_NoName := (fG' (c.at_ 9 3))) (e15_NoName := (kH (show (fcT K "KeyError" (.builtin "KeyError.__init__")) = true from (c.at_ 9 4)))) (nx_many_NoName := (fA' (c.at_ 9 5))) (nx_name_NoName := (fA' (c.at_ 9 6))) (nx_number_NoName := (fA' (c.at_ 9 7))) (nx_part_NoName := (fA' (c.at_ 9 8))) (nx_row_NoName := (fA' (c.at_ 9 9))) (nx_size_NoName := (fA' (c.at_ 9 10))) (nx_thing_NoName := (fA' (c.at_ 9 11))) (nx_things_NoName := (fA' (c.at_ 9 12))) (ef0_NoName := (fA' (c.at_ 9 13))) (e1_NoRule := (fF' (c.at_ 9 14))) (e2_NoRule := (fA' (c.at_ 9 15))) (e3_NoRule := (of_decide_eq_true (show (decide (PySem.W.subIn K (.ref (He.ga K "NoRule")) (.type "BaseException") = some true)) = true from (c.at_ 9 16)))) (e4_NoRule := (show (PySem.W.hasDictIn K (He.ga K "NoRule")) = true from (c.at_ 9 17))) (e5_NoRule := (fF' (c.at_ 9 18))) (e6_NoRule := (of_decide_eq_true (show (decide (PySem.W.mroIn K (He.ga K "NoRule") (.type "object") = some true)) = true from (c.at_ 9 19)))) (e7_NoRule := (show (PySem.W.excInitIn K (He.ga K "NoRule") [.type "Exception", .type "BaseException", .type "object"] "Exception.__new__") = true from (c.at_ 9 20))) (e8_NoRule := (show (PySem.W.excOver K (He.ga K "NoRule") [.type "Exception", .type "BaseException", .type "object"]) = true from (c.at_ 9 21))) (e9_NoRule := (fF' (c.at_ 9 22))) (e10_NoRule := (of_decide_eq_true (show (decide (PySem.W.typeIn K (.ref (He.ga K "NoRule")) = some (.type "type"))) = true from (c.at_ 9 23)))) (e11_NoRule := (show (PySem.W.keepIn K (.ref (He.ga K "NoRule"))) = true from (c.at_ 9 24))) (e12_NoRule := (of_decide_eq_true (show (decide (PySem.W.typeIn K (.ref (He.ma K (He.ga K "NoRule") "__init__")) = some (.type "function"))) = true from (c.at_ 10 0)))) (e13_NoRule := (show (PySem.W.readsIn K (He.ga K "FreeError") (.type "type")) = true from (c.at_ 10 1))) (e14_NoRule := (of_decide_eq_true (show (decide (PySem.W.specialIn K (.ref (He.ga K "FreeError")) "__getattribute__" = some (some (.builtin "type.__getattribute__")))) = true from (c.at_ 10 2)))) (e15_NoRule := (bH (show (fcB K (He.ga K "FreeError") "__init__" (.builtin "Exception.__init__")) = true from (c.at_ 10 3)))) (nx_many_NoRule := (fA' (c.at_ 10 4))) (nx_name_NoRule := (fA' (c.at_ 10 5))) (nx_number_NoRule := (fA' (c.at_ 10 6))) (nx_part_NoRule := (fA' (c.at_ 10 7))) (nx_row_NoRule := (fA' (c.at_ 10 8))) (nx_size_NoRule := (fA' (c.at_ 10 9))) (nx_thing_NoRule := (fA' (c.at_ 10 10))) (nx_things_NoRule := (fA' (c.at_ 10 11))) (ef0_NoRule := (fA' (c.at_ 10 12))) (ef1_NoRule := (fA' (c.at_ 10 13))) (e1_NoRules := (fF' (c.at_ 10 14))) (e2_NoRules := (fA' (c.at_ 10 15))) (e3_NoRules := (of_decide_eq_true (show (decide (PySem.W.subIn K (.ref (He.ga K "NoRules")) (.type "BaseException") = some true)) = true from (c.at_ 10 16)))) (e4_NoRules := (show (PySem.W.hasDictIn K (He.ga K "NoRules")) = true from (c.at_ 10 17))) (e5_NoRules := (fF' (c.at_ 10 18))) (e6_NoRules := (of_decide_eq_true (show (decide (PySem.W.mroIn K (He.ga K "NoRules") (.type "object") = some true)) = true from (c.at_ 10 19)))) (e7_NoRules := (show (PySem.W.excInitIn K (He.ga K "NoRules") [.type "Exception", .type "BaseException", .type "object"] "Exception.__new__") = true from (c.at_ 10 20))) (e8_NoRules := (show (PySem.W.excOver K (He.ga K "NoRules") [.type "Exception", .type "BaseException", .type "object"]) = true from (c.at_ 10 21))) (e9_NoRules := (fF' (c.at_ 10 22))) (e10_NoRules := (of_decide_eq_true (show (decide (PySem.W.typeIn K (.ref (He.ga K "NoRules")) = some (.type "type"))) = true from (c.at_ 10 23)))) (e11_NoRules := (show (PySem.W.keepIn K (.ref (He.ga K "NoRules"))) = true from (c.at_ 10 24))) (e12_NoRules := (of_decide_eq_true (show (decide (PySem.W.typeIn K (.ref (He.ma K (He.ga K "NoRules") "__init__")) = some (.type "function"))) = true from (c.at_ 11 0)))) (e13_NoRules := (show (PySem.W.readsIn K (He.ga K "FreeError") (.type "type")) = true from (c.at_ 11 1))) (e14_NoRules := (of_decide_eq_true (show (decide (PySem.W.specialIn K (.ref (He.ga K "FreeError")) "__getattribute__" = some (some (.builtin "type.__getattribute__")))) = true from (c.at_ 11 2)))) (e15_NoRules := (bH (show (fcB K (He.ga K "FreeError") "__init__" (.builtin "Exception.__init__")) = true from (c.at_ 11 3)))) (nx_many_NoRules := (fA' (c.at_ 11 4))) (nx_name_NoRules := (fA' (c.at_ 11 5))) (nx_number_NoRules := (fA' (c.at_ 11 6))) (nx_part_NoRules := (fA' (c.at_ 11 7))) (nx_row_NoRules := (fA' (c.at_ 11 8))) (nx_size_NoRules := (fA' (c.at_ 11 9))) (nx_thing_NoRules := (fA' (c.at_ 11 10))) (nx_things_NoRules := (fA' (c.at_ 11 11))) (ef0_NoRules := (fA' (c.at_ 11 12))) (e1_NoSet := (fF' (c.at_ 11 13))) (e2_NoSet := (fA' (c.at_ 11 14))) (e3_NoSet := (of_decide_eq_true (show (decide (PySem.W.subIn K (.ref (He.ga K "NoSet")) (.type "BaseException") = some true)) = true from (c.at_ 11 15)))) (e4_NoSet := (show (PySem.W.hasDictIn K (He.ga K "NoSet")) = true from (c.at_ 11 16))) (e5_NoSet := (fF' (c.at_ 11 17))) (e6_NoSet := (of_decide_eq_true (show (decide (PySem.W.mroIn K (He.ga K "NoSet") (.type "object") = some true)) = true from (c.at_ 11 18)))) (e7_NoSet := (show (PySem.W.excInitIn K (He.ga K "NoSet") [.type "Exception", .type "BaseException", .type "object"] "Exception.__new__") = true from (c.at_ 11 19))) (e8_NoSet := (show (PySem.W.excOver K (He.ga K "NoSet") [.type "Exception", .type "BaseException", .type "object"]) = true from (c.at_ 11 20))) (e9_NoSet := (fF' (c.at_ 11 21))) (e10_NoSet := (of_decide_eq_true (show (decide (PySem.W.typeIn K (.ref (He.ga K "NoSet")) = some (.type "type"))) = true from (c.at_ 11 22)))) (e11_NoSet := (show (PySem.W.keepIn K (.ref (He.ga K "NoSet"))) = true from (c.at_ 11 23))) (e12_NoSet := (of_decide_eq_true (show (decide (PySem.W.typeIn K (.ref (He.ma K (He.ga K "NoSet") "__init__")) = some (.type "function"))) = true from (c.at_ 11 24)))) (e13_NoSet := (show (PySem.W.readsIn K (He.ga K "FreeError") (.type "type")) = true from (c.at_ 12 0))) (e14_NoSet := (of_decide_eq_true (show (decide (PySem.W.specialIn K (.ref (He.ga K "FreeError")) "__getattribute__" = some (some (.builtin "type.__getattribute__")))) = true from (c.at_ 12 1)))) (e15_NoSet := (bH (show (fcB K (He.ga K "FreeError") "__init__" (.builtin "Exception.__init__")) = true from (c.at_ 12 2)))) (nx_many_NoSet := (fA' (c.at_ 12 3))) (nx_name_NoSet := (fA' (c.at_ 12 4))) (nx_number_NoSet := (fA' (c.at_ 12 5))) (nx_part_NoSet := (fA' (c.at_ 12 6))) (nx_row_NoSet := (fA' (c.at_ 12 7))) (nx_size_NoSet := (fA' (c.at_ 12 8))) (nx_thing_NoSet := (fA' (c.at_ 12 9))) (nx_things_NoSet := (fA' (c.at_ 12 10))) (ef0_NoSet := (fA' (c.at_ 12 11))) (e1_NoSize := (fF' (c.at_ 12 12))) (e2_NoSize := (fA' (c.at_ 12 13))) (e3_NoSize := (of_decide_eq_true (show (decide (PySem.W.subIn K (.ref (He.ga K "NoSize")) (.type "BaseException") = some true)) = true from (c.at_ 12 14)))) (e4_NoSize := (show (PySem.W.hasDictIn K (He.ga K "NoSize")) = true from (c.at_ 12 15))) (e5_NoSize := (fF' (c.at_ 12 16))) (e6_NoSize := (of_decide_eq_true (show (decide (PySem.W.mroIn K (He.ga K "NoSize") (.type "object") = some true)) = true from (c.at_ 12 17)))) (e7_NoSize := (show (PySem.W.excInitIn K (He.ga K "NoSize") [.type "Exception", .type "BaseException", .type "object"] "Exception.__new__") = true from (c.at_ 12 18))) (e8_NoSize := (show (PySem.W.excOver K (He.ga K "NoSize") [.type "Exception", .type "BaseException", .type "object"]) = true from (c.at_ 12 19))) (e9_NoSize := (fF' (c.at_ 12 20))) (e10_NoSize := (of_decide_eq_true (show (decide (PySem.W.typeIn K (.ref (He.ga K "NoSize")) = some (.type "type"))) = true from (c.at_ 12 21)))) (e11_NoSize := (show (PySem.W.keepIn K (.ref (He.ga K "NoSize"))) = true from (c.at_ 12 22))) (e12_NoSize := (of_decide_eq_true (show (decide (PySem.W.typeIn K (.ref (He.ma K (He.ga K "NoSize") "__init__")) = some (.type "function"))) = true from (c.at_ 12 23)))) (e13_NoSize := (show (PySem.W.readsIn K (He.ga K "FreeError") (.type "type")) = true from (c.at_ 12 24))) (e14_NoSize := (of_decide_eq_true (show (decide (PySem.W.specialIn K (.ref (He.ga K "FreeError")) "__getattribute__" = some (some (.builtin "type.__getattribute__")))) = true from (c.at_ 13 0)))) (e15_NoSize := (bH (show (fcB K (He.ga K "FreeError") "__init__" (.builtin "Exception.__init__")) = true from (c.at_ 13 1)))) (nx_many_NoSize := (fA' (c.at_ 13 2))) (nx_name_NoSize := (fA' (c.at_ 13 3))) (nx_number_NoSize := (fA' (c.at_ 13 4))) (nx_part_NoSize := (fA' (c.at_ 13 5))) (nx_row_NoSize := (fA' (c.at_ 13 6))) (nx_size_NoSize := (fA' (c.at_ 13 7))) (nx_thing_NoSize := (fA' (c.at_ 13 8))) (nx_things_NoSize := (fA' (c.at_ 13 9))) (ef0_NoSize := (fA' (c.at_ 13 10))) (e1_NoText := (fF' (c.at_ 13 11))) (e2_NoText := (fA' (c.at_ 13 12))) (e3_NoText := (of_decide_eq_true (show (decide (PySem.W.subIn K (.ref (He.ga K "NoText")) (.type "BaseException") = some true)) = true from (c.at_ 13 13)))) (e4_NoText := (show (PySem.W.hasDictIn K (He.ga K "NoText")) = true from (c.at_ 13 14))) (e5_NoText := (fF' (c.at_ 13 15))) (e6_NoText := (of_decide_eq_true (show (decide (PySem.W.mroIn K (He.ga K "NoText") (.type "object") = some true)) = true from (c.at_ 13 16)))) (e7_NoText := (show (PySem.W.excInitIn K (He.ga K "NoText") [.type "Exception", .type "BaseException", .type "object"] "Exception.__new__") = true from (c.at_ 13 17))) (e8_NoText := (show (PySem.W.excOver K (He.ga K "NoText") [.type "Exception", .type "BaseException", .type "object"]) = true from (c.at_ 13 18))) (e9_NoText := (fF' (c.at_ 13 19))) (e10_NoText := (of_decide_eq_true (show (decide (PySem.W.typeIn K (.ref (He.ga K "NoText")) = some (.type "type"))) = true from (c.at_ 13 20)))) (e11_NoText := (show (PySem.W.keepIn K (.ref (He.ga K "NoText"))) = true from (c.at_ 13 21))) (e12_NoText := (of_decide_eq_true (show (decide (PySem.W.typeIn K (.ref (He.ma K (He.ga K "NoText") "__init__")) = some (.type "function"))) = true from (c.at_ 13 22)))) (e13_NoText := (show (PySem.W.readsIn K (He.ga K "FreeError") (.type "type")) = true from (c.at_ 13 23))) (e14_NoText := (of_decide_eq_true (show (decide (PySem.W.specialIn K (.ref (He.ga K "FreeError")) "__getattribute__" = some (some (.builtin "type.__getattribute__")))) = true from (c.at_ 13 24)))) (e15_NoText := (bH (show (fcB K (He.ga K "FreeError") "__init__" (.builtin "Exception.__init__")) = true from (c.at_ 14 0)))) (nx_many_NoText := (fA' (c.at_ 14 1))) (nx_name_NoText := (fA' (c.at_ 14 2))) (nx_number_NoText := (fA' (c.at_ 14 3))) (nx_part_NoText := (fA' (c.at_ 14 4))) (nx_row_NoText := (fA' (c.at_ 14 5))) (nx_size_NoText := (fA' (c.at_ 14 6))) (nx_thing_NoText := (fA' (c.at_ 14 7))) (nx_things_NoText := (fA' (c.at_ 14 8))) (ef0_NoText := (fA' (c.at_ 14 9))) (e1_NoThing := (fF' (c.at_ 14 10))) (e2_NoThing := (fA' (c.at_ 14 11))) (e3_NoThing := (of_decide_eq_true (show (decide (PySem.W.subIn K (.ref (He.ga K "NoThing")) (.type "BaseException") = some true)) = true from (c.at_ 14 12)))) (e4_NoThing := (show (PySem.W.hasDictIn K (He.ga K "NoThing")) = true from (c.at_ 14 13))) (e5_NoThing := (fF' (c.at_ 14 14))) (e6_NoThing := (of_decide_eq_true (show (decide (PySem.W.mroIn K (He.ga K "NoThing") (.type "object") = some true)) = true from (c.at_ 14 15)))) (e7_NoThing := (show (PySem.W.excInitIn K (He.ga K "NoThing") [.type "IndexError", .type "LookupError", .type "Exception", .type "BaseException", .type "object"] "IndexError.__new__") = true from (c.at_ 14 16))) (e8_NoThing := (show (PySem.W.excOver K (He.ga K "NoThing") [.type "IndexError", .type "LookupError", .type "Exception", .type "BaseException", .type "object"]) = true from (c.at_ 14 17))) (e9_NoThing := (fF' (c.at_ 14 18))) (e10_NoThing := (of_decide_eq_true (show (decide (PySem.W.typeIn K (.ref (He.ga K "NoThing")) = some (.type "type"))) = true from (c.at_ 14 19)))) (e11_NoThing := (show (PySem.W.keepIn K (.ref (He.ga K "NoThing"))) = true from (c.at_ 14 20))) (e12_NoThing := (of_decide_eq_true (show (decide (PySem.W.typeIn K (.ref (He.ma K (He.ga K "NoThing") "__init__")) = some (.type "function"))) = true from (c.at_ 14 21)))) (e13_NoThing := (fG' (c.at_ 14 22))) (e15_NoThing := (kH (show (fcT K "IndexError" (.builtin "IndexError.__init__")) = true from (c.at_ 14 23)))) (nx_many_NoThing := (fA' (c.at_ 14 24))) (nx_name_NoThing := (fA' (c.at_ 15 0))) (nx_number_NoThing := (fA' (c.at_ 15 1))) (nx_part_NoThing := (fA' (c.at_ 15 2))) (nx_row_NoThing := (fA' (c.at_ 15 3))) (nx_size_NoThing := (fA' (c.at_ 15 4))) (nx_thing_NoThing := (fA' (c.at_ 15 5))) (nx_things_NoThing := (fA' (c.at_ 15 6))) (ef0_NoThing := (fA' (c.at_ 15 7))) (e1_NotFree := (fF' (c.at_ 15 8))) (e2_NotFree := (fA' (c.at_ 15 9))) (e3_NotFree := (of_decide_eq_true (show (decide (PySem.W.subIn K (.ref (He.ga K "NotFree")) (.type "BaseException") = some true)) = true from (c.at_ 15 10)))) (e4_NotFree := (show (PySem.W.hasDictIn K (He.ga K "NotFree")) = true from (c.at_ 15 11))) (e5_NotFree := (fF' (c.at_ 15 12))) (e6_NotFree := (of_decide_eq_true (show (decide (PySem.W.mroIn K (He.ga K "NotFree") (.type "object") = some true)) = true from (c.at_ 15 13)))) (e7_NotFree := (show (PySem.W.excInitIn K (He.ga K "NotFree") [.type "Exception", .type "BaseException", .type "object"] "Exception.__new__") = true from (c.at_ 15 14))) (e8_NotFree := (show (PySem.W.excOver K (He.ga K "NotFree") [.type "Exception", .type "BaseException", .type "object"]) = true from (c.at_ 15 15))) (e9_NotFree := (fF' (c.at_ 15 16))) (e10_NotFree := (of_decide_eq_true (show (decide (PySem.W.typeIn K (.ref (He.ga K "NotFree")) = some (.type "type"))) = true from (c.at_ 15 17)))) (e11_NotFree := (show (PySem.W.keepIn K (.ref (He.ga K "NotFree"))) = true from (c.at_ 15 18))) (e12_NotFree := (of_decide_eq_true (show (decide (PySem.W.typeIn K (.ref (He.ma K (He.ga K "NotFree") "__init__")) = some (.type "function"))) = true from (c.at_ 15 19)))) (e13_NotFree := (show (PySem.W.readsIn K (He.ga K "FreeError") (.type "type")) = true from (c.at_ 15 20))) (e14_NotFree := (of_decide_eq_true (show (decide (PySem.W.specialIn K (.ref (He.ga K "FreeError")) "__getattribute__" = some (some (.builtin "type.__getattribute__")))) = true from (c.at_ 15 21)))) (e15_NotFree := (bH (show (fcB K (He.ga K "FreeError") "__init__" (.builtin "Exception.__init__")) = true from (c.at_ 15 22)))) (nx_many_NotFree := (fA' (c.at_ 15 23))) (nx_name_NotFree := (fA' (c.at_ 15 24))) (nx_number_NotFree := (fA' (c.at_ 16 0))) (nx_part_NotFree := (fA' (c.at_ 16 1))) (nx_row_NotFree := (fA' (c.at_ 16 2))) (nx_size_NotFree := (fA' (c.at_ 16 3))) (nx_thing_NotFree := (fA' (c.at_ 16 4))) (nx_things_NotFree := (fA' (c.at_ 16 5))) (ef0_NotFree := (fA' (c.at_ 16 6))) (e1_Tied := (fF' (c.at_ 16 7))) (e2_Tied := (fA' (c.at_ 16 8))) (e3_Tied := (of_decide_eq_true (show (decide (PySem.W.subIn K (.ref (He.ga K "Tied")) (.type "BaseException") = some true)) = true from (c.at_ 16 9)))) (e4_Tied := (show (PySem.W.hasDictIn K (He.ga K "Tied")) = true from (c.at_ 16 10))) (e5_Tied := (fF' (c.at_ 16 11))) (e6_Tied := (of_decide_eq_true (show (decide (PySem.W.mroIn K (He.ga K "Tied") (.type "object") = some true)) = true from (c.at_ 16 12)))) (e7_Tied := (show (PySem.W.excInitIn K (He.ga K "Tied") [.type "Exception", .type "BaseException", .type "object"] "Exception.__new__") = true from (c.at_ 16 13))) (e8_Tied := (show (PySem.W.excOver K (He.ga K "Tied") [.type "Exception", .type "BaseException", .type "object"]) = true from (c.at_ 16 14))) (e9_Tied := (fF' (c.at_ 16 15))) (e10_Tied := (of_decide_eq_true (show (decide (PySem.W.typeIn K (.ref (He.ga K "Tied")) = some (.type "type"))) = true from (c.at_ 16 16)))) (e11_Tied := (show (PySem.W.keepIn K (.ref (He.ga K "Tied"))) = true from (c.at_ 16 17))) (e12_Tied := (of_decide_eq_true (show (decide (PySem.W.typeIn K (.ref (He.ma K (He.ga K "Tied") "__init__")) = some (.type "function"))) = true from (c.at_ 16 18)))) (e13_Tied := (show (PySem.W.readsIn K (He.ga K "FreeError") (.type "type")) = true from (c.at_ 16 19))) (e14_Tied := (of_decide_eq_true (show (decide (PySem.W.specialIn K (.ref (He.ga K "FreeError")) "__getattribute__" = some (some (.builtin "type.__getattribute__")))) = true from (c.at_ 16 20)))) (e15_Tied := (bH (show (fcB K (He.ga K "FreeError") "__init__" (.builtin "Exception.__init__")) = true from (c.at_ 16 21)))) (nx_many_Tied := (fA' (c.at_ 16 22))) (nx_name_Tied := (fA' (c.at_ 16 23))) (nx_number_Tied := (fA' (c.at_ 16 24))) (nx_part_Tied := (fA' (c.at_ 17 0))) (nx_row_Tied := (fA' (c.at_ 17 1))) (nx_size_Tied := (fA' (c.at_ 17 2))) (nx_thing_Tied := (fA' (c.at_ 17 3))) (nx_things_Tied := (fA' (c.at_ 17 4))) (ef0_Tied := (fA' (c.at_ 17 5))) (e1_TooMany := (fF' (c.at_ 17 6))) (e2_TooMany := (fA' (c.at_ 17 7))) (e3_TooMany := (of_decide_eq_true (show (decide (PySem.W.subIn K (.ref (He.ga K "TooMany")) (.type "BaseException") = some true)) = true from (c.at_ 17 8)))) (e4_TooMany := (show (PySem.W.hasDictIn K (He.ga K "TooMany")) = true from (c.at_ 17 9))) (e5_TooMany := (fF' (c.at_ 17 10))) (e6_TooMany := (of_decide_eq_true (show (decide (PySem.W.mroIn K (He.ga K "TooMany") (.type "object") = some true)) = true from (c.at_ 17 11)))) (e7_TooMany := (show (PySem.W.excInitIn K (He.ga K "TooMany") [.type "Exception", .type "BaseException", .type "object"] "Exception.__new__") = true from (c.at_ 17 12))) (e8_TooMany := (show (PySem.W.excOver K (He.ga K "TooMany") [.type "Exception", .type "BaseException", .type "object"]) = true from (c.at_ 17 13))) (e9_TooMany := (fF' (c.at_ 17 14))) (e10_TooMany := (of_decide_eq_true (show (decide (PySem.W.typeIn K (.ref (He.ga K "TooMany")) = some (.type "type"))) = true from (c.at_ 17 15)))) (e11_TooMany := (show (PySem.W.keepIn K (.ref (He.ga K "TooMany"))) = true from (c.at_ 17 16))) (e12_TooMany := (of_decide_eq_true (show (decide (PySem.W.typeIn K (.ref (He.ma K (He.ga K "TooMany") "__init__")) = some (.type "function"))) = true from (c.at_ 17 17)))) (e13_TooMany := (show (PySem.W.readsIn K (He.ga K "FreeError") (.type "type")) = true from (c.at_ 17 18))) (e14_TooMany := (of_decide_eq_true (show (decide (PySem.W.specialIn K (.ref (He.ga K "FreeError")) "__getattribute__" = some (some (.builtin "type.__getattribute__")))) = true from (c.at_ 17 19)))) (e15_TooMany := (bH (show (fcB K (He.ga K "FreeError") "__init__" (.builtin "Exception.__init__")) = true from (c.at_ 17 20)))) (nx_many_TooMany := (fA' (c.at_ 17 21))) (nx_name_TooMany := (fA' (c.at_ 17 22))) (nx_number_TooMany := (fA' (c.at_ 17 23))) (nx_part_TooMany := (fA' (c.at_ 17 24))) (nx_row_TooMany := (fA' (c.at_ 18 0))) (nx_size_TooMany := (fA' (c.at_ 18 1))) (nx_thing_TooMany := (fA' (c.at_ 18 2))) (nx_things_TooMany := (fA' (c.at_ 18 3))) (ef0_TooMany := (fA' (c.at_ 18 4))) (t00_Free := (fT' (show (fT K "NoneType" "Free") = true from (c.at_ 18 5)))) (t01_Free := (fT' (show (fT K "bool" "Free") = true from (c.at_ 18 6)))) (t02_Free := (fT' (show (fT K "int" "Free") = true from (c.at_ 18 7)))) (t03_Free := (fT' (show (fT K "str" "Free") = true from (c.at_ 18 8)))) (t04_Free := (fT' (show (fT K "tuple" "Free") = true from (c.at_ 18 9)))) (t05_Free := (fT' (show (fT K "list" "Free") = true from (c.at_ 18 10)))) (t06_Free := (fT' (show (fT K "dict" "Free") = true from (c.at_ 18 11)))) (t07_Free := (fT' (show (fT K "set" "Free") = true from (c.at_ 18 12)))) (t_Free_Free := (fU' (show (fU K "Free" "Free") = true from (c.at_ 18 13)))) (t_Free_NoArrows := (fV' (show (fV K "NoArrows" "Free") = true from (c.at_ 18 14)))) (t_Free_NoDeed := (fV' (show (fV K "NoDeed" "Free") = true from (c.at_ 18 15)))) (t_Free_NoDeeds := (fV' (show (fV K "NoDeeds" "Free") = true from (c.at_ 18 16)))) (t_Free_NoHues := (fV' (show (fV K "NoHues" "Free") = true from (c.at_ 18 17)))) (t_Free_NoName := (fV' (show (fV K "NoName" "Free") = true from (c.at_ 18 18)))) (t_Free_NoOrder := (fV' (show (fV K "NoOrder" "Free") = true from (c.at_ 18 19)))) (t_Free_NoRow := (fV' (show (fV K "NoRow" "Free") = true from (c.at_ 18 20)))) (t_Free_NoRule := (fV' (show (fV K "NoRule" "Free") = true from (c.at_ 18 21)))) (t_Free_NoRules := (fV' (show (fV K "NoRules" "Free") = true from (c.at_ 18 22)))) (t_Free_NoSet := (fV' (show (fV K "NoSet" "Free") = true from (c.at_ 18 23)))) (t_Free_NoSize := (fV' (show (fV K "NoSize" "Free") = true from (c.at_ 18 24)))) (t_Free_NoText := (fV' (show (fV K "NoText" "Free") = true from (c.at_ 19 0)))) (t_Free_NoThing := (fV' (show (fV K "NoThing" "Free") = true from (c.at_ 19 1)))) (t_Free_NoWorths := (fV' (show (fV K "NoWorths" "Free") = true from (c.at_ 19 2)))) (t_Free_NotFree := (fV' (show (fV K "NotFree" "Free") = true from (c.at_ 19 3)))) (t_Free_Tied := (fV' (show (fV K "Tied" "Free") = true from (c.at_ 19 4)))) (t_Free_TooMany := (fV' (show (fV K "TooMany" "Free") = true from (c.at_ 19 5)))) (t_Free_Unlike := (fV' (show (fV K "Unlike" "Free") = true from (c.at_ 19 6)))) (t00_FreeError := (fT' (show (fT K "NoneType" "FreeError") = true from (c.at_ 19 7)))) (t01_FreeError := (fT' (show (fT K "bool" "FreeError") = true from (c.at_ 19 8)))) (t02_FreeError := (fT' (show (fT K "int" "FreeError") = true from (c.at_ 19 9)))) (t03_FreeError := (fT' (show (fT K "str" "FreeError") = true from (c.at_ 19 10)))) (t04_FreeError := (fT' (show (fT K "tuple" "FreeError") = true from (c.at_ 19 11)))) (t05_FreeError := (fT' (show (fT K "list" "FreeError") = true from (c.at_ 19 12)))) (t06_FreeError := (fT' (show (fT K "dict" "FreeError") = true from (c.at_ 19 13)))) (t07_FreeError := (fT' (show (fT K "set" "FreeError") = true from (c.at_ 19 14)))) (t_FreeError_Free := (fU' (show (fU K "Free" "FreeError") = true from (c.at_ 19 15)))) (t_FreeError_NoArrows := (fU' (show (fU K "NoArrows" "FreeError") = true from (c.at_ 19 16)))) (t_FreeError_NoDeed := (fV' (show (fV K "NoDeed" "FreeError") = true from (c.at_ 19 17)))) (t_FreeError_NoDeeds := (fU' (show (fU K "NoDeeds" "FreeError") = true from (c.at_ 19 18)))) (t_FreeError_NoHues := (fU' (show (fU K "NoHues" "FreeError") = true from (c.at_ 19 19)))) (t_FreeError_NoName := (fV' (show (fV K "NoName" "FreeError") = true from (c.at_ 19 20)))) (t_FreeError_NoOrder := (fU' (show (fU K "NoOrder" "FreeError") = true from (c.at_ 19 21)))) (t_FreeError_NoRow := (fU' (show (fU K "NoRow" "FreeError") = true from (c.at_ 19 22)))) (t_FreeError_NoRule := (fU' (show (fU K "NoRule" "FreeError") = true from (c.at_ 19 23)))) (t_FreeError_NoRules := (fU' (show (fU K "NoRules" "FreeError") = true from (c.at_ 19 24)))) (t_FreeError_NoSet := (fU' (show (fU K "NoSet" "FreeError") = true from (c.at_ 20 0)))) (t_FreeError_NoSize := (fU' (show (fU K "NoSize" "FreeError") = true from (c.at_ 20 1)))) (t_FreeError_NoText := (fU' (show (fU K "NoText" "FreeError") = true from (c.at_ 20 2)))) (t_FreeError_NoThing := (fV' (show (fV K "NoThing" "FreeError") = true from (c.at_ 20 3)))) (t_FreeError_NoWorths := (fU' (show (fU K "NoWorths" "FreeError") = true from (c.at_ 20 4)))) (t_FreeError_NotFree := (fU' (show (fU K "NotFree" "FreeError") = true from (c.at_ 20 5)))) (t_FreeError_Tied := (fU' (show (fU K "Tied" "FreeError") = true from (c.at_ 20 6)))) (t_FreeError_TooMany := (fU' (show (fU K "TooMany" "FreeError") = true from (c.at_ 20 7)))) (t_FreeError_Unlike := (fU' (show (fU K "Unlike" "FreeError") = true from (c.at_ 20 8)))) (t00_NoArrows := (fT' (show (fT K "NoneType" "NoArrows") = true from (c.at_ 20 9)))) (t01_NoArrows := (fT' (show (fT K "bool" "NoArrows") = true from (c.at_ 20 10)))) (t02_NoArrows := (fT' (show (fT K "int" "NoArrows") = true from (c.at_ 20 11)))) (t03_NoArrows := (fT' (show (fT K "str" "NoArrows") = true from (c.at_ 20 12)))) (t04_NoArrows := (fT' (show (fT K "tuple" "NoArrows") = true from (c.at_ 20 13)))) (t05_NoArrows := (fT' (show (fT K "list" "NoArrows") = true from (c.at_ 20 14)))) (t06_NoArrows := (fT' (show (fT K "dict" "NoArrows") = true from (c.at_ 20 15)))) (t07_NoArrows := (fT' (show (fT K "set" "NoArrows") = true from (c.at_ 20 16)))) (t_NoArrows_Free := (fV' (show (fV K "Free" "NoArrows") = true from (c.at_ 20 17)))) (t_NoArrows_NoArrows := (fU' (show (fU K "NoArrows" "NoArrows") = true from (c.at_ 20 18)))) (t_NoArrows_NoDeed := (fV' (show (fV K "NoDeed" "NoArrows") = true from (c.at_ 20 19)))) (t_NoArrows_NoDeeds := (fV' (show (fV K "NoDeeds" "NoArrows") = true from (c.at_ 20 20)))) (t_NoArrows_NoHues := (fV' (show (fV K "NoHues" "NoArrows") = true from (c.at_ 20 21)))) (t_NoArrows_NoName := (fV' (show (fV K "NoName" "NoArrows") = true from (c.at_ 20 22)))) (t_NoArrows_NoOrder := (fV' (show (fV K "NoOrder" "NoArrows") = true from (c.at_ 20 23)))) (t_NoArrows_NoRow := (fV' (show (fV K "NoRow" "NoArrows") = true from (c.at_ 20 24)))) (t_NoArrows_NoRule := (fV' (show (fV K "NoRule" "NoArrows") = true from (c.at_ 21 0)))) (t_NoArrows_NoRules := (fV' (show (fV K "NoRules" "NoArrows") = true from (c.at_ 21 1)))) (t_NoArrows_NoSet := (fV' (show (fV K "NoSet" "NoArrows") = true from (c.at_ 21 2)))) (t_NoArrows_NoSize := (fV' (show (fV K "NoSize" "NoArrows") = true from (c.at_ 21 3)))) (t_NoArrows_NoText := (fV' (show (fV K "NoText" "NoArrows") = true from (c.at_ 21 4)))) (t_NoArrows_NoThing := (fV' (show (fV K "NoThing" "NoArrows") = true from (c.at_ 21 5)))) (t_NoArrows_NoWorths := (fV' (show (fV K "NoWorths" "NoArrows") = true from (c.at_ 21 6)))) (t_NoArrows_NotFree := (fV' (show (fV K "NotFree" "NoArrows") = true from (c.at_ 21 7)))) (t_NoArrows_Tied := (fV' (show (fV K "Tied" "NoArrows") = true from (c.at_ 21 8)))) (t_NoArrows_TooMany := (fV' (show (fV K "TooMany" "NoArrows") = true from (c.at_ 21 9)))) (t_NoArrows_Unlike := (fV' (show (fV K "Unlike" "NoArrows") = true from (c.at_ 21 10)))) (t00_NoDeed := (fT' (show (fT K "NoneType" "NoDeed") = true from (c.at_ 21 11)))) (t01_NoDeed := (fT' (show (fT K "bool" "NoDeed") = true from (c.at_ 21 12)))) (t02_NoDeed := (fT' (show (fT K "int" "NoDeed") = true from (c.at_ 21 13)))) (t03_NoDeed := (fT' (show (fT K "str" "NoDeed") = true from (c.at_ 21 14)))) (t04_NoDeed := (fT' (show (fT K "tuple" "NoDeed") = true from (c.at_ 21 15)))) (t05_NoDeed := (fT' (show (fT K "list" "NoDeed") = true from (c.at_ 21 16)))) (t06_NoDeed := (fT' (show (fT K "dict" "NoDeed") = true from (c.at_ 21 17)))) (t07_NoDeed := (fT' (show (fT K "set" "NoDeed") = true from (c.at_ 21 18)))) (t_NoDeed_Free := (fV' (show (fV K "Free" "NoDeed") = true from (c.at_ 21 19)))) (t_NoDeed_NoArrows := (fV' (show (fV K "NoArrows" "NoDeed") = true from (c.at_ 21 20)))) (t_NoDeed_NoDeed := (fU' (show (fU K "NoDeed" "NoDeed") = true from (c.at_ 21 21)))) (t_NoDeed_NoDeeds := (fV' (show (fV K "NoDeeds" "NoDeed") = true from (c.at_ 21 22)))) (t_NoDeed_NoHues := (fV' (show (fV K "NoHues" "NoDeed") = true from (c.at_ 21 23)))) (t_NoDeed_NoName := (fV' (show (fV K "NoName" "NoDeed") = true from (c.at_ 21 24)))) (t_NoDeed_NoOrder := (fV' (show (fV K "NoOrder" "NoDeed") = true from (c.at_ 22 0)))) (t_NoDeed_NoRow := (fV' (show (fV K "NoRow" "NoDeed") = true from (c.at_ 22 1)))) (t_NoDeed_NoRule := (fV' (show (fV K "NoRule" "NoDeed") = true from (c.at_ 22 2)))) (t_NoDeed_NoRules := (fV' (show (fV K "NoRules" "NoDeed") = true from (c.at_ 22 3)))) (t_NoDeed_NoSet := (fV' (show (fV K "NoSet" "NoDeed") = true from (c.at_ 22 4)))) (t_NoDeed_NoSize := (fV' (show (fV K "NoSize" "NoDeed") = true from (c.at_ 22 5)))) (t_NoDeed_NoText := (fV' (show (fV K "NoText" "NoDeed") = true from (c.at_ 22 6)))) (t_NoDeed_NoThing := (fV' (show (fV K "NoThing" "NoDeed") = true from (c.at_ 22 7)))) (t_NoDeed_NoWorths := (fV' (show (fV K "NoWorths" "NoDeed") = true from (c.at_ 22 8)))) (t_NoDeed_NotFree := (fV' (show (fV K "NotFree" "NoDeed") = true from (c.at_ 22 9)))) (t_NoDeed_Tied := (fV' (show (fV K "Tied" "NoDeed") = true from (c.at_ 22 10)))) (t_NoDeed_TooMany := (fV' (show (fV K "TooMany" "NoDeed") = true from (c.at_ 22 11)))) (t_NoDeed_Unlike := (fV' (show (fV K "Unlike" "NoDeed") = true from (c.at_ 22 12)))) (t00_NoDeeds := (fT' (show (fT K "NoneType" "NoDeeds") = true from (c.at_ 22 13)))) (t01_NoDeeds := (fT' (show (fT K "bool" "NoDeeds") = true from (c.at_ 22 14)))) (t02_NoDeeds := (fT' (show (fT K "int" "NoDeeds") = true from (c.at_ 22 15)))) (t03_NoDeeds := (fT' (show (fT K "str" "NoDeeds") = true from (c.at_ 22 16)))) (t04_NoDeeds := (fT' (show (fT K "tuple" "NoDeeds") = true from (c.at_ 22 17)))) (t05_NoDeeds := (fT' (show (fT K "list" "NoDeeds") = true from (c.at_ 22 18)))) (t06_NoDeeds := (fT' (show (fT K "dict" "NoDeeds") = true from (c.at_ 22 19)))) (t07_NoDeeds := (fT' (show (fT K "set" "NoDeeds") = true from (c.at_ 22 20)))) (t_NoDeeds_Free := (fV' (show (fV K "Free" "NoDeeds") = true from (c.at_ 22 21)))) (t_NoDeeds_NoArrows := (fV' (show (fV K "NoArrows" "NoDeeds") = true from (c.at_ 22 22)))) (t_NoDeeds_NoDeed := (fV' (show (fV K "NoDeed" "NoDeeds") = true from (c.at_ 22 23)))) (t_NoDeeds_NoDeeds := (fU' (show (fU K "NoDeeds" "NoDeeds") = true from (c.at_ 22 24)))) (t_NoDeeds_NoHues := (fV' (show (fV K "NoHues" "NoDeeds") = true from (c.at_ 23 0)))) (t_NoDeeds_NoName := (fV' (show (fV K "NoName" "NoDeeds") = true from (c.at_ 23 1)))) (t_NoDeeds_NoOrder := (fV' (show (fV K "NoOrder" "NoDeeds") = true from (c.at_ 23 2)))) (t_NoDeeds_NoRow := (fV' (show (fV K "NoRow" "NoDeeds") = true from (c.at_ 23 3)))) (t_NoDeeds_NoRule := (fV' (show (fV K "NoRule" "NoDeeds") = true from (c.at_ 23 4)))) (t_NoDeeds_NoRules := (fV' (show (fV K "NoRules" "NoDeeds") = true from (c.at_ 23 5)))) (t_NoDeeds_NoSet := (fV' (show (fV K "NoSet" "NoDeeds") = true from (c.at_ 23 6)))) (t_NoDeeds_NoSize := (fV' (show (fV K "NoSize" "NoDeeds") = true from (c.at_ 23 7)))) (t_NoDeeds_NoText := (fV' (show (fV K "NoText" "NoDeeds") = true from (c.at_ 23 8)))) (t_NoDeeds_NoThing := (fV' (show (fV K "NoThing" "NoDeeds") = true from (c.at_ 23 9)))) (t_NoDeeds_NoWorths := (fV' (show (fV K "NoWorths" "NoDeeds") = true from (c.at_ 23 10)))) (t_NoDeeds_NotFree := (fV' (show (fV K "NotFree" "NoDeeds") = true from (c.at_ 23 11)))) (t_NoDeeds_Tied := (fV' (show (fV K "Tied" "NoDeeds") = true from (c.at_ 23 12)))) (t_NoDeeds_TooMany := (fV' (show (fV K "TooMany" "NoDeeds") = true from (c.at_ 23 13)))) (t_NoDeeds_Unlike := (fV' (show (fV K "Unlike" "NoDeeds") = true from (c.at_ 23 14)))) (t00_NoHues := (fT' (show (fT K "NoneType" "NoHues") = true from (c.at_ 23 15)))) (t01_NoHues := (fT' (show (fT K "bool" "NoHues") = true from (c.at_ 23 16)))) (t02_NoHues := (fT' (show (fT K "int" "NoHues") = true from (c.at_ 23 17)))) (t03_NoHues := (fT' (show (fT K "str" "NoHues") = true from (c.at_ 23 18)))) (t04_NoHues := (fT' (show (fT K "tuple" "NoHues") = true from (c.at_ 23 19)))) (t05_NoHues := (fT' (show (fT K "list" "NoHues") = true from (c.at_ 23 20)))) (t06_NoHues := (fT' (show (fT K "dict" "NoHues") = true from (c.at_ 23 21)))) (t07_NoHues := (fT' (show (fT K "set" "NoHues") = true from (c.at_ 23 22)))) (t_NoHues_Free := (fV' (show (fV K "Free" "NoHues") = true from (c.at_ 23 23)))) (t_NoHues_NoArrows := (fV' (show (fV K "NoArrows" "NoHues") = true from (c.at_ 23 24)))) (t_NoHues_NoDeed := (fV' (show (fV K "NoDeed" "NoHues") = true from (c.at_ 24 0)))) (t_NoHues_NoDeeds := (fV' (show (fV K "NoDeeds" "NoHues") = true from (c.at_ 24 1)))) (t_NoHues_NoHues := (fU' (show (fU K "NoHues" "NoHues") = true from (c.at_ 24 2)))) (t_NoHues_NoName := (fV' (show (fV K "NoName" "NoHues") = true from (c.at_ 24 3)))) (t_NoHues_NoOrder := (fV' (show (fV K "NoOrder" "NoHues") = true from (c.at_ 24 4)))) (t_NoHues_NoRow := (fV' (show (fV K "NoRow" "NoHues") = true from (c.at_ 24 5)))) (t_NoHues_NoRule := (fV' (show (fV K "NoRule" "NoHues") = true from (c.at_ 24 6)))) (t_NoHues_NoRules := (fV' (show (fV K "NoRules" "NoHues") = true from (c.at_ 24 7)))) (t_NoHues_NoSet := (fV' (show (fV K "NoSet" "NoHues") = true from (c.at_ 24 8)))) (t_NoHues_NoSize := (fV' (show (fV K "NoSize" "NoHues") = true from (c.at_ 24 9)))) (t_NoHues_NoText := (fV' (show (fV K "NoText" "NoHues") = true from (c.at_ 24 10)))) (t_NoHues_NoThing := (fV' (show (fV K "NoThing" "NoHues") = true from (c.at_ 24 11)))) (t_NoHues_NoWorths := (fV' (show (fV K "NoWorths" "NoHues") = true from (c.at_ 24 12)))) (t_NoHues_NotFree := (fV' (show (fV K "NotFree" "NoHues") = true from (c.at_ 24 13)))) (t_NoHues_Tied := (fV' (show (fV K "Tied" "NoHues") = true from (c.at_ 24 14)))) (t_NoHues_TooMany := (fV' (show (fV K "TooMany" "NoHues") = true from (c.at_ 24 15)))) (t_NoHues_Unlike := (fV' (show (fV K "Unlike" "NoHues") = true from (c.at_ 24 16)))) (t00_NoName := (fT' (show (fT K "NoneType" "NoName") = true from (c.at_ 24 17)))) (t01_NoName := (fT' (show (fT K "bool" "NoName") = true from (c.at_ 24 18)))) (t02_NoName := (fT' (show (fT K "int" "NoName") = true from (c.at_ 24 19)))) (t03_NoName := (fT' (show (fT K "str" "NoName") = true from (c.at_ 24 20)))) (t04_NoName := (fT' (show (fT K "tuple" "NoName") = true from (c.at_ 24 21)))) (t05_NoName := (fT' (show (fT K "list" "NoName") = true from (c.at_ 24 22)))) (t06_NoName := (fT' (show (fT K "dict" "NoName") = true from (c.at_ 24 23)))) (t07_NoName := (fT' (show (fT K "set" "NoName") = true from (c.at_ 24 24)))) (t_NoName_Free := (fV' (show (fV K "Free" "NoName") = true from (c.at_ 25 0)))) (t_NoName_NoArrows := (fV' (show (fV K "NoArrows" "NoName") = true from (c.at_ 25 1)))) (t_NoName_NoDeed := (fV' (show (fV K "NoDeed" "NoName") = true from (c.at_ 25 2)))) (t_NoName_NoDeeds := (fV' (show (fV K "NoDeeds" "NoName") = true from (c.at_ 25 3)))) (t_NoName_NoHues := (fV' (show (fV K "NoHues" "NoName") = true from (c.at_ 25 4)))) (t_NoName_NoName := (fU' (show (fU K "NoName" "NoName") = true from (c.at_ 25 5)))) (t_NoName_NoOrder := (fV' (show (fV K "NoOrder" "NoName") = true from (c.at_ 25 6)))) (t_NoName_NoRow := (fV' (show (fV K "NoRow" "NoName") = true from (c.at_ 25 7)))) (t_NoName_NoRule := (fV' (show (fV K "NoRule" "NoName") = true from (c.at_ 25 8)))) (t_NoName_NoRules := (fV' (show (fV K "NoRules" "NoName") = true from (c.at_ 25 9)))) (t_NoName_NoSet := (fV' (show (fV K "NoSet" "NoName") = true from (c.at_ 25 10)))) (t_NoName_NoSize := (fV' (show (fV K "NoSize" "NoName") = true from (c.at_ 25 11)))) (t_NoName_NoText := (fV' (show (fV K "NoText" "NoName") = true from (c.at_ 25 12)))) (t_NoName_NoThing := (fV' (show (fV K "NoThing" "NoName") = true from (c.at_ 25 13)))) (t_NoName_NoWorths := (fV' (show (fV K "NoWorths" "NoName") = true from (c.at_ 25 14)))) (t_NoName_NotFree := (fV' (show (fV K "NotFree" "NoName") = true from (c.at_ 25 15)))) (t_NoName_Tied := (fV' (show (fV K "Tied" "NoName") = true from (c.at_ 25 16)))) (t_NoName_TooMany := (fV' (show (fV K "TooMany" "NoName") = true from (c.at_ 25 17)))) (t_NoName_Unlike := (fV' (show (fV K "Unlike" "NoName") = true from (c.at_ 25 18)))) (t00_NoOrder := (fT' (show (fT K "NoneType" "NoOrder") = true from (c.at_ 25 19)))) (t01_NoOrder := (fT' (show (fT K "bool" "NoOrder") = true from (c.at_ 25 20)))) (t02_NoOrder := (fT' (show (fT K "int" "NoOrder") = true from (c.at_ 25 21)))) (t03_NoOrder := (fT' (show (fT K "str" "NoOrder") = true from (c.at_ 25 22)))) (t04_NoOrder := (fT' (show (fT K "tuple" "NoOrder") = true from (c.at_ 25 23)))) (t05_NoOrder := (fT' (show (fT K "list" "NoOrder") = true from (c.at_ 25 24)))) (t06_NoOrder := (fT' (show (fT K "dict" "NoOrder") = true from (c.at_ 26 0)))) (t07_NoOrder := (fT' (show (fT K "set" "NoOrder") = true from (c.at_ 26 1)))) (t_NoOrder_Free := (fV' (show (fV K "Free" "NoOrder") = true from (c.at_ 26 2)))) (t_NoOrder_NoArrows := (fV' (show (fV K "NoArrows" "NoOrder") = true from (c.at_ 26 3)))) (t_NoOrder_NoDeed := (fV' (show (fV K "NoDeed" "NoOrder") = true from (c.at_ 26 4)))) (t_NoOrder_NoDeeds := (fV' (show (fV K "NoDeeds" "NoOrder") = true from (c.at_ 26 5)))) (t_NoOrder_NoHues := (fV' (show (fV K "NoHues" "NoOrder") = true from (c.at_ 26 6)))) (t_NoOrder_NoName := (fV' (show (fV K "NoName" "NoOrder") = true from (c.at_ 26 7)))) (t_NoOrder_NoOrder := (fU' (show (fU K "NoOrder" "NoOrder") = true from (c.at_ 26 8)))) (t_NoOrder_NoRow := (fV' (show (fV K "NoRow" "NoOrder") = true from (c.at_ 26 9)))) (t_NoOrder_NoRule := (fV' (show (fV K "NoRule" "NoOrder") = true from (c.at_ 26 10)))) (t_NoOrder_NoRules := (fV' (show (fV K "NoRules" "NoOrder") = true from (c.at_ 26 11)))) (t_NoOrder_NoSet := (fV' (show (fV K "NoSet" "NoOrder") = true from (c.at_ 26 12)))) (t_NoOrder_NoSize := (fV' (show (fV K "NoSize" "NoOrder") = true from (c.at_ 26 13)))) (t_NoOrder_NoText := (fV' (show (fV K "NoText" "NoOrder") = true from (c.at_ 26 14)))) (t_NoOrder_NoThing := (fV' (show (fV K "NoThing" "NoOrder") = true from (c.at_ 26 15)))) (t_NoOrder_NoWorths := (fV' (show (fV K "NoWorths" "NoOrder") = true from (c.at_ 26 16)))) (t_NoOrder_NotFree := (fV' (show (fV K "NotFree" "NoOrder") = true from (c.at_ 26 17)))) (t_NoOrder_Tied := (fV' (show (fV K "Tied" "NoOrder") = true from (c.at_ 26 18)))) (t_NoOrder_TooMany := (fV' (show (fV K "TooMany" "NoOrder") = true from (c.at_ 26 19)))) (t_NoOrder_Unlike := (fV' (show (fV K "Unlike" "NoOrder") = true from (c.at_ 26 20)))) (t00_NoRow := (fT' (show (fT K "NoneType" "NoRow") = true from (c.at_ 26 21)))) (t01_NoRow := (fT' (show (fT K "bool" "NoRow") = true from (c.at_ 26 22)))) (t02_NoRow := (fT' (show (fT K "int" "NoRow") = true from (c.at_ 26 23)))) (t03_NoRow := (fT' (show (fT K "str" "NoRow") = true from (c.at_ 26 24)))) (t04_NoRow := (fT' (show (fT K "tuple" "NoRow") = true from (c.at_ 27 0)))) (t05_NoRow := (fT' (show (fT K "list" "NoRow") = true from (c.at_ 27 1)))) (t06_NoRow := (fT' (show (fT K "dict" "NoRow") = true from (c.at_ 27 2)))) (t07_NoRow := (fT' (show (fT K "set" "NoRow") = true from (c.at_ 27 3)))) (t_NoRow_Free := (fV' (show (fV K "Free" "NoRow") = true from (c.at_ 27 4)))) (t_NoRow_NoArrows := (fV' (show (fV K "NoArrows" "NoRow") = true from (c.at_ 27 5)))) (t_NoRow_NoDeed := (fV' (show (fV K "NoDeed" "NoRow") = true from (c.at_ 27 6)))) (t_NoRow_NoDeeds := (fV' (show (fV K "NoDeeds" "NoRow") = true from (c.at_ 27 7)))) (t_NoRow_NoHues := (fV' (show (fV K "NoHues" "NoRow") = true from (c.at_ 27 8)))) (t_NoRow_NoName := (fV' (show (fV K "NoName" "NoRow") = true from (c.at_ 27 9)))) (t_NoRow_NoOrder := (fV' (show (fV K "NoOrder" "NoRow") = true from (c.at_ 27 10)))) (t_NoRow_NoRow := (fU' (show (fU K "NoRow" "NoRow") = true from (c.at_ 27 11)))) (t_NoRow_NoRule := (fV' (show (fV K "NoRule" "NoRow") = true from (c.at_ 27 12)))) (t_NoRow_NoRules := (fV' (show (fV K "NoRules" "NoRow") = true from (c.at_ 27 13)))) (t_NoRow_NoSet := (fV' (show (fV K "NoSet" "NoRow") = true from (c.at_ 27 14)))) (t_NoRow_NoSize := (fV' (show (fV K "NoSize" "NoRow") = true from (c.at_ 27 15)))) (t_NoRow_NoText := (fV' (show (fV K "NoText" "NoRow") = true from (c.at_ 27 16)))) (t_NoRow_NoThing := (fV' (show (fV K "NoThing" "NoRow") = true from (c.at_ 27 17)))) (t_NoRow_NoWorths := (fV' (show (fV K "NoWorths" "NoRow") = true from (c.at_ 27 18)))) (t_NoRow_NotFree := (fV' (show (fV K "NotFree" "NoRow") = true from (c.at_ 27 19)))) (t_NoRow_Tied := (fV' (show (fV K "Tied" "NoRow") = true from (c.at_ 27 20)))) (t_NoRow_TooMany := (fV' (show (fV K "TooMany" "NoRow") = true from (c.at_ 27 21)))) (t_NoRow_Unlike := (fV' (show (fV K "Unlike" "NoRow") = true from (c.at_ 27 22)))) (t00_NoRule := (fT' (show (fT K "NoneType" "NoRule") = true from (c.at_ 27 23)))) (t01_NoRule := (fT' (show (fT K "bool" "NoRule") = true from (c.at_ 27 24)))) (t02_NoRule := (fT' (show (fT K "int" "NoRule") = true from (c.at_ 28 0)))) (t03_NoRule := (fT' (show (fT K "str" "NoRule") = true from (c.at_ 28 1)))) (t04_NoRule := (fT' (show (fT K "tuple" "NoRule") = true from (c.at_ 28 2)))) (t05_NoRule := (fT' (show (fT K "list" "NoRule") = true from (c.at_ 28 3)))) (t06_NoRule := (fT' (show (fT K "dict" "NoRule") = true from (c.at_ 28 4)))) (t07_NoRule := (fT' (show (fT K "set" "NoRule") = true from (c.at_ 28 5)))) (t_NoRule_Free := (fV' (show (fV K "Free" "NoRule") = true from (c.at_ 28 6)))) (t_NoRule_NoArrows := (fV' (show (fV K "NoArrows" "NoRule") = true from (c.at_ 28 7)))) (t_NoRule_NoDeed := (fV' (show (fV K "NoDeed" "NoRule") = true from (c.at_ 28 8)))) (t_NoRule_NoDeeds := (fV' (show (fV K "NoDeeds" "NoRule") = true from (c.at_ 28 9)))) (t_NoRule_NoHues := (fV' (show (fV K "NoHues" "NoRule") = true from (c.at_ 28 10)))) (t_NoRule_NoName := (fV' (show (fV K "NoName" "NoRule") = true from (c.at_ 28 11)))) (t_NoRule_NoOrder := (fV' (show (fV K "NoOrder" "NoRule") = true from (c.at_ 28 12)))) (t_NoRule_NoRow := (fV' (show (fV K "NoRow" "NoRule") = true from (c.at_ 28 13)))) (t_NoRule_NoRule := (fU' (show (fU K "NoRule" "NoRule") = true from (c.at_ 28 14)))) (t_NoRule_NoRules := (fV' (show (fV K "NoRules" "NoRule") = true from (c.at_ 28 15)))) (t_NoRule_NoSet := (fV' (show (fV K "NoSet" "NoRule") = true from (c.at_ 28 16)))) (t_NoRule_NoSize := (fV' (show (fV K "NoSize" "NoRule") = true from (c.at_ 28 17)))) (t_NoRule_NoText := (fV' (show (fV K "NoText" "NoRule") = true from (c.at_ 28 18)))) (t_NoRule_NoThing := (fV' (show (fV K "NoThing" "NoRule") = true from (c.at_ 28 19)))) (t_NoRule_NoWorths := (fV' (show (fV K "NoWorths" "NoRule") = true from (c.at_ 28 20)))) (t_NoRule_NotFree := (fV' (show (fV K "NotFree" "NoRule") = true from (c.at_ 28 21)))) (t_NoRule_Tied := (fV' (show (fV K "Tied" "NoRule") = true from (c.at_ 28 22)))) (t_NoRule_TooMany := (fV' (show (fV K "TooMany" "NoRule") = true from (c.at_ 28 23)))) (t_NoRule_Unlike := (fV' (show (fV K "Unlike" "NoRule") = true from (c.at_ 28 24)))) (t00_NoRules := (fT' (show (fT K "NoneType" "NoRules") = true from (c.at_ 29 0)))) (t01_NoRules := (fT' (show (fT K "bool" "NoRules") = true from (c.at_ 29 1)))) (t02_NoRules := (fT' (show (fT K "int" "NoRules") = true from (c.at_ 29 2)))) (t03_NoRules := (fT' (show (fT K "str" "NoRules") = true from (c.at_ 29 3)))) (t04_NoRules := (fT' (show (fT K "tuple" "NoRules") = true from (c.at_ 29 4)))) (t05_NoRules := (fT' (show (fT K "list" "NoRules") = true from (c.at_ 29 5)))) (t06_NoRules := (fT' (show (fT K "dict" "NoRules") = true from (c.at_ 29 6)))) (t07_NoRules := (fT' (show (fT K "set" "NoRules") = true from (c.at_ 29 7)))) (t_NoRules_Free := (fV' (show (fV K "Free" "NoRules") = true from (c.at_ 29 8)))) (t_NoRules_NoArrows := (fV' (show (fV K "NoArrows" "NoRules") = true from (c.at_ 29 9)))) (t_NoRules_NoDeed := (fV' (show (fV K "NoDeed" "NoRules") = true from (c.at_ 29 10)))) (t_NoRules_NoDeeds := (fV' (show (fV K "NoDeeds" "NoRules") = true from (c.at_ 29 11)))) (t_NoRules_NoHues := (fV' (show (fV K "NoHues" "NoRules") = true from (c.at_ 29 12)))) (t_NoRules_NoName := (fV' (show (fV K "NoName" "NoRules") = true from (c.at_ 29 13)))) (t_NoRules_NoOrder := (fV' (show (fV K "NoOrder" "NoRules") = true from (c.at_ 29 14)))) (t_NoRules_NoRow := (fV' (show (fV K "NoRow" "NoRules") = true from (c.at_ 29 15)))) (t_NoRules_NoRule := (fV' (show (fV K "NoRule" "NoRules") = true from (c.at_ 29 16)))) (t_NoRules_NoRules := (fU' (show (fU K "NoRules" "NoRules") = true from (c.at_ 29 17)))) (t_NoRules_NoSet := (fV' (show (fV K "NoSet" "NoRules") = true from (c.at_ 29 18)))) (t_NoRules_NoSize := (fV' (show (fV K "NoSize" "NoRules") = true from (c.at_ 29 19)))) (t_NoRules_NoText := (fV' (show (fV K "NoText" "NoRules") = true from (c.at_ 29 20)))) (t_NoRules_NoThing := (fV' (show (fV K "NoThing" "NoRules") = true from (c.at_ 29 21)))) (t_NoRules_NoWorths := (fV' (show (fV K "NoWorths" "NoRules") = true from (c.at_ 29 22)))) (t_NoRules_NotFree := (fV' (show (fV K "NotFree" "NoRules") = true from (c.at_ 29 23)))) (t_NoRules_Tied := (fV' (show (fV K "Tied" "NoRules") = true from (c.at_ 29 24)))) (t_NoRules_TooMany := (fV' (show (fV K "TooMany" "NoRules") = true from (c.at_ 30 0)))) (t_NoRules_Unlike := (fV' (show (fV K "Unlike" "NoRules") = true from (c.at_ 30 1)))) (t00_NoSet := (fT' (show (fT K "NoneType" "NoSet") = true from (c.at_ 30 2)))) (t01_NoSet := (fT' (show (fT K "bool" "NoSet") = true from (c.at_ 30 3)))) (t02_NoSet := (fT' (show (fT K "int" "NoSet") = true from (c.at_ 30 4)))) (t03_NoSet := (fT' (show (fT K "str" "NoSet") = true from (c.at_ 30 5)))) (t04_NoSet := (fT' (show (fT K "tuple" "NoSet") = true from (c.at_ 30 6)))) (t05_NoSet := (fT' (show (fT K "list" "NoSet") = true from (c.at_ 30 7)))) (t06_NoSet := (fT' (show (fT K "dict" "NoSet") = true from (c.at_ 30 8)))) (t07_NoSet := (fT' (show (fT K "set" "NoSet") = true from (c.at_ 30 9)))) (t_NoSet_Free := (fV' (show (fV K "Free" "NoSet") = true from (c.at_ 30 10)))) (t_NoSet_NoArrows := (fV' (show (fV K "NoArrows" "NoSet") = true from (c.at_ 30 11)))) (t_NoSet_NoDeed := (fV' (show (fV K "NoDeed" "NoSet") = true from (c.at_ 30 12)))) (t_NoSet_NoDeeds := (fV' (show (fV K "NoDeeds" "NoSet") = true from (c.at_ 30 13)))) (t_NoSet_NoHues := (fV' (show (fV K "NoHues" "NoSet") = true from (c.at_ 30 14)))) (t_NoSet_NoName := (fV' (show (fV K "NoName" "NoSet") = true from (c.at_ 30 15)))) (t_NoSet_NoOrder := (fV' (show (fV K "NoOrder" "NoSet") = true from (c.at_ 30 16)))) (t_NoSet_NoRow := (fV' (show (fV K "NoRow" "NoSet") = true from (c.at_ 30 17)))) (t_NoSet_NoRule := (fV' (show (fV K "NoRule" "NoSet") = true from (c.at_ 30 18)))) (t_NoSet_NoRules := (fV' (show (fV K "NoRules" "NoSet") = true from (c.at_ 30 19)))) (t_NoSet_NoSet := (fU' (show (fU K "NoSet" "NoSet") = true from (c.at_ 30 20)))) (t_NoSet_NoSize := (fV' (show (fV K "NoSize" "NoSet") = true from (c.at_ 30 21)))) (t_NoSet_NoText := (fV' (show (fV K "NoText" "NoSet") = true from (c.at_ 30 22)))) (t_NoSet_NoThing := (fV' (show (fV K "NoThing" "NoSet") = true from (c.at_ 30 23)))) (t_NoSet_NoWorths := (fV' (show (fV K "NoWorths" "NoSet") = true from (c.at_ 30 24)))) (t_NoSet_NotFree := (fV' (show (fV K "NotFree" "NoSet") = true from (c.at_ 31 0)))) (t_NoSet_Tied := (fV' (show (fV K "Tied" "NoSet") = true from (c.at_ 31 1)))) (t_NoSet_TooMany := (fV' (show (fV K "TooMany" "NoSet") = true from (c.at_ 31 2)))) (t_NoSet_Unlike := (fV' (show (fV K "Unlike" "NoSet") = true from (c.at_ 31 3)))) (t00_NoSize := (fT' (show (fT K "NoneType" "NoSize") = true from (c.at_ 31 4)))) (t01_NoSize := (fT' (show (fT K "bool" "NoSize") = true from (c.at_ 31 5)))) (t02_NoSize := (fT' (show (fT K "int" "NoSize") = true from (c.at_ 31 6)))) (t03_NoSize := (fT' (show (fT K "str" "NoSize") = true from (c.at_ 31 7)))) (t04_NoSize := (fT' (show (fT K "tuple" "NoSize") = true from (c.at_ 31 8)))) (t05_NoSize := (fT' (show (fT K "list" "NoSize") = true from (c.at_ 31 9)))) (t06_NoSize := (fT' (show (fT K "dict" "NoSize") = true from (c.at_ 31 10)))) (t07_NoSize := (fT' (show (fT K "set" "NoSize") = true from (c.at_ 31 11)))) (t_NoSize_Free := (fV' (show (fV K "Free" "NoSize") = true from (c.at_ 31 12)))) (t_NoSize_NoArrows := (fV' (show (fV K "NoArrows" "NoSize") = true from (c.at_ 31 13)))) (t_NoSize_NoDeed := (fV' (show (fV K "NoDeed" "NoSize") = true from (c.at_ 31 14)))) (t_NoSize_NoDeeds := (fV' (show (fV K "NoDeeds" "NoSize") = true from (c.at_ 31 15)))) (t_NoSize_NoHues := (fV' (show (fV K "NoHues" "NoSize") = true from (c.at_ 31 16)))) (t_NoSize_NoName := (fV' (show (fV K "NoName" "NoSize") = true from (c.at_ 31 17)))) (t_NoSize_NoOrder := (fV' (show (fV K "NoOrder" "NoSize") = true from (c.at_ 31 18)))) (t_NoSize_NoRow := (fV' (show (fV K "NoRow" "NoSize") = true from (c.at_ 31 19)))) (t_NoSize_NoRule := (fV' (show (fV K "NoRule" "NoSize") = true from (c.at_ 31 20)))) (t_NoSize_NoRules := (fV' (show (fV K "NoRules" "NoSize") = true from (c.at_ 31 21)))) (t_NoSize_NoSet := (fV' (show (fV K "NoSet" "NoSize") = true from (c.at_ 31 22)))) (t_NoSize_NoSize := (fU' (show (fU K "NoSize" "NoSize") = true from (c.at_ 31 23)))) (t_NoSize_NoText := (fV' (show (fV K "NoText" "NoSize") = true from (c.at_ 31 24)))) (t_NoSize_NoThing := (fV' (show (fV K "NoThing" "NoSize") = true from (c.at_ 32 0)))) (t_NoSize_NoWorths := (fV' (show (fV K "NoWorths" "NoSize") = true from (c.at_ 32 1)))) (t_NoSize_NotFree := (fV' (show (fV K "NotFree" "NoSize") = true from (c.at_ 32 2)))) (t_NoSize_Tied := (fV' (show (fV K "Tied" "NoSize") = true from (c.at_ 32 3)))) (t_NoSize_TooMany := (fV' (show (fV K "TooMany" "NoSize") = true from (c.at_ 32 4)))) (t_NoSize_Unlike := (fV' (show (fV K "Unlike" "NoSize") = true from (c.at_ 32 5)))) (t00_NoText := (fT' (show (fT K "NoneType" "NoText") = true from (c.at_ 32 6)))) (t01_NoText := (fT' (show (fT K "bool" "NoText") = true from (c.at_ 32 7)))) (t02_NoText := (fT' (show (fT K "int" "NoText") = true from (c.at_ 32 8)))) (t03_NoText := (fT' (show (fT K "str" "NoText") = true from (c.at_ 32 9)))) (t04_NoText := (fT' (show (fT K "tuple" "NoText") = true from (c.at_ 32 10)))) (t05_NoText := (fT' (show (fT K "list" "NoText") = true from (c.at_ 32 11)))) (t06_NoText := (fT' (show (fT K "dict" "NoText") = true from (c.at_ 32 12)))) (t07_NoText := (fT' (show (fT K "set" "NoText") = true from (c.at_ 32 13)))) (t_NoText_Free := (fV' (show (fV K "Free" "NoText") = true from (c.at_ 32 14)))) (t_NoText_NoArrows := (fV' (show (fV K "NoArrows" "NoText") = true from (c.at_ 32 15)))) (t_NoText_NoDeed := (fV' (show (fV K "NoDeed" "NoText") = true from (c.at_ 32 16)))) (t_NoText_NoDeeds := (fV' (show (fV K "NoDeeds" "NoText") = true from (c.at_ 32 17)))) (t_NoText_NoHues := (fV' (show (fV K "NoHues" "NoText") = true from (c.at_ 32 18)))) (t_NoText_NoName := (fV' (show (fV K "NoName" "NoText") = true from (c.at_ 32 19)))) (t_NoText_NoOrder := (fV' (show (fV K "NoOrder" "NoText") = true from (c.at_ 32 20)))) (t_NoText_NoRow := (fV' (show (fV K "NoRow" "NoText") = true from (c.at_ 32 21)))) (t_NoText_NoRule := (fV' (show (fV K "NoRule" "NoText") = true from (c.at_ 32 22)))) (t_NoText_NoRules := (fV' (show (fV K "NoRules" "NoText") = true from (c.at_ 32 23)))) (t_NoText_NoSet := (fV' (show (fV K "NoSet" "NoText") = true from (c.at_ 32 24)))) (t_NoText_NoSize := (fV' (show (fV K "NoSize" "NoText") = true from (c.at_ 33 0)))) (t_NoText_NoText := (fU' (show (fU K "NoText" "NoText") = true from (c.at_ 33 1)))) (t_NoText_NoThing := (fV' (show (fV K "NoThing" "NoText") = true from (c.at_ 33 2)))) (t_NoText_NoWorths := (fV' (show (fV K "NoWorths" "NoText") = true from (c.at_ 33 3)))) (t_NoText_NotFree := (fV' (show (fV K "NotFree" "NoText") = true from (c.at_ 33 4)))) (t_NoText_Tied := (fV' (show (fV K "Tied" "NoText") = true from (c.at_ 33 5)))) (t_NoText_TooMany := (fV' (show (fV K "TooMany" "NoText") = true from (c.at_ 33 6)))) (t_NoText_Unlike := (fV' (show (fV K "Unlike" "NoText") = true from (c.at_ 33 7)))) (t00_NoThing := (fT' (show (fT K "NoneType" "NoThing") = true from (c.at_ 33 8)))) (t01_NoThing := (fT' (show (fT K "bool" "NoThing") = true from (c.at_ 33 9)))) (t02_NoThing := (fT' (show (fT K "int" "NoThing") = true from (c.at_ 33 10)))) (t03_NoThing := (fT' (show (fT K "str" "NoThing") = true from (c.at_ 33 11)))) (t04_NoThing := (fT' (show (fT K "tuple" "NoThing") = true from (c.at_ 33 12)))) (t05_NoThing := (fT' (show (fT K "list" "NoThing") = true from (c.at_ 33 13)))) (t06_NoThing := (fT' (show (fT K "dict" "NoThing") = true from (c.at_ 33 14)))) (t07_NoThing := (fT' (show (fT K "set" "NoThing") = true from (c.at_ 33 15)))) (t_NoThing_Free := (fV' (show (fV K "Free" "NoThing") = true from (c.at_ 33 16)))) (t_NoThing_NoArrows := (fV' (show (fV K "NoArrows" "NoThing") = true from (c.at_ 33 17)))) (t_NoThing_NoDeed := (fV' (show (fV K "NoDeed" "NoThing") = true from (c.at_ 33 18)))) (t_NoThing_NoDeeds := (fV' (show (fV K "NoDeeds" "NoThing") = true from (c.at_ 33 19)))) (t_NoThing_NoHues := (fV' (show (fV K "NoHues" "NoThing") = true from (c.at_ 33 20)))) (t_NoThing_NoName := (fV' (show (fV K "NoName" "NoThing") = true from (c.at_ 33 21)))) (t_NoThing_NoOrder := (fV' (show (fV K "NoOrder" "NoThing") = true from (c.at_ 33 22)))) (t_NoThing_NoRow := (fV' (show (fV K "NoRow" "NoThing") = true from (c.at_ 33 23)))) (t_NoThing_NoRule := (fV' (show (fV K "NoRule" "NoThing") = true from (c.at_ 33 24)))) (t_NoThing_NoRules := (fV' (show (fV K "NoRules" "NoThing") = true from (c.at_ 34 0)))) (t_NoThing_NoSet := (fV' (show (fV K "NoSet" "NoThing") = true from (c.at_ 34 1)))) (t_NoThing_NoSize := (fV' (show (fV K "NoSize" "NoThing") = true from (c.at_ 34 2)))) (t_NoThing_NoText := (fV' (show (fV K "NoText" "NoThing") = true from (c.at_ 34 3)))) (t_NoThing_NoThing := (fU' (show (fU K "NoThing" "NoThing") = true from (c.at_ 34 4)))) (t_NoThing_NoWorths := (fV' (show (fV K "NoWorths" "NoThing") = true from (c.at_ 34 5)))) (t_NoThing_NotFree := (fV' (show (fV K "NotFree" "NoThing") = true from (c.at_ 34 6)))) (t_NoThing_Tied := (fV' (show (fV K "Tied" "NoThing") = true from (c.at_ 34 7)))) (t_NoThing_TooMany := (fV' (show (fV K "TooMany" "NoThing") = true from (c.at_ 34 8)))) (t_NoThing_Unlike := (fV' (show (fV K "Unlike" "NoThing") = true from (c.at_ 34 9)))) (t00_NoWorths := (fT' (show (fT K "NoneType" "NoWorths") = true from (c.at_ 34 10)))) (t01_NoWorths := (fT' (show (fT K "bool" "NoWorths") = true from (c.at_ 34 11)))) (t02_NoWorths := (fT' (show (fT K "int" "NoWorths") = true from (c.at_ 34 12)))) (t03_NoWorths := (fT' (show (fT K "str" "NoWorths") = true from (c.at_ 34 13)))) (t04_NoWorths := (fT' (show (fT K "tuple" "NoWorths") = true from (c.at_ 34 14)))) (t05_NoWorths := (fT' (show (fT K "list" "NoWorths") = true from (c.at_ 34 15)))) (t06_NoWorths := (fT' (show (fT K "dict" "NoWorths") = true from (c.at_ 34 16)))) (t07_NoWorths := (fT' (show (fT K "set" "NoWorths") = true from (c.at_ 34 17)))) (t_NoWorths_Free := (fV' (show (fV K "Free" "NoWorths") = true from (c.at_ 34 18)))) (t_NoWorths_NoArrows := (fV' (show (fV K "NoArrows" "NoWorths") = true from (c.at_ 34 19)))) (t_NoWorths_NoDeed := (fV' (show (fV K "NoDeed" "NoWorths") = true from (c.at_ 34 20)))) (t_NoWorths_NoDeeds := (fV' (show (fV K "NoDeeds" "NoWorths") = true from (c.at_ 34 21)))) (t_NoWorths_NoHues := (fV' (show (fV K "NoHues" "NoWorths") = true from (c.at_ 34 22)))) (t_NoWorths_NoName := (fV' (show (fV K "NoName" "NoWorths") = true from (c.at_ 34 23)))) (t_NoWorths_NoOrder := (fV' (show (fV K "NoOrder" "NoWorths") = true from (c.at_ 34 24)))) (t_NoWorths_NoRow := (fV' (show (fV K "NoRow" "NoWorths") = true from (c.at_ 35 0)))) (t_NoWorths_NoRule := (fV' (show (fV K "NoRule" "NoWorths") = true from (c.at_ 35 1)))) (t_NoWorths_NoRules := (fV' (show (fV K "NoRules" "NoWorths") = true from (c.at_ 35 2)))) (t_NoWorths_NoSet := (fV' (show (fV K "NoSet" "NoWorths") = true from (c.at_ 35 3)))) (t_NoWorths_NoSize := (fV' (show (fV K "NoSize" "NoWorths") = true from (c.at_ 35 4)))) (t_NoWorths_NoText := (fV' (show (fV K "NoText" "NoWorths") = true from (c.at_ 35 5)))) (t_NoWorths_NoThing := (fV' (show (fV K "NoThing" "NoWorths") = true from (c.at_ 35 6)))) (t_NoWorths_NoWorths := (fU' (show (fU K "NoWorths" "NoWorths") = true from (c.at_ 35 7)))) (t_NoWorths_NotFree := (fV' (show (fV K "NotFree" "NoWorths") = true from (c.at_ 35 8)))) (t_NoWorths_Tied := (fV' (show (fV K "Tied" "NoWorths") = true from (c.at_ 35 9)))) (t_NoWorths_TooMany := (fV' (show (fV K "TooMany" "NoWorths") = true from (c.at_ 35 10)))) (t_NoWorths_Unlike := (fV' (show (fV K "Unlike" "NoWorths") = true from (c.at_ 35 11)))) (t00_NotFree := (fT' (show (fT K "NoneType" "NotFree") = true from (c.at_ 35 12)))) (t01_NotFree := (fT' (show (fT K "bool" "NotFree") = true from (c.at_ 35 13)))) (t02_NotFree := (fT' (show (fT K "int" "NotFree") = true from (c.at_ 35 14)))) (t03_NotFree := (fT' (show (fT K "str" "NotFree") = true from (c.at_ 35 15)))) (t04_NotFree := (fT' (show (fT K "tuple" "NotFree") = true from (c.at_ 35 16)))) (t05_NotFree := (fT' (show (fT K "list" "NotFree") = true from (c.at_ 35 17)))) (t06_NotFree := (fT' (show (fT K "dict" "NotFree") = true from (c.at_ 35 18)))) (t07_NotFree := (fT' (show (fT K "set" "NotFree") = true from (c.at_ 35 19)))) (t_NotFree_Free := (fV' (show (fV K "Free" "NotFree") = true from (c.at_ 35 20)))) (t_NotFree_NoArrows := (fV' (show (fV K "NoArrows" "NotFree") = true from (c.at_ 35 21)))) (t_NotFree_NoDeed := (fV' (show (fV K "NoDeed" "NotFree") = true from (c.at_ 35 22)))) (t_NotFree_NoDeeds := (fV' (show (fV K "NoDeeds" "NotFree") = true from (c.at_ 35 23)))) (t_NotFree_NoHues := (fV' (show (fV K "NoHues" "NotFree") = true from (c.at_ 35 24)))) (t_NotFree_NoName := (fV' (show (fV K "NoName" "NotFree") = true from (c.at_ 36 0)))) (t_NotFree_NoOrder := (fV' (show (fV K "NoOrder" "NotFree") = true from (c.at_ 36 1)))) (t_NotFree_NoRow := (fV' (show (fV K "NoRow" "NotFree") = true from (c.at_ 36 2)))) (t_NotFree_NoRule := (fV' (show (fV K "NoRule" "NotFree") = true from (c.at_ 36 3)))) (t_NotFree_NoRules := (fV' (show (fV K "NoRules" "NotFree") = true from (c.at_ 36 4)))) (t_NotFree_NoSet := (fV' (show (fV K "NoSet" "NotFree") = true from (c.at_ 36 5)))) (t_NotFree_NoSize := (fV' (show (fV K "NoSize" "NotFree") = true from (c.at_ 36 6)))) (t_NotFree_NoText := (fV' (show (fV K "NoText" "NotFree") = true from (c.at_ 36 7)))) (t_NotFree_NoThing := (fV' (show (fV K "NoThing" "NotFree") = true from (c.at_ 36 8)))) (t_NotFree_NoWorths := (fV' (show (fV K "NoWorths" "NotFree") = true from (c.at_ 36 9)))) (t_NotFree_NotFree := (fU' (show (fU K "NotFree" "NotFree") = true from (c.at_ 36 10)))) (t_NotFree_Tied := (fV' (show (fV K "Tied" "NotFree") = true from (c.at_ 36 11)))) (t_NotFree_TooMany := (fV' (show (fV K "TooMany" "NotFree") = true from (c.at_ 36 12)))) (t_NotFree_Unlike := (fV' (show (fV K "Unlike" "NotFree") = true from (c.at_ 36 13)))) (t00_Tied := (fT' (show (fT K "NoneType" "Tied") = true from (c.at_ 36 14)))) (t01_Tied := (fT' (show (fT K "bool" "Tied") = true from (c.at_ 36 15)))) (t02_Tied := (fT' (show (fT K "int" "Tied") = true from (c.at_ 36 16)))) (t03_Tied := (fT' (show (fT K "str" "Tied") = true from (c.at_ 36 17)))) (t04_Tied := (fT' (show (fT K "tuple" "Tied") = true from (c.at_ 36 18)))) (t05_Tied := (fT' (show (fT K "list" "Tied") = true from (c.at_ 36 19)))) (t06_Tied := (fT' (show (fT K "dict" "Tied") = true from (c.at_ 36 20)))) (t07_Tied := (fT' (show (fT K "set" "Tied") = true from (c.at_ 36 21)))) (t_Tied_Free := (fV' (show (fV K "Free" "Tied") = true from (c.at_ 36 22)))) (t_Tied_NoArrows := (fV' (show (fV K "NoArrows" "Tied") = true from (c.at_ 36 23)))) (t_Tied_NoDeed := (fV' (show (fV K "NoDeed" "Tied") = true from (c.at_ 36 24)))) (t_Tied_NoDeeds := (fV' (show (fV K "NoDeeds" "Tied") = true from (c.at_ 37 0)))) (t_Tied_NoHues := (fV' (show (fV K "NoHues" "Tied") = true from (c.at_ 37 1)))) (t_Tied_NoName := (fV' (show (fV K "NoName" "Tied") = true from (c.at_ 37 2)))) (t_Tied_NoOrder := (fV' (show (fV K "NoOrder" "Tied") = true from (c.at_ 37 3)))) (t_Tied_NoRow := (fV' (show (fV K "NoRow" "Tied") = true from (c.at_ 37 4)))) (t_Tied_NoRule := (fV' (show (fV K "NoRule" "Tied") = true from (c.at_ 37 5)))) (t_Tied_NoRules := (fV' (show (fV K "NoRules" "Tied") = true from (c.at_ 37 6)))) (t_Tied_NoSet := (fV' (show (fV K "NoSet" "Tied") = true from (c.at_ 37 7)))) (t_Tied_NoSize := (fV' (show (fV K "NoSize" "Tied") = true from (c.at_ 37 8)))) (t_Tied_NoText := (fV' (show (fV K "NoText" "Tied") = true from (c.at_ 37 9)))) (t_Tied_NoThing := (fV' (show (fV K "NoThing" "Tied") = true from (c.at_ 37 10)))) (t_Tied_NoWorths := (fV' (show (fV K "NoWorths" "Tied") = true from (c.at_ 37 11)))) (t_Tied_NotFree := (fV' (show (fV K "NotFree" "Tied") = true from (c.at_ 37 12)))) (t_Tied_Tied := (fU' (show (fU K "Tied" "Tied") = true from (c.at_ 37 13)))) (t_Tied_TooMany := (fV' (show (fV K "TooMany" "Tied") = true from (c.at_ 37 14)))) (t_Tied_Unlike := (fV' (show (fV K "Unlike" "Tied") = true from (c.at_ 37 15)))) (t00_TooMany := (fT' (show (fT K "NoneType" "TooMany") = true from (c.at_ 37 16)))) (t01_TooMany := (fT' (show (fT K "bool" "TooMany") = true from (c.at_ 37 17)))) (t02_TooMany := (fT' (show (fT K "int" "TooMany") = true from (c.at_ 37 18)))) (t03_TooMany := (fT' (show (fT K "str" "TooMany") = true from (c.at_ 37 19)))) (t04_TooMany := (fT' (show (fT K "tuple" "TooMany") = true from (c.at_ 37 20)))) (t05_TooMany := (fT' (show (fT K "list" "TooMany") = true from (c.at_ 37 21)))) (t06_TooMany := (fT' (show (fT K "dict" "TooMany") = true from (c.at_ 37 22)))) (t07_TooMany := (fT' (show (fT K "set" "TooMany") = true from (c.at_ 37 23)))) (t_TooMany_Free := (fV' (show (fV K "Free" "TooMany") = true from (c.at_ 37 24)))) (t_TooMany_NoArrows := (fV' (show (fV K "NoArrows" "TooMany") = true from (c.at_ 38 0)))) (t_TooMany_NoDeed := (fV' (show (fV K "NoDeed" "TooMany") = true from (c.at_ 38 1)))) (t_TooMany_NoDeeds := (fV' (show (fV K "NoDeeds" "TooMany") = true from (c.at_ 38 2)))) (t_TooMany_NoHues := (fV' (show (fV K "NoHues" "TooMany") = true from (c.at_ 38 3)))) (t_TooMany_NoName := (fV' (show (fV K "NoName" "TooMany") = true from (c.at_ 38 4)))) (t_TooMany_NoOrder := (fV' (show (fV K "NoOrder" "TooMany") = true from (c.at_ 38 5)))) (t_TooMany_NoRow := (fV' (show (fV K "NoRow" "TooMany") = true from (c.at_ 38 6)))) (t_TooMany_NoRule := (fV' (show (fV K "NoRule" "TooMany") = true from (c.at_ 38 7)))) (t_TooMany_NoRules := (fV' (show (fV K "NoRules" "TooMany") = true from (c.at_ 38 8)))) (t_TooMany_NoSet := (fV' (show (fV K "NoSet" "TooMany") = true from (c.at_ 38 9)))) (t_TooMany_NoSize := (fV' (show (fV K "NoSize" "TooMany") = true from (c.at_ 38 10)))) (t_TooMany_NoText := (fV' (show (fV K "NoText" "TooMany") = true from (c.at_ 38 11)))) (t_TooMany_NoThing := (fV' (show (fV K "NoThing" "TooMany") = true from (c.at_ 38 12)))) (t_TooMany_NoWorths := (fV' (show (fV K "NoWorths" "TooMany") = true from (c.at_ 38 13)))) (t_TooMany_NotFree := (fV' (show (fV K "NotFree" "TooMany") = true from (c.at_ 38 14)))) (t_TooMany_Tied := (fV' (show (fV K "Tied" "TooMany") = true from (c.at_ 38 15)))) (t_TooMany_TooMany := (fU' (show (fU K "TooMany" "TooMany") = true from (c.at_ 38 16)))) (t_TooMany_Unlike := (fV' (show (fV K "Unlike" "TooMany") = true from (c.at_ 38 17)))) (t00_Unlike := (fT' (show (fT K "NoneType" "Unlike") = true from (c.at_ 38 18)))) (t01_Unlike := (fT' (show (fT K "bool" "Unlike") = true from (c.at_ 38 19)))) (t02_Unlike := (fT' (show (fT K "int" "Unlike") = true from (c.at_ 38 20)))) (t03_Unlike := (fT' (show (fT K "str" "Unlike") = true from (c.at_ 38 21)))) (t04_Unlike := (fT' (show (fT K "tuple" "Unlike") = true from (c.at_ 38 22)))) (t05_Unlike := (fT' (show (fT K "list" "Unlike") = true from (c.at_ 38 23)))) (t06_Unlike := (fT' (show (fT K "dict" "Unlike") = true from (c.at_ 38 24)))) (t07_Unlike := (fT' (show (fT K "set" "Unlike") = true from (c.at_ 39 0)))) (t_Unlike_Free := (fV' (show (fV K "Free" "Unlike") = true from (c.at_ 39 1)))) (t_Unlike_NoArrows := (fV' (show (fV K "NoArrows" "Unlike") = true from (c.at_ 39 2)))) (t_Unlike_NoDeed := (fV' (show (fV K "NoDeed" "Unlike") = true from (c.at_ 39 3)))) (t_Unlike_NoDeeds := (fV' (show (fV K "NoDeeds" "Unlike") = true from (c.at_ 39 4)))) (t_Unlike_NoHues := (fV' (show (fV K "NoHues" "Unlike") = true from (c.at_ 39 5)))) (t_Unlike_NoName := (fV' (show (fV K "NoName" "Unlike") = true from (c.at_ 39 6)))) (t_Unlike_NoOrder := (fV' (show (fV K "NoOrder" "Unlike") = true from (c.at_ 39 7)))) (t_Unlike_NoRow := (fV' (show (fV K "NoRow" "Unlike") = true from (c.at_ 39 8)))) (t_Unlike_NoRule := (fV' (show (fV K "NoRule" "Unlike") = true from (c.at_ 39 9)))) (t_Unlike_NoRules := (fV' (show (fV K "NoRules" "Unlike") = true from (c.at_ 39 10)))) (t_Unlike_NoSet := (fV' (show (fV K "NoSet" "Unlike") = true from (c.at_ 39 11)))) (t_Unlike_NoSize := (fV' (show (fV K "NoSize" "Unlike") = true from (c.at_ 39 12)))) (t_Unlike_NoText := (fV' (show (fV K "NoText" "Unlike") = true from (c.at_ 39 13)))) (t_Unlike_NoThing := (fV' (show (fV K "NoThing" "Unlike") = true from (c.at_ 39 14)))) (t_Unlike_NoWorths := (fV' (show (fV K "NoWorths" "Unlike") = true from (c.at_ 39 15)))) (t_Unlike_NotFree := (fV' (show (fV K "NotFree" "Unlike") = true from (c.at_ 39 16)))) (t_Unlike_Tied := (fV' (show (fV K "Tied" "Unlike") = true from (c.at_ 39 17)))) (t_Unlike_TooMany := (fV' (show (fV K "TooMany" "Unlike") = true from (c.at_ 39 18)))) (t_Unlike_Unlike := (fU' (show (fU K "Unlike" "Unlike") = true from (c.at_ 39 19)))) (tx_ArithmeticError_Free := (fE' (c.at_ 39 20))) (tx_ArithmeticError_NoArrows := (fE' (c.at_ 39 21))) (tx_ArithmeticError_NoDeed := (fE' (c.at_ 39 22))) (tx_ArithmeticError_NoDeeds := (fE' (c.at_ 39 23))) (tx_ArithmeticError_NoHues := (fE' (c.at_ 39 24))) (tx_ArithmeticError_NoName := (fE' (c.at_ 40 0))) (tx_ArithmeticError_NoOrder := (fE' (c.at_ 40 1))) (tx_ArithmeticError_NoRow := (fE' (c.at_ 40 2))) (tx_ArithmeticError_NoRule := (fE' (c.at_ 40 3))) (tx_ArithmeticError_NoRules := (fE' (c.at_ 40 4))) (tx_ArithmeticError_NoSet := (fE' (c.at_ 40 5))) (tx_ArithmeticError_NoSize := (fE' (c.at_ 40 6))) (tx_ArithmeticError_NoText := (fE' (c.at_ 40 7))) (tx_ArithmeticError_NoThing := (fE' (c.at_ 40 8))) (tx_ArithmeticError_NoWorths := (fE' (c.at_ 40 9))) (tx_ArithmeticError_NotFree := (fE' (c.at_ 40 10))) (tx_ArithmeticError_Tied := (fE' (c.at_ 40 11))) (tx_ArithmeticError_TooMany := (fE' (c.at_ 40 12))) (tx_ArithmeticError_Unlike := (fE' (c.at_ 40 13))) (tx_IndexError_Free := (fE' (c.at_ 40 14))) (tx_IndexError_NoArrows := (fE' (c.at_ 40 15))) (tx_IndexError_NoDeed := (fE' (c.at_ 40 16))) (tx_IndexError_NoDeeds := (fE' (c.at_ 40 17))) (tx_IndexError_NoHues := (fE' (c.at_ 40 18))) (tx_IndexError_NoName := (fE' (c.at_ 40 19))) (tx_IndexError_NoOrder := (fE' (c.at_ 40 20))) (tx_IndexError_NoRow := (fE' (c.at_ 40 21))) (tx_IndexError_NoRule := (fE' (c.at_ 40 22))) (tx_IndexError_NoRules := (fE' (c.at_ 40 23))) (tx_IndexError_NoSet := (fE' (c.at_ 40 24))) (tx_IndexError_NoSize := (fE' (c.at_ 41 0))) (tx_IndexError_NoText := (fE' (c.at_ 41 1))) (tx_IndexError_NoThing := (of_decide_eq_true (show (decide (PySem.W.kitOne K (.ref (He.ga K "NoThing")) (.type "IndexError") = some true)) = true from (c.at_ 41 2)))) (tx_IndexError_NoWorths := (fE' (c.at_ 41 3))) (tx_IndexError_NotFree := (fE' (c.at_ 41 4))) (tx_IndexError_Tied := (fE' (c.at_ 41 5))) (tx_IndexError_TooMany := (fE' (c.at_ 41 6))) (tx_IndexError_Unlike := (fE' (c.at_ 41 7))) (tx_KeyError_Free := (fE' (c.at_ 41 8))) (tx_KeyError_NoArrows := (fE' (c.at_ 41 9))) (tx_KeyError_NoDeed := (fE' (c.at_ 41 10))) (tx_KeyError_NoDeeds := (fE' (c.at_ 41 11))) (tx_KeyError_NoHues := (fE' (c.at_ 41 12))) (tx_KeyError_NoName := (of_decide_eq_true (show (decide (PySem.W.kitOne K (.ref (He.ga K "NoName")) (.type "KeyError") = some true)) = true from (c.at_ 41 13)))) (tx_KeyError_NoOrder := (fE' (c.at_ 41 14))) (tx_KeyError_NoRow := (fE' (c.at_ 41 15))) (tx_KeyError_NoRule := (fE' (c.at_ 41 16))) (tx_KeyError_NoRules := (fE' (c.at_ 41 17))) (tx_KeyError_NoSet := (fE' (c.at_ 41 18))) (tx_KeyError_NoSize := (fE' (c.at_ 41 19))) (tx_KeyError_NoText := (fE' (c.at_ 41 20))) (tx_KeyError_NoThing := (fE' (c.at_ 41 21))) (tx_KeyError_NoWorths := (fE' (c.at_ 41 22))) (tx_KeyError_NotFree := (fE' (c.at_ 41 23))) (tx_KeyError_Tied := (fE' (c.at_ 41 24))) (tx_KeyError_TooMany := (fE' (c.at_ 42 0))) (tx_KeyError_Unlike := (fE' (c.at_ 42 1))) (tx_LookupError_Free := (fE' (c.at_ 42 2))) (tx_LookupError_NoArrows := (fE' (c.at_ 42 3))) (tx_LookupError_NoDeed := (of_decide_eq_true (show (decide (PySem.W.kitOne K (.ref (He.ga K "NoDeed")) (.type "LookupError") = some true)) = true from (c.at_ 42 4)))) (tx_LookupError_NoDeeds := (fE' (c.at_ 42 5))) (tx_LookupError_NoHues := (fE' (c.at_ 42 6))) (tx_LookupError_NoName := (of_decide_eq_true (show (decide (PySem.W.kitOne K (.ref (He.ga K "NoName")) (.type "LookupError") = some true)) = true from (c.at_ 42 7)))) (tx_LookupError_NoOrder := (fE' (c.at_ 42 8))) (tx_LookupError_NoRow := (fE' (c.at_ 42 9))) (tx_LookupError_NoRule := (fE' (c.at_ 42 10))) (tx_LookupError_NoRules := (fE' (c.at_ 42 11))) (tx_LookupError_NoSet := (fE' (c.at_ 42 12))) (tx_LookupError_NoSize := (fE' (c.at_ 42 13))) (tx_LookupError_NoText := (fE' (c.at_ 42 14))) (tx_LookupError_NoThing := (of_decide_eq_true (show (decide (PySem.W.kitOne K (.ref (He.ga K "NoThing")) (.type "LookupError") = some true)) = true from (c.at_ 42 15)))) (tx_LookupError_NoWorths := (fE' (c.at_ 42 16))) (tx_LookupError_NotFree := (fE' (c.at_ 42 17))) (tx_LookupError_Tied := (fE' (c.at_ 42 18))) (tx_LookupError_TooMany := (fE' (c.at_ 42 19))) (tx_LookupError_Unlike := (fE' (c.at_ 42 20))) (tx_RuntimeError_Free := (fE' (c.at_ 42 21))) (tx_RuntimeError_NoArrows := (fE' (c.at_ 42 22))) (tx_RuntimeError_NoDeed := (fE' (c.at_ 42 23))) (tx_RuntimeError_NoDeeds := (fE' (c.at_ 42 24))) (tx_RuntimeError_NoHues := (fE' (c.at_ 43 0))) (tx_RuntimeError_NoName := (fE' (c.at_ 43 1))) (tx_RuntimeError_NoOrder := (fE' (c.at_ 43 2))) (tx_RuntimeError_NoRow := (fE' (c.at_ 43 3))) (tx_RuntimeError_NoRule := (fE' (c.at_ 43 4))) (tx_RuntimeError_NoRules := (fE' (c.at_ 43 5))) (tx_RuntimeError_NoSet := (fE' (c.at_ 43 6))) (tx_RuntimeError_NoSize := (fE' (c.at_ 43 7))) (tx_RuntimeError_NoText := (fE' (c.at_ 43 8))) (tx_RuntimeError_NoThing := (fE' (c.at_ 43 9))) (tx_RuntimeError_NoWorths := (fE' (c.at_ 43 10))) (tx_RuntimeError_NotFree := (fE' (c.at_ 43 11))) (tx_RuntimeError_Tied := (fE' (c.at_ 43 12))) (tx_RuntimeError_TooMany := (fE' (c.at_ 43 13))) (tx_RuntimeError_Unlike := (fE' (c.at_ 43 14))) (tx_TypeError_Free := (fE' (c.at_ 43 15))) (tx_TypeError_NoArrows := (fE' (c.at_ 43 16))) (tx_TypeError_NoDeed := (fE' (c.at_ 43 17))) (tx_TypeError_NoDeeds := (fE' (c.at_ 43 18))) (tx_TypeError_NoHues := (fE' (c.at_ 43 19))) (tx_TypeError_NoName := (fE' (c.at_ 43 20))) (tx_TypeError_NoOrder := (fE' (c.at_ 43 21))) (tx_TypeError_NoRow := (fE' (c.at_ 43 22))) (tx_TypeError_NoRule := (fE' (c.at_ 43 23))) (tx_TypeError_NoRules := (fE' (c.at_ 43 24))) (tx_TypeError_NoSet := (fE' (c.at_ 44 0))) (tx_TypeError_NoSize := (fE' (c.at_ 44 1))) (tx_TypeError_NoText := (fE' (c.at_ 44 2))) (tx_TypeError_NoThing := (fE' (c.at_ 44 3))) (tx_TypeError_NoWorths := (fE' (c.at_ 44 4))) (tx_TypeError_NotFree := (fE' (c.at_ 44 5))) (tx_TypeError_Tied := (fE' (c.at_ 44 6))) (tx_TypeError_TooMany := (fE' (c.at_ 44 7))) (tx_TypeError_Unlike := (fE' (c.at_ 44 8))) (tx_ValueError_Free := (fE' (c.at_ 44 9))) (tx_ValueError_NoArrows := (fE' (c.at_ 44 10))) (tx_ValueError_NoDeed := (fE' (c.at_ 44 11))) (tx_ValueError_NoDeeds := (fE' (c.at_ 44 12))) (tx_ValueError_NoHues := (fE' (c.at_ 44 13))) (tx_ValueError_NoName := (fE' (c.at_ 44 14))) (tx_ValueError_NoOrder := (fE' (c.at_ 44 15))) (tx_ValueError_NoRow := (fE' (c.at_ 44 16))) (tx_ValueError_NoRule := (fE' (c.at_ 44 17))) (tx_ValueError_NoRules := (fE' (c.at_ 44 18))) (tx_ValueError_NoSet := (fE' (c.at_ 44 19))) (tx_ValueError_NoSize := (fE' (c.at_ 44 20))) (tx_ValueError_NoText := (fE' (c.at_ 44 21))) (tx_ValueError_NoThing := (fE' (c.at_ 44 22))) (tx_ValueError_NoWorths := (fE' (c.at_ 44 23))) (tx_ValueError_NotFree := (fE' (c.at_ 44 24))) (tx_ValueError_Tied := (fE' (c.at_ 45 0))) (tx_ValueError_TooMany := (fE' (c.at_ 45 1))) (tx_ValueError_Unlike := (fE' (c.at_ 45 2))) (h_FreeError_Free := (of_decide_eq_true (show (decide (PySem.W.exmOne K (.ref (He.ga K "Free")) (.ref (He.ga K "FreeError")) = some true)) = true from (c.at_ 45 3)))) (h_FreeError_NoArrows := (of_decide_eq_true (show (decide (PySem.W.exmOne K (.ref (He.ga K "NoArrows")) (.ref (He.ga K "FreeError")) = some true)) = true from (c.at_ 45 4)))) (h_FreeError_NoDeed := (of_decide_eq_true (show (decide (PySem.W.exmOne K (.ref (He.ga K "NoDeed")) (.ref (He.ga K "FreeError")) = some false)) = true from (c.at_ 45 5)))) (h_FreeError_NoDeeds := (of_decide_eq_true (show (decide (PySem.W.exmOne K (.ref (He.ga K "NoDeeds")) (.ref (He.ga K "FreeError")) = some true)) = true from (c.at_ 45 6)))) (h_FreeError_NoHues := (of_decide_eq_true (show (decide (PySem.W.exmOne K (.ref (He.ga K "NoHues")) (.ref (He.ga K "FreeError")) = some true)) = true from (c.at_ 45 7)))) (h_FreeError_NoName := (of_decide_eq_true (show (decide (PySem.W.exmOne K (.ref (He.ga K "NoName")) (.ref (He.ga K "FreeError")) = some false)) = true from (c.at_ 45 8)))) (h_FreeError_NoOrder := (of_decide_eq_true (show (decide (PySem.W.exmOne K (.ref (He.ga K "NoOrder")) (.ref (He.ga K "FreeError")) = some true)) = true from (c.at_ 45 9)))) (h_FreeError_NoRow := (of_decide_eq_true (show (decide (PySem.W.exmOne K (.ref (He.ga K "NoRow")) (.ref (He.ga K "FreeError")) = some true)) = true from (c.at_ 45 10)))) (h_FreeError_NoRule := (of_decide_eq_true (show (decide (PySem.W.exmOne K (.ref (He.ga K "NoRule")) (.ref (He.ga K "FreeError")) = some true)) = true from (c.at_ 45 11)))) (h_FreeError_NoRules := (of_decide_eq_true (show (decide (PySem.W.exmOne K (.ref (He.ga K "NoRules")) (.ref (He.ga K "FreeError")) = some true)) = true from (c.at_ 45 12)))) (h_FreeError_NoSet := (of_decide_eq_true (show (decide (PySem.W.exmOne K (.ref (He.ga K "NoSet")) (.ref (He.ga K "FreeError")) = some true)) = true from (c.at_ 45 13)))) (h_FreeError_NoSize := (of_decide_eq_true (show (decide (PySem.W.exmOne K (.ref (He.ga K "NoSize")) (.ref (He.ga K "FreeError")) = some true)) = true from (c.at_ 45 14)))) (h_FreeError_NoText := (of_decide_eq_true (show (decide (PySem.W.exmOne K (.ref (He.ga K "NoText")) (.ref (He.ga K "FreeError")) = some true)) = true from (c.at_ 45 15)))) (h_FreeError_NoThing := (of_decide_eq_true (show (decide (PySem.W.exmOne K (.ref (He.ga K "NoThing")) (.ref (He.ga K "FreeError")) = some false)) = true from (c.at_ 45 16)))) (h_FreeError_NoWorths := (of_decide_eq_true (show (decide (PySem.W.exmOne K (.ref (He.ga K "NoWorths")) (.ref (He.ga K "FreeError")) = some true)) = true from (c.at_ 45 17)))) (h_FreeError_NotFree := (of_decide_eq_true (show (decide (PySem.W.exmOne K (.ref (He.ga K "NotFree")) (.ref (He.ga K "FreeError")) = some true)) = true from (c.at_ 45 18)))) (h_FreeError_Tied := (of_decide_eq_true (show (decide (PySem.W.exmOne K (.ref (He.ga K "Tied")) (.ref (He.ga K "FreeError")) = some true)) = true from (c.at_ 45 19)))) (h_FreeError_TooMany := (of_decide_eq_true (show (decide (PySem.W.exmOne K (.ref (He.ga K "TooMany")) (.ref (He.ga K "FreeError")) = some true)) = true from (c.at_ 45 20)))) (h_FreeError_Unlike := (of_decide_eq_true (show (decide (PySem.W.exmOne K (.ref (He.ga K "Unlike")) (.ref (He.ga K "FreeError")) = some true)) = true from (c.at_ 45 21)))) (z_ArithmeticError := (fG' (c.at_ 45 22))) (z_IndexError := (fG' (c.at_ 45 23))) (z_KeyError := (fG' (c.at_ 45 24))) (z_LookupError := (fG' (c.at_ 46 0))) (z_RuntimeError := (fG' (c.at_ 46 1))) (z_TypeError := (fG' (c.at_ 46 2))) (z_ValueError := (fG' (c.at_ 46 3))) (z_enumerate := (fG' (c.at_ 46 4))) (z_isinstance := (fG' (c.at_ 46 5))) (z_len := (fG' (c.at_ 46 6))) (z_max := (fG' (c.at_ 46 7))) (z_range := (fG' (c.at_ 46 8))) (z_set := (fG' (c.at_ 46 9))) (z_sorted := (fG' (c.at_ 46 10))) (z_tuple := (fG' (c.at_ 46 11)))
end K02
open PySem PySem.W PyProof.Rows in
set_option maxRecDepth 100000 in
set_option maxHeartbeats 0 in
theorem PySem.Challenge.cw_twofree_k02_refusals_made_holds : PySem.Challenge.rw_twofree_k02_refusals_made.Holds := by
 w_on; o_law
 refine HandSHeadRun.head_any (r := OpenLaw.row PySem.Challenge.rw_twofree_k02_refusals_made) (q := view (OpenLaw.row PySem.Challenge.rw_twofree_k02_refusals_made).prog [28]) (H := K02.hk) (ob := K02.ob) (M := 60000) (loose := K02.loose) (d := HandSHeadRun.topDef (OpenLaw.row PySem.Challenge.rw_twofree_k02_refusals_made).prog 28) (kwd := []) K02.oZ
  (by kernel_rfl) (fun s => by kernel_rfl) K02.runE (by kernel_rfl) (by kernel_rfl) (by kernel_rfl) (by rfl) (by first | assumption | decide +kernel) (by decide +kernel) ⟨rfl, rfl, rfl, rfl, rfl, by decide +kernel⟩ ?hw ?hc
 case hw => w_witness2
 case hc =>
  refine Z.mD (l := PySem.Challenge.rw_twofree_k02_refusals_made) (n := 63) (k := 4) (x := "_law_script") rfl (by decide) (by kernel_rfl) ⟨rfl, by decide, by decide⟩ (by decide +kernel) ?F
  intro w mg fa h Y G hmg0
  obtain ⟨K, KX, c⟩ := Y
  have hmg : mg ("law" : PySem.Str) = some (.ref fa) := by
   have e : (HandSHeadRun.topDef (OpenLaw.row PySem.Challenge.rw_twofree_k02_refusals_made).prog 28).name = ("law" : PySem.Str) := by kernel_rfl
   rw [← e]
   exact hmg0
  exact ⟨K, KX, K02.nW KX G hmg c⟩
#print axioms PySem.Challenge.cw_twofree_k02_refusals_made_holds
