import PyProof.Rows.All
import Wide.All
import OpenK.AllK
import Wide.FinOn
import HandS.Dict
import KE.KeyNested
import HandS.ForMost
import HandS.ForExc
import HandS.CallSlots
import HandS.Defaults
import HandS.HeadHook2
import HandS.ExcCtx
import HandS.IsInst
import HandS.SortInts
import HandS.Wide
import HandS.WideBits
import HandS.More
import HandS.TupAny
import HandS.Deep
import HandS.Zip
import HandS.Iter
import HandS.Lambda
import KE.GoesEnum
import HandS.SetFor
import HandS.Strs
import HandS.Comp
import HandS.HotCalls
import HandS.Set
import HandS.Style
import HandS.Text
import HandS.TupSets
import HandS.Conv
import HandS.Zip0
import HandS.TupLe
import HandS.ExcInit
import HandS.ExcOwn
import HandS.ExcValue
import HandS.ExcField
import KE.KExcIs
import KE.KIsAll
import KE.SortData
import KE.KDictSum
import HandS.TupMul
import KE.DataCmp
import KE.DataMinMax
import KE.KDictDisplayH
import KE.KDictCopyH
import HandS.Rev
import HandS.SortKw
import KE.SortKeyHeap
import KE.KDictWalk
import HandS.Codes
import KE.KMinKey
import KE.DataMinKey
import HandS.HeadHook3
import HandS.JoinGen
import PyProof.StrOps2
import KE.OsArith
import HandS.Base
import HandS.Call
import HandS.Ends
import HandS.Words
import HandS.WordsExc
import HandS.Head0
import HandS.Head1
import HandS.Head2
import HandS.HeadEnd
import HandS.HeadHook1
import KE.KStateDown
import Lean
import PySem.Challenge.RW_badbegins_k08_refusals_made_by_hand
set_option Elab.async false
set_option linter.all false
set_option maxRecDepth 100000
set_option maxHeartbeats 4000000
set_option autoImplicit false
set_option Elab.async false
set_option linter.all false
set_option maxRecDepth 100000
set_option maxHeartbeats 0
section
namespace PD
open PySem L2
mutual
def eqK : PyData → PyData → Bool
  | .int i, .int j => decide (i = j)
  | .str x, .str y => decide (x = y)
  | .tuple xs, .tuple ys => eqKs xs ys
  | _, _ => false
def eqKs : List PyData → List PyData → Bool
  | [], [] => true
  | x :: xs, y :: ys => eqK x y && eqKs xs ys
  | _, _ => false
end
end PD
namespace PD
open PySem L2
def getD (kvs : List (PyData × PyData)) (k : PyData) : Option PyData := (kvs.find? fun z => eqK z.1 k).map (·.2)
end PD
namespace PD
open PySem PySem.Spec L2
open PyProof.Rows (AllBare)
def exIs (c d : Str) : Bool := decide (c = d) || (decide (d = "HuntError") || decide (d = "ValueError"))
end PD
namespace PD
open PySem PySem.Spec L2
open PyProof.Rows (AllBare)
def xfb (K : PySem.W.Frag) (c : Str) : Bool :=
  (PySem.W.clsIn K (He.ga K c)).isSome && (decide (PySem.W.findIn K (.ref (He.ga K c)) "__getattribute__" = some (some (.builtin "BaseException.__getattribute__"))) &&
    (decide (PySem.W.findIn K (.ref (He.ga K c)) "__getattr__" = some none) && (decide (PySem.W.subIn K (.ref (He.ga K c)) (.type "BaseException") = some true) &&
      (PySem.W.hasDictIn K (He.ga K c) && (decide (PySem.W.findIn K (.ref (He.ga K c)) "__class__" = some (some (.builtin "object.__class__"))) &&
        (decide (PySem.W.specialIn K (.builtin "object.__class__") "__get__" = some (some (.builtin "getset_descriptor.__get__"))) &&
          (decide (PySem.W.takesIn K (.builtin "object.__class__") = some true) && (decide (PySem.W.mroIn K (He.ga K c) (.type "object") = some true) && decide (PySem.W.typeIn K (.ref (He.ga K c)) = some (.type "type"))))))))))
end PD
namespace PD
open PySem PySem.Spec L2
open PyProof.Rows (AllBare)
def clU (K : PySem.W.Frag) (d : Str) : Value := if d = "ValueError" then .type "ValueError" else .ref (He.ga K d)
end PD
namespace PD
open PySem PySem.Spec L2
open PyProof.Rows (AllBare)
def kitF (K : PySem.W.Frag) (xs : List Str) (d : Str) : Bool := decide (PySem.W.kitOne K (.type "NoneType") (clU K d) = some false) && xs.all fun c => decide (PySem.W.kitOne K (.ref (He.ga K c)) (clU K d) = some (exIs c d))
end PD
namespace PD
open PySem PySem.Spec L2
open PyProof.Rows (AllBare)
def exmF (K : PySem.W.Frag) (xs : List Str) (d : Str) : Bool := xs.all fun c => decide (PySem.W.exmOne K (.ref (He.ga K c)) (.ref (He.ga K d)) = some (exIs c d))
end PD
namespace PD
open PySem PySem.Spec L2
open PyProof.Rows (AllBare)
def xallB (K : PySem.W.Frag) (xs ds hs fs : List Str) : Bool := (xs.all (xfb K)) && ((ds.all (kitF K xs)) && ((hs.all (exmF K xs)) && (xs.all fun c => fs.all fun f => decide (PySem.W.findIn K (.ref (He.ga K c)) f = some none))))
end PD
namespace PD
open PySem PySem.Spec L2
def huntB (K : PySem.W.Frag) : Bool := PySem.W.readsIn K (He.ga K "HuntError") (.type "type") && (decide (PySem.W.specialIn K (.ref (He.ga K "HuntError")) "__getattribute__" = some (some (.builtin "type.__getattribute__"))) &&
  (match PySem.W.findCls K (.ref (He.ga K "HuntError")) (.type "type") "__init__" with
    | some (.val (.builtin n)) => decide (n = "ValueError.__init__")
    | _ => false))
end PD
namespace PD
open PySem PySem.Spec L2
def oexB (K : PySem.W.Frag) (C : Addr) : Bool := (match K.lookup C with
  | some ⟨.type "type", _, .cls cd, sl⟩ => (match cd.mro, sl.toList with
    | .ref C' :: bm, [_, _, _, _, some (.builtin n), _] => C' == C && (n == "ValueError.__new__" && (!cd.hasDel && (cd.hasDict && PySem.HandSPX.refsVE bm)))
    | _, _ => false)
  | _ => false) && (decide (PySem.W.findIn K (.ref C) "__setattr__" = some (some (.builtin "object.__setattr__"))) && (decide (PySem.W.subIn K (.ref C) (.type "BaseException") = some true) && (decide (PySem.W.typeIn K (.ref C) = some (.type "type")) && PySem.W.keepIn K (.ref C))))
end PD
namespace PD
open PySem PySem.Spec L2
def isInit : Stmt → Bool
  | .FunctionDef n _ _ _ _ _ _ _ _ _ => decide (n = "__init__")
  | _ => false
end PD
namespace PD
open PySem PySem.Spec L2
def clsInit : Stmt → Stmt
  | .ClassDef _ _ _ body _ _ _ _ _ _ _ => (body.find? isInit).getD (.Pass ⟨0, 0, 0, 0⟩)
  | s => s
end PD
namespace PD
open PySem PySem.Spec L2
def iniB (K : PySem.W.Frag) (c : Str) : Bool := oexB K (He.ga K c) && (decide (PySem.W.findIn K (.ref (He.ga K c)) "__init__" = some (some (.ref (He.fAd K (c, some "__init__"))))) && decide (PySem.W.typeIn K (.ref (He.fAd K (c, some "__init__"))) = some (.type "function")))
end PD
namespace PD
open PySem PySem.Spec L2
def obsX (fx : List (PySem.W.Frag → Bool)) (fa : List He.Fa) (fn : List He.DefD) (K : PySem.W.Frag) : He.AlD := ((fx.all fun f => f K) && (He.obsD fa fn K).1, (He.obsD fa fn K).2)
end PD
namespace PD
open PySem PySem.Spec L2
def SaysX (fx : List (PySem.W.Frag → Bool)) (fa : List He.Fa) (fn : List He.DefD) (K : PySem.W.Frag) : Prop := obsX fx fa fn K = He.valD fn
end PD
namespace PD
open PySem PySem.Spec L2
def obsXG (n : Nat) (fx : List (PySem.W.Frag → Bool)) (fa : List He.Fa) (fn : List He.DefD) (g : Addr → Option Obj) : He.AlD := obsX fx fa fn (He.frG g (He.asD g n ++ [PySem.cStatics]))
end PD
namespace PD
open PySem PySem.Spec L2
def hookX (n : Nat) (fx : List (PySem.W.Frag → Bool)) (fa : List He.Fa) (fn : List He.DefD) : PySem.W.Hook where
  α := He.AlD
  obs := fun s => obsXG n fx fa fn s.heap.get?
  val := fun _ => He.valD fn
  says := fun _ h => ∃ K : PySem.W.Frag, K.In h ∧ SaysX fx fa fn K
  of := fun _ _ e => ⟨_, He.frG_in, e⟩
  keeps := fun _ _ _ ⟨K, hK, c⟩ k => ⟨K, PySem.W.Frag.In.keeps hK k, c⟩
end PD
namespace PD
open PySem PySem.Spec L2
def exc0B (K : PySem.W.Frag) (c : Str) : Bool := PySem.W.excIn K (He.ga K c) [.type "ValueError", .type "Exception", .type "BaseException", .type "object"] "ValueError.__new__" && oexB K (He.ga K c)
end PD
namespace PDW
open PySem PySem.Spec PyProof.Rows L2 PD
def top (i : Nat) : Stmt := PySem.Challenge.pw_badbegins_k08_refusals_made_by_hand.main.body.getD i (.Pass ⟨0, 0, 0, 0⟩)
end PDW
namespace PDW
open PySem PySem.Spec PyProof.Rows L2 PD
def dd0 : He.DefD := ⟨("law", none), "law", "law", defArgs (top 26), defBody (top 26), defScope (top 26), [], []⟩
end PDW
namespace PDW
open PySem PySem.Spec PyProof.Rows L2 PD
def dd1 : He.DefD := ⟨("_law_feed", none), "_law_feed", "_law_feed", defArgs (top 15), defBody (top 15), defScope (top 15), [], []⟩
end PDW
namespace PDW
open PySem PySem.Spec PyProof.Rows L2 PD
def dd2 : He.DefD := ⟨("_law_number", none), "_law_number", "_law_number", defArgs (top 17), defBody (top 17), defScope (top 17), [], []⟩
end PDW
namespace PDW
open PySem PySem.Spec PyProof.Rows L2 PD
def dd3 : He.DefD := ⟨("_law_take", none), "_law_take", "_law_take", defArgs (top 16), defBody (top 16), defScope (top 16), [], []⟩
end PDW
namespace PDW
open PySem PySem.Spec PyProof.Rows L2 PD
def dd4 : He.DefD := ⟨("_law_text", none), "_law_text", "_law_text", defArgs (top 18), defBody (top 18), defScope (top 18), [], []⟩
end PDW
namespace PDW
open PySem PySem.Spec PyProof.Rows L2 PD
def dd5 : He.DefD := ⟨("_law_rows", none), "_law_rows", "_law_rows", defArgs (top 19), defBody (top 19), defScope (top 19), [], []⟩
end PDW
namespace PDW
open PySem PySem.Spec PyProof.Rows L2 PD
def dd6 : He.DefD := ⟨("_law_one_field", none), "_law_one_field", "_law_one_field", defArgs (top 23), defBody (top 23), defScope (top 23), [], []⟩
end PDW
namespace PDW
open PySem PySem.Spec PyProof.Rows L2 PD
def dd7 : He.DefD := ⟨("_law_own", none), "_law_own", "_law_own", defArgs (top 22), defBody (top 22), defScope (top 22), [], []⟩
end PDW
namespace PDW
open PySem PySem.Spec PyProof.Rows L2 PD
def dd8 : He.DefD := ⟨("_law_kinds", none), "_law_kinds", "_law_kinds", defArgs (top 21), defBody (top 21), defScope (top 21), [], []⟩
end PDW
namespace PDW
open PySem PySem.Spec PyProof.Rows L2 PD
def dd9 : He.DefD := ⟨("_law_two_fields", none), "_law_two_fields", "_law_two_fields", defArgs (top 24), defBody (top 24), defScope (top 24), [], []⟩
end PDW
namespace PDW
open PySem PySem.Spec PyProof.Rows L2 PD
def dd10 : He.DefD := ⟨("_law_path", none), "_law_path", "_law_path", defArgs (top 20), defBody (top 20), defScope (top 20), [], []⟩
end PDW
namespace PDW
open PySem PySem.Spec PyProof.Rows L2 PD
def dd11 : He.DefD := ⟨("_law_caught", none), "_law_caught", "_law_caught", defArgs (top 25), defBody (top 25), defScope (top 25), [], []⟩
end PDW
namespace PDW
open PySem PySem.Spec PyProof.Rows L2 PD
def dd12 : He.DefD := ⟨("NoNet", some "__init__"), "__init__", "NoNet.__init__", defArgs (clsInit (top 2)), defBody (clsInit (top 2)), defScope (clsInit (top 2)), [], []⟩
end PDW
namespace PDW
open PySem PySem.Spec PyProof.Rows L2 PD
def dd13 : He.DefD := ⟨("NoOrder", some "__init__"), "__init__", "NoOrder.__init__", defArgs (clsInit (top 3)), defBody (clsInit (top 3)), defScope (clsInit (top 3)), [], []⟩
end PDW
namespace PDW
open PySem PySem.Spec PyProof.Rows L2 PD
def dd14 : He.DefD := ⟨("NoMake", some "__init__"), "__init__", "NoMake.__init__", defArgs (clsInit (top 4)), defBody (clsInit (top 4)), defScope (clsInit (top 4)), [], []⟩
end PDW
namespace PDW
open PySem PySem.Spec PyProof.Rows L2 PD
def dd15 : He.DefD := ⟨("NoTrial", some "__init__"), "__init__", "NoTrial.__init__", defArgs (clsInit (top 5)), defBody (clsInit (top 5)), defScope (clsInit (top 5)), [], []⟩
end PDW
namespace PDW
open PySem PySem.Spec PyProof.Rows L2 PD
def dd16 : He.DefD := ⟨("NoTruth", some "__init__"), "__init__", "NoTruth.__init__", defArgs (clsInit (top 6)), defBody (clsInit (top 6)), defScope (clsInit (top 6)), [], []⟩
end PDW
namespace PDW
open PySem PySem.Spec PyProof.Rows L2 PD
def dd17 : He.DefD := ⟨("TooGreat", some "__init__"), "__init__", "TooGreat.__init__", defArgs (clsInit (top 9)), defBody (clsInit (top 9)), defScope (clsInit (top 9)), [], []⟩
end PDW
namespace PDW
open PySem PySem.Spec PyProof.Rows L2 PD
def dd18 : He.DefD := ⟨("NoText", some "__init__"), "__init__", "NoText.__init__", defArgs (clsInit (top 10)), defBody (clsInit (top 10)), defScope (clsInit (top 10)), [], []⟩
end PDW
namespace PDW
open PySem PySem.Spec PyProof.Rows L2 PD
def dd19 : He.DefD := ⟨("NoName", some "__init__"), "__init__", "NoName.__init__", defArgs (clsInit (top 11)), defBody (clsInit (top 11)), defScope (clsInit (top 11)), [], []⟩
end PDW
namespace PDW
open PySem PySem.Spec PyProof.Rows L2 PD
def dd20 : He.DefD := ⟨("NoPlan", some "__init__"), "__init__", "NoPlan.__init__", defArgs (clsInit (top 7)), defBody (clsInit (top 7)), defScope (clsInit (top 7)), [], []⟩
end PDW
namespace PDW
open PySem PySem.Spec PyProof.Rows L2 PD
def dd21 : He.DefD := ⟨("NoBook", some "__init__"), "__init__", "NoBook.__init__", defArgs (clsInit (top 8)), defBody (clsInit (top 8)), defScope (clsInit (top 8)), [], []⟩
end PDW
namespace PDW
open PySem PySem.Spec PyProof.Rows L2 PD
def fnD : List He.DefD := [dd0, dd1, dd2, dd3, dd4, dd5, dd6, dd7, dd8, dd9, dd10, dd11, dd12, dd13, dd14, dd15, dd16, dd17, dd18, dd19, dd20, dd21]
end PDW
namespace PDW
open PySem PySem.Spec PyProof.Rows L2 PD
def faD : List He.Fa := ([.glo "law", .glo "_law_feed", .glo "_law_number", .glo "_law_take", .glo "_law_text", .glo "_law_rows", .glo "_law_one_field", .glo "_law_own", .glo "_law_kinds", .glo "_law_two_fields", .glo "_law_path", .glo "_law_caught"] : List He.Fa) ++ ([.free "list", .free "range", .free "isinstance", .free "ValueError", .free "tuple", .glo "NoBook", .glo "NoMake", .glo "NoName", .glo "NoNet", .glo "NoOrder", .glo "NoPlan", .glo "NoRow"] : List He.Fa) ++ ([.glo "NoText", .glo "NoTrial", .glo "NoTruth", .glo "NothingTold", .glo "TooGreat", .glo "HuntError"] : List He.Fa)
end PDW
namespace PDW
open PySem PySem.Spec PyProof.Rows L2 PD
def fxD : List (PySem.W.Frag → Bool) := [fun K => PD.xallB K ["NoBook", "NoMake", "NoName", "NoNet", "NoOrder", "NoPlan", "NoRow", "NoText", "NoTrial", "NoTruth", "NothingTold", "TooGreat"] ["HuntError", "NoBook", "NoMake", "NoName", "NoNet", "NoOrder", "NoPlan", "NoRow", "NoText", "NoTrial", "NoTruth", "NothingTold", "TooGreat", "ValueError"] ["HuntError", "NoBook"] ["make", "many", "name", "path", "place", "row", "rows", "word"], PD.huntB, fun K => PD.iniB K "NoNet", fun K => PD.iniB K "NoOrder", fun K => PD.iniB K "NoMake", fun K => PD.iniB K "NoTrial", fun K => PD.iniB K "NoTruth", fun K => PD.iniB K "TooGreat", fun K => PD.iniB K "NoText", fun K => PD.iniB K "NoName", fun K => PD.iniB K "NoPlan", fun K => PD.iniB K "NoBook", fun K => PD.exc0B K "NothingTold", fun K => PD.exc0B K "NoRow"]
end PDW
namespace PDW
open PySem PySem.Spec PyProof.Rows L2 PD
abbrev RR : PySem.W.OpenRow := PySem.W.OpenLaw.row PySem.Challenge.rw_badbegins_k08_refusals_made_by_hand
end PDW
namespace PDW
open PySem PySem.Spec PyProof.Rows L2 PD
abbrev hkD : PySem.W.Hook := PD.hookX 4 fxD faD fnD
end PDW
namespace PDW
open PySem PySem.Spec PyProof.Rows L2 PD
def obD (z : PySem.W.SharedT) : He.AlD := PD.obsXG 4 fxD faD fnD (HandSHeadRun.getT z)
end PDW
namespace PDW
open PySem PySem.Spec PyProof.Rows L2 PD
def looseD : List Str := (["HuntError", "NoNet", "NoOrder", "NoMake", "NoTrial", "NoTruth", "NoPlan", "NoBook", "TooGreat", "NoText", "NoName", "NothingTold"] : List Str) ++ (["NoRow", "_law_feed", "_law_take", "_law_number", "_law_text", "_law_rows", "_law_path", "_law_kinds", "_law_own", "_law_one_field", "_law_two_fields", "_law_caught"] : List Str)
end PDW
namespace PDW
open PySem PySem.Spec PyProof.Rows L2 PD
theorem runD (w : World) : HandSHeadRun.RunEq RR (PySem.W.view RR.prog [26]) hkD obD 4000 looseD w := by
  intro os
  kernel_rfl
end PDW
end
namespace PD
open PySem PySem.Spec L2
open PyProof.Rows hiding St
mutual
def nkD : PyData → Option NestedKey
  | .none => some .none
  | .bool b => some (.num (if b then 1 else 0))
  | .int i => some (.num i)
  | .tuple xs => (nkDs xs).map .tup
  | _ => none
def nkDs : List PyData → Option (List NestedKey)
  | [] => some []
  | x :: xs => match nkD x with
    | some k => (nkDs xs).map (k :: ·)
    | none => none
end
mutual
def noT : NestedKey → Bool
  | .text _ => false
  | .tup ks => noTs ks
  | _ => true
def noTs : List NestedKey → Bool
  | [] => true
  | k :: ks => noT k && noTs ks
end
def NdP (a : Addr) (rs : List (NestedKey × Addr × V)) : Heap → Prop := fun h => rs.length ≤ sizeLine ∧ (a == sysModules) = false ∧ (∀ r ∈ rs, noT r.1 = true) ∧
  ∃ (w' : World) (xs : List (NestedKey × Addr × Value)) (o : Obj) (es : Array DictEntry) (ep : Nat), Paired (fun (p : NestedKey × Addr × V) (q : NestedKey × Addr × Value) => p.1 = q.1 ∧ p.2.1 = q.2.1 ∧ RelV p.2.2 q.2.2) rs xs ∧
    h.get? a = some o ∧ o.ExactDict ∧ o.data = .dict es ep ∧ es.toList = xs.map (fun x => (⟨x.1.hash w', .ref x.2.1, x.2.2⟩ : DictEntry)) ∧ (xs.map (·.1)).Nodup
def NdO (a : Addr) (rs : List (NestedKey × Addr × V)) : HO := .ext (NdP a rs)
def ndGet (rs : List (NestedKey × Addr × V)) (k : NestedKey) : Option V := (rs.find? fun r => decide (r.1 = k)).map (·.2.2)
def ndPut (rs : List (NestedKey × Addr × V)) (k : NestedKey) (b : Addr) (v : V) : List (NestedKey × Addr × V) := if rs.any (fun r => decide (r.1 = k)) then rs.map (fun r => if r.1 = k then (r.1, r.2.1, v) else r) else rs ++ [(k, b, v)]
section
variable {X : Cx} {pins : List (Addr × Obj)} {σ : St} {H : Hp} {s : Shared} {a b : Addr} {A : Around} {E : Value → Shared → Prop} {rs : List (NestedKey × Addr × V)} {k : NestedKey} {v : V} {r : Value}
end
end PD
set_option Elab.async false
set_option linter.all false
set_option maxRecDepth 100000
set_option maxHeartbeats 4000000
namespace PD
open PySem L2
abbrev Rg := Addr → HO → Prop
def LsR (K : PySem.W.Frag) (G : Rg) (a : Addr) (xs : List V) : Prop :=
  G a (.lst xs) ∨ (∃ o, G a (.frz o (.lst xs))) ∨ SqL K (fun _ => none) a xs
def keyD : Key → PyData
  | .inl i => .int i
  | .inr x => .str x
inductive Dk where
  | k
  | t
  | n
def encK (ks : List PyData) : List PyData := PyData.none :: ks.flatMap fun d => [d, .none]
def encV (rs : List (NestedKey × Addr × V)) : List V := V.non :: rs.flatMap fun r => [r.2.2, .ref r.2.1]
def DcO : Dk → Addr → HO → List PyData → List V → Prop
  | .k, _, o, ks, vs => ∃ kvs : List (Key × V), o = .dK kvs ∧ ks = kvs.map (fun z => keyD z.1) ∧ vs = kvs.map (·.2)
  | .t, _, o, ks, vs => ∃ kvs : List (List Key × V), o = .dT kvs ∧ ks = kvs.map (fun z => .tuple (z.1.map keyD)) ∧ vs = kvs.map (·.2)
  | .n, a, o, ks, vs => ∃ (rs : List (NestedKey × Addr × V)) (kds : List PyData), o = NdO a rs ∧ kds.map nkD = rs.map (fun r => some r.1) ∧ (∀ r ∈ rs, r.1.depth ≤ 8) ∧ ks = encK kds ∧ vs = encV rs
def XvO (K : PySem.W.Frag) (nm : Str) (d : Option Addr) (a : Addr) : HO :=
  .ext fun h => ∃ (oe : Obj) (vs : Array Value), h.get? a = some oe ∧ Zc (.ref (He.ga K nm)) d oe ∧ oe.data = .fields vs ∧ vs[2]? = some .none
abbrev inD (nm : Str) (flds : List (Str × PyData)) : PyData := .dict ((.bool true, .str nm) :: flds.map fun z => (PyData.str z.1, z.2))
def dkD : Dk → PyData
  | .k => .int 0
  | .t => .int 1
  | .n => .int 2
abbrev udD (t : Dk) (kvs : List (PyData × PyData)) : PyData := .dict ((.bool false, dkD t) :: kvs)
abbrev xcD (nm : Str) (flds : List (Str × PyData)) : PyData := .dict ((.none, .str nm) :: flds.map fun z => (PyData.str z.1, z.2))
mutual
inductive Dn (K : PySem.W.Frag) (G : Rg) (H : Hp) : V → PyData → Prop
  | non : Dn K G H .non .none
  | bl (b : Bool) : Dn K G H (.bl b) (.bool b)
  | int (i : Int) : Dn K G H (.int i) (.int i)
  | str (x : Str) : Dn K G H (.str x) (.str x)
  | lst {a : Addr} {xs : List V} {ds : List PyData} : LsR K G a xs → DnA K G H xs ds → Dn K G H (.ref a) (.list ds)
  | tup {a : Addr} {xs : List V} {ds : List PyData} : H a = some (.tup xs) → DnA K G H xs ds → Dn K G H (.ref a) (.tuple ds)
  | dct {a : Addr} {o : HO} {t : Dk} {vs : List V} {kvs : List (PyData × PyData)} : (∃ ob, G a (.frz ob o)) → DcO t a o (kvs.map (·.1)) vs → DnA K G H vs (kvs.map (·.2)) → Dn K G H (.ref a) (.dict kvs)
  | exc {a dd : Addr} {nm : Str} {fs : List (Str × V)} {flds : List (Str × PyData)} : G a (XvO K nm (some dd) a) → G dd (.xd fs) → fs.map (·.1) = flds.map (·.1) → DnA K G H (fs.map (·.2)) (flds.map (·.2)) → Dn K G H (.ref a) (xcD nm flds)
  | exc0 {a : Addr} {nm : Str} : G a (XvO K nm none a) → Dn K G H (.ref a) (xcD nm [])
  | ins {a dx : Addr} {nm : Str} {fs : List (Str × V)} {flds : List (Str × PyData)} : G a (.ins (He.ga K nm) dx fs) → G dx (.own a) → fs.map (·.1) = flds.map (·.1) → DnA K G H (fs.map (·.2)) (flds.map (·.2)) → Dn K G H (.ref a) (inD nm flds)
  | dcu {a : Addr} {o : HO} {t : Dk} {vs : List V} {kvs : List (PyData × PyData)} : G a o → DcO t a o (kvs.map (·.1)) vs → DnA K G H vs (kvs.map (·.2)) → Dn K G H (.ref a) (udD t kvs)
inductive DnA (K : PySem.W.Frag) (G : Rg) (H : Hp) : List V → List PyData → Prop
  | nil : DnA K G H [] []
  | cons {v : V} {vs : List V} {d : PyData} {ds : List PyData} : Dn K G H v d → DnA K G H vs ds → DnA K G H (v :: vs) (d :: ds)
end
def TupLe (H H' : Hp) : Prop := ∀ a xs, H a = some (.tup xs) → H' a = some (.tup xs)
theorem TupLe.rf (H : Hp) : TupLe H H := fun _ _ h => h
theorem TupLe.tr {H H1 H2 : Hp} (a : TupLe H H1) (b : TupLe H1 H2) : TupLe H H2 := fun c xs h => b c xs (a c xs h)
def RgLe (G G' : Rg) : Prop := ∀ a o, G a o → G' a o
theorem LsR.mono {K : PySem.W.Frag} {G G' : Rg} {a : Addr} {xs : List V} (h : LsR K G a xs) (g : RgLe G G') : LsR K G' a xs := by
  rcases h with h | ⟨o, h⟩ | h
  · exact .inl (g _ _ h)
  · exact .inr (.inl ⟨o, g _ _ h⟩)
  · exact .inr (.inr h)
mutual
theorem Dn.mono {K : PySem.W.Frag} {G G' : Rg} {H H' : Hp} (g : RgLe G G') (t : TupLe H H') : ∀ {v : V} {d : PyData}, Dn K G H v d → Dn K G' H' v d
  | _, _, .non => .non
  | _, _, .bl b => .bl b
  | _, _, .int i => .int i
  | _, _, .str x => .str x
  | _, _, .lst h a => .lst (h.mono g) (DnA.mono g t a)
  | _, _, .tup h a => .tup (t _ _ h) (DnA.mono g t a)
  | _, _, .dct h c a => .dct (h.imp fun _ z => g _ _ z) c (DnA.mono g t a)
  | _, _, .exc h1 h2 e a => .exc (g _ _ h1) (g _ _ h2) e (DnA.mono g t a)
  | _, _, .exc0 h => .exc0 (g _ _ h)
  | _, _, .ins h1 h2 e a => .ins (g _ _ h1) (g _ _ h2) e (DnA.mono g t a)
  | _, _, .dcu h c a => .dcu (g _ _ h) c (DnA.mono g t a)
theorem DnA.mono {K : PySem.W.Frag} {G G' : Rg} {H H' : Hp} (g : RgLe G G') (t : TupLe H H') : ∀ {vs : List V} {ds : List PyData}, DnA K G H vs ds → DnA K G' H' vs ds
  | _, _, .nil => .nil
  | _, _, .cons h a => .cons (Dn.mono g t h) (DnA.mono g t a)
end
def flat : PyData → Bool
  | .none => true
  | .bool _ => true
  | .int _ => true
  | .str _ => true
  | .tuple xs => flatA xs
  | _ => false
where flatA : List PyData → Bool
  | [] => true
  | d :: ds => flat d && flatA ds
mutual
theorem Dn.free {K : PySem.W.Frag} {G G' : Rg} {H : Hp} : ∀ {v : V} {d : PyData}, Dn K G H v d → flat d = true → Dn K G' H v d
  | _, _, .non, _ => .non
  | _, _, .bl b, _ => .bl b
  | _, _, .int i, _ => .int i
  | _, _, .str x, _ => .str x
  | _, _, .lst _ _, h => by simp [flat] at h
  | _, _, .tup h a, f => .tup h (DnA.free a (by simpa [flat] using f))
  | _, _, .dct _ _ _, h => by simp [flat] at h
  | _, _, .exc _ _ _ _, h => by simp [flat] at h
  | _, _, .exc0 _, h => by simp [flat] at h
  | _, _, .ins _ _ _ _, h => by simp [flat] at h
  | _, _, .dcu _ _ _, h => by simp [flat] at h
theorem DnA.free {K : PySem.W.Frag} {G G' : Rg} {H : Hp} : ∀ {vs : List V} {ds : List PyData}, DnA K G H vs ds → flat.flatA ds = true → DnA K G' H vs ds
  | _, _, .nil, _ => .nil
  | _, _, .cons h a, f => by
    simp only [flat.flatA, Bool.and_eq_true] at f
    exact .cons (Dn.free h f.1) (DnA.free a f.2)
end
theorem DnA.length {K : PySem.W.Frag} {G : Rg} {H : Hp} : ∀ {vs : List V} {ds : List PyData}, DnA K G H vs ds → vs.length = ds.length
  | _, _, .nil => rfl
  | _, _, .cons _ a => by simp [a.length]
theorem DnA.get {K : PySem.W.Frag} {G : Rg} {H : Hp} : ∀ {vs : List V} {ds : List PyData} {i : Nat} {v : V}, DnA K G H vs ds → vs[i]? = some v → ∃ d, ds[i]? = some d ∧ Dn K G H v d
  | _, _, _, _, .nil, e => by simp at e
  | _, _, 0, _, .cons h _, e => by simp at e; subst e; exact ⟨_, rfl, h⟩
  | _, _, i + 1, v, .cons _ a, e => by
    obtain ⟨d, h1, h2⟩ := DnA.get (i := i) (v := v) a (by simpa using e)
    exact ⟨d, by simpa using h1, h2⟩
theorem DnA.get' {K : PySem.W.Frag} {G : Rg} {H : Hp} : ∀ {vs : List V} {ds : List PyData} {i : Nat} {d : PyData}, DnA K G H vs ds → ds[i]? = some d → ∃ v, vs[i]? = some v ∧ Dn K G H v d
  | _, _, _, _, .nil, e => by simp at e
  | _, _, 0, _, .cons h _, e => by simp at e; subst e; exact ⟨_, rfl, h⟩
  | _, _, i + 1, v, .cons _ a, e => by
    obtain ⟨d, h1, h2⟩ := DnA.get' (i := i) (d := v) a (by simpa using e)
    exact ⟨d, by simpa using h1, h2⟩
theorem DnA.append {K : PySem.W.Frag} {G : Rg} {H : Hp} : ∀ {vs ws : List V} {ds es : List PyData}, DnA K G H vs ds → DnA K G H ws es → DnA K G H (vs ++ ws) (ds ++ es)
  | _, _, _, _, .nil, b => b
  | _, _, _, _, .cons h a, b => .cons h (DnA.append a b)
theorem DnA.drop {K : PySem.W.Frag} {G : Rg} {H : Hp} : ∀ {vs : List V} {ds : List PyData} (n : Nat), DnA K G H vs ds → DnA K G H (vs.drop n) (ds.drop n)
  | _, _, 0, a => a
  | _, _, _ + 1, .nil => .nil
  | _, _, n + 1, .cons _ a => DnA.drop n a
theorem DnA.take {K : PySem.W.Frag} {G : Rg} {H : Hp} : ∀ {vs : List V} {ds : List PyData} (n : Nat), DnA K G H vs ds → DnA K G H (vs.take n) (ds.take n)
  | _, _, 0, _ => .nil
  | _, _, _ + 1, .nil => .nil
  | _, _, n + 1, .cons h a => .cons h (DnA.take n a)
theorem DnA.set {K : PySem.W.Frag} {G : Rg} {H : Hp} {v : V} {d : PyData} (h : Dn K G H v d) : ∀ {vs : List V} {ds : List PyData} (i : Nat), DnA K G H vs ds → DnA K G H (vs.set i v) (ds.set i d)
  | _, _, _, .nil => .nil
  | _, _, 0, .cons _ a => .cons h a
  | _, _, i + 1, .cons q a => .cons q (DnA.set h i a)
theorem DnA.reverse {K : PySem.W.Frag} {G : Rg} {H : Hp} : ∀ {vs : List V} {ds : List PyData}, DnA K G H vs ds → DnA K G H vs.reverse ds.reverse
  | _, _, .nil => .nil
  | _, _, .cons h a => by
    rw [List.reverse_cons, List.reverse_cons]
    exact DnA.append (DnA.reverse a) (.cons h .nil)
theorem dn_int {K : PySem.W.Frag} {G : Rg} {H : Hp} {v : V} {i : Int} (h : Dn K G H v (.int i)) : v = .int i := by cases h; rfl
theorem dn_bool {K : PySem.W.Frag} {G : Rg} {H : Hp} {v : V} {b : Bool} (h : Dn K G H v (.bool b)) : v = .bl b := by cases h; rfl
theorem dn_str {K : PySem.W.Frag} {G : Rg} {H : Hp} {v : V} {x : Str} (h : Dn K G H v (.str x)) : v = .str x := by cases h; rfl
theorem dn_none {K : PySem.W.Frag} {G : Rg} {H : Hp} {v : V} (h : Dn K G H v .none) : v = .non := by cases h; rfl
theorem dn_list {K : PySem.W.Frag} {G : Rg} {H : Hp} {v : V} {ds : List PyData} (h : Dn K G H v (.list ds)) : ∃ a xs, v = .ref a ∧ LsR K G a xs ∧ DnA K G H xs ds := by
  cases h with | lst h a => exact ⟨_, _, rfl, h, a⟩
theorem dn_tupleH {K : PySem.W.Frag} {G : Rg} {H : Hp} {v : V} {ds : List PyData} (h : Dn K G H v (.tuple ds)) : ∃ a xs, v = .ref a ∧ H a = some (.tup xs) ∧ DnA K G H xs ds := by
  cases h with | tup h a => exact ⟨_, _, rfl, h, a⟩
theorem dn_tuple {K : PySem.W.Frag} {G : Rg} {H : Hp} {v : V} {ds : List PyData} (h : Dn K G H v (.tuple ds)) : ∃ a xs, v = .ref a ∧ SqT K H a xs ∧ DnA K G H xs ds := by
  cases h with | tup h a => exact ⟨_, _, rfl, SqT.of h, a⟩
theorem dna_ints {K : PySem.W.Frag} {G : Rg} {H : Hp} : ∀ {ns : List Int} {vs : List V}, DnA K G H vs (ns.map PyData.int) → vs = ns.map V.int
  | [], _, .nil => rfl
  | n :: ns, _, .cons h a => by rw [dn_int h, dna_ints a]; rfl
theorem ints_dna {K : PySem.W.Frag} {G : Rg} {H : Hp} : ∀ (ns : List Int), DnA K G H (ns.map V.int) (ns.map PyData.int)
  | [] => .nil
  | n :: ns => .cons (.int n) (ints_dna ns)
abbrev RgH (H : Hp) : Rg := fun a o => H a = some o
theorem LsR.sq {K : PySem.W.Frag} {H : Hp} {a : Addr} {xs : List V} (h : LsR K (RgH H) a xs) : SqL K H a xs := by
  rcases h with h | ⟨o, h⟩ | h
  · exact .inl (.inl h)
  · exact .inl (.inr ⟨o, h⟩)
  · rcases h with (h | ⟨o, h⟩) | h
    · cases h
    · cases h
    · exact .inr h
theorem LsR.of_sq {K : PySem.W.Frag} {H : Hp} {a : Addr} {xs : List V} (h : SqL K H a xs) : LsR K (RgH H) a xs := by
  rcases h with (h | ⟨o, h⟩) | h
  · exact .inl h
  · exact .inr (.inl ⟨o, h⟩)
  · exact .inr (.inr (.inr h))
mutual
theorem Dn.dp {K : PySem.W.Frag} {H : Hp} : ∀ {v : V} {d : PyData}, Dn K (RgH H) H v d → d.canLay0 = true → Dp K H v d
  | _, _, .non, _ => .non
  | _, _, .bl b, _ => .bl b
  | _, _, .int i, _ => .int i
  | _, _, .str x, _ => .str x
  | _, _, .lst h a, c => .lst h.sq (DnA.dp a (by rw [PyData.canLay0] at c; exact c))
  | _, _, .tup h a, c => .tup (SqT.of h) (DnA.dp a (by rw [PyData.canLay0] at c; exact c))
  | _, _, .dct _ _ _, c => by rw [PyData.canLay0] at c; cases c
  | _, _, .exc _ _ _ _, c => by rw [PyData.canLay0] at c; cases c
  | _, _, .exc0 _, c => by rw [PyData.canLay0] at c; cases c
  | _, _, .ins _ _ _ _, c => by rw [PyData.canLay0] at c; cases c
  | _, _, .dcu _ _ _, c => by rw [PyData.canLay0] at c; cases c
theorem DnA.dp {K : PySem.W.Frag} {H : Hp} : ∀ {vs : List V} {ds : List PyData}, DnA K (RgH H) H vs ds → PyData.canLayAll0 ds = true → DpAll K H vs ds
  | _, _, .nil, _ => .nil
  | _, _, .cons h a, c => by
    rw [PyData.canLayAll0, Bool.and_eq_true] at c
    exact .cons (Dn.dp h c.1) (DnA.dp a c.2)
end
theorem Dn.dps {K : PySem.W.Frag} {H : Hp} {v : V} {d : PyData} (h : Dn K (RgH H) H v d) (c : SeqAt.shaped d = true) : Dp K H v d := h.dp (SeqAt.canLay_of_shaped c)
structure Gh where
  H0 : Hp
  P : List Addr
  I : Nat → Option V
  N : Hp
  E : Hp
abbrev RgN (G : Gh) : Rg := fun a o => G.N a = some o
def RgA (G : Gh) : Rg := fun a o => G.N a = some o ∨ (G.H0 a = some o ∧ a ∉ G.P)
def rg (G : Gh) : Bool → Rg
  | true => RgN G
  | false => RgA G
structure Wf (G : Gh) (H : Hp) : Prop where
  keep : ∀ a o, G.H0 a = some o → a ∉ G.P → H a = some o
  new : ∀ a o, G.N a = some o → H a = some o ∧ True
  pal : ∀ a, a ∈ G.P → H a ≠ none
  p0 : ∀ a, a ∈ G.P → G.H0 a ≠ none
  ex : ∀ a o, G.E a = some o → H a = some o ∧ G.N a = none ∧ G.H0 a = none ∧ a ∉ G.P
  iv : ∀ i p, G.I i = some (.ref p) → p ∈ G.P ∨ G.E p ≠ none ∨ ∃ xs, H p = some (.tup xs)
theorem Wf.rgl {G : Gh} {H : Hp} (w : Wf G H) (fr : Bool) : RgLe (rg G fr) (RgH H) := fun a o h => by
  cases fr with
  | true => exact (w.new a o h).1
  | false =>
    rcases h with h | ⟨h1, h2⟩
    · exact (w.new a o h).1
    · exact w.keep a o h1 h2
theorem Wf.dn {K : PySem.W.Frag} {G : Gh} {H : Hp} {fr : Bool} {v : V} {d : PyData} (w : Wf G H) (h : Dn K (rg G fr) H v d) : Dn K (RgH H) H v d := h.mono (w.rgl fr) (TupLe.rf _)
theorem rg_ff (G : Gh) (fr : Bool) : RgLe (rg G fr) (rg G false) := fun a o h => by
  cases fr with
  | true => exact .inl h
  | false => exact h
structure Ext (G : Gh) (H : Hp) (G' : Gh) (H' : Hp) : Prop where
  h0 : G'.H0 = G.H0
  p : G'.P = G.P
  i : G'.I = G.I
  e : G'.E = G.E
  n : ∀ a o, G.N a = some o → G'.N a = some o
  nn : ∀ a o, G'.N a = some o → G.N a = some o ∨ G.H0 a = none
  t : TupLe H H'
  w : Wf G' H'
theorem Ext.rf {G : Gh} {H : Hp} (w : Wf G H) : Ext G H G H := ⟨rfl, rfl, rfl, rfl, fun _ _ h => h, fun _ _ h => .inl h, TupLe.rf _, w⟩
theorem Ext.tr {G G1 G2 : Gh} {H H1 H2 : Hp} (a : Ext G H G1 H1) (b : Ext G1 H1 G2 H2) : Ext G H G2 H2 :=
  ⟨b.h0.trans a.h0, b.p.trans a.p, b.i.trans a.i, b.e.trans a.e, fun c o h => b.n c o (a.n c o h), fun c o h => (b.nn c o h).elim (a.nn c o) (fun z => .inr (by rw [← a.h0]; exact z)), a.t.tr b.t, b.w⟩
theorem Ext.rgl {G G' : Gh} {H H' : Hp} (e : Ext G H G' H') (fr : Bool) : RgLe (rg G fr) (rg G' fr) := fun a o h => by
  cases fr with
  | true => exact e.n a o h
  | false =>
    rcases h with h | ⟨h1, h2⟩
    · exact .inl (e.n a o h)
    · exact .inr ⟨by rw [e.h0]; exact h1, by rw [e.p]; exact h2⟩
theorem Ext.dn {K : PySem.W.Frag} {G G' : Gh} {H H' : Hp} {fr : Bool} {v : V} {d : PyData} (e : Ext G H G' H') (h : Dn K (rg G fr) H v d) : Dn K (rg G' fr) H' v d := h.mono (e.rgl fr) e.t
theorem Ext.dna {K : PySem.W.Frag} {G G' : Gh} {H H' : Hp} {fr : Bool} {v : List V} {d : List PyData} (e : Ext G H G' H') (h : DnA K (rg G fr) H v d) : DnA K (rg G' fr) H' v d := h.mono (e.rgl fr) e.t
structure Le (G : Gh) (H : Hp) (G' : Gh) (H' : Hp) : Prop where
  h0 : G'.H0 = G.H0
  p : G'.P = G.P
  n : ∀ a o, G.N a = some o → G'.N a = some o
  nn : ∀ a o, G'.N a = some o → G.N a = some o ∨ G.H0 a = none
  t : TupLe H H'
  w : Wf G' H'
  e : ∀ a o, G.E a = some o → G'.E a = some o
theorem Ext.le {G G' : Gh} {H H' : Hp} (e : Ext G H G' H') : Le G H G' H' := ⟨e.h0, e.p, e.n, e.nn, e.t, e.w, fun a o h => by rw [e.e]; exact h⟩
theorem Le.tr {G G1 G2 : Gh} {H H1 H2 : Hp} (a : Le G H G1 H1) (b : Le G1 H1 G2 H2) : Le G H G2 H2 := ⟨b.h0.trans a.h0, b.p.trans a.p, fun c o h => b.n c o (a.n c o h), fun c o h => (b.nn c o h).elim (a.nn c o) (fun z => .inr (by rw [← a.h0]; exact z)), a.t.tr b.t, b.w, fun c o h => b.e c o (a.e c o h)⟩
theorem Le.rgl {G G' : Gh} {H H' : Hp} (e : Le G H G' H') (fr : Bool) : RgLe (rg G fr) (rg G' fr) := fun a o h => by
  cases fr with
  | true => exact e.n a o h
  | false =>
    rcases h with h | ⟨h1, h2⟩
    · exact .inl (e.n a o h)
    · exact .inr ⟨by rw [e.h0]; exact h1, by rw [e.p]; exact h2⟩
theorem Le.dna {K : PySem.W.Frag} {G G' : Gh} {H H' : Hp} {fr : Bool} {v : List V} {d : List PyData} (e : Le G H G' H') (h : DnA K (rg G fr) H v d) : DnA K (rg G' fr) H' v d := h.mono (e.rgl fr) e.t
abbrev Fd := List Int × Int × Int
def fdK (l : Addr) (t s : Int) : List (Key × V) := [(.inr "cells", .ref l), (.inr "turn", .int t), (.inr "seed", .int s)]
inductive Tre where
  | d (x : PyData)
  | lst (ts : List Tre)
  | tup (ts : List Tre)
  | dic (t : Dk) (ks : List PyData) (ts : List Tre)
  | ins (nm : Str) (fs : List Str) (ts : List Tre)
mutual
inductive TreOk (K : PySem.W.Frag) (G : Rg) (H : Hp) : V → List Addr → Tre → Prop
  | d {v : V} {x : PyData} : Dn K G H v x → TreOk K G H v [] (.d x)
  | lst {p : Addr} {vs : List V} {fp : List Addr} {ts : List Tre} : H p = some (.lst vs) → TresOk K G H vs fp ts → p ∉ fp → TreOk K G H (.ref p) (p :: fp) (.lst ts)
  | tup {p : Addr} {vs : List V} {fp : List Addr} {ts : List Tre} : H p = some (.tup vs) → TresOk K G H vs fp ts → TreOk K G H (.ref p) fp (.tup ts)
  | dic {p : Addr} {o : HO} {t : Dk} {ks : List PyData} {vs : List V} {fp : List Addr} {ts : List Tre} : H p = some o → DcO t p o ks vs → TresOk K G H vs fp ts → p ∉ fp → TreOk K G H (.ref p) (p :: fp) (.dic t ks ts)
  | ins {p dx : Addr} {nm : Str} {fs : List (Str × V)} {fp : List Addr} {ts : List Tre} : H p = some (.ins (He.ga K nm) dx fs) → H dx = some (.own p) → p ≠ dx → TresOk K G H (fs.map (·.2)) fp ts → p ∉ fp → dx ∉ fp → TreOk K G H (.ref p) (p :: dx :: fp) (.ins nm (fs.map (·.1)) ts)
inductive TresOk (K : PySem.W.Frag) (G : Rg) (H : Hp) : List V → List Addr → List Tre → Prop
  | nil : TresOk K G H [] [] []
  | cons {v : V} {vs : List V} {f1 f2 : List Addr} {t : Tre} {ts : List Tre} : TreOk K G H v f1 t → TresOk K G H vs f2 ts → (∀ p ∈ f1, p ∉ f2) → TresOk K G H (v :: vs) (f1 ++ f2) (t :: ts)
end
mutual
theorem TreOk.mono {K : PySem.W.Frag} {G G' : Rg} {H H' : Hp} (g : RgLe G G') (t : TupLe H H') : ∀ {v : V} {fp : List Addr} {T : Tre}, TreOk K G H v fp T → (∀ a ∈ fp, H' a = H a) → TreOk K G' H' v fp T
  | _, _, _, .d h, _ => .d (h.mono g t)
  | _, _, _, .lst h a n, k => .lst (by rw [k _ (by simp)]; exact h) (TresOk.mono g t a fun q hq => k q (by simp [hq])) n
  | _, _, _, .tup h a, k => .tup (t _ _ h) (TresOk.mono g t a k)
  | _, _, _, .dic h c a n, k => .dic (by rw [k _ (by simp)]; exact h) c (TresOk.mono g t a fun q hq => k q (by simp [hq])) n
  | _, _, _, .ins h1 h2 ne a n1 n2, k => .ins (by rw [k _ (by simp)]; exact h1) (by rw [k _ (by simp)]; exact h2) ne (TresOk.mono g t a fun q hq => k q (by simp [hq])) n1 n2
theorem TresOk.mono {K : PySem.W.Frag} {G G' : Rg} {H H' : Hp} (g : RgLe G G') (t : TupLe H H') : ∀ {vs : List V} {fp : List Addr} {ts : List Tre}, TresOk K G H vs fp ts → (∀ a ∈ fp, H' a = H a) → TresOk K G' H' vs fp ts
  | _, _, _, .nil, _ => .nil
  | _, _, _, .cons h a n, k => .cons (TreOk.mono g t h fun q hq => k q (by simp [hq])) (TresOk.mono g t a fun q hq => k q (by simp [hq])) n
end
def Nt (H : Hp) (p : Addr) : Prop := ∃ o, H p = some o ∧ (∀ xs, o ≠ .tup xs) ∧ ∀ x y, o ≠ .frz x y
theorem DcO.nt {t : Dk} {a : Addr} {o : HO} {ks : List PyData} {vs : List V} (h : DcO t a o ks vs) : (∀ xs, o ≠ .tup xs) ∧ ∀ x y, o ≠ .frz x y := by
  cases t with
  | k => obtain ⟨_, rfl, _⟩ := h; exact ⟨fun _ z => (nomatch z), fun _ _ z => (nomatch z)⟩
  | t => obtain ⟨_, rfl, _⟩ := h; exact ⟨fun _ z => (nomatch z), fun _ _ z => (nomatch z)⟩
  | n => obtain ⟨_, _, rfl, _⟩ := h; exact ⟨fun _ z => (nomatch z), fun _ _ z => (nomatch z)⟩
mutual
theorem TreOk.nt {K : PySem.W.Frag} {G : Rg} {H : Hp} : ∀ {v : V} {fp : List Addr} {T : Tre}, TreOk K G H v fp T → ∀ p ∈ fp, Nt H p
  | _, _, _, .d h, p, hp => by cases hp
  | _, _, _, .lst h a n, p, hp => by
    rcases List.mem_cons.mp hp with rfl | hp
    · exact ⟨_, h, fun _ z => (nomatch z), fun _ _ z => (nomatch z)⟩
    · exact TresOk.nt a p hp
  | _, _, _, .tup h a, p, hp => TresOk.nt a p hp
  | _, _, _, .dic h c a n, p, hp => by
    rcases List.mem_cons.mp hp with rfl | hp
    · exact ⟨_, h, c.nt.1, c.nt.2⟩
    · exact TresOk.nt a p hp
  | _, _, _, .ins h1 h2 ne a n1 n2, p, hp => by
    rcases List.mem_cons.mp hp with rfl | hp
    · exact ⟨_, h1, fun _ z => (nomatch z), fun _ _ z => (nomatch z)⟩
    · rcases List.mem_cons.mp hp with rfl | hp
      · exact ⟨_, h2, fun _ z => (nomatch z), fun _ _ z => (nomatch z)⟩
      · exact TresOk.nt a p hp
theorem TresOk.nt {K : PySem.W.Frag} {G : Rg} {H : Hp} : ∀ {vs : List V} {fp : List Addr} {ts : List Tre}, TresOk K G H vs fp ts → ∀ p ∈ fp, Nt H p
  | _, _, _, .nil, p, hp => by cases hp
  | _, _, _, .cons h a n, p, hp => by
    rcases List.mem_append.mp hp with hp | hp
    · exact TreOk.nt h p hp
    · exact TresOk.nt a p hp
end
mutual
def trD : Tre → Option PyData
  | .d x => some x
  | .lst ts => (trDs ts).map PyData.list
  | .tup ts => (trDs ts).map PyData.tuple
  | .dic t ks ts => (trDs ts).map fun ds => udD t (ks.zip ds)
  | .ins nm fs ts => (trDs ts).map fun ds => inD nm (fs.zip ds)
def trDs : List Tre → Option (List PyData)
  | [] => some []
  | t :: ts => (trD t).bind fun d => (trDs ts).map (d :: ·)
end
theorem TresOk.len1 {K : PySem.W.Frag} {G : Rg} {H : Hp} : ∀ {vs : List V} {fp : List Addr} {ts : List Tre}, TresOk K G H vs fp ts → vs.length = ts.length
  | _, _, _, .nil => rfl
  | _, _, _, .cons _ a _ => by simp [TresOk.len1 a]
theorem trDs_len : ∀ {ts : List Tre} {ds : List PyData}, trDs ts = some ds → ts.length = ds.length
  | [], _, h => by rw [trDs] at h; cases h; rfl
  | t :: ts, ds, h => by
    rw [trDs] at h
    cases q : trD t with
    | none => rw [q] at h; cases h
    | some d =>
      rw [q] at h
      have h : (trDs ts).map (d :: ·) = some ds := h
      cases q2 : trDs ts with
      | none => rw [q2] at h; cases h
      | some es =>
        rw [q2] at h
        cases h
        simp [trDs_len q2]
theorem DcO.len {t : Dk} {a : Addr} {o : HO} {ks : List PyData} {vs : List V} (h : DcO t a o ks vs) : ks.length = vs.length := by
  cases t with
  | k => obtain ⟨kvs, _, rfl, rfl⟩ := h; simp
  | t => obtain ⟨kvs, _, rfl, rfl⟩ := h; simp
  | n =>
    obtain ⟨rs, kds, _, e, _, rfl, rfl⟩ := h
    have e : kds.length = rs.length := by have := congrArg List.length e; simpa using this
    have l1 : ∀ l : List PyData, (l.flatMap fun d => [d, PyData.none]).length = 2 * l.length := fun l => by
      induction l with
      | nil => rfl
      | cons x r ih => simp [ih]; omega
    have l2 : ∀ l : List (NestedKey × Addr × V), (l.flatMap fun r => [r.2.2, V.ref r.2.1]).length = 2 * l.length := fun l => by
      induction l with
      | nil => rfl
      | cons x r ih => simp [ih]; omega
    show (PyData.none :: _).length = (V.non :: _).length
    rw [List.length_cons, List.length_cons, l1, l2, e]
theorem zip_fst {α β : Type} {xs : List α} {ys : List β} (h : xs.length = ys.length) : (xs.zip ys).map (·.1) = xs := List.map_fst_zip (Nat.le_of_eq h)
theorem zip_snd {α β : Type} {xs : List α} {ys : List β} (h : xs.length = ys.length) : (xs.zip ys).map (·.2) = ys := List.map_snd_zip (Nat.le_of_eq h.symm)
mutual
theorem TreOk.dn {K : PySem.W.Frag} {G G' : Rg} {H : Hp} (g : RgLe G G') : ∀ {v : V} {fp : List Addr} {T : Tre}, TreOk K G H v fp T → (∀ a ∈ fp, ∀ o, H a = some o → G' a o) → ∀ d, trD T = some d → Dn K G' H v d
  | _, _, _, .d h, _, d, e => by
    rw [trD] at e
    cases e
    exact h.mono g (TupLe.rf _)
  | _, _, _, .lst (ts := ts) h a n, k, d, e => by
    rw [trD] at e
    cases q : trDs ts with
    | none => rw [q] at e; cases e
    | some ds =>
      rw [q] at e
      cases e
      exact .lst (.inl (k _ (by simp) _ h)) (TresOk.dn g a (fun x hx => k x (by simp [hx])) ds q)
  | _, _, _, .tup (ts := ts) h a, k, d, e => by
    rw [trD] at e
    cases q : trDs ts with
    | none => rw [q] at e; cases e
    | some ds =>
      rw [q] at e
      cases e
      exact .tup h (TresOk.dn g a k ds q)
  | _, _, _, .dic (ks := ks) (ts := ts) h c a n, k, d, e => by
    rw [trD] at e
    cases q : trDs ts with
    | none => rw [q] at e; cases e
    | some ds =>
      rw [q] at e
      cases e
      have hl : ks.length = ds.length := by rw [c.len, a.len1, trDs_len q]
      exact .dcu (k _ (by simp) _ h) (by rw [zip_fst hl]; exact c) (by rw [zip_snd hl]; exact TresOk.dn g a (fun x hx => k x (by simp [hx])) ds q)
  | _, _, _, .ins (fs := fs) (ts := ts) h1 h2 ne a n1 n2, k, d, e => by
    rw [trD] at e
    cases q : trDs ts with
    | none => rw [q] at e; cases e
    | some ds =>
      rw [q] at e
      cases e
      have hl : (fs.map (·.1)).length = ds.length := by
        have := a.len1
        rw [List.length_map] at this ⊢
        rw [this, trDs_len q]
      exact .ins (k _ (by simp) _ h1) (k _ (by simp) _ h2) (by rw [zip_fst hl]) (by rw [zip_snd hl]; exact TresOk.dn g a (fun x hx => k x (by simp [hx])) ds q)
theorem TresOk.dn {K : PySem.W.Frag} {G G' : Rg} {H : Hp} (g : RgLe G G') : ∀ {vs : List V} {fp : List Addr} {ts : List Tre}, TresOk K G H vs fp ts → (∀ a ∈ fp, ∀ o, H a = some o → G' a o) → ∀ ds, trDs ts = some ds → DnA K G' H vs ds
  | _, _, _, .nil, _, ds, e => by rw [trDs] at e; cases e; exact .nil
  | _, _, _, .cons (t := t) (ts := ts) h a n, k, ds, e => by
    rw [trDs] at e
    cases q : trD t with
    | none => rw [q] at e; cases e
    | some d =>
      rw [q] at e
      have e : (trDs ts).map (d :: ·) = some ds := e
      cases q2 : trDs ts with
      | none => rw [q2] at e; cases e
      | some es =>
        rw [q2] at e
        cases e
        exact .cons (TreOk.dn g h (fun x hx => k x (by simp [hx])) d q) (TresOk.dn g a (fun x hx => k x (by simp [hx])) es q2)
end
def mulT : Dk → List (PyData × List PyData) → Tre
  | .n, l => .dic .n (encK (l.map (·.1))) (.d .none :: l.flatMap fun z => [.lst (z.2.map .d), .d z.1])
  | t, l => .dic t (l.map (·.1)) (l.map fun z => .lst (z.2.map .d))
inductive Cl where
  | lst (ds : List PyData)
  | dic (t : Dk) (kvs : List (PyData × PyData))
  | feed (f : Fd)
  | tr (t : Tre)
  | mul (t : Dk) (l : List (PyData × List PyData))
def Cl.ok (K : PySem.W.Frag) (G : Rg) (H : Hp) (v : V) (fp : List Addr) : Cl → Prop
  | .lst ds => ∃ p vs, v = .ref p ∧ fp = [p] ∧ H p = some (.lst vs) ∧ DnA K G H vs ds
  | .dic t kvs => ∃ p o vs, v = .ref p ∧ fp = [p] ∧ H p = some o ∧ DcO t p o (kvs.map (·.1)) vs ∧ DnA K G H vs (kvs.map (·.2))
  | .feed f => ∃ d l, v = .ref d ∧ fp = [d, l] ∧ d ≠ l ∧ H d = some (.dK (fdK l f.2.1 f.2.2)) ∧ H l = some (.lst (f.1.map V.int))
  | .tr T => TreOk K G H v fp T ∧ ∃ p, v = .ref p ∧ (p ∈ fp ∨ ∃ xs, H p = some (.tup xs))
  | .mul t l => TreOk K G H v fp (mulT t l) ∧ ∃ p, v = .ref p ∧ (p ∈ fp ∨ ∃ xs, H p = some (.tup xs))
theorem Cl.mono {K : PySem.W.Frag} {G G' : Rg} {H H' : Hp} {v : V} {fp : List Addr} {c : Cl} (h : c.ok K G H v fp) (g : RgLe G G') (k : ∀ a ∈ fp, H' a = H a) (t : TupLe H H') : c.ok K G' H' v fp := by
  cases c with
  | lst ds =>
    obtain ⟨p, vs, rfl, rfl, h1, h2⟩ := h
    exact ⟨p, vs, rfl, rfl, by rw [k p (by simp)]; exact h1, h2.mono g t⟩
  | dic t' kvs =>
    obtain ⟨p, o, vs, rfl, rfl, h1, h2, h3⟩ := h
    exact ⟨p, o, vs, rfl, rfl, by rw [k p (by simp)]; exact h1, h2, h3.mono g t⟩
  | feed f =>
    obtain ⟨d, l, h1, h2, h3, h4, h5⟩ := h
    exact ⟨d, l, h1, h2, h3, by rw [k d (by simp [h2])]; exact h4, by rw [k l (by simp [h2])]; exact h5⟩
  | tr T =>
    obtain ⟨h1, p, h2, h3⟩ := h
    exact ⟨h1.mono g t k, p, h2, h3.imp id fun ⟨xs, z⟩ => ⟨xs, t _ _ z⟩⟩
  | mul T l =>
    obtain ⟨h1, p, h2, h3⟩ := h
    exact ⟨h1.mono g t k, p, h2, h3.imp id fun ⟨xs, z⟩ => ⟨xs, t _ _ z⟩⟩
theorem Cl.root {K : PySem.W.Frag} {G : Rg} {H : Hp} {p : Addr} {fp : List Addr} {c : Cl} (h : c.ok K G H (.ref p) fp) : p ∈ fp ∨ ∃ xs, H p = some (.tup xs) := by
  cases c with
  | lst ds =>
    obtain ⟨q, vs, h1, rfl, _⟩ := h
    cases h1; exact .inl (by simp)
  | dic t kvs =>
    obtain ⟨q, o, vs, h1, rfl, _⟩ := h
    cases h1; exact .inl (by simp)
  | feed f =>
    obtain ⟨q, l, h1, rfl, _⟩ := h
    cases h1; exact .inl (by simp)
  | tr T =>
    obtain ⟨_, q, h1, h2⟩ := h
    cases h1; exact h2
  | mul T l =>
    obtain ⟨_, q, h1, h2⟩ := h
    cases h1; exact h2
inductive Itm where
  | d (x : PyData)
  | r (k : Nat)
inductive ItsOk (K : PySem.W.Frag) (G : Rg) (H : Hp) (fp : List Addr) : List V → List Itm → Prop
  | nil : ItsOk K G H fp [] []
  | d {v : V} {x : PyData} {vs : List V} {nd : List Itm} : Dn K G H v x → ItsOk K G H fp vs nd → ItsOk K G H fp (v :: vs) (.d x :: nd)
  | r {k : Nat} {p : Addr} {vs : List V} {nd : List Itm} : fp[k]? = some p → ItsOk K G H fp vs nd → ItsOk K G H fp (.ref p :: vs) (.r k :: nd)
def PoolOk (K : PySem.W.Frag) (G : Rg) (H : Hp) (fp : List Addr) (ns : List (List Itm)) : Prop :=
  fp.length = ns.length ∧ fp.Nodup ∧ ∀ (k : Nat) (nd : List Itm), ns[k]? = some nd → ∃ p vs, fp[k]? = some p ∧ H p = some (.lst vs) ∧ ItsOk K G H fp vs nd
theorem ItsOk.mono {K : PySem.W.Frag} {G G' : Rg} {H H' : Hp} (g : RgLe G G') (t : TupLe H H') {fp : List Addr} : ∀ {vs : List V} {nd : List Itm}, ItsOk K G H fp vs nd → ItsOk K G' H' fp vs nd
  | _, _, .nil => .nil
  | _, _, .d h a => .d (h.mono g t) (ItsOk.mono g t a)
  | _, _, .r h a => .r h (ItsOk.mono g t a)
theorem PoolOk.mono {K : PySem.W.Frag} {G G' : Rg} {H H' : Hp} {fp : List Addr} {ns : List (List Itm)} (h : PoolOk K G H fp ns) (g : RgLe G G') (k : ∀ a ∈ fp, H' a = H a) (t : TupLe H H') : PoolOk K G' H' fp ns :=
  ⟨h.1, h.2.1, fun j nd e => by
    obtain ⟨p, vs, h1, h2, h3⟩ := h.2.2 j nd e
    exact ⟨p, vs, h1, by rw [k p (List.mem_of_getElem? h1)]; exact h2, h3.mono g t⟩⟩
inductive Sl where
  | un
  | dat (fr : Bool) (d : PyData)
  | own (c : Cl)
  | io (c : Cl)
  /-- a list of one's own that is walked: read, not changed -/
  | lent (c : Cl)
  /-- the list of number k of the pool at slot j -/
  | ref (j k : Nat)
  /-- a pool of lists that hold one another (at a slot that no name stands for) -/
  | pool (ns : List (List Itm))
  /-- a name for what stands at c in the tuple that the def was handed at slot i -/
  | al (i c : Nat)
def Sl.pl : Sl → Bool
  | .ref _ _ => true
  | .pool _ => true
  | _ => false
structure Exn where
  cls : Str
  flds : List (Str × PyData)
  st : List Sl
inductive R (α : Type) where
  | val (a : α)
  | exc (x : Exn)
  | bad
def R.bind {α β : Type} : R α → (α → R β) → R β
  | .val a, k => k a
  | .exc x, _ => .exc x
  | .bad, _ => .bad
def SlOk (K : PySem.W.Frag) (G : Gh) (H : Hp) (i : Nat) (ov : Option (Option V)) (fp : List Addr) : Sl → Prop
  | .un => fp = []
  | .dat fr d => fp = [] ∧ ∃ v, ov = some (some v) ∧ Dn K (rg G fr) H v d
  | .own c => ∃ v, ov = some (some v) ∧ (∀ p ∈ fp, G.H0 p = none) ∧ c.ok K (RgN G) H v fp
  | .io c => ∃ v, ov = some (some v) ∧ G.I i = some v ∧ c.ok K (RgN G) H v fp
  | .lent c => fp = [] ∧ ∃ p o, ov = some (some (.ref p)) ∧ G.I i = some (.ref p) ∧ H p = some o ∧ G.E p = some o ∧ (∀ xs, o ≠ .tup xs) ∧ c.ok K (RgN G) H (.ref p) [p]
  | .ref _ _ => fp = []
  | .pool ns => (∀ p ∈ fp, G.H0 p = none) ∧ PoolOk K (RgN G) H fp ns
  | .al i c => fp = [] ∧ ∃ q vs v, G.I i = some (.ref q) ∧ H q = some (.tup vs) ∧ vs[c]? = some v ∧ ov = some (some v)
theorem SlOk.mono {K : PySem.W.Frag} {G G' : Gh} {H H' : Hp} {i : Nat} {ov : Option (Option V)} {fp : List Addr} {s : Sl} (h : SlOk K G H i ov fp s) (e : Ext G H G' H') (k : ∀ a ∈ fp, H' a = H a) : SlOk K G' H' i ov fp s := by
  cases s with
  | un => exact h
  | dat fr d =>
    obtain ⟨h1, v, h2, h3⟩ := h
    exact ⟨h1, v, h2, e.dn h3⟩
  | own c =>
    obtain ⟨v, h2, h4, h3⟩ := h
    exact ⟨v, h2, fun p hp => by rw [e.h0]; exact h4 p hp, Cl.mono h3 e.n k e.t⟩
  | io c =>
    obtain ⟨v, h2, h4, h3⟩ := h
    exact ⟨v, h2, by rw [e.i]; exact h4, Cl.mono h3 e.n k e.t⟩
  | lent c =>
    obtain ⟨h1, p, o, h2, h3, h4, h5, h6, h7⟩ := h
    have h5' : G'.E p = some o := by rw [e.e]; exact h5
    have h4' : H' p = some o := (e.w.ex p o h5').1
    exact ⟨h1, p, o, h2, by rw [e.i]; exact h3, h4', h5', h6, Cl.mono h7 e.n (fun a ha => by
      have : a = p := by simpa using ha
      rw [this, h4, h4']) e.t⟩
  | ref j k => exact h
  | pool ns => exact ⟨fun p hp => by rw [e.h0]; exact h.1 p hp, h.2.mono e.n k e.t⟩
  | al i c =>
    obtain ⟨h1, q, vs, v, h2, h3, h4, h5⟩ := h
    exact ⟨h1, q, vs, v, by rw [e.i]; exact h2, e.t _ _ h3, h4, h5⟩
structure StaA (K : PySem.W.Frag) (G : Gh) (H : Hp) (σ : St) (Γ : List Sl) (A : Nat → List Addr) : Prop where
  w : Wf G H
  len : Γ.length = σ.length
  sl : ∀ i s, Γ[i]? = some s → SlOk K G H i σ[i]? (A i) s
  al : ∀ i p, p ∈ A i → H p ≠ none ∧ G.N p = none ∧ (p ∈ G.P ∨ G.H0 p = none)
  ae : ∀ i p, p ∈ A i → G.E p = none
  dj : ∀ i j p, p ∈ A i → p ∈ A j → i = j
  rf : ∀ (i j k : Nat) (ns : List (List Itm)), Γ[i]? = some (Sl.ref j k) → Γ[j]? = some (Sl.pool ns) → ∃ p, (A j)[k]? = some p ∧ σ[i]? = some (some (V.ref p))
theorem rf_set {Γ : List Sl} {σ σ' : St} {A A' : Nat → List Addr} {i : Nat} {s' : Sl} (rf : ∀ (i j k : Nat) (ns : List (List Itm)), Γ[i]? = some (Sl.ref j k) → Γ[j]? = some (Sl.pool ns) → ∃ p, (A j)[k]? = some p ∧ σ[i]? = some (some (V.ref p)))
    (hs : s'.pl = false) (hA : ∀ j, j ≠ i → A' j = A j) (hσ : ∀ j, j ≠ i → σ'[j]? = σ[j]?) : ∀ (a j k : Nat) (ns : List (List Itm)), (Γ.set i s')[a]? = some (Sl.ref j k) → (Γ.set i s')[j]? = some (Sl.pool ns) → ∃ p, (A' j)[k]? = some p ∧ σ'[a]? = some (some (V.ref p)) := fun a j k ns h1 h2 => by
  have key : ∀ (b : Nat) (x : Sl), x.pl = true → (Γ.set i s')[b]? = some x → b ≠ i ∧ Γ[b]? = some x := fun b x hx h => by
    by_cases e : b = i
    · subst e
      by_cases hl : b < Γ.length
      · rw [List.getElem?_set_self hl] at h
        cases h
        rw [hs] at hx; cases hx
      · rw [List.getElem?_eq_none (by simpa using hl)] at h; cases h
    · rw [List.getElem?_set_ne (Ne.symm e)] at h
      exact ⟨e, h⟩
  obtain ⟨n1, g1⟩ := key a _ rfl h1
  obtain ⟨n2, g2⟩ := key j _ rfl h2
  obtain ⟨p, q1, q2⟩ := rf a j k ns g1 g2
  exact ⟨p, by rw [hA j n2]; exact q1, by rw [hσ a n1]; exact q2⟩
def Sta (K : PySem.W.Frag) (G : Gh) (H : Hp) (σ : St) (Γ : List Sl) : Prop := ∃ A, StaA K G H σ Γ A
theorem Sta.w {K : PySem.W.Frag} {G : Gh} {H : Hp} {σ : St} {Γ : List Sl} (s : Sta K G H σ Γ) : Wf G H := s.elim fun _ a => a.w
structure Grow (G : Gh) (H : Hp) (N' H' : Hp) (fs : List Addr) : Prop where
  k : ∀ a o, H a = some o → a ∉ fs → H' a = some o
  al : ∀ a, a ∈ fs → H' a ≠ none
  t : TupLe H H'
  n : ∀ a o, G.N a = some o → N' a = some o
  n' : ∀ a o, N' a = some o → H' a = some o ∧ (G.N a = some o ∨ H a = none)
theorem Grow.wf {G : Gh} {H N' H' : Hp} {fs : List Addr} (g : Grow G H N' H' fs) (w : Wf G H) (hf : ∀ p ∈ fs, p ∈ G.P ∨ G.H0 p = none) (he : ∀ p ∈ fs, G.E p = none) : Wf ⟨G.H0, G.P, G.I, N', G.E⟩ H' := by
  have al : ∀ a, H a ≠ none → H' a ≠ none := fun a h => by
    by_cases hp : a ∈ fs
    · exact g.al a hp
    · cases q : H a with
      | none => exact absurd q h
      | some o => rw [g.k a o q hp]; simp
  refine ⟨fun a o h h2 => ?_, fun a o h => ?_, fun a h => al a (w.pal a h), w.p0, fun a o h => ?_, fun i p h => (w.iv i p h).imp id fun z => z.imp id fun ⟨xs, z⟩ => ⟨xs, g.t p xs z⟩⟩
  · refine g.k a o (w.keep a o h h2) fun hp => ?_
    rcases hf a hp with z | z
    · exact h2 z
    · rw [show G.H0 a = some o from h] at z; cases z
  · obtain ⟨h1, h2⟩ := g.n' a o h
    exact ⟨h1, trivial⟩
  · obtain ⟨h1, h2, h3⟩ := w.ex a o h
    refine ⟨g.k a o h1 fun hp => ?_, ?_, h3⟩
    · have h : G.E a = some o := h
      rw [he a hp] at h; cases h
    · show N' a = none
      cases q : N' a with
      | none => rfl
      | some u =>
        rcases (g.n' a u q).2 with z | z
        · rw [h2] at z; cases z
        · rw [h1] at z; cases z
theorem Wf.none0 {G : Gh} {H : Hp} (w : Wf G H) {a : Addr} (h2 : H a = none) : G.H0 a = none := by
  cases q : G.H0 a with
  | none => rfl
  | some u =>
    by_cases hp : a ∈ G.P
    · exact absurd h2 (w.pal a hp)
    · rw [w.keep a u q hp] at h2; cases h2
theorem Grow.ext {G : Gh} {H N' H' : Hp} {fs : List Addr} (g : Grow G H N' H' fs) (w : Wf G H) (hf : ∀ p ∈ fs, p ∈ G.P ∨ G.H0 p = none) (he : ∀ p ∈ fs, G.E p = none) : Ext G H ⟨G.H0, G.P, G.I, N', G.E⟩ H' :=
  ⟨rfl, rfl, rfl, rfl, g.n, fun a o h => (g.n' a o h).2.imp id fun z => w.none0 z, g.t, g.wf w hf he⟩
theorem Grow.at {G : Gh} {H N' H' : Hp} {fs : List Addr} (g : Grow G H N' H' fs) {a : Addr} (h : H a ≠ none) (hp : a ∉ fs) : H' a = H a := by
  cases q : H a with
  | none => exact absurd q h
  | some o => exact g.k a o q hp
theorem Sta.grow {K : PySem.W.Frag} {G : Gh} {H H' N' : Hp} {σ : St} {Γ : List Sl} (s : Sta K G H σ Γ) (g : Grow G H N' H' []) :
    Sta K ⟨G.H0, G.P, G.I, N', G.E⟩ H' σ Γ ∧ Ext G H ⟨G.H0, G.P, G.I, N', G.E⟩ H' := by
  obtain ⟨A, S⟩ := s
  have e := g.ext S.w (fun p hp => absurd hp (by simp)) (fun p hp => absurd hp (by simp))
  refine ⟨⟨A, e.w, S.len, fun i s h => (S.sl i s h).mono e fun a ha => g.at (S.al i a ha).1 (by simp), fun i p hp => ?_, S.ae, S.dj, S.rf⟩, e⟩
  obtain ⟨h1, h2, h3⟩ := S.al i p hp
  refine ⟨by rw [g.at h1 (by simp)]; exact h1, ?_, h3⟩
  show N' p = none
  cases q : N' p with
  | none => rfl
  | some o =>
    rcases (g.n' p o q).2 with z | z
    · rw [h2] at z; cases z
    · exact absurd z h1
theorem StaA.step {K : PySem.W.Frag} {G : Gh} {H H' N' : Hp} {σ σ' : St} {Γ : List Sl} {A : Nat → List Addr} {i : Nat} {s' : Sl} {fp' fs : List Addr} (S : StaA K G H σ Γ A) (g : Grow G H N' H' fs)
    (hfs : ∀ p ∈ fs, p ∈ A i) (hσ : ∀ j, j ≠ i → σ'[j]? = σ[j]?) (hl : σ'.length = σ.length) (sl' : i < Γ.length → SlOk K ⟨G.H0, G.P, G.I, N', G.E⟩ H' i σ'[i]? fp' s')
    (f : ∀ p ∈ fp', H' p ≠ none ∧ N' p = none ∧ (p ∈ A i ∨ H p = none)) (hpl : s'.pl = false := by first | rfl | (cases ‹Bool› <;> rfl)) :
    Sta K ⟨G.H0, G.P, G.I, N', G.E⟩ H' σ' (Γ.set i s') ∧ Ext G H ⟨G.H0, G.P, G.I, N', G.E⟩ H' := by
  have hf : ∀ p ∈ fs, p ∈ G.P ∨ G.H0 p = none := fun p hp => (S.al i p (hfs p hp)).2.2
  have he : ∀ p ∈ fs, G.E p = none := fun p hp => S.ae i p (hfs p hp)
  have e := g.ext S.w hf he
  have nf : ∀ j, j ≠ i → ∀ p, p ∈ A j → p ∉ fs := fun j hj p hp hq => hj (S.dj j i p hp (hfs p hq))
  refine ⟨⟨fun j => if j = i then fp' else A j, e.w, by rw [List.length_set, hl]; exact S.len, fun j s h => ?_, fun j p hp => ?_, fun j p hp => ?_, fun j k p hj hk => ?_, rf_set S.rf hpl (fun j hj => if_neg hj) hσ⟩, e⟩
  · by_cases hj : j = i
    · subst hj
      have hlt : j < Γ.length := by
        have := (List.getElem?_eq_some_iff.mp h).1
        simpa using this
      rw [List.getElem?_set_self hlt] at h
      cases h
      rw [if_pos rfl]
      exact sl' hlt
    · rw [List.getElem?_set_ne (Ne.symm hj)] at h
      rw [if_neg hj, hσ j hj]
      exact (S.sl j s h).mono e fun a ha => g.at (S.al j a ha).1 (nf j hj a ha)
  · by_cases hj : j = i
    · rw [if_pos hj] at hp
      obtain ⟨h1, h2, h3⟩ := f p hp
      refine ⟨h1, h2, ?_⟩
      rcases h3 with z | z
      · exact (S.al i p z).2.2
      · by_cases q : p ∈ G.P
        · exact .inl q
        · refine .inr ?_
          show G.H0 p = none
          cases r : G.H0 p with
          | none => rfl
          | some u => rw [S.w.keep p u r q] at z; cases z
    · rw [if_neg hj] at hp
      obtain ⟨h1, h2, h3⟩ := S.al j p hp
      refine ⟨by rw [g.at h1 (nf j hj p hp)]; exact h1, ?_, h3⟩
      show N' p = none
      cases q : N' p with
      | none => rfl
      | some o =>
        rcases (g.n' p o q).2 with z | z
        · rw [h2] at z; cases z
        · exact absurd z h1
  · show G.E p = none
    by_cases hj : j = i
    · rw [if_pos hj] at hp
      rcases (f p hp).2.2 with z | z
      · exact S.ae i p z
      · cases q : G.E p with
        | none => rfl
        | some u => rw [(S.w.ex p u q).1] at z; cases z
    · rw [if_neg hj] at hp
      exact S.ae j p hp
  · have key : ∀ j', j' ≠ i → p ∈ A j' → p ∈ fp' → False := fun j' hj' h1 h2 => by
      rcases (f p h2).2.2 with z | z
      · exact hj' (S.dj j' i p h1 z)
      · exact (S.al j' p h1).1 z
    by_cases hj' : j = i
    · by_cases hk' : k = i
      · rw [hj', hk']
      · rw [if_pos hj'] at hj
        rw [if_neg hk'] at hk
        exact (key k hk' hk hj).elim
    · by_cases hk' : k = i
      · rw [if_neg hj'] at hj
        rw [if_pos hk'] at hk
        exact (key j hj' hj hk).elim
      · rw [if_neg hj'] at hj
        rw [if_neg hk'] at hk
        exact S.dj j k p hj hk
theorem grow0 {G : Gh} {H : Hp} (w : Wf G H) : Grow G H G.N H [] := ⟨fun _ _ h _ => h, fun _ h => absurd h (by simp), TupLe.rf _, fun _ _ h => h, fun a o h => ⟨(w.new a o h).1, .inl h⟩⟩
theorem same_upd {H : Hp} {p : Addr} {o : HO} (h : H p = none) : Same H (upd H p o) := fun b x e => by
  rw [upd_ne (ne_of_none e h)]
  exact e
theorem tup_upd {H : Hp} {p : Addr} {o : HO} (h : H p = none) : TupLe H (upd H p o) := fun b x e => same_upd h _ _ e
theorem grow_new {G : Gh} {H : Hp} {p : Addr} {o : HO} (w : Wf G H) (h : H p = none) : Grow G H (upd G.N p o) (upd H p o) [] := by
  have hN : G.N p = none := by
    cases q : G.N p with
    | none => rfl
    | some u => rw [(w.new p u q).1] at h; cases h
  refine ⟨fun a u e _ => same_upd h a u e, fun _ h => absurd h (by simp), tup_upd h, fun a u e => same_upd hN a u e, fun a u e => ?_⟩
  by_cases ha : a = p
  · subst ha
    rw [upd_same] at e
    rw [upd_same]
    exact ⟨e, .inr h⟩
  · rw [upd_ne ha] at e
    rw [upd_ne ha]
    exact ⟨(w.new a u e).1, .inl e⟩
theorem grow_own {G : Gh} {H : Hp} {p : Addr} {o : HO} (w : Wf G H) (h : H p = none) : Grow G H G.N (upd H p o) [] :=
  ⟨fun a u e _ => same_upd h a u e, fun _ h => absurd h (by simp), tup_upd h, fun _ _ e => e, fun a u e => ⟨same_upd h a u (w.new a u e).1, .inl e⟩⟩
theorem grow_mut {G : Gh} {H : Hp} {p : Addr} {o u : HO} (w : Wf G H) (h : H p = some u) (hN : G.N p = none) (ht : ∀ xs, u ≠ .tup xs) (hz : ∀ x y, u ≠ .frz x y) : Grow G H G.N (upd H p o) [p] := by
  refine ⟨fun a x e hp => by rw [upd_ne (by simpa using hp)]; exact e, fun a ha => ?_, fun a xs e => ?_, fun _ _ e => e, fun a x e => ⟨?_, .inl e⟩⟩
  · have : a = p := by simpa using ha
    rw [this, upd_same]; simp
  · by_cases q : a = p
    · subst q; rw [h] at e; exact absurd (Option.some.inj e) (ht _)
    · rw [upd_ne q]; exact e
  · rw [upd_ne (fun q => by rw [q, hN] at e; cases e)]
    exact (w.new a x e).1
theorem set_at {α : Type} {l : List α} {i : Nat} {x : α} (h : i < l.length) : (l.set i x)[i]? = some x := List.getElem?_set_self h
theorem Wf.fresh {G : Gh} {H : Hp} {p : Addr} (w : Wf G H) (hp : H p = none) : G.N p = none ∧ G.H0 p = none ∧ p ∉ G.P := by
  have h3 : p ∉ G.P := fun z => w.pal p z hp
  refine ⟨?_, ?_, h3⟩
  · cases q : G.N p with
    | none => rfl
    | some u => rw [(w.new p u q).1] at hp; cases hp
  · cases q : G.H0 p with
    | none => rfl
    | some u => rw [w.keep p u q h3] at hp; cases hp
theorem Sta.put {K : PySem.W.Frag} {G : Gh} {H : Hp} {σ : St} {Γ : List Sl} {fr : Bool} {d : PyData} {v : V} (s : Sta K G H σ Γ) (i : Nat) (h : Dn K (rg G fr) H v d) :
    Sta K G H (σ.set i (some v)) (Γ.set i (.dat fr d)) := by
  obtain ⟨A, S⟩ := s
  refine (S.step (i := i) (fp' := []) (s' := .dat fr d) (σ' := σ.set i (some v)) (grow0 S.w) (fun p hp => absurd hp (by simp)) (fun j hj => List.getElem?_set_ne (Ne.symm hj)) (List.length_set ..) (fun hlt => ⟨rfl, v, ?_, h⟩) (fun p hp => absurd hp (by simp))).1
  exact set_at (by rw [← S.len]; exact hlt)
theorem Sta.forget {K : PySem.W.Frag} {G : Gh} {H : Hp} {σ : St} {Γ : List Sl} (s : Sta K G H σ Γ) (i : Nat) : Sta K G H σ (Γ.set i .un) := by
  obtain ⟨A, S⟩ := s
  exact (S.step (i := i) (fp' := []) (s' := .un) (σ' := σ) (grow0 S.w) (fun p hp => absurd hp (by simp)) (fun j hj => rfl) rfl (fun hlt => rfl) (fun p hp => absurd hp (by simp))).1
theorem Sta.freeze {K : PySem.W.Frag} {G : Gh} {H : Hp} {σ : St} {Γ : List Sl} {ds : List PyData} (s : Sta K G H σ Γ) (i : Nat) (hi : Γ[i]? = some (.own (.lst ds))) :
    ∃ G', Sta K G' H σ (Γ.set i (.dat true (.list ds))) ∧ Ext G H G' H := by
  obtain ⟨A, S⟩ := s
  obtain ⟨v, h1, h0, p, vs, rfl, hfp, hp, hd⟩ := S.sl i _ hi
  have hpA : p ∈ A i := by rw [hfp]; simp
  have hN : G.N p = none := (S.al i p hpA).2.1
  have h00 : G.H0 p = none := h0 p hpA
  have n1 : ∀ a o, G.N a = some o → upd G.N p (.lst vs) a = some o := fun a o e => same_upd hN a o e
  have hE : ∀ a o, G.E a = some o → upd G.N p (.lst vs) a = none := fun a o ha => by
    have z : a ≠ p := fun z => by
      have q := S.ae i p hpA
      rw [z, q] at ha
      cases ha
    rw [upd_ne z]
    exact (S.w.ex a o ha).2.1
  have e : Ext G H ⟨G.H0, G.P, G.I, upd G.N p (.lst vs), G.E⟩ H := by
    refine ⟨rfl, rfl, rfl, rfl, n1, fun a o ha => ?_, TupLe.rf _, S.w.keep, fun a o ha => ?_, S.w.pal, S.w.p0, fun a o ha => ⟨(S.w.ex a o ha).1, hE a o ha, (S.w.ex a o ha).2.2⟩, S.w.iv⟩
    · have ha : upd G.N p (.lst vs) a = some o := ha
      by_cases q : a = p
      · subst q; exact .inr h00
      · rw [upd_ne q] at ha; exact .inl ha
    have ha : upd G.N p (.lst vs) a = some o := ha
    by_cases q : a = p
    · subst q
      rw [upd_same] at ha
      cases ha
      exact ⟨hp, trivial⟩
    · rw [upd_ne q] at ha
      exact S.w.new a o ha
  refine ⟨_, ⟨fun j => if j = i then [] else A j, e.w, by rw [List.length_set]; exact S.len, fun j s h => ?_, fun j q hq => ?_, fun j q hq => ?_, fun j k q hj hk => ?_, rf_set S.rf rfl (fun j hj => if_neg hj) (fun _ _ => rfl)⟩, e⟩
  · by_cases hj : j = i
    · subst hj
      rw [List.getElem?_set_self (List.getElem?_eq_some_iff.mp hi).1] at h
      cases h
      rw [if_pos rfl]
      exact ⟨rfl, .ref p, h1, .lst (.inl upd_same) (hd.mono n1 (TupLe.rf _))⟩
    · rw [List.getElem?_set_ne (Ne.symm hj)] at h
      rw [if_neg hj]
      exact (S.sl j s h).mono e fun a ha => rfl
  · by_cases hj : j = i
    · rw [if_pos hj] at hq; cases hq
    · rw [if_neg hj] at hq
      obtain ⟨h2, h3, h4⟩ := S.al j q hq
      refine ⟨h2, ?_, h4⟩
      show upd G.N p (.lst vs) q = none
      rw [upd_ne (fun z => hj (S.dj j i q hq (by rw [z]; exact hpA)))]
      exact h3
  · by_cases hj : j = i
    · rw [if_pos hj] at hq; cases hq
    · rw [if_neg hj] at hq
      exact S.ae j q hq
  · by_cases hj' : j = i
    · rw [if_pos hj'] at hj; cases hj
    · by_cases hk' : k = i
      · rw [if_pos hk'] at hk; cases hk
      · rw [if_neg hj'] at hj
        rw [if_neg hk'] at hk
        exact S.dj j k q hj hk
theorem Sta.change {K : PySem.W.Frag} {G : Gh} {H : Hp} {σ : St} {Γ : List Sl} {ds : List PyData} (s : Sta K G H σ Γ) (i : Nat) (hi : Γ[i]? = some (.own (.lst ds))) :
    ∃ p vs, σ[i]? = some (some (.ref p)) ∧ H p = some (.lst vs) ∧ DnA K (rg G true) H vs ds ∧
      ∀ vs' ds', DnA K (rg G true) H vs' ds' → Sta K G (upd H p (.lst vs')) σ (Γ.set i (.own (.lst ds'))) ∧ Ext G H G (upd H p (.lst vs')) := by
  obtain ⟨A, S⟩ := s
  obtain ⟨v, h1, h0, p, vs, rfl, hfp, hp, hd⟩ := S.sl i _ hi
  have hpA : p ∈ A i := by rw [hfp]; simp
  have hN : G.N p = none := (S.al i p hpA).2.1
  refine ⟨p, vs, h1, hp, hd, fun vs' ds' hd' => ?_⟩
  have g : Grow G H G.N (upd H p (.lst vs')) [p] := grow_mut S.w hp hN (fun xs z => by cases z) (fun x y z => by cases z)
  refine S.step (i := i) (fp' := [p]) (s' := .own (.lst ds')) (σ' := σ) g (fun q hq => ?_) (fun j hj => rfl) rfl (fun hlt => ⟨.ref p, h1, fun q hq => ?_, p, vs', rfl, rfl, upd_same, hd'.mono (fun _ _ z => z) g.t⟩) (fun q hq => ?_)
  · have : q = p := by simpa using hq
    rw [this]; exact hpA
  · have : q = p := by simpa using hq
    rw [this]; exact h0 p hpA
  · have : q = p := by simpa using hq
    rw [this]
    exact ⟨by rw [upd_same]; simp, hN, .inl hpA⟩
theorem Sta.changeIo {K : PySem.W.Frag} {G : Gh} {H : Hp} {σ : St} {Γ : List Sl} {ds : List PyData} (s : Sta K G H σ Γ) (i : Nat) (hi : Γ[i]? = some (.io (.lst ds))) :
    ∃ p vs, σ[i]? = some (some (.ref p)) ∧ H p = some (.lst vs) ∧ DnA K (rg G true) H vs ds ∧
      ∀ vs' ds', DnA K (rg G true) H vs' ds' → Sta K G (upd H p (.lst vs')) σ (Γ.set i (.io (.lst ds'))) ∧ Ext G H G (upd H p (.lst vs')) := by
  obtain ⟨A, S⟩ := s
  obtain ⟨v, h1, h0, p, vs, rfl, hfp, hp, hd⟩ := S.sl i _ hi
  have hpA : p ∈ A i := by rw [hfp]; simp
  have hN : G.N p = none := (S.al i p hpA).2.1
  refine ⟨p, vs, h1, hp, hd, fun vs' ds' hd' => ?_⟩
  have g : Grow G H G.N (upd H p (.lst vs')) [p] := grow_mut S.w hp hN (fun xs z => by cases z) (fun x y z => by cases z)
  refine S.step (i := i) (fp' := [p]) (s' := .io (.lst ds')) (σ' := σ) g (fun q hq => ?_) (fun j hj => rfl) rfl (fun hlt => ⟨.ref p, h1, h0, p, vs', rfl, rfl, upd_same, hd'.mono (fun _ _ z => z) g.t⟩) (fun q hq => ?_)
  · have : q = p := by simpa using hq
    rw [this]; exact hpA
  · have : q = p := by simpa using hq
    rw [this]
    exact ⟨by rw [upd_same]; simp, hN, .inl hpA⟩
theorem Sta.pin {K : PySem.W.Frag} {G : Gh} {H : Hp} {σ : St} {Γ : List Sl} {D : Addr} {o : HO} (S : Sta K G H σ Γ) (hD : H D = none) : Sta K ⟨G.H0, G.P, G.I, G.N, upd G.E D o⟩ (upd H D o) σ Γ ∧ TupLe H (upd H D o) := by
  obtain ⟨A, S⟩ := S
  obtain ⟨f1, f2, f3⟩ := S.w.fresh hD
  have t := tup_upd (o := o) hD
  have nA : ∀ i, D ∉ A i := fun i h => (S.al i D h).1 hD
  have w : Wf ⟨G.H0, G.P, G.I, G.N, upd G.E D o⟩ (upd H D o) := by
    refine ⟨fun a u h h2 => same_upd hD _ _ (S.w.keep a u h h2), fun a u h => ⟨same_upd hD _ _ (S.w.new a u h).1, (S.w.new a u h).2⟩, fun a h => ?_, S.w.p0, fun a u h => ?_, fun i q h => (S.w.iv i q h).imp id fun z => z.imp (fun z => ?_) fun ⟨xs, z⟩ => ⟨xs, t q xs z⟩⟩
    rotate_left 2
    · by_cases e : q = D
      · show upd G.E D o q ≠ none
        rw [e, upd_same]; simp
      · show upd G.E D o q ≠ none
        rw [upd_ne e]; exact z
    · rw [upd_ne (show a ≠ D from fun z => f3 (z ▸ h))]
      exact S.w.pal a h
    · by_cases q : a = D
      · subst q
        have h : upd G.E a o a = some u := h
        rw [upd_same] at h ⊢
        exact ⟨h, f1, f2, f3⟩
      · have h : upd G.E D o a = some u := h
        rw [upd_ne q] at h ⊢
        exact S.w.ex a u h
  refine ⟨⟨A, w, S.len, fun i s h => ?_, fun i p h => ⟨?_, (S.al i p h).2⟩, fun i p h => ?_, S.dj, S.rf⟩, t⟩
  · have q := S.sl i s h
    cases s with
    | un => exact q
    | dat fr d =>
      obtain ⟨q1, v, q2, q3⟩ := q
      exact ⟨q1, v, q2, q3.mono (fun a o z => by cases fr <;> exact z) t⟩
    | own c =>
      obtain ⟨v, q2, q4, q3⟩ := q
      exact ⟨v, q2, q4, Cl.mono q3 (fun a o z => z) (fun a ha => upd_ne (fun z => nA i (z ▸ ha))) t⟩
    | io c =>
      obtain ⟨v, q2, q4, q3⟩ := q
      exact ⟨v, q2, q4, Cl.mono q3 (fun a o z => z) (fun a ha => upd_ne (fun z => nA i (z ▸ ha))) t⟩
    | lent c =>
      obtain ⟨q1, p, u, q2, q3, q4, q5, q6, q7⟩ := q
      have ne : p ≠ D := fun z => by rw [z, hD] at q4; cases q4
      exact ⟨q1, p, u, q2, q3, by rw [upd_ne ne]; exact q4, by show upd G.E D o p = _; rw [upd_ne ne]; exact q5, q6, Cl.mono q7 (fun a o z => z) (fun a ha => by
        have : a = p := by simpa using ha
        rw [this, upd_ne ne]) t⟩
    | ref _ _ => exact q
    | pool ns => exact ⟨q.1, q.2.mono (fun a o z => z) (fun a ha => upd_ne (fun z => nA i (z ▸ ha))) t⟩
    | al _ _ =>
      obtain ⟨h1, q', vs, v, h2, h3, h4, h5⟩ := q
      exact ⟨h1, q', vs, v, h2, t _ _ h3, h4, h5⟩
  · rw [upd_ne (show p ≠ D from fun z => nA i (z ▸ h))]
    exact (S.al i p h).1
  · show upd G.E D o p = none
    rw [upd_ne (show p ≠ D from fun z => nA i (z ▸ h))]
    exact S.ae i p h
def del (H : Hp) (D : Addr) : Hp := fun b => if b = D then none else H b
theorem del_ne {H : Hp} {D b : Addr} (h : b ≠ D) : PD.del H D b = H b := by unfold PD.del; rw [if_neg h]
theorem del_same {H : Hp} {D : Addr} : PD.del H D D = none := by unfold PD.del; rw [if_pos rfl]
theorem del_upd {H : Hp} {D : Addr} {o : HO} (h : H D = some o) : upd (PD.del H D) D o = H := by
  funext b
  by_cases q : b = D
  · subst q; rw [upd_same, h]
  · rw [upd_ne q, del_ne q]
theorem Sta.unpin {K : PySem.W.Frag} {G : Gh} {H : Hp} {σ : St} {Γ : List Sl} {D : Addr} {o : HO} {E0 : Hp} (S : Sta K G H σ Γ) (hE : G.E = upd E0 D o) (h0 : E0 D = none) (ho : ∀ xs, o ≠ .tup xs) (hz : ∀ x y, o ≠ .frz x y) (hI : ∀ i, G.I i ≠ some (.ref D)) : Sta K ⟨G.H0, G.P, G.I, G.N, E0⟩ (PD.del H D) σ Γ ∧ H D = some o ∧ TupLe H (PD.del H D) := by
  obtain ⟨A, S⟩ := S
  have eD : G.E D = some o := by rw [hE, upd_same]
  obtain ⟨g1, g2, g3, g4⟩ := S.w.ex D o eD
  have nA : ∀ i, D ∉ A i := fun i h => by
    have := S.ae i D h
    rw [eD] at this; cases this
  have t : TupLe H (PD.del H D) := fun a xs h => by
    rw [del_ne (fun z => by rw [z, g1] at h; exact ho xs (Option.some.inj h))]
    exact h
  have nD : ∀ a u, G.N a = some u → a ≠ D := fun a u h z => by rw [z, g2] at h; cases h
  have w : Wf ⟨G.H0, G.P, G.I, G.N, E0⟩ (PD.del H D) := by
    refine ⟨fun a u h h2 => ?_, fun a u h => ?_, fun a h => ?_, S.w.p0, fun a u h => ?_, fun i q h => (S.w.iv i q h).imp id fun z => z.imp (fun z => ?_) fun ⟨xs, z⟩ => ⟨xs, t q xs z⟩⟩
    rotate_right
    · have ne : q ≠ D := fun e => hI i (e ▸ h)
      show E0 q ≠ none
      rw [hE, upd_ne ne] at z
      exact z
    · rw [del_ne (fun z => by rw [z] at h; rw [show G.H0 D = some u from h] at g3; cases g3)]
      exact S.w.keep a u h h2
    · rw [del_ne (nD a u h)]
      exact S.w.new a u h
    · rw [del_ne (show a ≠ D from fun z => g4 (z ▸ h))]
      exact S.w.pal a h
    · have h : E0 a = some u := h
      have q : a ≠ D := fun z => by rw [z, h0] at h; cases h
      rw [del_ne q]
      exact S.w.ex a u (by rw [hE, upd_ne q]; exact h)
  refine ⟨⟨A, w, S.len, fun i s h => ?_, fun i p h => ⟨?_, (S.al i p h).2⟩, fun i p h => ?_, S.dj, S.rf⟩, g1, t⟩
  · have q := S.sl i s h
    cases s with
    | un => exact q
    | dat fr d =>
      obtain ⟨q1, v, q2, q3⟩ := q
      exact ⟨q1, v, q2, q3.mono (fun a o z => by cases fr <;> exact z) t⟩
    | own c =>
      obtain ⟨v, q2, q4, q3⟩ := q
      exact ⟨v, q2, q4, Cl.mono q3 (fun a o z => z) (fun a ha => del_ne (fun z => nA i (z ▸ ha))) t⟩
    | io c =>
      obtain ⟨v, q2, q4, q3⟩ := q
      exact ⟨v, q2, q4, Cl.mono q3 (fun a o z => z) (fun a ha => del_ne (fun z => nA i (z ▸ ha))) t⟩
    | lent c =>
      obtain ⟨q1, p, u, q2, q3, q4, q5, q6, q7⟩ := q
      have ne : p ≠ D := fun z => hI i (by rw [← z]; exact q3)
      exact ⟨q1, p, u, q2, q3, by rw [del_ne ne]; exact q4, by show E0 p = _; rw [hE, upd_ne ne] at q5; exact q5, q6, Cl.mono q7 (fun a o z => z) (fun a ha => by
        have : a = p := by simpa using ha
        rw [this, del_ne ne]) t⟩
    | ref _ _ => exact q
    | pool ns => exact ⟨q.1, q.2.mono (fun a o z => z) (fun a ha => del_ne (fun z => nA i (z ▸ ha))) t⟩
    | al _ _ =>
      obtain ⟨h1, q', vs, v, h2, h3, h4, h5⟩ := q
      exact ⟨h1, q', vs, v, h2, t _ _ h3, h4, h5⟩
  · rw [del_ne (show p ≠ D from fun z => nA i (z ▸ h))]
    exact (S.al i p h).1
  · show E0 p = none
    have := S.ae i p h
    rw [hE, upd_ne (show p ≠ D from fun z => nA i (z ▸ h))] at this
    exact this
theorem Sta.blank {K : PySem.W.Frag} {G : Gh} {H : Hp} {σ : St} {Γ : List Sl} (s : Sta K G H σ Γ) (i : Nat) (o : Option V) : Sta K G H (σ.set i o) (Γ.set i .un) := by
  obtain ⟨A, S⟩ := s
  exact (S.step (i := i) (fp' := []) (s' := .un) (σ' := σ.set i o) (grow0 S.w) (fun p hp => absurd hp (by simp)) (fun j hj => List.getElem?_set_ne (Ne.symm hj)) (List.length_set ..) (fun hlt => rfl) (fun p hp => absurd hp (by simp))).1
theorem Sta.swap {K : PySem.W.Frag} {G : Gh} {H : Hp} {σ σ' : St} {Γ : List Sl} (s : Sta K G H σ Γ) (hl : σ'.length = σ.length) (h : ∀ i : Nat, σ'[i]? = σ[i]? ∨ Γ[i]? = some Sl.un) : Sta K G H σ' Γ := by
  obtain ⟨A, S⟩ := s
  refine ⟨A, S.w, by rw [hl]; exact S.len, fun i sl e => ?_, S.al, S.ae, S.dj, fun i j k ns e1 e2 => ?_⟩
  rotate_left
  · obtain ⟨p, q1, q2⟩ := S.rf i j k ns e1 e2
    refine ⟨p, q1, ?_⟩
    rcases h i with q | q
    · rw [q]; exact q2
    · rw [q] at e1; cases e1
  rcases h i with q | q
  · rw [q]; exact S.sl i sl e
  · rw [q] at e
    cases e
    exact S.sl i .un q
end PD
set_option Elab.async false
set_option linter.all false
set_option maxRecDepth 100000
set_option maxHeartbeats 4000000
namespace PD
open PySem L2
inductive AV where
  | d (fr : Bool) (d : PyData)
  | s (i : Nat)
def AVok (K : PySem.W.Frag) (G : Gh) (H : Hp) (σ : St) (v : V) : AV → Prop
  | .d fr d => Dn K (rg G fr) H v d
  | .s i => σ[i]? = some (some v)
theorem AVok.ext {K : PySem.W.Frag} {G G' : Gh} {H H' : Hp} {σ : St} {v : V} {a : AV} (h : AVok K G H σ v a) (e : Ext G H G' H') : AVok K G' H' σ v a := by
  cases a with
  | d fr d => exact e.dn h
  | s i => exact h
def FldsOk (K : PySem.W.Frag) (G : Rg) (H : Hp) (fs : List (Str × V)) (flds : List (Str × PyData)) : Prop := fs.map (·.1) = flds.map (·.1) ∧ DnA K G H (fs.map (·.2)) (flds.map (·.2))
def XdOk (K : PySem.W.Frag) (G : Rg) (H : Hp) (d : Option Addr) (flds : List (Str × PyData)) : Prop :=
  (∃ a fs, d = some a ∧ G a (.xd fs) ∧ FldsOk K G H fs flds) ∨ (d = none ∧ flds = [])
def XW (X : Cx) (W : WX) (G : Gh) (H : Hp) (_ : St) (x : Exn) : Prop :=
  ∀ G' H' σ' C d, Ext G H G' H' → Sta X.K G' H' σ' x.st → X.mg x.cls = some (.ref C) → XdOk X.K (rg G' true) H' d x.flds → W (.ref C) d σ' H'
theorem XW.ext {X : Cx} {W : WX} {G G' : Gh} {H H' : Hp} {σ : St} {x : Exn} (h : XW X W G H σ x) (e : Ext G H G' H') : XW X W G' H' σ x := fun G2 H2 σ2 C d e2 => h G2 H2 σ2 C d (e.tr e2)
def Pst (X : Cx) (W : WX) (G : Gh) (H : Hp) (σ : St) {τ : Type} (m : R τ) (P : τ → Gh → Hp → Prop) : Prop :=
  match m with
  | .bad => False
  | .exc x => XW X W G H σ x
  | .val r => ∀ G' H', Ext G H G' H' → P r G' H'
theorem Pst.ext {X : Cx} {W : WX} {G G' : Gh} {H H' : Hp} {σ : St} {τ : Type} {m : R τ} {P : τ → Gh → Hp → Prop} (h : Pst X W G H σ m P) (e : Ext G H G' H') : Pst X W G' H' σ m P := by
  cases m with
  | bad => exact h
  | exc x => exact XW.ext (σ := σ) h e
  | val r => exact fun G2 H2 e2 => h G2 H2 (e.tr e2)
theorem Pst.imp {X : Cx} {W : WX} {G : Gh} {H : Hp} {σ : St} {τ : Type} {m : R τ} {P P' : τ → Gh → Hp → Prop} (h : Pst X W G H σ m P) (k : ∀ r G' H', Ext G H G' H' → P r G' H' → P' r G' H') : Pst X W G H σ m P' := by
  cases m with
  | bad => exact h
  | exc x => exact h
  | val r => exact fun G2 H2 e2 => k r G2 H2 e2 (h G2 H2 e2)
theorem Pst.impG {X : Cx} {W : WX} {G : Gh} {H : Hp} {σ : St} {τ : Type} {m : R τ} {P P' : τ → Gh → Hp → Prop} (h : Pst X W G H σ m P) (k : ∀ r G' H', Ext G H G' H' → (∀ G2 H2, Ext G' H' G2 H2 → P r G2 H2) → P' r G' H') : Pst X W G H σ m P' := by
  cases m with
  | bad => exact h
  | exc x => exact h
  | val r => exact fun G2 H2 e2 => k r G2 H2 e2 fun G3 H3 e3 => h G3 H3 (e2.tr e3)
theorem Pst.bind {X : Cx} {W : WX} {G : Gh} {H : Hp} {σ : St} {τ ρ : Type} {m : R τ} {k : τ → R ρ} {P : ρ → Gh → Hp → Prop} (h : Pst X W G H σ (m.bind k) P) : Pst X W G H σ m (fun r G' H' => Pst X W G' H' σ (k r) P) := by
  cases m with
  | bad => exact h
  | exc x => exact h
  | val r => exact fun G2 H2 e2 => Pst.ext h e2
section
variable (X : Cx) (W : WX) (Γ : List Sl)
def rdE {τ : Type} (m : R τ) (av : τ → AV) (Γ' : τ → List Sl) : TE := fun σ H Q => ∃ G, Sta X.K G H σ Γ ∧ Pst X W G H σ m fun r G' H' => ∀ v, Sta X.K G' H' σ (Γ' r) → AVok X.K G' H' σ v (av r) → Q v H'
def rdT {τ : Type} (m : R τ) (b : τ → Bool) (Γ' : τ → List Sl) : TT := fun σ H Q => ∃ G, Sta X.K G H σ Γ ∧ Pst X W G H σ m fun r G' H' => Sta X.K G' H' σ (Γ' r) → Q (b r) H'
def rdF {τ : Type} (m : R τ) (ds : τ → List PyData) (Γ' : τ → List Sl) : TE := fun σ H Q => ∃ G, Sta X.K G H σ Γ ∧ Pst X W G H σ m fun r G' H' => ∀ p vs, Sta X.K G' H' σ (Γ' r) → H' p = none → DnA X.K (rg G' true) H' vs (ds r) → Q (.ref p) (upd H' p (.lst vs))
inductive AVs (K : PySem.W.Frag) (G : Gh) (H : Hp) (σ : St) : List V → List AV → Prop
  | nil : AVs K G H σ [] []
  | cons {v : V} {vs : List V} {a : AV} {as : List AV} : AVok K G H σ v a → AVs K G H σ vs as → AVs K G H σ (v :: vs) (a :: as)
def rdA {τ : Type} (m : R τ) (as : τ → List AV) (Γ' : τ → List Sl) : TA := fun σ H Q => ∃ G, Sta X.K G H σ Γ ∧ Pst X W G H σ m fun r G' H' => ∀ vs, Sta X.K G' H' σ (Γ' r) → AVs X.K G' H' σ vs (as r) → Q vs H'
def Ev (e : Expr) {τ : Type} (m : R τ) (av : τ → AV) (Γ' : τ → List Sl) : Prop := PE X e (rdE X W Γ m av Γ')
def EvT (e : Expr) {τ : Type} (m : R τ) (b : τ → Bool) (Γ' : τ → List Sl) : Prop := PT X e (rdT X W Γ m b Γ')
def EvF (e : Expr) {τ : Type} (m : R τ) (ds : τ → List PyData) (Γ' : τ → List Sl) : Prop := PE X e (rdF X W Γ m ds Γ')
def EvA (es : List Expr) {τ : Type} (m : R τ) (as : τ → List AV) (Γ' : τ → List Sl) : Prop := PA X es (rdA X W Γ m as Γ')
abbrev EvP (e : Expr) (a : AV) : Prop := Ev X W Γ e (R.val ()) (fun _ => a) (fun _ => Γ)
end
theorem AVs.ext {K : PySem.W.Frag} {G G' : Gh} {H H' : Hp} {σ : St} (e : Ext G H G' H') : ∀ {vs : List V} {as : List AV}, AVs K G H σ vs as → AVs K G' H' σ vs as
  | _, _, .nil => .nil
  | _, _, .cons h a => .cons (h.ext e) (AVs.ext e a)
theorem pe_imp {X : Cx} {e : Expr} {t t' : TE} (h : PE X e t) (k : ∀ σ H Q, t' σ H Q → t σ H Q) : PE X e t' := ⟨fun pins s σ H Q I z => h.run pins s σ H Q I (k σ H Q z)⟩
theorem pt_imp {X : Cx} {e : Expr} {t t' : TT} (h : PT X e t) (k : ∀ σ H Q, t' σ H Q → t σ H Q) : PT X e t' := ⟨fun pins s σ H Q I z => h.run pins s σ H Q I (k σ H Q z)⟩
theorem pw_imp {X : Cx} {e : Expr} {t t' : TT} (h : PW X e t) (k : ∀ σ H Q, t' σ H Q → t σ H Q) : PW X e t' := ⟨fun w pins s σ H Q I z => h.run w pins s σ H Q I (k σ H Q z)⟩
theorem pa_imp {X : Cx} {es : List Expr} {t t' : TA} (h : PA X es t) (k : ∀ σ H Q, t' σ H Q → t σ H Q) : PA X es t' := ⟨fun pos pins s σ H Q I z => h.run pos pins s σ H Q I (k σ H Q z)⟩
theorem pe_any {X : Cx} {e : Expr} {α : Type} {t : α → TE} (h : ∀ x, PE X e (t x)) : PE X e (fun σ H Q => ∃ x, t x σ H Q) := ⟨fun pins s σ H Q I ⟨x, z⟩ => (h x).run pins s σ H Q I z⟩
theorem pw_any {X : Cx} {e : Expr} {α : Type} {t : α → TT} (h : ∀ x, PW X e (t x)) : PW X e (fun σ H Q => ∃ x, t x σ H Q) := ⟨fun w pins s σ H Q I ⟨x, z⟩ => (h x).run w pins s σ H Q I z⟩
theorem pa_any {X : Cx} {es : List Expr} {α : Type} {t : α → TA} (h : ∀ x, PA X es (t x)) : PA X es (fun σ H Q => ∃ x, t x σ H Q) := ⟨fun pos pins s σ H Q I ⟨x, z⟩ => (h x).run pos pins s σ H Q I z⟩
def visB (sc : Scope) (x : Str) : Bool := match sc.names.lookup x with
  | some .local => true
  | some .cell => true
  | some .free => true
  | _ => false
def glB (sc : Scope) (x : Str) : Bool := match sc.names.lookup x with
  | some .globalImplicit => true
  | _ => false
def locB (sc : Scope) (x : Str) : Bool := match sc.names.lookup x with
  | some .local => true
  | some .cell => true
  | _ => false
theorem loc_of {sc : Scope} {x : Str} (h : locB sc x = true) : Loc sc x := by
  unfold locB at h
  split at h
  · exact .inl ‹_›
  · exact .inr ‹_›
  · cases h
theorem vis_of {sc : Scope} {x : Str} (h : visB sc x = true) : Vis sc x := by
  unfold visB at h
  split at h
  · exact .inl ‹_›
  · exact .inr (.inl ‹_›)
  · exact .inr (.inr ‹_›)
  · cases h
theorem gl_of {sc : Scope} {x : Str} (h : glB sc x = true) : sc.names.lookup x = some .globalImplicit := by
  unfold glB at h
  split at h
  · assumption
  · cases h
def Sto (X : Cx) (sc : Scope) (x : Str) : Prop := Loc sc x ∧ (X.fn x = true ∨ sc.names.lookup x = some .local)
def lclB (sc : Scope) (x : Str) : Bool := match sc.names.lookup x with
  | some .local => true
  | _ => false
theorem sto_l {X : Cx} {sc : Scope} {x : Str} (h : lclB sc x = true) : Sto X sc x := by
  unfold lclB at h
  split at h
  · exact ⟨.inl ‹_›, .inr ‹_›⟩
  · cases h
theorem sto_c {X : Cx} {sc : Scope} {x : Str} (D : ∀ x, X.fn x = true) (h : locB sc x = true) : Sto X sc x := ⟨loc_of h, .inl (D x)⟩
theorem takes0N {X : Cx} : L2N.Takes X (fun _ _ _ _ => False) := fun _ _ ⟨_, _, _, _, _, _, _, _, _, _, _, _, _, _, _, _, w⟩ => w.elim
structure Cf0 (X : Cx) (W : WX) (sc : Scope) (N : List Str) : Prop where
  hsc : X.env.scope = sc
  hN : X.N = N
  nd : N.Nodup
  tk : L2N.Takes X W
  hu : X.A.units + 64 < cLine
  pass : PassesOwn (model X.prog X.w) X.A X.env X.xe
  hu2 : X.A.units + 150 < cLine
structure Cf (X : Cx) (W : WX) (sc : Scope) (N : List Str) : Prop extends Cf0 X W sc N where
  calm : X.calm = true
section
variable {X : Cx} {W : WX} {sc : Scope} {N : List Str} {Γ : List Sl}
theorem Cf0.gl (C : Cf0 X W sc N) {x : Str} (h : glB sc x = true) : Gl X x := by
  show X.env.scope.names.lookup x = _
  rw [C.hsc]
  exact gl_of h
theorem evp_of {e : Expr} {t : TE} {a : AV} (h : PE X e t) (k : ∀ σ H Q G, Sta X.K G H σ Γ → (∀ G' H' v, Ext G H G' H' → Sta X.K G' H' σ Γ → AVok X.K G' H' σ v a → Q v H') → t σ H Q) : EvP X W Γ e a :=
  pe_imp h fun σ H Q ⟨G, S, p⟩ => k σ H Q G S fun G' H' v e' S' a' => p G' H' e' v S' a'
theorem evp_var (C : Cf0 X W sc N) {i : Nat} {x : Str} {pos : Pos} {fr : Bool} {d : PyData} (hg : Γ[i]? = some (.dat fr d)) (hN : N[i]? = some x) (hv : visB sc x = true)
    (hd : (x == ("__debug__" : Str)) = false := by decide +kernel) (hcd : (x == ("__classdict__" : Str)) = false := by decide +kernel) : EvP X W Γ (.Name x pos) (.d fr d) := by
  refine evp_of (pe_var (i := i) (by rw [C.hN]; exact hN) (by rw [C.hsc]; exact vis_of hv) hd hcd) fun σ H Q G S k => ?_
  obtain ⟨A, T⟩ := id S
  obtain ⟨_, v, h1, h2⟩ := T.sl i _ hg
  exact ⟨v, h1, k G H v (Ext.rf S.w) S h2⟩
theorem evp_slot (C : Cf0 X W sc N) {i : Nat} {x : Str} {pos : Pos} {c : Cl} (hg : Γ[i]? = some (.own c) ∨ Γ[i]? = some (.io c) ∨ Γ[i]? = some (.lent c)) (hN : N[i]? = some x) (hv : visB sc x = true)
    (hd : (x == ("__debug__" : Str)) = false := by decide +kernel) (hcd : (x == ("__classdict__" : Str)) = false := by decide +kernel) : EvP X W Γ (.Name x pos) (.s i) := by
  refine evp_of (pe_var (i := i) (by rw [C.hN]; exact hN) (by rw [C.hsc]; exact vis_of hv) hd hcd) fun σ H Q G S k => ?_
  obtain ⟨A, T⟩ := id S
  have : ∃ v, σ[i]? = some (some v) := by
    rcases hg with hg | hg | hg
    · obtain ⟨v, h1, _⟩ := T.sl i _ hg
      exact ⟨v, h1⟩
    · obtain ⟨v, h1, _⟩ := T.sl i _ hg
      exact ⟨v, h1⟩
    · obtain ⟨_, p, o, h1, _⟩ := T.sl i _ hg
      exact ⟨_, h1⟩
  obtain ⟨v, h1⟩ := this
  exact ⟨v, h1, k G H v (Ext.rf S.w) S h1⟩
theorem evp_const {e : Expr} {v : V} {d : PyData} (h : PE X e (tC v)) (hd : ∀ K G H, Dn K G H v d) : EvP X W Γ e (.d true d) :=
  evp_of h fun σ H Q G S k => k G H v (Ext.rf S.w) S (hd _ _ _)
theorem evp_int {i : Int} {j : Nat} {pos : Pos} : EvP X W Γ (.Constant (.int i) j pos) (.d true (.int i)) := evp_const pe_int fun _ _ _ => .int i
theorem evp_bool {b : Bool} {j : Nat} {pos : Pos} : EvP X W Γ (.Constant (.bool b) j pos) (.d true (.bool b)) := evp_const pe_bl fun _ _ _ => .bl b
theorem evp_str {x : Str} {j : Nat} {pos : Pos} : EvP X W Γ (.Constant (.str x) j pos) (.d true (.str x)) := evp_const pe_str fun _ _ _ => .str x
theorem Ev.free {e : Expr} {τ : Type} {m : R τ} {fr fr' : Bool} {enc : τ → PyData} {Γ' : τ → List Sl} (h : Ev X W Γ e m (fun r => .d fr (enc r)) Γ') (hf : ∀ r, flat (enc r) = true) : Ev X W Γ e m (fun r => .d fr' (enc r)) Γ' :=
  pe_imp h fun σ H Q ⟨G, S, p⟩ => ⟨G, S, p.imp fun r G' H' _ k v S' a => k v S' (Dn.free a (hf r))⟩
theorem EvP.free {e : Expr} {fr fr' : Bool} {d : PyData} (h : EvP X W Γ e (.d fr d)) (hf : flat d = true) : EvP X W Γ e (.d fr' d) := Ev.free h fun _ => hf
theorem EvP.any {e : Expr} {fr : Bool} {d : PyData} (h : EvP X W Γ e (.d fr d)) : EvP X W Γ e (.d false d) :=
  pe_imp h fun σ H Q ⟨G, S, p⟩ => ⟨G, S, p.imp fun r G' H' _ k v S' a => k v S' (Dn.mono (rg_ff G' fr) (TupLe.rf _) a)⟩
theorem EvF.ev {e : Expr} {τ : Type} {m : R τ} {ds : τ → List PyData} {Γ' : τ → List Sl} (h : EvF X W Γ e m ds Γ') : Ev X W Γ e m (fun r => .d true (.list (ds r))) Γ' :=
  pe_imp h fun σ H Q ⟨G, S, p⟩ => ⟨G, S, p.impG fun r G' H' _ k p vs S' hp hd => by
    obtain ⟨S2, e2⟩ := S'.grow (grow_new (o := .lst vs) S'.w hp)
    exact k _ _ e2 _ S2 (.lst (.inl upd_same) (hd.mono e2.n e2.t))⟩
theorem bin_rd {α β γ : Type} {ma : R α} {ava : α → AV} {Γa : α → List Sl} {mb : α → R β} {avb : α → β → AV} {Γb : α → β → List Sl} {k : α → β → R γ} {avk : γ → AV} {Γk : γ → List Sl} {r : R2}
    (hk : ∀ x y G H σ u v Q, Sta X.K G H σ (Γb x y) → AVok X.K G H σ u (ava x) → AVok X.K G H σ v (avb x y) → Pst X W G H σ (k x y) (fun z G' H' => ∀ w, Sta X.K G' H' σ (Γk z) → AVok X.K G' H' σ w (avk z) → Q w H') → r u v H Q)
    {σ : St} {H : Hp} {Q : VK} (h : rdE X W Γ (ma.bind fun x => (mb x).bind fun y => k x y) avk Γk σ H Q) :
    tOp r (rdE X W Γ ma ava Γa) (fun σ H Q => ∃ x, rdE X W (Γa x) (mb x) (avb x) (Γb x) σ H Q) σ H Q := by
  obtain ⟨G, S, p⟩ := h
  refine ⟨G, S, (Pst.bind p).imp fun x G1 H1 e1 p1 u S1 a1 => ⟨x, G1, S1, (Pst.bind p1).imp fun y G2 H2 e2 p2 v S2 a2 => ?_⟩⟩
  exact hk x y G2 H2 σ u v Q S2 (a1.ext e2) a2 p2
variable {a b : Expr} {pos : Pos} {α β γ : Type} {ma : R α} {mb : α → R β} {Γa : α → List Sl} {Γb : α → β → List Sl} {Γk : γ → List Sl}
end
end PD
set_option Elab.async false
set_option linter.all false
set_option maxRecDepth 100000
set_option maxHeartbeats 4000000
set_option autoImplicit false
namespace PD
open PySem L2
theorem itT {P Q : Prop} (h : P) : if true = true then P else Q := by rw [if_pos rfl]; exact h
theorem itF {P Q : Prop} (h : Q) : if false = true then P else Q := by rw [if_neg (by simp)]; exact h
theorem R.bind_assoc {α β γ : Type} (m : R α) (f : α → R β) (g : β → R γ) : (m.bind f).bind g = m.bind fun a => (f a).bind g := by cases m <;> rfl
theorem R.bind_val {α : Type} (m : R α) : (m.bind fun a => .val a) = m := by cases m <;> rfl
def R.ofO {α : Type} : Option α → R α
  | some a => .val a
  | none => .bad
def R.req (b : Bool) : R Unit := if b then .val () else .bad
def cMul (i j : Int) : Bool := decide (i.natAbs.log2 + j.natAbs.log2 < 1000000)
def cDiv (_ j : Int) : Bool := decide (0 < j) && decide (j.natAbs.log2 < 9000)
def cMod (_ j : Int) : Bool := decide (0 < j)
def cShl (i j : Int) : Bool := decide (0 ≤ j) && decide ((Builtin.Int.intBits i : Int) + j ≤ 2 ^ 27)
def cShr (_ j : Int) : Bool := decide (0 ≤ j)
def cPow (i j : Int) : Bool := decide (0 ≤ j ∧ j ≤ 1000000 ∧ i.natAbs < 2 ^ 64)
theorem cMul_ok (i j : Int) (h : cMul i j = true) : CMulW i j := of_decide_eq_true (p := i.natAbs.log2 + j.natAbs.log2 < 1000000) h
theorem cDiv_ok (i j : Int) (h : cDiv i j = true) : CDivW i j := by
  unfold cDiv at h
  rw [Bool.and_eq_true] at h
  exact ⟨of_decide_eq_true h.1, of_decide_eq_true h.2⟩
theorem cMod_ok (i j : Int) (h : cMod i j = true) : 0 < j := of_decide_eq_true h
theorem cPow_ok (i j : Int) (h : cPow i j = true) : CPow i j := of_decide_eq_true (p := 0 ≤ j ∧ j ≤ 1000000 ∧ i.natAbs < 2 ^ 64) h
inductive Rdb (Γ : List Sl) : AV → PyData → Prop
  | d {fr : Bool} {z : PyData} : Rdb Γ (.d fr z) z
  | o {i : Nat} {es : List PyData} : Γ[i]? = some (.own (.lst es)) → Rdb Γ (.s i) (.list es)
  | i {i : Nat} {es : List PyData} : Γ[i]? = some (.io (.lst es)) → Rdb Γ (.s i) (.list es)
  | l {i : Nat} {es : List PyData} : Γ[i]? = some (.lent (.lst es)) → Rdb Γ (.s i) (.list es)
theorem atI_map {α β : Type} (f : α → β) (xs : List α) (i : Int) : atI (xs.map f) i = (atI xs i).map f := by
  unfold atI
  rw [List.length_map]
  cases ixN xs.length i with
  | none => rfl
  | some j => simp
theorem atI_dn {K : PySem.W.Frag} {G : Rg} {H : Hp} {vs : List V} {ds : List PyData} {i : Int} {d : PyData} (h : DnA K G H vs ds) (e : atI ds i = some d) : ∃ v, atI vs i = some v ∧ Dn K G H v d := by
  unfold atI at e ⊢
  rw [h.length]
  cases q : ixN ds.length i with
  | none => rw [q] at e; cases e
  | some j =>
    rw [q] at e
    exact h.get' e
def szB {α : Type} (xs : List α) : Bool := decide (xs.length ≤ sizeLine)
def mkS (io : Bool) (c : Cl) : Sl := if io then .io c else .own c
theorem Sta.chg {K : PySem.W.Frag} {G : Gh} {H : Hp} {σ : St} {Γ : List Sl} {ds : List PyData} (s : Sta K G H σ Γ) (i : Nat) (io : Bool) (hi : Γ[i]? = some (mkS io (.lst ds))) :
    ∃ p vs, σ[i]? = some (some (.ref p)) ∧ H p = some (.lst vs) ∧ DnA K (rg G true) H vs ds ∧
      ∀ vs' ds', DnA K (rg G true) H vs' ds' → Sta K G (upd H p (.lst vs')) σ (Γ.set i (mkS io (.lst ds'))) ∧ Ext G H G (upd H p (.lst vs')) := by
  cases io with
  | true => exact s.changeIo i hi
  | false => exact s.change i hi
def ltS {α : Type} (xs : List α) : Bool := decide (xs.length < sizeLine)
section
variable {X : Cx} {W : WX} {sc : Scope} {N : List Str} {Γ : List Sl} {a b c : Expr} {pos : Pos}
theorem Ev.tst {e : Expr} {τ : Type} {m : R τ} {fr : Bool} {b : τ → Bool} {Γ1 : τ → List Sl} (h : Ev X W Γ e m (fun r => .d fr (.bool (b r))) Γ1) (he : ∀ whole, isTrue e X.env whole = (do let v ← whole; standAt e.pos; holding [v] (truthy v)) := by intro _; rfl) : EvT X W Γ e m b Γ1 :=
  pt_imp (pt_val h he) fun σ H Q ⟨G, S, p⟩ => ⟨G, S, Pst.imp p fun r G' H' _ k v S' a => ⟨b r, dn_bool a, k S'⟩⟩
theorem evt_notM {τ : Type} {m : R τ} {z : τ → Bool} {Γ1 : τ → List Sl} (ha : EvT X W Γ a m z Γ1) : EvT X W Γ (.UnaryOp .Not a pos) m (fun r => !z r) Γ1 :=
  pt_imp (pt_not ha) fun σ H Q ⟨G, S, p⟩ => ⟨G, S, p⟩
end
theorem Sta.lent {K : PySem.W.Frag} {G : Gh} {H : Hp} {σ : St} {Γ : List Sl} {i : Nat} {es : List PyData} {v : V} (S : Sta K G H σ Γ) (h : Γ[i]? = some (.own (.lst es)) ∨ Γ[i]? = some (.io (.lst es))) (hv : σ[i]? = some (some v)) : Dn K (RgH H) H v (.list es) := by
  rcases h with h | h
  · obtain ⟨p, vs, h1, h2, h3, _⟩ := S.change i h
    rw [hv] at h1
    cases h1
    exact .lst (.inl h2) (h3.mono (S.w.rgl true) (TupLe.rf _))
  · obtain ⟨p, vs, h1, h2, h3, _⟩ := S.changeIo i h
    rw [hv] at h1
    cases h1
    exact .lst (.inl h2) (h3.mono (S.w.rgl true) (TupLe.rf _))
theorem Sta.lentL {K : PySem.W.Frag} {G : Gh} {H : Hp} {σ : St} {Γ : List Sl} {i : Nat} {es : List PyData} (S : Sta K G H σ Γ) (h : Γ[i]? = some (.lent (.lst es))) : ∃ p vs, σ[i]? = some (some (.ref p)) ∧ H p = some (.lst vs) ∧ G.E p = some (.lst vs) ∧ DnA K (rg G true) H vs es := by
  obtain ⟨A, T⟩ := S
  obtain ⟨_, p, o, h1, h2, h3, h4, h5, q, vs, e, _, h6, h7⟩ := T.sl i _ h
  cases e
  rw [h3] at h6
  cases h6
  exact ⟨p, vs, h1, h3, h4, h7⟩
theorem Rdb.ok {K : PySem.W.Frag} {G : Gh} {H : Hp} {σ : St} {Γ : List Sl} {a : AV} {z : PyData} {v : V} (h : Rdb Γ a z) (S : Sta K G H σ Γ) (hv : AVok K G H σ v a) : Dn K (RgH H) H v z := by
  cases h with
  | d => exact S.w.dn hv
  | o hg => exact S.lent (.inl hg) hv
  | i hg => exact S.lent (.inr hg) hv
  | l hg =>
    obtain ⟨p, vs, h1, h2, _, h3⟩ := S.lentL hg
    have hv : σ[_]? = some (some v) := hv
    rw [h1] at hv
    cases hv
    exact .lst (.inl h2) (h3.mono (S.w.rgl true) (TupLe.rf _))
section
variable {X : Cx} {W : WX} {Γ : List Sl} {a b : Expr} {op : CmpOp} {pos : Pos}
theorem cmp_test {M : Model} {A : Around} {E : Value → Shared → Prop} {env : Env} {s : Shared} {l r : Expr} {op : CmpOp} {pos : Pos} {whole : Sem Value} {Q : Bool → Shared → Prop} (h : wpAny M A (eval (.Compare l [op] [r] pos) env) (fun c s' => wpAny M A (truthy c) Q E s') E s) (hm : behindInMarks op r = false) :
    wpAny M A (isTrue (.Compare l [op] [r] pos) env whole) Q E s := fun Γ p hΓ => by
  have q := h Γ p hΓ
  simp only [eval_Compare1, markedBehindIn_of_false hm, Sem.wp_bind', Sem.wp_holding, Sem.wp_cmd_standAt, Sem.wp_operate] at q
  simp only [isTrue_Compare1, markedBehindIn_of_false hm, Sem.wp_bind', Sem.wp_holding, Sem.wp_cmd_standAt, Sem.wp_operate]
  exact Sem.wp_mono M Γ _ (fun a p1 s1 h1 => Sem.wp_mono M Γ _ (fun b p2 s2 h2 => Sem.wp_mono M Γ _ (fun c p3 s3 h3 => h3 Γ p3 hΓ) (fun _ _ _ z => z) _ _ h2) (fun _ _ _ z => z) _ _ h1) (fun _ _ _ z => z) _ _ q
theorem pt_cmpV {X : Cx} {a b : Expr} {op : CmpOp} {pos : Pos} {t : TE} (h : PE X (.Compare a [op] [b] pos) t) (hm : behindInMarks op b = false) : PT X (.Compare a [op] [b] pos) (tB t) := by
  refine ⟨fun pins s σ H Q I hw => cmp_test (thn (h.run pins s σ H _ I hw) fun v s1 ⟨x, H1, I1, r1, q1⟩ => ?_) hm⟩
  obtain ⟨d, rfl, q⟩ := q1
  cases r1
  exact wpAny_truthy_bool ⟨H1, I1, q⟩
theorem Ev.tstC {τ : Type} {m : R τ} {fr : Bool} {z : τ → Bool} {Γ1 : τ → List Sl} (h : Ev X W Γ (.Compare a [op] [b] pos) m (fun r => .d fr (.bool (z r))) Γ1) (hm : behindInMarks op b = false := by first | exact nobehind _ (by decide) (by decide) | rfl) : EvT X W Γ (.Compare a [op] [b] pos) m z Γ1 :=
  pt_imp (pt_cmpV h hm) fun σ H Q ⟨G, S, p⟩ => ⟨G, S, Pst.imp p fun r G' H' _ k v S' a => ⟨z r, dn_bool a, k S'⟩⟩
end
theorem AVs.length {K : PySem.W.Frag} {G : Gh} {H : Hp} {σ : St} : ∀ {vs : List V} {as : List AV}, AVs K G H σ vs as → vs.length = as.length
  | _, _, .nil => rfl
  | _, _, .cons _ a => by simp [AVs.length a]
theorem Sta.newTup {K : PySem.W.Frag} {G : Gh} {H : Hp} {σ : St} {Γ : List Sl} {p : Addr} {vs : List V} {ds : List PyData} {fr : Bool} (S : Sta K G H σ Γ) (hp : H p = none) (hd : DnA K (rg G fr) H vs ds) :
    ∃ G', Sta K G' (upd H p (.tup vs)) σ Γ ∧ Ext G H G' (upd H p (.tup vs)) ∧ Dn K (rg G' fr) (upd H p (.tup vs)) (.ref p) (.tuple ds) := by
  obtain ⟨S', e⟩ := S.grow (grow_new (o := .tup vs) S.w hp)
  exact ⟨_, S', e, .tup upd_same (e.dna hd)⟩
theorem AVs.len {K : PySem.W.Frag} {G : Gh} {H : Hp} {σ : St} : ∀ {vs : List V} {as : List AV}, AVs K G H σ vs as → vs.length = as.length
  | _, _, .nil => rfl
  | _, _, .cons _ a => by simp [AVs.len a]
def max2 (i j : Int) : Int := if j > i then j else i
def min2 (i j : Int) : Int := if j < i then j else i
section
variable {X : Cx} {W : WX} {Γ : List Sl} {a b c : Expr} {rest : List Expr} {pos : Pos} {α β γ : Type} {ma : R α} {ba : α → Bool} {Γa : α → List Sl} {mb : α → R β} {bb : α → β → Bool} {Γb : α → β → List Sl} {Γk : γ → List Sl} {bk : γ → Bool}
def EvWM (X : Cx) (W : WX) (Γ : List Sl) (e : Expr) {τ : Type} (m : R τ) (b : τ → Bool) (Γ' : τ → List Sl) : Prop := PW X e (rdT X W Γ m b Γ')
theorem EvWM.t {e : Expr} (h : EvWM X W Γ e ma ba Γa) : EvT X W Γ e ma ba Γa := PW.pt h
theorem evw_orM1 (h : EvT X W Γ a ma ba Γa) : EvWM X W Γ (.BoolOp .Or [a] pos) ma ba Γa := pw_or1 h
theorem evw_orM (ha : EvT X W Γ a ma ba Γa) (hb : ∀ x, EvWM X W (Γa x) (.BoolOp .Or (b :: rest) pos) (mb x) (bb x) (Γb x)) (k1 : α → γ) (k2 : α → β → γ) (h1 : ∀ x, bk (k1 x) = true := by intros; rfl) (h2 : ∀ x, Γk (k1 x) = Γa x := by intros; rfl) (h3 : ∀ x y, bk (k2 x y) = bb x y := by intros; rfl) (h4 : ∀ x y, Γk (k2 x y) = Γb x y := by intros; rfl) :
    EvWM X W Γ (.BoolOp .Or (a :: b :: rest) pos) (ma.bind fun x => if ba x then .val (k1 x) else (mb x).bind fun y => .val (k2 x y)) bk Γk :=
  pw_imp (pw_or ha (pw_any hb)) fun σ H Q ⟨G, S, p⟩ => ⟨G, S, (Pst.bind p).imp fun x G1 H1 e1 p1 S1 => by
    cases hx : ba x with
    | true =>
      rw [if_pos hx] at p1
      have q := p1 G1 H1 (Ext.rf S1.w) (by rw [h2]; exact S1)
      rw [h1] at q
      exact itT q
    | false =>
      rw [if_neg (by rw [hx]; decide)] at p1
      exact itF ⟨x, G1, S1, (Pst.bind p1).imp fun y G2 H2 e2 p2 S2 => by
        have q := p2 G2 H2 (Ext.rf S2.w) (by rw [h4]; exact S2)
        rw [h3] at q
        exact q⟩⟩
variable {f1 f2 : Bool}
theorem evv_oneM {op : BoolOp} {av : α → AV} (ha : Ev X W Γ a ma av Γa) : Ev X W Γ (.BoolOp op [a] pos) ma av Γa := pe_one ha
end
section
variable {X : Cx} {W : WX} {sc : Scope} {N : List Str} {Γ : List Sl}
theorem eva_nil : EvA X W Γ [] (R.val ()) (fun _ => []) (fun _ => Γ) :=
  pa_imp pa_nil fun σ H Q ⟨G, S, p⟩ => p G H (Ext.rf S.w) [] S .nil
theorem eva_cons {e : Expr} {es : List Expr} {α β γ : Type} {ma : R α} {ava : α → AV} {Γa : α → List Sl} {mb : α → R β} {asb : α → β → List AV} {Γb : α → β → List Sl} (kk : α → β → γ) {as : γ → List AV} {Γk : γ → List Sl}
    (ha : Ev X W Γ e ma ava Γa) (hb : ∀ x, EvA X W (Γa x) es (mb x) (asb x) (Γb x)) (h1 : ∀ x y, as (kk x y) = ava x :: asb x y := by intros; rfl) (h2 : ∀ x y, Γk (kk x y) = Γb x y := by intros; rfl)
    (hst : starEach (e :: es) X.env = (false, eval e X.env) :: starEach es X.env := by rfl) :
    EvA X W Γ (e :: es) (ma.bind fun x => (mb x).bind fun y => .val (kk x y)) as Γk := by
  refine pa_imp (pa_cons ha (pa_any hb) hst) fun σ H Q ⟨G, S, p⟩ => ?_
  refine ⟨G, S, (Pst.bind p).imp fun x G1 H1 e1 p1 v S1 a1 => ⟨x, G1, S1, (Pst.bind p1).imp fun y G2 H2 e2 p2 vs S2 a2 => ?_⟩⟩
  refine p2 G2 H2 (Ext.rf S2.w) (v :: vs) (by rw [h2]; exact S2) ?_
  rw [h1]
  exact .cons (a1.ext e2) a2
end
end PD
set_option Elab.async false
set_option linter.all false
set_option maxRecDepth 100000
set_option maxHeartbeats 4000000
set_option autoImplicit false
namespace PD
open PySem L2
abbrev DF := List Sl → R (AV × List Sl)
abbrev DA := List Sl → R (List AV × List Sl)
abbrev DT := List Sl → R (Bool × List Sl)
abbrev DN := List Sl → R (List PyData × List Sl)
section
variable (X : Cx) (W : WX)
def CE (e : Expr) (f : DF) : Prop := ∀ Γ, Ev X W Γ e (f Γ) Prod.fst Prod.snd
def CT (e : Expr) (f : DT) : Prop := ∀ Γ, EvT X W Γ e (f Γ) Prod.fst Prod.snd
def CW (e : Expr) (f : DT) : Prop := ∀ Γ, EvWM X W Γ e (f Γ) Prod.fst Prod.snd
def CN (e : Expr) (f : DN) : Prop := ∀ Γ, EvF X W Γ e (f Γ) Prod.fst Prod.snd
def CA (es : List Expr) (f : DA) : Prop := ∀ Γ, EvA X W Γ es (f Γ) Prod.fst Prod.snd
def Pk (G : Gh) (H : Hp) (σ : St) (m : R (AV × List Sl)) (Q : VK) : Prop := Pst X W G H σ m fun y G' H' => ∀ w, Sta X.K G' H' σ y.2 → AVok X.K G' H' σ w y.1 → Q w H'
end
section
variable {X : Cx} {W : WX} {sc : Scope} {N : List Str} {a b c e : Expr} {pos : Pos} {f g : DF}
theorem Pk.v {G : Gh} {H : Hp} {σ : St} {y : AV} {Γ : List Sl} {Q : VK} (h : Pk X W G H σ (.val (y, Γ)) Q) (S : Sta X.K G H σ Γ) {w : V} (hw : AVok X.K G H σ w y) : Q w H := h G H (Ext.rf S.w) w S hw
theorem Pk.v' {G G' : Gh} {H H' : Hp} {σ : St} {y : AV} {Γ : List Sl} {Q : VK} (h : Pk X W G H σ (.val (y, Γ)) Q) (e : Ext G H G' H') (S : Sta X.K G' H' σ Γ) {w : V} (hw : AVok X.K G' H' σ w y) : Q w H' := h G' H' e w S hw
theorem ev_bad {τ : Type} {Γ : List Sl} {av : τ → AV} {Γ' : τ → List Sl} (h : PE X e (fun _ _ _ => False) := ⟨fun _ _ _ _ _ _ z => z.elim⟩) : Ev X W Γ e (R.bad : R τ) av Γ' := pe_imp h fun σ H Q ⟨G, S, p⟩ => p
theorem evt_bad {τ : Type} {Γ : List Sl} {av : τ → Bool} {Γ' : τ → List Sl} (h : PT X e (fun _ _ _ => False) := ⟨fun _ _ _ _ _ _ z => z.elim⟩) : EvT X W Γ e (R.bad : R τ) av Γ' := pt_imp h fun σ H Q ⟨G, S, p⟩ => p
def dVar (i : Nat) : DF := fun Γ => match Γ[i]? with
  | some (.dat fr d) => .val (.d fr d, Γ)
  | some (.own _) => .val (.s i, Γ)
  | some (.io _) => .val (.s i, Γ)
  | some (.lent _) => .val (.s i, Γ)
  | _ => .bad
theorem ce_var (C : Cf0 X W sc N) (i : Nat) {x : Str} (hN : N[i]? = some x) (hv : visB sc x = true)
    (hd : (x == ("__debug__" : Str)) = false := by decide +kernel) (hcd : (x == ("__classdict__" : Str)) = false := by decide +kernel) : CE X W (.Name x pos) (dVar i) := fun Γ => by
  unfold dVar
  split
  · exact evp_var C ‹_› hN hv hd hcd
  · exact evp_slot C (.inl ‹_›) hN hv hd hcd
  · exact evp_slot C (.inr (.inl ‹_›)) hN hv hd hcd
  · exact evp_slot C (.inr (.inr ‹_›)) hN hv hd hcd
  · exact ev_bad
def dC (d : PyData) : DF := fun Γ => .val (.d true d, Γ)
theorem ce_int {i : Int} {j : Nat} : CE X W (.Constant (.int i) j pos) (dC (.int i)) := fun Γ => evp_int (W := W)
theorem ce_bool {i : Bool} {j : Nat} : CE X W (.Constant (.bool i) j pos) (dC (.bool i)) := fun Γ => evp_bool (W := W)
theorem ce_str {x : Str} {j : Nat} : CE X W (.Constant (.str x) j pos) (dC (.str x)) := fun Γ => evp_str (W := W)
theorem ce_op2 {op : Operator} {r : R2} (k : AV → AV → List Sl → R (AV × List Sl)) (ho : OpR X (binaryOp op) r) (ha : CE X W a f) (hb : CE X W b g)
    (hk : ∀ x y Γ2 G H σ u v Q, Sta X.K G H σ Γ2 → AVok X.K G H σ u x → AVok X.K G H σ v y → Pk X W G H σ (k x y Γ2) Q → r u v H Q) : CE X W (.BinOp a op b pos) (fun Γ => (f Γ).bind fun x => (g x.2).bind fun y => k x.1 y.1 y.2) := fun Γ =>
  pe_imp (pe_op ho (ha Γ) (pe_any fun x : AV × List Sl => hb x.2)) fun σ H Q h => bin_rd (X := X) (W := W) (ava := Prod.fst) (Γa := Prod.snd) (avb := fun _ (y : AV × List Sl) => y.1) (Γb := fun _ (y : AV × List Sl) => y.2) (avk := Prod.fst) (Γk := Prod.snd) (k := fun (x : AV × List Sl) (y : AV × List Sl) => k x.1 y.1 y.2) (fun x y G H σ u v Q S hu hv p => hk x.1 y.1 y.2 G H σ u v Q S hu hv p) h
def dI (k : Int → Int → R Int) (f g : DF) : DF := fun Γ => (f Γ).bind fun x => (g x.2).bind fun y => match x.1, y.1 with
  | .d _ (.int i), .d _ (.int j) => (k i j).bind fun n => .val (.d true (.int n), y.2)
  | _, _ => .bad
theorem ce_ii {op : Operator} {h : Int → Int → Int} {P : Int → Int → Prop} {k : Int → Int → R Int} (hk : ∀ i j, k i j = .bad ∨ (P i j ∧ k i j = .val (h i j))) (ho : OpR X (binaryOp op) (rI P fun i j => .int (h i j))) (ha : CE X W a f) (hb : CE X W b g) : CE X W (.BinOp a op b pos) (dI k f g) := by
  refine ce_op2 (fun x y Γ2 => match x, y with
    | .d _ (.int i), .d _ (.int j) => (k i j).bind fun n => .val (.d true (.int n), Γ2)
    | _, _ => .bad) ho ha hb fun x y Γ2 G H σ u v Q S hu hv p => ?_
  split at p
  · rename_i i _ j
    rcases hk i j with e | ⟨hP, e⟩
    · rw [e] at p; exact p.elim
    · rw [e] at p
      exact ⟨i, j, dn_int hu, dn_int hv, hP, Pk.v p S (.int _)⟩
  · exact p.elim
theorem opI_of {F : Value → Value → Sem Value} {h : Int → Int → V} (ho : OpR X F (rI0 h)) : OpR X F (rI (fun _ _ => True) h) := fun pins s σ H x y v u Q I rx ry ⟨i, j, e1, e2, _, q⟩ => ho pins s σ H x y v u Q I rx ry ⟨i, j, e1, e2, q⟩
theorem opR_or {F : Value → Value → Sem Value} {r1 r2 : R2} (h1 : OpR X F r1) (h2 : OpR X F r2) : OpR X F (fun u v H Q => r1 u v H Q ∨ r2 u v H Q) := fun pins s σ H x y v u Q I rx ry z => z.elim (h1 pins s σ H x y v u Q I rx ry) (h2 pins s σ H x y v u Q I rx ry)
def gq {α : Type} (c : Bool) (a : α) : R α := (R.req c).bind fun _ => .val a
theorem gq_cases {α : Type} (c : Bool) (a : α) : gq c a = .bad ∨ (c = true ∧ gq c a = .val a) := by
  cases c
  · exact .inl rfl
  · exact .inr ⟨rfl, rfl⟩
def cMulX (i j : Int) : Bool := decide (i.natAbs < 2 ^ 64) || decide (j.natAbs < 2 ^ 64) || cMul i j
theorem op_mulG : OpR X (binaryOp .Mult) (rI (fun i j => cMulX i j = true) fun i j => .int (i * j)) := fun pins s σ H x y v u Q I rx ry ⟨i, j, e1, e2, c, q⟩ => by
  have c : cMulX i j = true := c
  unfold cMulX at c
  rw [Bool.or_eq_true, Bool.or_eq_true] at c
  rcases c with (c | c) | c
  · have c := of_decide_eq_true c
    exact op_mul pins s σ H x y v u Q I rx ry ⟨i, j, e1, e2, .inl (by omega), q⟩
  · have c := of_decide_eq_true c
    exact op_mul pins s σ H x y v u Q I rx ry ⟨i, j, e1, e2, .inr (by omega), q⟩
  · exact op_mulW pins s σ H x y v u Q I rx ry ⟨i, j, e1, e2, cMul_ok i j c, q⟩
abbrev kSub (i j : Int) : R Int := .val (i - j)
abbrev kAnd (i j : Int) : R Int := .val (Builtin.bitAnd i j)
abbrev kOr (i j : Int) : R Int := .val (Builtin.bitOr i j)
abbrev kMul (i j : Int) : R Int := gq (cMulX i j) (i * j)
abbrev kDiv (i j : Int) : R Int := gq (cDiv i j) (i / j)
abbrev kMod (i j : Int) : R Int := gq (cMod i j) (i % j)
abbrev kPow (i j : Int) : R Int := gq (cPow i j) (i ^ j.toNat)
abbrev kShl (i j : Int) : R Int := gq (cShl i j) (i * 2 ^ j.toNat)
abbrev kShr (i j : Int) : R Int := gq (cShr i j) (i / 2 ^ j.toNat)
theorem ce_sub (ha : CE X W a f) (hb : CE X W b g) : CE X W (.BinOp a .Sub b pos) (dI kSub f g) := ce_ii (fun i j => .inr ⟨trivial, rfl⟩) (opI_of op_sub) ha hb
theorem ce_mul (ha : CE X W a f) (hb : CE X W b g) : CE X W (.BinOp a .Mult b pos) (dI kMul f g) := ce_ii (fun i j => gq_cases _ _) op_mulG ha hb
theorem gqP {P : Int → Int → Prop} {c : Int → Int → Bool} (h : ∀ i j, c i j = true → P i j) (k : Int → Int → Int) (i j : Int) : gq (c i j) (k i j) = .bad ∨ (P i j ∧ gq (c i j) (k i j) = .val (k i j)) := (gq_cases _ _).imp id fun z => ⟨h i j z.1, z.2⟩
theorem ce_fdiv (ha : CE X W a f) (hb : CE X W b g) : CE X W (.BinOp a .FloorDiv b pos) (dI kDiv f g) := ce_ii (gqP cDiv_ok fun i j => i / j) op_fdivW ha hb
theorem ce_mod (ha : CE X W a f) (hb : CE X W b g) : CE X W (.BinOp a .Mod b pos) (dI kMod f g) := ce_ii (gqP cMod_ok fun i j => i % j) op_mod ha hb
theorem ce_pow (ha : CE X W a f) (hb : CE X W b g) : CE X W (.BinOp a .Pow b pos) (dI kPow f g) := ce_ii (gqP cPow_ok fun i j => i ^ j.toNat) op_pow ha hb
def rdD (Γ : List Sl) : AV → Option PyData
  | .d _ x => some x
  | .s i => match Γ[i]? with
    | some (.own (.lst es)) => some (.list es)
    | some (.io (.lst es)) => some (.list es)
    | some (.lent (.lst es)) => some (.list es)
    | _ => none
theorem rdD_ok {Γ : List Sl} {y : AV} {x : PyData} (h : rdD Γ y = some x) : Rdb Γ y x := by
  cases y with
  | d fr z => cases h; exact .d
  | s i =>
    unfold rdD at h
    simp only at h
    split at h
    · cases h; exact .o ‹_›
    · cases h; exact .i ‹_›
    · cases h; exact .l ‹_›
    · cases h
def addA : AV → AV → R AV
  | .d _ (.int i), .d _ (.int j) => .val (.d true (.int (i + j)))
  | .d f1 (.tuple xs), .d f2 (.tuple ys) => gq (szB (xs ++ ys)) (.d (f1 && f2) (.tuple (xs ++ ys)))
  | .d _ (.str x), .d _ (.str y) => gq (decide (x.length + y.length ≤ sizeLine)) (.d true (.str (x ++ y)))
  | _, _ => .bad
def dAdd (f g : DF) : DF := fun Γ => (f Γ).bind fun x => (g x.2).bind fun y => (addA x.1 y.1).bind fun z => .val (z, y.2)
theorem rg_and1 (G : Gh) (f1 f2 : Bool) : RgLe (rg G f1) (rg G (f1 && f2)) := by
  cases f1 <;> cases f2
  · exact fun _ _ h => h
  · exact fun _ _ h => h
  · exact rg_ff G true
  · exact fun _ _ h => h
theorem rg_and2 (G : Gh) (f1 f2 : Bool) : RgLe (rg G f2) (rg G (f1 && f2)) := by
  rw [Bool.and_comm]
  exact rg_and1 G f2 f1
theorem ce_add (ha : CE X W a f) (hb : CE X W b g) : CE X W (.BinOp a .Add b pos) (dAdd f g) := by
  refine ce_op2 (fun x y Γ2 => (addA x y).bind fun z => .val (z, Γ2)) (opR_or op_add (opR_or op_catA op_add_str)) ha hb fun x y Γ2 G H σ u v Q S hu hv p => ?_
  unfold addA at p
  split at p
  · rename_i i _ j
    exact .inl ⟨i, j, dn_int hu, dn_int hv, Pk.v p S (.int _)⟩
  · rename_i f1 xs f2 ys
    rcases gq_cases (szB (xs ++ ys)) (AV.d (f1 && f2) (.tuple (xs ++ ys))) with e | ⟨hc, e⟩
    · rw [e] at p; exact p.elim
    · rw [e] at p
      have hc := of_decide_eq_true hc
      obtain ⟨q1, vs, rfl, g1, g2⟩ := dn_tupleH hu
      obtain ⟨q2, ws, rfl, g3, g4⟩ := dn_tupleH hv
      have d1 := g2.mono (rg_and1 G f1 f2) (TupLe.rf H)
      have d2 := g4.mono (rg_and2 G f1 f2) (TupLe.rf H)
      refine .inr (.inl ⟨q1, q2, vs, ws, rfl, rfl, SqT.of g1, SqT.of g3, by rw [g2.length, g4.length]; simpa using hc, fun e1 => ?_, fun _ e2 => ?_, fun _ _ l hl => ?_⟩)
      · subst e1
        cases d1
        exact Pk.v p S (.tup g3 d2)
      · subst e2
        cases d2
        refine Pk.v p S ?_
        rw [List.append_nil]
        exact .tup g1 d1
      · obtain ⟨G2, S2, e2, h2⟩ := S.newTup hl (d1.append d2)
        exact Pk.v' p e2 S2 h2
  · rename_i x _ y
    rcases gq_cases (decide (x.length + y.length ≤ sizeLine)) (AV.d true (.str (x ++ y))) with e | ⟨hc, e⟩
    · rw [e] at p; exact p.elim
    · rw [e] at p
      exact .inr (.inr ⟨x, y, dn_str hu, dn_str hv, of_decide_eq_true hc, Pk.v p S (.str _)⟩)
  · exact p.elim
def dNeg (f : DF) : DF := fun Γ => (f Γ).bind fun x => match x.1 with
  | .d _ (.int i) => .val (.d true (.int (-i)), x.2)
  | _ => .bad
end
section
variable {X : Cx} {W : WX} {sc : Scope} {N : List Str} {a b c e : Expr} {pos : Pos} {f g : DF}
theorem Ev.exc {Γ : List Sl} {τ τ' : Type} {x : Exn} {av : τ → AV} {Γ' : τ → List Sl} {av2 : τ' → AV} {Γ2 : τ' → List Sl} (h : Ev X W Γ e (.exc x : R τ) av Γ') : Ev X W Γ e (.exc x : R τ') av2 Γ2 := pe_imp h fun σ H Q ⟨G, S, p⟩ => ⟨G, S, p⟩
theorem Ev.map {Γ : List Sl} {τ τ' : Type} {m : R τ} {k : τ → τ'} {av : τ' → AV} {Γ' : τ' → List Sl} (h : Ev X W Γ e m (fun r => av (k r)) (fun r => Γ' (k r))) : Ev X W Γ e (m.bind fun r => .val (k r)) av Γ' :=
  pe_imp h fun σ H Q ⟨G, S, p⟩ => ⟨G, S, by cases m <;> exact p⟩
theorem un_rd {Γ : List Sl} {m : R (AV × List Sl)} {k : AV × List Sl → R (AV × List Sl)} {r : V → Hp → VK → Prop} (hk : ∀ x Γ2 G H σ v Q, Sta X.K G H σ Γ2 → AVok X.K G H σ v x → Pk X W G H σ (k (x, Γ2)) Q → r v H Q)
    {σ : St} {H : Hp} {Q : VK} (h : rdE X W Γ (m.bind k) Prod.fst Prod.snd σ H Q) : tUn r (rdE X W Γ m Prod.fst Prod.snd) σ H Q := by
  obtain ⟨G, S, p⟩ := h
  exact ⟨G, S, (Pst.bind p).imp fun x G1 H1 e1 p1 u S1 a1 => hk x.1 x.2 G1 H1 σ u Q S1 a1 p1⟩
theorem ce_neg (ha : CE X W a f) : CE X W (.UnaryOp .USub a pos) (dNeg f) := fun Γ =>
  pe_imp (pe_un un_neg (ha Γ)) fun σ H Q h => un_rd (fun x Γ2 G H σ v Q S hv p => by
    simp only at p
    split at p
    · exact ⟨_, dn_int hv, Pk.v p S (.int _)⟩
    · exact p.elim) h
theorem ce_cmp2 {op : CmpOp} {r : R2} (k : AV → AV → List Sl → R (AV × List Sl)) (ho : OpR X (compareOp op) r) (hm : behindInMarks op b = false) (ha : CE X W a f) (hb : CE X W b g)
    (hk : ∀ x y Γ2 G H σ u v Q, Sta X.K G H σ Γ2 → AVok X.K G H σ u x → AVok X.K G H σ v y → Pk X W G H σ (k x y Γ2) Q → r u v H Q) : CE X W (.Compare a [op] [b] pos) (fun Γ => (f Γ).bind fun x => (g x.2).bind fun y => k x.1 y.1 y.2) := fun Γ =>
  pe_imp (pe_cmpR ho (ha Γ) (pe_any fun x : AV × List Sl => hb x.2) hm) fun σ H Q h => bin_rd (X := X) (W := W) (ava := Prod.fst) (Γa := Prod.snd) (avb := fun _ (y : AV × List Sl) => y.1) (Γb := fun _ (y : AV × List Sl) => y.2) (avk := Prod.fst) (Γk := Prod.snd) (k := fun (x : AV × List Sl) (y : AV × List Sl) => k x.1 y.1 y.2) (fun x y G H σ u v Q S hu hv p => hk x.1 y.1 y.2 G H σ u v Q S hu hv p) h
def boolR (m : R Bool) (Γ : List Sl) : R (AV × List Sl) := m.bind fun b => .val (.d true (.bool b), Γ)
def dCmp (k : List Sl → AV → AV → R Bool) (f g : DF) : DF := fun Γ => (f Γ).bind fun x => (g x.2).bind fun y => boolR (k y.2 x.1 y.1) y.2
def kEq (Γ : List Sl) (x y : AV) : R Bool := match rdD Γ x, rdD Γ y with
  | some p, some q => gq (SeqAt.shaped p && SeqAt.shaped q) (PyData.eqv p q)
  | _, _ => .bad
def kNe (Γ : List Sl) (x y : AV) : R Bool := (kEq Γ x y).bind fun z => .val (!z)
theorem kEq_val {Γ : List Sl} {x y : AV} : (∃ p q, rdD Γ x = some p ∧ rdD Γ y = some q ∧ SeqAt.shaped p = true ∧ SeqAt.shaped q = true ∧ kEq Γ x y = .val (PyData.eqv p q)) ∨ kEq Γ x y = .bad := by
  unfold kEq
  split
  · rename_i p q h1 h2
    rcases gq_cases (SeqAt.shaped p && SeqAt.shaped q) (PyData.eqv p q) with e | ⟨hc, e⟩
    · exact .inr e
    · rw [Bool.and_eq_true] at hc
      exact .inl ⟨p, q, h1, h2, hc.1, hc.2, e⟩
  · exact .inr rfl
theorem ce_eq (C : Cf0 X W sc N) (ha : CE X W a f) (hb : CE X W b g) (hm : behindInMarks .Eq b = false := by first | exact nobehind _ (by decide) (by decide) | rfl) : CE X W (.Compare a [.Eq] [b] pos) (dCmp kEq f g) :=
  ce_cmp2 (fun x y Γ2 => boolR (kEq Γ2 x y) Γ2) (op_eqD C.hu) hm ha hb fun x y Γ2 G H σ u v Q S hu hv p => by
    rcases kEq_val (Γ := Γ2) (x := x) (y := y) with ⟨d, z, h1, h2, s1, s2, e⟩ | e
    · rw [e] at p
      exact ⟨d, z, ((rdD_ok h1).ok S hu).dps s1, ((rdD_ok h2).ok S hv).dps s2, s1, s2, Pk.v p S (.bl _)⟩
    · rw [e] at p; exact p.elim
theorem ce_ne (C : Cf0 X W sc N) (ha : CE X W a f) (hb : CE X W b g) (hm : behindInMarks .NotEq b = false := by first | exact nobehind _ (by decide) (by decide) | rfl) : CE X W (.Compare a [.NotEq] [b] pos) (dCmp kNe f g) :=
  ce_cmp2 (fun x y Γ2 => boolR (kNe Γ2 x y) Γ2) (op_neD C.hu) hm ha hb fun x y Γ2 G H σ u v Q S hu hv p => by
    unfold kNe at p
    rcases kEq_val (Γ := Γ2) (x := x) (y := y) with ⟨d, z, h1, h2, s1, s2, e⟩ | e
    · rw [e] at p
      exact ⟨d, z, ((rdD_ok h1).ok S hu).dps s1, ((rdD_ok h2).ok S hv).dps s2, s1, s2, Pk.v p S (.bl _)⟩
    · rw [e] at p; exact p.elim
def kI (h : Int → Int → Bool) (_ : List Sl) : AV → AV → R Bool
  | .d _ (.int i), .d _ (.int j) => .val (h i j)
  | _, _ => .bad
theorem ce_cmpI {op : CmpOp} {h : Int → Int → Bool} (ho : OpR X (compareOp op) (rI0 fun i j => .bl (h i j))) (ha : CE X W a f) (hb : CE X W b g) (hm : behindInMarks op b = false) : CE X W (.Compare a [op] [b] pos) (dCmp (kI h) f g) :=
  ce_cmp2 (fun x y Γ2 => boolR (kI h Γ2 x y) Γ2) ho hm ha hb fun x y Γ2 G H σ u v Q S hu hv p => by
    unfold kI at p
    split at p
    · rename_i i _ j
      exact ⟨i, j, dn_int hu, dn_int hv, Pk.v p S (.bl _)⟩
    · exact p.elim
theorem ce_ge (ha : CE X W a f) (hb : CE X W b g) (hm : behindInMarks .GtE b = false := by first | exact nobehind _ (by decide) (by decide) | rfl) : CE X W (.Compare a [.GtE] [b] pos) (dCmp (kI fun i j => decide (j ≤ i)) f g) := ce_cmpI op_ge ha hb hm
def isN : PyData → Bool
  | .none => true
  | _ => false
def flD : PyData → Bool
  | .none => true
  | .bool _ => true
  | .int _ => true
  | .str _ => true
  | _ => false
def kIn (Γ : List Sl) (x y : AV) : R Bool := match rdD Γ x, rdD Γ y with
  | some d, some (.list ds) => gq (SeqAt.shaped d && SeqAt.shaped (.list ds)) (ds.any fun z => PyData.eqv z d)
  | some d, some (.tuple ds) => gq (flD d && ds.all flD) (ds.any fun z => PyData.eqv z d)
  | _, _ => .bad
def asB : AV × List Sl → R (Bool × List Sl)
  | (.d _ (.bool z), Γ) => .val (z, Γ)
  | _ => .bad
def dTst (f : DF) : DT := fun Γ => (f Γ).bind asB
theorem ct_lift {f : DF} (ha : CE X W e f) (h1 : ∀ Γ (z : Bool) (fr : Bool) (Γ1 : List Sl), Ev X W Γ e (R.val ()) (fun _ => .d fr (.bool z)) (fun _ => Γ1) → EvT X W Γ e (R.val ()) (fun _ => z) (fun _ => Γ1))
    (h2 : ∀ Γ x, Ev X W Γ e (.exc x : R Unit) (fun _ => .d true (.bool true)) (fun _ => Γ) → EvT X W Γ e (.exc x : R Unit) (fun _ => true) (fun _ => Γ)) : CT X W e (dTst f) := fun Γ => by
  have h := ha Γ
  unfold dTst
  cases hf : f Γ with
  | bad => exact evt_bad
  | exc x =>
    rw [hf] at h
    exact pt_imp (h2 Γ x (Ev.exc h)) fun σ H Q ⟨G, S, p⟩ => ⟨G, S, p⟩
  | val z =>
    rw [hf] at h
    obtain ⟨y, Γ1⟩ := z
    show EvT X W Γ e (asB (y, Γ1)) _ _
    unfold asB
    split
    · rename_i hz
      cases hz
      exact h1 Γ _ _ _ h
    · exact evt_bad
theorem ct_of (ha : CE X W e f) (he : ∀ whole, isTrue e X.env whole = (do let v ← whole; standAt e.pos; holding [v] (truthy v)) := by intro _; rfl) : CT X W e (dTst f) := ct_lift ha (fun Γ z fr Γ1 h => Ev.tst h he) (fun Γ x h => Ev.tst h he)
theorem ct_cmp {op : CmpOp} (ha : CE X W (.Compare a [op] [b] pos) f) (hm : behindInMarks op b = false := by first | exact nobehind _ (by decide) (by decide) | rfl) : CT X W (.Compare a [op] [b] pos) (dTst f) := ct_lift ha (fun Γ z fr Γ1 h => Ev.tstC h hm) (fun Γ x h => Ev.tstC h hm)
def dTnot (f : DT) : DT := fun Γ => (f Γ).bind fun z => .val (!z.1, z.2)
theorem EvT.map {Γ : List Sl} {τ τ' : Type} {m : R τ} {k : τ → τ'} {av : τ' → Bool} {Γ' : τ' → List Sl} (h : EvT X W Γ e m (fun r => av (k r)) (fun r => Γ' (k r))) : EvT X W Γ e (m.bind fun r => .val (k r)) av Γ' :=
  pt_imp h fun σ H Q ⟨G, S, p⟩ => ⟨G, S, by cases m <;> exact p⟩
theorem ct_not {f : DT} (ha : CT X W a f) : CT X W (.UnaryOp .Not a pos) (dTnot f) := fun Γ => EvT.map (evt_notM (ha Γ))
theorem ct_w {f : DT} (h : CW X W e f) : CT X W e f := fun Γ => (h Γ).t
variable {rest : List Expr}
theorem cw_or1 {f : DT} (h : CT X W a f) : CW X W (.BoolOp .Or [a] pos) f := fun Γ => evw_orM1 (h Γ)
def dTor (f g : DT) : DT := fun Γ => (f Γ).bind fun x => if x.1 then .val (true, x.2) else (g x.2).bind fun y => .val y
def dTand (f g : DT) : DT := fun Γ => (f Γ).bind fun x => if x.1 then (g x.2).bind fun y => .val y else .val (false, x.2)
theorem cw_or {f g : DT} (ha : CT X W a f) (hb : CW X W (.BoolOp .Or (b :: rest) pos) g) : CW X W (.BoolOp .Or (a :: b :: rest) pos) (dTor f g) := fun Γ => evw_orM (ha Γ) (fun x => hb x.2) (fun x => (true, x.2)) (fun _ y => y)
end
section
variable {X : Cx} {W : WX} {sc : Scope} {N : List Str} {a b c e : Expr} {es : List Expr} {pos p : Pos} {f g : DF} {k : DA}
theorem ce_one {op : BoolOp} (ha : CE X W a f) : CE X W (.BoolOp op [a] pos) f := fun Γ => evv_oneM (ha Γ)
variable {rest : List Expr}
def dAnd (f g : DF) : DF := fun Γ => (f Γ).bind fun x => (asB x).bind fun u => if u.1 then (g u.2).bind fun y => (asB y).bind fun z => .val (.d true (.bool z.1), z.2) else .val (.d true (.bool false), u.2)
def dOr (f g : DF) : DF := fun Γ => (f Γ).bind fun x => (asB x).bind fun u => if u.1 then .val (.d true (.bool true), u.2) else (g u.2).bind fun y => (asB y).bind fun z => .val (.d true (.bool z.1), z.2)
theorem ce_and (ha : CE X W a f) (hb : CE X W (.BoolOp .And (b :: rest) pos) g) : CE X W (.BoolOp .And (a :: b :: rest) pos) (dAnd f g) := fun Γ =>
  pe_imp (pe_and (ha Γ) (pe_any fun Γ1 => hb Γ1)) fun σ H Q ⟨G, S, q⟩ => ⟨G, S, (Pst.bind q).imp fun x G1 H1 e1 p1 v S1 hv => by
    obtain ⟨x, Γ1⟩ := x
    unfold asB at p1
    split at p1
    · rename_i z Γ2 hz
      cases hz
      refine ⟨_, dn_bool hv, ?_⟩
      have p1 : Pst X W G1 H1 σ (if z then (g Γ1).bind fun y => (asB y).bind fun z => .val (.d true (.bool z.1), z.2) else .val (.d true (.bool false), Γ1)) (fun r G' H' => ∀ w, Sta X.K G' H' σ r.2 → AVok X.K G' H' σ w r.1 → Q w H') := p1
      cases z with
      | false => exact itF (p1 G1 H1 (Ext.rf S1.w) _ S1 (.bl _))
      | true =>
        refine itT ⟨Γ1, G1, S1, (Pst.bind p1).imp fun y G2 H2 e2 p2 w S2 hw => ?_⟩
        obtain ⟨y, Γ2⟩ := y
        unfold asB at p2
        split at p2
        · rename_i hz
          cases hz
          have hw : Dn X.K _ H2 w (.bool _) := hw
          rw [dn_bool hw]
          exact p2 G2 H2 (Ext.rf S2.w) _ S2 (.bl _)
        · exact p2.elim
    · exact p1.elim⟩
def dNot (f : DF) : DF := fun Γ => (f Γ).bind fun x => (asB x).bind fun u => .val (.d true (.bool (!u.1)), u.2)
def dA0 : DA := fun Γ => .val ([], Γ)
def dAc (f : DF) (k : DA) : DA := fun Γ => (f Γ).bind fun x => (k x.2).bind fun y => .val (x.1 :: y.1, y.2)
theorem ca_nil : CA X W [] dA0 := fun Γ => eva_nil (W := W)
theorem ca_cons (ha : CE X W e f) (hb : CA X W es k) (hst : starEach (e :: es) X.env = (false, eval e X.env) :: starEach es X.env := by rfl) : CA X W (e :: es) (dAc f k) := fun Γ => eva_cons (as := Prod.fst) (Γk := Prod.snd) (fun (x : AV × List Sl) (y : List AV × List Sl) => (x.1 :: y.1, y.2)) (ha Γ) (fun x => hb x.2) (fun _ _ => rfl) (fun _ _ => rfl) hst
def frzA : AV × List Sl → R (AV × List Sl)
  | (.d true d, Γ) => .val (.d true d, Γ)
  | (.d false d, Γ) => .val (.d (flat d) d, Γ)
  | (.s i, Γ) => match Γ[i]? with
    | some (.own (.lst es)) => .val (.d true (.list es), Γ.set i (.dat true (.list es)))
    | _ => .bad
def dFrz (f : DF) : DF := fun Γ => (f Γ).bind frzA
theorem Pk.ext {G G' : Gh} {H H' : Hp} {σ : St} {m : R (AV × List Sl)} {Q : VK} (h : Pk X W G H σ m Q) (e : Ext G H G' H') : Pk X W G' H' σ m Q := Pst.ext h e
theorem frz_ok {G : Gh} {H : Hp} {σ : St} {x : AV} {Γ : List Sl} {v : V} {Q : VK} (S : Sta X.K G H σ Γ) (hv : AVok X.K G H σ v x) (p : Pk X W G H σ (frzA (x, Γ)) Q) : Q v H := by
  unfold frzA at p
  split at p
  · rename_i hz; cases hz; exact Pk.v p S hv
  · rename_i d Γ2 hz
    cases hz
    refine Pk.v p S ?_
    cases hf : flat d with
    | false => exact hv
    | true => exact Dn.free hv hf
  · rename_i i Γ2 hz
    cases hz
    split at p
    · rename_i ds hi
      obtain ⟨A, T⟩ := id S
      obtain ⟨G2, S2, e2⟩ := S.freeze i hi
      have h2 : (Γ.set i (.dat true (.list ds)))[i]? = some (.dat true (.list ds)) := set_at (List.getElem?_eq_some_iff.mp hi).1
      obtain ⟨A2, T2⟩ := id S2
      obtain ⟨_, w, g1, g2⟩ := T2.sl i _ h2
      have hv : σ[i]? = some (some v) := hv
      rw [hv] at g1
      cases g1
      exact Pk.v' p e2 S2 g2
    · exact p.elim
theorem ce_frz (ha : CE X W e f) : CE X W e (dFrz f) := fun Γ =>
  pe_imp (ha Γ) fun σ H Q ⟨G, S, q⟩ => ⟨G, S, (Pst.bind q).imp fun x G1 H1 e1 p1 v S1 hv => frz_ok (x := x.1) (Γ := x.2) S1 hv p1⟩
def avD : AV → Option PyData
  | .d true d => some d
  | _ => none
def allT : List AV → Option (List PyData)
  | [] => some []
  | .d true d :: as => (allT as).map (d :: ·)
  | _ => none
def allF : List AV → Option (List PyData × Bool)
  | [] => some ([], true)
  | .d fr d :: as => (allF as).map fun z => (d :: z.1, fr && z.2)
  | _ => none
theorem allT_ok {K : PySem.W.Frag} {G : Gh} {H : Hp} {σ : St} : ∀ {as : List AV} {ds : List PyData} {vs : List V}, allT as = some ds → AVs K G H σ vs as → DnA K (rg G true) H vs ds
  | [], _, _, h, .nil => by cases h; exact .nil
  | .d true d :: as, ds, _, h, .cons q r => by
    unfold allT at h
    cases e : allT as with
    | none => rw [e] at h; cases h
    | some xs => rw [e] at h; cases h; exact .cons q (allT_ok e r)
  | .d false d :: as, ds, _, h, _ => by cases h
  | .s i :: as, ds, _, h, _ => by cases h
theorem allF_ok {K : PySem.W.Frag} {G : Gh} {H : Hp} {σ : St} : ∀ {as : List AV} {z : List PyData × Bool} {vs : List V}, allF as = some z → AVs K G H σ vs as → DnA K (rg G z.2) H vs z.1
  | [], _, _, h, .nil => by cases h; exact .nil
  | .d fr d :: as, ds, _, h, .cons q r => by
    unfold allF at h
    cases e : allF as with
    | none => rw [e] at h; cases h
    | some xs =>
      rw [e] at h
      cases h
      exact .cons (Dn.mono (rg_and1 G fr xs.2) (TupLe.rf _) q) ((allF_ok e r).mono (rg_and2 G fr xs.2) (TupLe.rf _))
  | .s i :: as, ds, _, h, _ => by cases h
def dLst (k : DA) : DN := fun Γ => (k Γ).bind fun z => match allT z.1 with
  | some ds => gq (szB z.1) (ds, z.2)
  | none => .bad
theorem cn_lst (ha : CA X W es k) : CN X W (.List es pos) (dLst k) := fun Γ =>
  pe_imp (pe_lst (ha Γ)) fun σ H Q ⟨G, S, q⟩ => ⟨G, S, (Pst.bind q).imp fun x G1 H1 e1 p1 vs S1 av => by
    split at p1
    · rename_i ds hd
      rcases gq_cases (szB x.1) (ds, x.2) with e | ⟨hc, e⟩
      · rw [e] at p1; exact p1.elim
      · rw [e] at p1
        exact ⟨by rw [av.len]; exact of_decide_eq_true hc, fun q hq => p1 G1 H1 (Ext.rf S1.w) q vs S1 hq (allT_ok hd av)⟩
    · exact p1.elim⟩
def dTup (k : DA) : DF := fun Γ => (k Γ).bind fun z => match allF z.1 with
  | some ds => gq (szB z.1) (.d ds.2 (.tuple ds.1), z.2)
  | none => .bad
theorem ce_tup {kk : Nat} (ha : CA X W es k) : CE X W (.Tuple es kk pos) (dTup k) := fun Γ =>
  pe_imp (pe_tup (ha Γ)) fun σ H Q ⟨G, S, q⟩ => ⟨G, S, (Pst.bind q).imp fun x G1 H1 e1 p1 vs S1 av => by
    split at p1
    · rename_i ds hd
      rcases gq_cases (szB x.1) (AV.d ds.2 (.tuple ds.1), x.2) with e | ⟨hc, e⟩
      · rw [e] at p1; exact p1.elim
      · rw [e] at p1
        refine ⟨by rw [av.len]; exact of_decide_eq_true hc, fun q hq => ?_⟩
        obtain ⟨G2, S2, e2, h2⟩ := S1.newTup hq (allF_ok hd av)
        exact p1 G2 _ e2 _ S2 h2
    · exact p1.elim⟩
def dOfN (n : DN) : DF := fun Γ => (n Γ).bind fun z => .val (.d true (.list z.1), z.2)
theorem ce_ofN {n : DN} (h : CN X W e n) : CE X W e (dOfN n) := fun Γ => Ev.map (k := fun z : List PyData × List Sl => (AV.d true (.list z.1), z.2)) (EvF.ev (h Γ))
def ixA (Γ : List Sl) (x y : AV) : R AV := match x, y with
  | .d fr (.list ds), .d _ (.int i) => (R.ofO (atI ds i)).bind fun d => .val (.d fr d)
  | .d fr (.tuple ds), .d _ (.int i) => (R.ofO (atI ds i)).bind fun d => .val (.d fr d)
  | .s j, .d _ (.int i) => match rdD Γ (.s j) with
    | some (.list ds) => (R.ofO (atI ds i)).bind fun d => .val (.d true d)
    | _ => .bad
  | _, _ => .bad
theorem Sta.slotL {K : PySem.W.Frag} {G : Gh} {H : Hp} {σ : St} {Γ : List Sl} {j : Nat} {ds : List PyData} {u : V} (S : Sta K G H σ Γ) (h : rdD Γ (.s j) = some (.list ds)) (hu : σ[j]? = some (some u)) : ∃ p vs, u = .ref p ∧ H p = some (.lst vs) ∧ DnA K (rg G true) H vs ds := by
  have hg : Γ[j]? = some (.own (.lst ds)) ∨ Γ[j]? = some (.io (.lst ds)) ∨ Γ[j]? = some (.lent (.lst ds)) := by
    unfold rdD at h
    simp only at h
    split at h
    · cases h; exact .inl ‹_›
    · cases h; exact .inr (.inl ‹_›)
    · cases h; exact .inr (.inr ‹_›)
    · cases h
  have : ∃ p vs, σ[j]? = some (some (.ref p)) ∧ H p = some (.lst vs) ∧ DnA K (rg G true) H vs ds := by
    rcases hg with hg | hg | hg
    · obtain ⟨p, vs, q1, q2, q3, _⟩ := S.change j hg
      exact ⟨p, vs, q1, q2, q3⟩
    · obtain ⟨p, vs, q1, q2, q3, _⟩ := S.changeIo j hg
      exact ⟨p, vs, q1, q2, q3⟩
    · obtain ⟨p, vs, q1, q2, _, q3⟩ := S.lentL hg
      exact ⟨p, vs, q1, q2, q3⟩
  obtain ⟨p, vs, q1, q2, q3⟩ := this
  rw [q1] at hu
  cases hu
  exact ⟨p, vs, rfl, q2, q3⟩
end
end PD
set_option Elab.async false
set_option linter.all false
set_option maxRecDepth 100000
set_option maxHeartbeats 4000000
set_option autoImplicit false
namespace PD
open PySem L2
def NewC (K : PySem.W.Frag) (G : Rg) (H : Hp) (c : Cl) (v : V) (H' : Hp) : Prop := ∃ fp : List Addr, (∀ a, a ∉ fp → H' a = H a) ∧ (∀ p ∈ fp, H p = none ∧ H' p ≠ none) ∧ c.ok K G H' v fp
theorem newc_lst {K : PySem.W.Frag} {G : Rg} {H : Hp} {p : Addr} {vs : List V} {ds : List PyData} (hp : H p = none) (hd : DnA K G H vs ds) : NewC K G H (.lst ds) (.ref p) (upd H p (.lst vs)) :=
  ⟨[p], fun a h => upd_ne (by simpa using h), fun q hq => by
    have : q = p := by simpa using hq
    subst this
    exact ⟨hp, by rw [upd_same]; simp⟩, p, vs, rfl, rfl, upd_same, hd.mono (fun _ _ z => z) (tup_upd hp)⟩
theorem NewC.grow {K : PySem.W.Frag} {G : Gh} {H H' : Hp} {R' : Rg} {c : Cl} {v : V} (w : Wf G H) {fp : List Addr} (h1 : ∀ a, a ∉ fp → H' a = H a) (h2 : ∀ p ∈ fp, H p = none ∧ H' p ≠ none) : Grow G H G.N H' [] := by
  have k : ∀ a o, H a = some o → H' a = some o := fun a o h => by
    rw [h1 a fun hp => by rw [(h2 a hp).1] at h; cases h]
    exact h
  exact ⟨fun a o h _ => k a o h, fun _ h => absurd h (by simp), fun a xs h => k _ _ h, fun _ _ h => h, fun a o h => ⟨k _ _ (w.new a o h).1, .inl h⟩⟩
theorem Sta.putC {K : PySem.W.Frag} {G : Gh} {H H' : Hp} {σ : St} {Γ : List Sl} {c : Cl} {v : V} (s : Sta K G H σ Γ) (i : Nat) (h : NewC K (rg G true) H c v H') : Sta K G H' (σ.set i (some v)) (Γ.set i (.own c)) ∧ Ext G H G H' := by
  obtain ⟨A, S⟩ := s
  obtain ⟨fp, h1, h2, h3⟩ := h
  refine S.step (i := i) (fp' := fp) (NewC.grow (K := K) (R' := rg G true) (c := c) (v := v) S.w h1 h2) (fun p hp => absurd hp (by simp)) (fun j hj => List.getElem?_set_ne (Ne.symm hj)) (List.length_set ..) (fun hlt => ⟨v, ?_, fun q hq => ?_, h3⟩) (fun q hq => ?_)
  · exact set_at (by rw [← S.len]; exact hlt)
  · exact (S.w.fresh (h2 q hq).1).2.1
  · exact ⟨(h2 q hq).2, (S.w.fresh (h2 q hq).1).1, .inr (h2 q hq).1⟩
theorem Cl.nt {K : PySem.W.Frag} {G : Rg} {H : Hp} {v : V} {fp : List Addr} {c : Cl} (h : c.ok K G H v fp) : ∀ p ∈ fp, ∃ o, H p = some o ∧ (∀ xs, o ≠ .tup xs) ∧ ∀ x y, o ≠ .frz x y := by
  cases c with
  | lst ds =>
    obtain ⟨p, vs, rfl, rfl, h1, h2⟩ := h
    intro q hq
    have : q = p := by simpa using hq
    subst this
    exact ⟨_, h1, fun _ z => (nomatch z), fun _ _ z => (nomatch z)⟩
  | tr T => exact h.1.nt
  | mul t l => exact h.1.nt
  | dic t kvs =>
    obtain ⟨p, o, vs, rfl, rfl, h1, h2, h3⟩ := h
    intro q hq
    have : q = p := by simpa using hq
    subst this
    cases t with
    | k => obtain ⟨_, rfl, _⟩ := h2; exact ⟨_, h1, fun _ z => (nomatch z), fun _ _ z => (nomatch z)⟩
    | t => obtain ⟨_, rfl, _⟩ := h2; exact ⟨_, h1, fun _ z => (nomatch z), fun _ _ z => (nomatch z)⟩
    | n => obtain ⟨_, _, rfl, _⟩ := h2; exact ⟨_, h1, fun _ z => (nomatch z), fun _ _ z => (nomatch z)⟩
  | feed f =>
    obtain ⟨d, l, rfl, rfl, h3, h4, h5⟩ := h
    intro q hq
    simp only [List.mem_cons, List.not_mem_nil, or_false] at hq
    rcases hq with rfl | rfl
    · exact ⟨_, h4, fun _ z => (nomatch z), fun _ _ z => (nomatch z)⟩
    · exact ⟨_, h5, fun _ z => (nomatch z), fun _ _ z => (nomatch z)⟩
theorem Sta.releaseC {K : PySem.W.Frag} {G : Gh} {H : Hp} {σ : St} {Γ : List Sl} {c : Cl} (s : Sta K G H σ Γ) (i : Nat) (hi : Γ[i]? = some (.own c)) :
    ∃ v H', σ[i]? = some (some v) ∧ Sta K G H' σ (Γ.set i .un) ∧ Ext G H G H' ∧ NewC K (rg G true) H' c v H := by
  obtain ⟨A, S⟩ := s
  obtain ⟨v, h1, h0, hc⟩ := S.sl i _ hi
  have nt := Cl.nt hc
  let H' : Hp := fun a => if a ∈ A i then none else H a
  have hne : ∀ a, a ∉ A i → H' a = H a := fun a h => if_neg h
  have hin : ∀ a, a ∈ A i → H' a = none := fun a h => if_pos h
  have nA : ∀ j, j ≠ i → ∀ p, p ∈ A j → p ∉ A i := fun j hj p h h' => hj (S.dj j i p h h')
  have t : TupLe H H' := fun a xs h => by
    rw [hne a fun z => by obtain ⟨o, e, q, _⟩ := nt a z; rw [e] at h; exact q xs (Option.some.inj h)]
    exact h
  have w : Wf G H' := by
    refine ⟨fun a u h h2 => ?_, fun a u h => ?_, fun a h => ?_, S.w.p0, fun a u h => ?_, fun i q h => (S.w.iv i q h).imp id fun z => z.imp id fun ⟨xs, z⟩ => ⟨xs, t q xs z⟩⟩
    · rw [hne a fun z => by rw [h0 a z] at h; cases h]
      exact S.w.keep a u h h2
    · rw [hne a fun z => by rw [(S.al i a z).2.1] at h; cases h]
      exact S.w.new a u h
    · rw [hne a fun z => S.w.p0 a h (h0 a z)]
      exact S.w.pal a h
    · rw [hne a fun z => by rw [S.ae i a z] at h; cases h]
      exact S.w.ex a u h
  have e : Ext G H G H' := ⟨rfl, rfl, rfl, rfl, fun _ _ h => h, fun _ _ h => .inl h, t, w⟩
  refine ⟨v, H', h1, ⟨fun j => if j = i then [] else A j, w, by rw [List.length_set]; exact S.len, fun j s h => ?_, fun j q h => ?_, fun j q h => ?_, fun j k q h h2 => ?_, rf_set S.rf rfl (fun j hj => if_neg hj) (fun _ _ => rfl)⟩, e, A i, fun a h => (hne a h).symm, fun p hp => ⟨hin p hp, (S.al i p hp).1⟩, hc⟩
  · by_cases hj : j = i
    · subst hj
      rw [List.getElem?_set_self (List.getElem?_eq_some_iff.mp hi).1] at h
      cases h
      show (if j = j then [] else A j) = []
      rw [if_pos rfl]
    · rw [List.getElem?_set_ne (Ne.symm hj)] at h
      show SlOk K G H' j σ[j]? (if j = i then [] else A j) s
      rw [if_neg hj]
      exact (S.sl j s h).mono e fun a ha => hne a (nA j hj a ha)
  · by_cases hj : j = i
    · rw [if_pos hj] at h; cases h
    · rw [if_neg hj] at h
      exact ⟨by rw [hne q (nA j hj q h)]; exact (S.al j q h).1, (S.al j q h).2⟩
  · by_cases hj : j = i
    · rw [if_pos hj] at h; cases h
    · rw [if_neg hj] at h
      exact S.ae j q h
  · by_cases hj : j = i
    · rw [if_pos hj] at h; cases h
    · by_cases hk : k = i
      · rw [if_pos hk] at h2; cases h2
      · rw [if_neg hj] at h
        rw [if_neg hk] at h2
        exact S.dj j k q h h2
def frzC : Cl → Option PyData
  | .lst ds => some (.list ds)
  | .dic _ _ => none
  | .feed _ => none
  | .tr T => trD T
  | .mul _ _ => none
theorem NewC.frz {K : PySem.W.Frag} {G : Gh} {H H' : Hp} {σ : St} {Γ : List Sl} {c : Cl} {v : V} {d : PyData} (S : Sta K G H σ Γ) (h : NewC K (rg G true) H c v H') (hd : frzC c = some d) :
    ∃ G', Sta K G' H' σ Γ ∧ Ext G H G' H' ∧ Dn K (rg G' true) H' v d := by
  have key : ∀ p o, (∀ a, a ∉ [p] → H' a = H a) → H p = none → H' p = some o → ∃ G', Sta K G' H' σ Γ ∧ Ext G H G' H' ∧ RgLe (rg G true) (rg G' true) ∧ rg G' true p o := fun p o h1 hp ho => by
    have e : H' = upd H p o := by
      funext a
      by_cases q : a = p
      · subst q; rw [upd_same]; exact ho
      · rw [upd_ne q]; exact h1 a (by simpa using q)
    subst e
    obtain ⟨S2, e2⟩ := S.grow (grow_new (o := o) S.w hp)
    exact ⟨_, S2, e2, e2.n, upd_same⟩
  obtain ⟨fp, h1, h2, h3⟩ := h
  cases c with
  | lst ds =>
    cases hd
    obtain ⟨p, vs, rfl, rfl, g1, g2⟩ := h3
    obtain ⟨G', S', e', l, q⟩ := key p _ h1 (h2 p (by simp)).1 g1
    exact ⟨G', S', e', .lst (.inl q) (g2.mono l (TupLe.rf _))⟩
  | dic t kvs => cases hd
  | feed f => cases hd
  | tr T =>
    have hin : ∀ a ∈ fp, H a = none := fun a ha => (h2 a ha).1
    let N' : Hp := fun a => if a ∈ fp then H' a else G.N a
    have nN : ∀ a o, G.N a = some o → a ∉ fp := fun a o e z => by
      have := (S.w.new a o e).1
      rw [hin a z] at this; cases this
    have g : Grow G H N' H' [] := by
      have k : ∀ a o, H a = some o → H' a = some o := fun a o e => by
        rw [h1 a fun z => by rw [hin a z] at e; cases e]; exact e
      refine ⟨fun a o e _ => k a o e, fun _ z => absurd z (by simp), fun a xs e => k _ _ e, fun a o e => ?_, fun a o e => ?_⟩
      · show (if a ∈ fp then H' a else G.N a) = some o
        rw [if_neg (nN a o e)]; exact e
      · have e : (if a ∈ fp then H' a else G.N a) = some o := e
        by_cases z : a ∈ fp
        · rw [if_pos z] at e; exact ⟨e, .inr (hin a z)⟩
        · rw [if_neg z] at e; exact ⟨k _ _ (S.w.new a o e).1, .inl e⟩
    obtain ⟨S2, e2⟩ := S.grow g
    refine ⟨_, S2, e2, TreOk.dn e2.n h3.1 (fun a ha o ho => ?_) d hd⟩
    show (if a ∈ fp then H' a else G.N a) = some o
    rw [if_pos ha]; exact ho
  | mul t l => cases hd
abbrev DC := List Sl → R (Cl × List Sl)
inductive Rs where
  | d (x : PyData)
  | c (x : Cl)
inductive Fw where
  | nx
  | bk
  | ct
  | rt (r : Rs)
abbrev DS := List Sl → R (Fw × List Sl)
def rdC (X : Cx) (W : WX) (Γ : List Sl) (m : R (Cl × List Sl)) : TE := fun σ H Q => ∃ G, Sta X.K G H σ Γ ∧ Pst X W G H σ m fun r G' H' => ∀ v H2, Sta X.K G' H' σ r.2 → NewC X.K (rg G' true) H' r.1 v H2 → Q v H2
def CC (X : Cx) (W : WX) (e : Expr) (f : DC) : Prop := ∀ Γ, PE X e (rdC X W Γ (f Γ))
def FinU (K : PySem.W.Frag) (G : Gh) (H : Hp) (D : Ends) (Γ : List Sl) : Fw → Prop
  | .nx => ∀ σ, Sta K G H σ Γ → D.nx σ H
  | .bk => ∀ σ, Sta K G H σ Γ → D.bk σ H
  | .ct => ∀ σ, Sta K G H σ Γ → D.ct σ H
  | .rt (.d x) => ∀ σ v, Sta K G H σ Γ → Dn K (rg G true) H v x → D.rt v H
  | .rt (.c c) => ∀ σ v H2, Sta K G H σ Γ → NewC K (rg G true) H c v H2 → D.rt v H2
def rdB (X : Cx) (W : WX) (Γ : List Sl) (m : R (Fw × List Sl)) : TS := fun D σ H => ∃ G, Sta X.K G H σ Γ ∧ Pst X W G H σ m fun z G' H' => FinU X.K G' H' D z.2 z.1
def C1 (X : Cx) (W : WX) (s : Stmt) (f : DS) : Prop := ∀ Γ, PS X s (rdB X W Γ (f Γ))
def CS (X : Cx) (W : WX) (ss : List Stmt) (f : DS) : Prop := ∀ Γ, PSs X ss (rdB X W Γ (f Γ))
theorem ps_imp {X : Cx} {s : Stmt} {t t' : TS} (h : PS X s t) (k : ∀ D σ H, t' D σ H → t D σ H) : PS X s t' := ⟨fun pins s σ H D I z => h.run pins s σ H D I (k D σ H z)⟩
theorem pss_imp {X : Cx} {s : List Stmt} {t t' : TS} (h : PSs X s t) (k : ∀ D σ H, t' D σ H → t D σ H) : PSs X s t' := ⟨fun pins s σ H D I z => h.run pins s σ H D I (k D σ H z)⟩
theorem pss_any {X : Cx} {s : List Stmt} {α : Type} {t : α → TS} (h : ∀ x, PSs X s (t x)) : PSs X s (fun D σ H => ∃ x, t x D σ H) := ⟨fun pins s σ H D I ⟨x, z⟩ => (h x).run pins s σ H D I z⟩
def wipeG (Γ : List Sl) : List Nat → List Sl
  | [] => Γ
  | i :: is => (wipeG Γ is).set i .un
theorem Sta.wipe {K : PySem.W.Frag} {G : Gh} {H : Hp} {σ : St} {Γ : List Sl} (s : Sta K G H σ Γ) : ∀ is : List Nat, Sta K G H σ (wipeG Γ is)
  | [] => s
  | i :: is => (Sta.wipe s is).forget i
theorem pg_imp {X : Cx} {tg : Expr} {t t' : TG} (h : PG X tg t) (k : ∀ v σ H Q, t' v σ H Q → t v σ H Q) : PG X tg t' := ⟨fun pins s σ H v u Q I r z => h.run pins s σ H v u Q I r (k v σ H Q z)⟩
structure ItD (K : PySem.W.Frag) (G : Gh) (H : Hp) (J : It) (ds : List PyData) (fr : Bool) : Prop where
  go : ∀ i G2 H2, i < ds.length → Le G H G2 H2 → J.go i H2
  yl : ∀ i G2 H2 σ Γ v H3, i < ds.length → Le G H G2 H2 → Sta K G2 H2 σ Γ → J.yld i H2 v H3 → ∃ G3 d, ds[i]? = some d ∧ Ext G2 H2 G3 H3 ∧ Sta K G3 H3 σ Γ ∧ Dn K (rg G3 fr) H3 v d
  st : ∀ G2 H2, Le G H G2 H2 → J.stop ds.length H2
theorem pi_imp {X : Cx} {tg it : Expr} {t t' : TI} (h : PI X tg it t) (k : ∀ σ H Q, t' σ H Q → t σ H Q) : PI X tg it t' := ⟨fun pins s σ H Q I z => h.run pins s σ H Q I (k σ H Q z)⟩
theorem Cf0.pg {X : Cx} {W : WX} {sc : Scope} {N : List Str} (C : Cf0 X W sc N) {i : Nat} {x : Str} {p : Pos} (hN : N[i]? = some x) (hv : Sto X sc x) : PG X (.Name x p) (gName i) :=
  pg_name (by rw [C.hN]; exact C.nd) (by rw [C.hN]; exact hN) (by rw [C.hsc]; exact hv.1) (by rw [C.hsc]; exact hv.2)
end PD
set_option Elab.async false
set_option linter.all false
set_option maxRecDepth 100000
set_option maxHeartbeats 4000000
set_option autoImplicit false
namespace PD
open PySem L2
section
variable {X : Cx} {W : WX} {sc : Scope} {N : List Str} {e : Expr} {ss rest : List Stmt} {s : Stmt} {pos : Pos} {f g : DS}
def nL (n : DN) : DC := fun Γ => (n Γ).bind fun z => .val (.lst z.1, z.2)
theorem cc_l {n : DN} (h : CN X W e n) : CC X W e (nL n) := fun Γ => pe_imp (h Γ) fun σ H Q ⟨G, S, p⟩ => ⟨G, S, (Pst.bind p).imp fun z G1 H1 e1 p1 q vs S1 hq hd => p1 G1 H1 (Ext.rf S1.w) _ _ S1 (newc_lst hq hd)⟩
def bNil : DS := fun Γ => .val (.nx, Γ)
def bSeq (f g : DS) : DS := fun Γ => (f Γ).bind fun z => match z.1 with
  | .nx => g z.2
  | w => .val (w, z.2)
theorem cs_nil : CS X W [] bNil := fun Γ => pss_imp pss_nil fun D σ H ⟨G, S, p⟩ => p G H (Ext.rf S.w) σ S
theorem cs_cons (hs : C1 X W s f) (hr : CS X W rest g) : CS X W (s :: rest) (bSeq f g) := fun Γ =>
  pss_imp (pss_cons (hs Γ) (pss_any fun Γ1 => hr Γ1)) fun D σ H ⟨G, S, p⟩ => ⟨G, S, (Pst.bind p).imp fun z G1 H1 e1 p1 => by
    obtain ⟨w, Γ1⟩ := z
    cases w with
    | nx => exact fun σ1 S1 => ⟨Γ1, G1, S1, p1⟩
    | bk => exact p1 G1 H1 (Ext.rf e1.w)
    | ct => exact p1 G1 H1 (Ext.rf e1.w)
    | rt r =>
      have q : FinU X.K G1 H1 D Γ1 (.rt r) := p1 G1 H1 (Ext.rf e1.w)
      cases r with
      | d x => exact q
      | c x => exact q⟩
def asSl : AV → Option Sl
  | .d fr d => some (.dat fr d)
  | _ => none
def bSet (i : Nat) (e : DF) : DS := fun Γ => (e Γ).bind fun z => (R.ofO (asSl z.1)).bind fun s => .val (.nx, z.2.set i s)
theorem c1_set (C : Cf0 X W sc N) (i : Nat) {x : Str} {p' : Pos} {f : DF} (hN : N[i]? = some x) (hv : Sto X sc x) (he : CE X W e f) (hs : swapsWith e (some (.Name x p')) pos.line X.env = pure false := by rfl) : C1 X W (.Assign [.Name x p'] e pos) (bSet i f) := fun Γ => by
  have hx : Loc X.env.scope x := by rw [C.hsc]; exact hv.1
  refine ps_imp (ps_set (i := i) (by rw [C.hN]; exact C.nd) (by rw [C.hN]; exact hN) hx (he Γ) hs (by rw [C.hsc]; exact hv.2)) fun D σ H ⟨G, S, p⟩ => ⟨G, S, (Pst.bind p).imp fun z G1 H1 e1 p1 v S1 a1 => ?_⟩
  obtain ⟨y, Γ1⟩ := z
  cases y with
  | d fr d => exact p1 G1 H1 (Ext.rf S1.w) _ (S1.put i a1)
  | s j => exact p1.elim
def bSetC (i : Nat) (n : DC) : DS := fun Γ => (n Γ).bind fun z => .val (.nx, z.2.set i (.own z.1))
def bExpr (e : DF) : DS := fun Γ => (e Γ).bind fun z => .val (.nx, z.2)
theorem c1_expr {f : DF} (he : CE X W e f) (hs : swapsWith e none pos.line X.env = pure false := by rfl) : C1 X W (.Expr e pos) (bExpr f) := fun Γ =>
  ps_imp (ps_expr (he Γ) hs) fun D σ H ⟨G, S, p⟩ => ⟨G, S, (Pst.bind p).imp fun z G1 H1 e1 p1 v S1 a1 => p1 G1 H1 (Ext.rf S1.w) σ S1⟩
def bRet (e : DF) : DS := fun Γ => (e Γ).bind fun z => (frzA z).bind fun y => match y.1 with
  | .d true d => .val (.rt (.d d), y.2)
  | _ => .bad
theorem frzP {ρ : Type} {G : Gh} {H : Hp} {σ : St} {x : AV} {Γ : List Sl} {v : V} {k : AV × List Sl → R ρ} {P : ρ → Gh → Hp → Prop} (S : Sta X.K G H σ Γ) (hv : AVok X.K G H σ v x) (p : Pst X W G H σ ((frzA (x, Γ)).bind k) P) : ∃ y G', Sta X.K G' H σ y.2 ∧ Ext G H G' H ∧ AVok X.K G' H σ v y.1 ∧ Pst X W G' H σ (k y) P := by
  unfold frzA at p
  split at p
  · rename_i hz; cases hz; exact ⟨_, G, S, Ext.rf S.w, hv, p⟩
  · rename_i d Γ2 hz
    cases hz
    refine ⟨_, G, S, Ext.rf S.w, ?_, p⟩
    cases hf : flat d with
    | false => exact hv
    | true => exact Dn.free hv hf
  · rename_i i Γ2 hz
    cases hz
    split at p
    · rename_i ds hi
      obtain ⟨G2, S2, e2⟩ := S.freeze i hi
      have h2 : (Γ.set i (.dat true (.list ds)))[i]? = some (.dat true (.list ds)) := set_at (List.getElem?_eq_some_iff.mp hi).1
      obtain ⟨A2, T2⟩ := id S2
      obtain ⟨_, w, g1, g2⟩ := T2.sl i _ h2
      have hv : σ[i]? = some (some v) := hv
      rw [hv] at g1
      cases g1
      exact ⟨(.d true (.list ds), Γ.set i (.dat true (.list ds))), G2, S2, e2, g2, Pst.ext p e2⟩
    · exact p.elim
theorem c1_ret {f : DF} (he : CE X W e f) : C1 X W (.Return (some e) pos) (bRet f) := fun Γ =>
  ps_imp (ps_ret (he Γ)) fun D σ H ⟨G, S, p⟩ => ⟨G, S, (Pst.bind p).imp fun z G1 H1 e1 p1 v S1 a1 => by
    obtain ⟨x, Γ1⟩ := z
    obtain ⟨y, G2, S2, e2, a2, p2⟩ := frzP S1 a1 p1
    obtain ⟨y, Γ2⟩ := y
    simp only at p2
    split at p2
    · exact p2 G2 H1 (Ext.rf S2.w) σ v S2 a2
    · exact p2.elim⟩
def bRet0 : DS := fun Γ => .val (.rt (.d .none), Γ)
def bRetC (n : DC) : DS := fun Γ => (n Γ).bind fun z => .val (.rt (.c z.1), z.2)
theorem c1_retC {n : DC} (he : CC X W e n) : C1 X W (.Return (some e) pos) (bRetC n) := fun Γ =>
  ps_imp (ps_ret (he Γ)) fun D σ H ⟨G, S, p⟩ => ⟨G, S, (Pst.bind p).imp fun z G1 H1 e1 p1 v H2 S1 hn => p1 G1 H1 (Ext.rf S1.w) σ v H2 S1 hn⟩
def bRetO (i : Nat) : DS := fun Γ => match Γ[i]? with
  | some (.own c) => .val (.rt (.c c), Γ.set i .un)
  | _ => .bad
theorem c1_retO (C : Cf0 X W sc N) (i : Nat) {x : Str} {p' : Pos} (hN : N[i]? = some x) (hv : visB sc x = true) (hd : (x == ("__debug__" : Str)) = false := by decide +kernel) (hcd : (x == ("__classdict__" : Str)) = false := by decide +kernel) : C1 X W (.Return (some (.Name x p')) pos) (bRetO i) := fun Γ => by
  unfold bRetO
  split
  · rename_i c hc
    refine ps_imp (ps_ret (evp_slot (Γ := Γ) (W := W) C (.inl hc) hN hv hd hcd)) fun D σ H ⟨G, S, p⟩ => ⟨G, S, fun G1 H1 e1 v S1 a1 => ?_⟩
    obtain ⟨w, H2, h1, S2, e2, n2⟩ := S1.releaseC i hc
    have a1 : σ[i]? = some (some v) := a1
    rw [h1] at a1
    cases a1
    exact p G1 H2 (e1.tr e2) σ v H1 S2 n2
  · exact ⟨fun pins s σ H D I ⟨G, S, p⟩ => p.elim⟩
def bIf (c : DT) (f g : DS) : DS := fun Γ => (c Γ).bind fun x => if x.1 then f x.2 else g x.2
theorem c1_if {c : Expr} {a b : List Stmt} {t : DT} (hc : CT X W c t) (ha : CS X W a f) (hb : CS X W b g) : C1 X W (.If c a b pos) (bIf t f g) := fun Γ =>
  ps_imp (ps_if (hc Γ) (pss_any fun Γ1 => ha Γ1) (pss_any fun Γ1 => hb Γ1)) fun D σ H ⟨G, S, p⟩ => ⟨G, S, (Pst.bind p).imp fun z G1 H1 e1 p1 S1 => by
    obtain ⟨z, Γ1⟩ := z
    cases z with
    | true => exact itT ⟨Γ1, G1, S1, p1⟩
    | false => exact itF ⟨Γ1, G1, S1, p1⟩⟩
abbrev DG := Bool → PyData → List Sl → Option (List Sl)
def CG (X : Cx) (tg : Expr) (ts : List Nat) (g : DG) : Prop :=
  PG X tg (fun v σ H Q => ∃ G Γ fr d Γ', Sta X.K G H σ Γ ∧ Dn X.K (rg G fr) H v d ∧ g fr d Γ = some Γ' ∧ ∀ σ', σ'.length = σ.length → (∀ j, j ∉ ts → σ'[j]? = σ[j]?) → Sta X.K G H σ' Γ' → Q σ' H)
def gN (i : Nat) : DG := fun fr d Γ => some (Γ.set i (.dat fr d))
theorem cg_name (C : Cf0 X W sc N) (i : Nat) {x : Str} {p : Pos} (hN : N[i]? = some x) (hv : Sto X sc x) : CG X (.Name x p) [i] (gN i) :=
  pg_imp (C.pg hN hv) fun v σ H Q ⟨G, Γ, fr, d, Γ', S, h, e, k⟩ => by
    cases e
    exact k _ (List.length_set ..) (fun j hj => List.getElem?_set_ne (Ne.symm (by simpa using hj))) (S.put i h)
def gT2 (g1 g2 : DG) : DG := fun fr d Γ => match d with
  | .tuple [a, b] => (g1 fr a Γ).bind fun Γ1 => g2 fr b Γ1
  | _ => none
theorem cg_tup2 (C : Cf X W sc N) {t1 t2 : Expr} {kk : Nat} {p : Pos} {g1 g2 : DG} {ts1 ts2 : List Nat} (h1 : CG X t1 ts1 g1) (h2 : CG X t2 ts2 g2)
    (hn : (assignEach [t1, t2] X.env).length = 2 := by rfl) (hst : (assignEach [t1, t2] X.env).findIdx? (·.1) = none := by rfl) (hs1 : (assignEach [t1, t2] X.env).map (·.2) = assign t1 X.env :: (assignEach [t2] X.env).map (·.2) := by rfl) (hs2 : (assignEach [t2] X.env).map (·.2) = assign t2 X.env :: (assignEach [] X.env).map (·.2) := by rfl) :
    CG X (.Tuple [t1, t2] kk p) (ts1 ++ ts2) (gT2 g1 g2) := by
  refine pg_imp (pg_tup (n := 2) C.calm (pgs_cons h1 (pgs_cons h2 pgs_nil hs2) hs1) hn hst) fun v σ H Q ⟨G, Γ, fr, d, Γ', S, h, e, k⟩ => ?_
  unfold gT2 at e
  split at e
  · rename_i a b
    obtain ⟨q, xs, rfl, hq, hd⟩ := dn_tuple h
    cases hd with
    | cons d1 r1 =>
      cases r1 with
      | cons d2 r2 =>
        cases r2
        cases e1 : g1 fr a Γ with
        | none => rw [e1] at e; cases e
        | some Γ1 =>
          rw [e1] at e
          exact ⟨q, _, rfl, hq, rfl, _, _, rfl, G, Γ, fr, a, Γ1, S, d1, e1, fun σ1 l1 k1 S1 => ⟨_, _, rfl, G, Γ1, fr, b, Γ', S1, d2, e, fun σ2 l2 k2 S2 => ⟨rfl, k _ (l2.trans l1) (fun j hj => (k2 j fun z => hj (by simp [z])).trans (k1 j fun z => hj (by simp [z]))) S2⟩⟩⟩
  · cases e
def bSetG (g : DG) (e : DF) : DS := fun Γ => (e Γ).bind fun z => match z.1 with
  | .d fr d => (R.ofO (g fr d z.2)).bind fun Γ1 => .val (.nx, Γ1)
  | _ => .bad
end
end PD
set_option Elab.async false
set_option linter.all false
set_option maxRecDepth 100000
set_option maxHeartbeats 4000000
set_option autoImplicit false
namespace PD
open PySem L2
theorem itd_list {K : PySem.W.Frag} {G : Gh} {H : Hp} {a : Addr} {xs : List V} {ds : List PyData} {fr : Bool} (h : LsR K (rg G fr) a xs) (hd : DnA K (rg G fr) H xs ds) : ItD K G H (Itl K a) ds fr := by
  have sq : ∀ G2 H2, Le G H G2 H2 → SqL K H2 a xs := fun G2 H2 e => ((h.mono (e.rgl fr)).mono (e.w.rgl fr)).sq
  have hl := hd.length
  refine ⟨fun i G2 H2 hi e => ⟨xs, xs[i], sq G2 H2 e, by simp⟩, fun i G2 H2 σ Γ v H3 hi e S y => ?_, fun G2 H2 e => ⟨xs, sq G2 H2 e, Nat.le_of_eq hl⟩⟩
  obtain ⟨rfl, hy⟩ := y
  obtain ⟨d, h1, h2⟩ := (e.dna hd).get (hy xs (sq G2 _ e))
  exact ⟨G2, d, h1, Ext.rf S.w, S, h2⟩
theorem itd_tup {K : PySem.W.Frag} {G : Gh} {H : Hp} {a : Addr} {xs : List V} {ds : List PyData} {fr : Bool} (h : H a = some (.tup xs)) (hd : DnA K (rg G fr) H xs ds) : ItD K G H (Itt K a) ds fr := by
  have sq : ∀ G2 H2, Le G H G2 H2 → SqT K H2 a xs := fun G2 H2 e => SqT.of (e.t _ _ h)
  have hl := hd.length
  refine ⟨fun i G2 H2 hi e => ⟨xs, xs[i], sq G2 H2 e, by simp⟩, fun i G2 H2 σ Γ v H3 hi e S y => ?_, fun G2 H2 e => ⟨xs, sq G2 H2 e, Nat.le_of_eq hl⟩⟩
  obtain ⟨rfl, hy⟩ := y
  obtain ⟨d, h1, h2⟩ := (e.dna hd).get (hy xs (sq G2 _ e))
  exact ⟨G2, d, h1, Ext.rf S.w, S, h2⟩
theorem itd_range {K : PySem.W.Frag} {G : Gh} {H : Hp} {lo : Int} {n : Nat} {ds : List PyData} (hd : ds = (List.range n).map fun i => PyData.int (lo + (i : Nat))) : ItD K G H (Itr lo n) ds true := by
  subst hd
  refine ⟨fun i G2 H2 hi e => by simpa [Itr] using hi, fun i G2 H2 σ Γ v H3 hi e S y => ?_, fun G2 H2 e => by simp [Itr]⟩
  obtain ⟨rfl, rfl⟩ := y
  have hi : i < n := by simpa using hi
  exact ⟨G2, .int (lo + (i : Nat)), by simp [hi], Ext.rf S.w, S, .int _⟩
def rng (lo hi : Int) : List Int := (List.range (hi - lo).toNat).map fun i => lo + (i : Nat)
def cRng (lo hi : Int) : Bool := decide (-(2 ^ 62) ≤ lo ∧ lo < 2 ^ 62 ∧ -(2 ^ 62) ≤ hi ∧ hi < 2 ^ 62)
theorem rng_ds (lo hi : Int) : (rng lo hi).map PyData.int = (List.range (hi - lo).toNat).map fun i => PyData.int (lo + (i : Nat)) := by
  unfold rng
  rw [List.map_map]
  rfl
def enumD (ds : List PyData) : List PyData := ds.mapIdx fun i d => .tuple [.int (i : Nat), d]
abbrev DI := List Sl → R ((List PyData × Bool) × List Sl)
def rdIU (X : Cx) (W : WX) (Γ : List Sl) (m : R ((List PyData × Bool) × List Sl)) : TI := fun σ H Q => ∃ G, Sta X.K G H σ Γ ∧ Pst X W G H σ m fun r G' H' => ∀ J, Sta X.K G' H' σ r.2 → ItD X.K G' H' J r.1.1 r.1.2 → Q J H'
def CI (X : Cx) (W : WX) (tg iter : Expr) (f : DI) : Prop := ∀ Γ, PI X tg iter (rdIU X W Γ (f Γ))
section
variable {X : Cx} {W : WX} {sc : Scope} {N : List Str} {e e2 tg iter : Expr} {pos p : Pos} {f g : DF} {k : DA}
theorem pi_no {t : TI} (h : ∀ σ H Q, ¬ t σ H Q) : PI X tg iter t := ⟨fun pins s σ H R I z => (h _ _ _ z).elim⟩
def seqA : AV → Option (List PyData × Bool)
  | .d fr (.list ds) => some (ds, fr)
  | .d fr (.tuple ds) => some (ds, fr)
  | _ => none
def iSeq (f : DF) : DI := fun Γ => (f Γ).bind fun z => (R.ofO (seqA z.1)).bind fun y => .val (y, z.2)
theorem ci_seq (h : CE X W e f) : CI X W tg e (iSeq f) := fun Γ => by
  have h := h Γ
  unfold iSeq
  cases hf : f Γ with
  | bad => exact pi_no fun σ H Q ⟨G, S, q⟩ => q
  | exc x =>
    rw [hf] at h
    exact pi_imp (pi_list h) fun σ H Q ⟨G, S, q⟩ => ⟨G, S, q⟩
  | val z =>
    rw [hf] at h
    obtain ⟨y, Γ1⟩ := z
    cases hy : seqA y with
    | none =>
      refine pi_no fun σ H Q ⟨G, S, q⟩ => ?_
      · have q : Pst X W G H σ ((R.ofO (seqA y)).bind fun y => R.val (y, Γ1)) (fun r G' H' => ∀ J, Sta X.K G' H' σ r.2 → ItD X.K G' H' J r.1.1 r.1.2 → Q J H') := q
        rw [hy] at q
        exact q
    | some w =>
      have key : ∀ {σ H Q}, rdIU X W Γ ((R.val (y, Γ1)).bind fun z => (R.ofO (seqA z.1)).bind fun y => .val (y, z.2)) σ H Q → ∃ G, Sta X.K G H σ Γ ∧ ∀ G' H', Ext G H G' H' → ∀ J, Sta X.K G' H' σ Γ1 → ItD X.K G' H' J w.1 w.2 → Q J H' := fun {σ H Q} ⟨G, S, q⟩ => by
        have q : Pst X W G H σ ((R.ofO (seqA y)).bind fun y => R.val (y, Γ1)) (fun r G' H' => ∀ J, Sta X.K G' H' σ r.2 → ItD X.K G' H' J r.1.1 r.1.2 → Q J H') := q
        rw [hy] at q
        exact ⟨G, S, q⟩
      unfold seqA at hy
      split at hy
      · cases hy
        refine pi_imp (pi_list h) fun σ H Q z => ?_
        obtain ⟨G, S, q⟩ := key z
        refine ⟨G, S, fun G' H' e' v S' a => ?_⟩
        obtain ⟨l, xs, rfl, h1, h2⟩ := dn_list a
        exact ⟨l, rfl, ⟨xs, (h1.mono (S'.w.rgl _)).sq⟩, q G' H' e' _ S' (itd_list h1 h2)⟩
      · cases hy
        refine pi_imp (pi_tup h) fun σ H Q z => ?_
        obtain ⟨G, S, q⟩ := key z
        refine ⟨G, S, fun G' H' e' v S' a => ?_⟩
        obtain ⟨l, xs, rfl, h1, h2⟩ := dn_tupleH a
        exact ⟨l, rfl, ⟨xs, SqT.of h1⟩, q G' H' e' _ S' (itd_tup h1 h2)⟩
      · cases hy
theorem avs_one {K : PySem.W.Frag} {G : Gh} {H : Hp} {σ : St} {vs : List V} {a : AV} (h : AVs K G H σ vs [a]) : ∃ v, vs = [v] ∧ AVok K G H σ v a := by
  cases h with
  | cons h r => cases r; exact ⟨_, rfl, h⟩
def intA : AV → Option Int
  | .d _ (.int i) => some i
  | _ => none
theorem intA_ok {K : PySem.W.Frag} {G : Gh} {H : Hp} {σ : St} {v : V} {a : AV} {i : Int} (h : intA a = some i) (hv : AVok K G H σ v a) : v = .int i := by
  unfold intA at h
  split at h
  · cases h; exact dn_int hv
  · cases h
theorem Pst.ofO {G : Gh} {H : Hp} {σ : St} {α τ : Type} {o : Option α} {k : α → R τ} {P : τ → Gh → Hp → Prop} (h : Pst X W G H σ ((R.ofO o).bind k) P) : ∃ x, o = some x ∧ Pst X W G H σ (k x) P := by
  cases o with
  | none => exact h.elim
  | some x => exact ⟨x, rfl, h⟩
theorem Pst.req {G : Gh} {H : Hp} {σ : St} {τ : Type} {c : Bool} {m : R τ} {P : τ → Gh → Hp → Prop} (h : Pst X W G H σ ((R.req c).bind fun _ => m) P) : c = true ∧ Pst X W G H σ m P := by
  cases c with
  | false => exact h.elim
  | true => exact ⟨rfl, h⟩
theorem Pst.gq {G : Gh} {H : Hp} {σ : St} {τ : Type} {c : Bool} {a : τ} {P : τ → Gh → Hp → Prop} (w : Wf G H) (h : Pst X W G H σ (gq c a) P) : c = true ∧ P a G H := by
  obtain ⟨h1, h2⟩ := Pst.req h
  exact ⟨h1, h2 G H (Ext.rf w)⟩
def iRange1 (f : DF) : DI := fun Γ => (f Γ).bind fun z => (R.ofO (intA z.1)).bind fun j => gq (cRng 0 j) (((rng 0 j).map PyData.int, true), z.2)
theorem ci_range1 (C : Cf0 X W sc N) (hg : glB sc "range" = true) (hm : X.mg "range" = none) (ha : CE X W e f) (hst : starEach [e] X.env = [(false, eval e X.env)] := by rfl) : CI X W tg (.Call (.Name "range" p) [e] [] pos) (iRange1 f) := fun Γ =>
  pi_imp (pi_range1 (C.gl hg) hm (pa_cons (ha Γ) pa_nil (by rw [hst]; rfl)) hst) fun σ H Q ⟨G, S, q⟩ => ⟨G, S, (Pst.bind q).imp fun z G1 H1 e1 p1 v S1 av => by
    obtain ⟨j, hj, p1⟩ := Pst.ofO p1
    obtain ⟨c, p1⟩ := Pst.gq S1.w p1
    have c := of_decide_eq_true c
    exact ⟨j, by rw [intA_ok hj av], c.2.2.1, c.2.2.2, p1 _ S1 (by rw [show j.toNat = (j - 0).toNat by simp]; exact itd_range (rng_ds 0 j))⟩⟩
def iRange2 (f g : DF) : DI := fun Γ => (f Γ).bind fun z => (g z.2).bind fun y => (R.ofO (intA z.1)).bind fun i => (R.ofO (intA y.1)).bind fun j => gq (cRng i j) (((rng i j).map PyData.int, true), y.2)
end
end PD
set_option Elab.async false
set_option linter.all false
set_option maxRecDepth 100000
set_option maxHeartbeats 4000000
set_option autoImplicit false
namespace PD
open PySem L2
open Sem (wp)
section
variable {X : Cx} {W : WX} {sc : Scope} {N : List Str} {e e2 tg iter : Expr} {pos p : Pos} {f g : DF} {k : DA}
def iEnum (f : DF) : DI := fun Γ => (f Γ).bind fun z => (R.ofO (seqA z.1)).bind fun y => .val ((enumD y.1, y.2), z.2)
def loopU (is : List Nat) (g : DG) (fr : Bool) (b : DS) : List PyData → List Sl → R (Fw × List Sl)
  | [], Γ => .val (.nx, wipeG Γ is)
  | d :: ds, Γ => (R.ofO (g fr d (wipeG Γ is))).bind fun Γ1 => (b Γ1).bind fun z => match z.1 with
    | .nx => loopU is g fr b ds z.2
    | .ct => loopU is g fr b ds z.2
    | .bk => .val (.nx, wipeG z.2 is)
    | .rt r => .val (.rt r, z.2)
def bFor (is : List Nat) (g : DG) (it : DI) (b : DS) : DS := fun Γ => (it Γ).bind fun z => loopU is g z.1.2 b z.1.1 z.2
theorem c1_for (C : Cf X W sc N) (is : List Nat) {body : List Stmt} {it : DI} {ts : List Nat} {gg : DG} {b : DS} (hi : CI X W tg iter it) (hg : CG X tg ts gg) (hb : CS X W body b) (hs : ∀ x, foldedSetIterable iter X.env x = pure x := by intro _; rfl) : C1 X W (.For tg iter body [] pos) (bFor is gg it b) := fun Γ => by
  refine ps_imp (ps_for C.pass C.calm (hi Γ) hg (pss_any fun Γ1 => hb Γ1) hs) fun D σ H ⟨G, S0, q⟩ => ⟨G, S0, (Pst.bind q).imp fun r G1 H1 e1 p1 J S1 I => ?_⟩
  obtain ⟨⟨items, fr⟩, Γ1⟩ := r
  have p1 : Pst X W G1 H1 σ (loopU is gg fr b items Γ1) fun z G' H' => FinU X.K G' H' D z.2 z.1 := p1
  have I : ItD X.K G1 H1 J items fr := I
  let P : Fw × List Sl → Gh → Hp → Prop := fun z G' H' => FinU X.K G' H' D z.2 z.1
  refine ⟨fun i m σ H => m = items.length - i ∧ i ≤ items.length ∧ ∃ G Γ2, Ext G1 H1 G H ∧ Sta X.K G H σ Γ2 ∧ Pst X W G H σ (loopU is gg fr b (items.drop i) Γ2) P, ⟨_, rfl, Nat.zero_le _, G1, Γ1, Ext.rf S1.w, S1, p1⟩, ?_⟩
  rintro i m σ2 H2 ⟨rfl, hi2, G2, Γ2, e2, S2, p2⟩
  by_cases hlt : i < items.length
  · rw [List.drop_eq_getElem_cons hlt] at p2
    unfold loopU at p2
    obtain ⟨Γ3, hg3, p3⟩ := Pst.ofO p2
    refine .inr ⟨I.go i G2 H2 hlt e2.le, fun σ' H' => ∃ G4 Γ4, Ext G1 H1 G4 H' ∧ Sta X.K G4 H' σ' Γ4 ∧ Pst X W G4 H' σ' (loopU is gg fr b (items.drop (i + 1)) Γ4) P, fun σ' H' ⟨G4, Γ4, q1, q2, q3⟩ => ⟨_, ?_, rfl, hlt, G4, Γ4, q1, q2, q3⟩, fun v H3 y => ?_⟩
    · omega
    · obtain ⟨G3, d, hd, e3, S3, dn⟩ := I.yl i G2 H2 σ2 _ v H3 hlt e2.le S2 y
      have hx : d = items[i] := by
        rw [List.getElem?_eq_getElem hlt] at hd
        exact (Option.some.inj hd).symm
      subst hx
      refine ⟨G3, wipeG Γ2 is, fr, items[i], Γ3, S3.wipe is, dn, hg3, fun σ4 _ _ S4 => ⟨Γ3, G3, S4, (Pst.bind (Pst.ext p3 e3)).imp fun z G5 H5 e5 p5 => ?_⟩⟩
      have e15 : Ext G1 H1 G5 H5 := (e2.tr e3).tr e5
      obtain ⟨w, Γ5⟩ := z
      cases w with
      | nx => exact fun σ6 S6 => ⟨G5, Γ5, e15, S6, p5⟩
      | ct => exact fun σ6 S6 => ⟨G5, Γ5, e15, S6, p5⟩
      | bk => exact fun σ6 S6 => p5 G5 H5 (Ext.rf S6.w) σ6 (S6.wipe is)
      | rt r =>
        have q : FinU X.K G5 H5 D Γ5 (.rt r) := p5 G5 H5 (Ext.rf e5.w)
        cases r with
        | d x => exact q
        | c x => exact q
  · have e : i = items.length := by omega
    subst e
    refine .inl ⟨I.st G2 H2 e2.le, ?_⟩
    rw [List.drop_length] at p2
    exact p2 G2 H2 (Ext.rf S2.w) σ2 (S2.wipe is)
end
end PD
set_option Elab.async false
set_option linter.all false
set_option maxRecDepth 100000
set_option maxHeartbeats 4000000
set_option autoImplicit false
namespace PD
open PySem L2
abbrev RN (N : Hp) : Rg := fun a o => N a = some o
def NewIn (B N H H' : Hp) : Prop := ∀ a o, N a = some o → H' a = some o ∧ (H a = none ∨ B a = some o)
inductive Ar where
  | d (x : PyData)
  | n (x : PyData)
  | c (x : Cl)
def Cl.fl (_ : Cl) : Bool := true
structure ArgsU (K : PySem.W.Frag) (H : Hp) (vs : List V) (as : List Ar) (F : Nat → List Addr) (L : List Addr) (B : Hp) : Prop where
  len : vs.length = as.length
  dat : ∀ (i : Nat) (x : PyData), as[i]? = some (Ar.d x) → ∃ v, vs[i]? = some v ∧ Dn K (fun a o => H a = some o ∧ a ∉ L) H v x
  cel : ∀ (i : Nat) (c : Cl), as[i]? = some (Ar.c c) → ∃ v, vs[i]? = some v ∧ c.ok K (RN B) H v (F i)
  emp : ∀ i : Nat, (∀ c, as[i]? ≠ some (Ar.c c)) → F i = []
  all : ∀ i p, p ∈ F i → p ∈ L
  al : ∀ p, p ∈ L → H p ≠ none
  dj : ∀ i j p, p ∈ F i → p ∈ F j → i = j
  nat : ∀ (i : Nat) (x : PyData), as[i]? = some (Ar.n x) → ∃ v, vs[i]? = some v ∧ Dn K (RN B) H v x
  bok : ∀ a o, B a = some o → H a = some o ∧ a ∉ L
structure PostU (K : PySem.W.Frag) (H : Hp) (vs : List V) (F : Nat → List Addr) (L : List Addr) (B : Hp) (H' N : Hp) (Z : List Sl) (F' : Nat → List Addr) : Prop where
  keep : ∀ a o, H a = some o → a ∉ L → H' a = some o
  pal : ∀ a, a ∈ L → H' a ≠ none
  t : TupLe H H'
  new : NewIn B N H H'
  cel : ∀ (i : Nat) (c : Cl), Z[i]? = some (Sl.io c) → ∃ v, vs[i]? = some v ∧ c.ok K (RN N) H' v (F' i)
  al : ∀ i p, p ∈ F' i → H' p ≠ none ∧ N p = none ∧ (p ∈ L ∨ H p = none)
  dj : ∀ i j p, p ∈ F' i → p ∈ F' j → i = j
def RsOk (K : PySem.W.Frag) (N H' : Hp) (Q : VK) : Rs → Prop
  | .d d => ∀ v, Dn K (RN N) H' v d → Q v H'
  | .c c => ∀ v H2, NewC K (RN N) H' c v H2 → Q v H2
def spU (K : PySem.W.Frag) (mg : Str → Option Value) (m : List Ar → R (Rs × List Sl)) : Sp := fun vs H Q E => ∃ as F L B, ArgsU K H vs as F L B ∧ match m as with
  | .bad => False
  | .exc x => ∀ H' N F' C d, PostU K H vs F L B H' N x.st F' → mg x.cls = some (.ref C) → XdOk K (RN N) H' d x.flds → E (.ref C) d H'
  | .val z => ∀ H' N F', PostU K H vs F L B H' N z.2 F' → RsOk K N H' Q z.1
def scD : PyData → Bool
  | .none => true
  | .bool _ => true
  | .int _ => true
  | .str _ => true
  | _ => false
theorem scD_flat {d : PyData} (h : scD d = true) : flat d = true := by cases d <;> first | rfl | cases h
def arS : Ar → Sl
  | .d x => .dat (scD x) x
  | .n x => .dat true x
  | .c c => .io c
def initS (n : Nat) (as : List Ar) : List Sl := as.map arS ++ List.replicate (n - as.length) .un
def cellsAt : List Ar → List Sl → Option (List Sl)
  | [], _ => some []
  | .d _ :: as, _ :: Γ => (cellsAt as Γ).map (.un :: ·)
  | .n _ :: as, _ :: Γ => (cellsAt as Γ).map (.un :: ·)
  | .c _ :: as, .io c :: Γ => (cellsAt as Γ).map (.io c :: ·)
  | _, _ => none
theorem cellsAt_get : ∀ {as : List Ar} {Γ Z : List Sl} {i : Nat} {c : Cl}, cellsAt as Γ = some Z → Z[i]? = some (.io c) → Γ[i]? = some (.io c) ∧ ∃ c0, as[i]? = some (.c c0)
  | [], Γ, Z, i, c, h, hz => by
    cases h
    simp at hz
  | .d x :: as, [], Z, i, c, h, hz => by cases h
  | .d x :: as, g :: Γ, Z, i, c, h, hz => by
    have h : (cellsAt as Γ).map (.un :: ·) = some Z := h
    cases e : cellsAt as Γ with
    | none => rw [e] at h; cases h
    | some Y =>
      rw [e] at h
      cases h
      cases i with
      | zero => simp at hz
      | succ i => exact cellsAt_get (i := i) e (by simpa using hz)
  | .n x :: as, [], Z, i, c, h, hz => by cases h
  | .n x :: as, g :: Γ, Z, i, c, h, hz => by
    have h : (cellsAt as Γ).map (.un :: ·) = some Z := h
    cases e : cellsAt as Γ with
    | none => rw [e] at h; cases h
    | some Y =>
      rw [e] at h
      cases h
      cases i with
      | zero => simp at hz
      | succ i => exact cellsAt_get (i := i) e (by simpa using hz)
  | .c x :: as, [], Z, i, c, h, hz => by cases h
  | .c x :: as, .io q :: Γ, Z, i, c, h, hz => by
    have h : (cellsAt as Γ).map (.io q :: ·) = some Z := h
    cases e : cellsAt as Γ with
    | none => rw [e] at h; cases h
    | some Y =>
      rw [e] at h
      cases h
      cases i with
      | zero => exact ⟨hz, x, rfl⟩
      | succ i => exact cellsAt_get (i := i) e (by simpa using hz)
  | .c x :: as, .un :: Γ, Z, i, c, h, hz => by cases h
  | .c x :: as, .dat _ _ :: Γ, Z, i, c, h, hz => by cases h
  | .c x :: as, .own _ :: Γ, Z, i, c, h, hz => by cases h
def fwR : Fw → Option Rs
  | .nx => some (.d .none)
  | .rt r => some r
  | _ => none
def endB (as : List Ar) : R (Fw × List Sl) → R (Rs × List Sl)
  | .bad => .bad
  | .exc x => (R.ofO (cellsAt as x.st)).bind fun Z => .exc ⟨x.cls, x.flds, Z⟩
  | .val z => (R.ofO (fwR z.1)).bind fun r => (R.ofO (cellsAt as z.2)).bind fun Z => .val (r, Z)
@[irreducible] def runB (n np : Nat) (b : DS) (as : List Ar) : R (Rs × List Sl) := (R.req (as.length == np)).bind fun _ => endB as (b (initS n as))
theorem start_get {N : List Str} {vs : List V} {i : Nat} (h : i < vs.length) : (L2.start N vs)[i]? = (vs.map some)[i]? := by
  unfold L2.start
  rw [List.getElem?_append_left (by simpa using h)]
section
variable {P : Program} {w : World} {K : PySem.W.Frag} {mg : Str → Option Value} {base : Heap} {x qual : Str} {params : Arguments} {body : List Stmt} {scope : Scope} {dvs : List V} {kws : List (Str × V)} {f : Addr} {fd : FuncData} {N ps : List Str} {k : Nat}
structure Here (X : Cx) (W : WX) (P : Program) (w : World) (K : PySem.W.Frag) (mg : Str → Option Value) (base : Heap) (scope : Scope) (N : List Str) (k : Nat) : Prop where
  cf : Cf X W scope N
  prog : X.prog = P
  w : X.w = w
  K : X.K = K
  mg : X.mg = mg
  base : X.base = base
  room : Room k X.A
  fn : ∀ x, X.fn x = true
  stk : X.stack = X.env :: X.outer
  frm : X.env.frame = some X.env.locals
theorem here_of (S : FnScope N ps scope) {cdv : Value} {A : Around} {outer : List Env} {s : Shared} {H : Hp} {E : XK} (hr : Room k (A.deeper (PyProof.Rows.envOfC qual scope s.heap.objs.size f cdv))) :
    Here (cxOf (L2N.CX P w) P w K mg base N qual scope f cdv A outer s H E) (fun cls d _ H => E cls d H) P w K mg base scope N k := by
  refine ⟨⟨⟨rfl, rfl, S.nd, L2N.takes_of rfl rfl rfl rfl, ?_, passes_of rfl, ?_⟩, rfl⟩, rfl, rfl, rfl, rfl, rfl, hr, fun x => rfl, rfl, rfl⟩
  · have := hr.un
    show (A.deeper _).units + 64 < cLine
    omega
  · have := hr.un
    show (A.deeper _).units + 150 < cLine
    omega
theorem fn_len {np nn : Nat} {b : DS} : ∀ vs H Q E, spU K mg (runB nn np b) vs H Q E → vs.length = np := fun vs H Q E ⟨as, Fp, L, B, A, h⟩ => by
  rw [A.len]
  by_cases e : as.length = np
  · exact e
  · have : (as.length == np) = false := by simpa using e
    unfold runB at h
    rw [this] at h
    exact h.elim
theorem fn_pre {b : DS} (hle : ps.length ≤ N.length) {X : Cx} (eK : X.K = K) (eM : X.mg = mg) {vs : List V} {H : Hp} {Q : VK} {E : XK} (hsp : spU K mg (runB N.length ps.length b) vs H Q E) :
    ∃ Γ, rdB X (fun cls d _ H => E cls d H) Γ (b Γ) { nx := fun _ H' => Q .non H', rt := Q } (L2.start N vs) H := by
  subst eK eM
  have hvl := fn_len vs H Q E hsp
  obtain ⟨as, Fp, L, B, AU, hq⟩ := hsp
  have hal : as.length = ps.length := AU.len.symm.trans hvl
  have hq : match endB as (b (initS N.length as)) with
    | .bad => False
    | .exc x => ∀ H' N F' C d, PostU X.K H vs Fp L B H' N x.st F' → X.mg x.cls = some (.ref C) → XdOk X.K (RN N) H' d x.flds → E (.ref C) d H'
    | .val z => ∀ H' N F', PostU X.K H vs Fp L B H' N z.2 F' → RsOk X.K N H' Q z.1 := by
    unfold runB at hq
    rw [show (as.length == ps.length) = true by simpa using hal] at hq
    exact hq
  refine ⟨initS N.length as, ?_⟩
  let cv : Nat → Option V := fun i => match as[i]? with
    | some (.c _) => vs[i]?
    | _ => none
  let G : Gh := ⟨H, L, cv, B, fun _ => none⟩
  have wf : Wf G H := ⟨fun a o h _ => h, fun a o h => ⟨(AU.bok a o h).1, trivial⟩, fun a h => AU.al a h, fun a h => AU.al a h, fun a o h => (by cases h), fun i p h => by
    have h : cv i = some (.ref p) := h
    simp only [cv] at h
    split at h
    · rename_i c hc
      obtain ⟨v, h1, h2⟩ := AU.cel i c hc
      rw [h1] at h
      cases h
      rcases Cl.root h2 with z | z
      · exact .inl (AU.all i p z)
      · exact .inr (.inr z)
    · cases h⟩
  have hg : RgLe (fun a o => H a = some o ∧ a ∉ L) (rg G false) := fun a o h => .inr h
  have st : Sta X.K G H (L2.start N vs) (initS N.length as) := by
    refine ⟨Fp, wf, ?_, fun i s h => ?_, fun i p h => ⟨AU.al p (AU.all i p h), (by cases q : B p with | none => exact q | some u => exact absurd (AU.all i p h) (AU.bok p u q).2), .inl (AU.all i p h)⟩, fun i p h => rfl, AU.dj, fun i j k ns h1 h2 => ?_⟩
    rotate_right
    · unfold initS at h2
      by_cases hj : j < as.length
      · rw [List.getElem?_append_left (by simpa using hj), List.getElem?_map] at h2
        cases ha : as[j]? with
        | none => rw [ha] at h2; cases h2
        | some y => rw [ha] at h2; cases y <;> cases h2
      · rw [List.getElem?_append_right (by simpa using hj)] at h2
        have := List.eq_of_mem_replicate (List.mem_of_getElem? h2)
        cases this
    · unfold initS L2.start
      simp [AU.len]
    · by_cases hi : i < as.length
      · have hi2 : i < vs.length := by rw [AU.len]; exact hi
        rw [start_get hi2, List.getElem?_map]
        unfold initS at h
        rw [List.getElem?_append_left (by simpa using hi), List.getElem?_map] at h
        cases ha : as[i]? with
        | none => rw [ha] at h; cases h
        | some y =>
          rw [ha] at h
          cases h
          cases y with
          | d x =>
            obtain ⟨v, h1, h2⟩ := AU.dat i x ha
            rw [h1]
            refine ⟨AU.emp i (by rw [ha]; intro c z; cases z), v, rfl, ?_⟩
            cases hx : scD x with
            | true => exact Dn.free h2 (scD_flat hx)
            | false => exact h2.mono hg (TupLe.rf _)
          | n x =>
            obtain ⟨v, h1, h2⟩ := AU.nat i x ha
            rw [h1]
            exact ⟨AU.emp i (by rw [ha]; intro c z; cases z), v, rfl, h2⟩
          | c c =>
            obtain ⟨v, h1, h2⟩ := AU.cel i c ha
            rw [h1]
            refine ⟨v, rfl, ?_, h2⟩
            show cv i = some v
            simp only [cv, ha, h1]
      · unfold initS at h
        rw [List.getElem?_append_right (by simpa using hi)] at h
        have : s = .un := List.eq_of_mem_replicate (List.mem_of_getElem? h)
        subst this
        exact AU.emp i (by rw [List.getElem?_eq_none (by omega)]; intro c z; cases z)
  have post : ∀ G' H' σ' Γ' Z, Ext G H G' H' → Sta X.K G' H' σ' Γ' → cellsAt as Γ' = some Z → ∃ F', PostU X.K H vs Fp L B H' G'.N Z F' := fun G' H' σ' Γ' Z e ⟨A', S'⟩ hz => by
    have h0 : G'.H0 = H := e.h0
    have hP : G'.P = L := e.p
    refine ⟨fun i => match Z[i]? with | some (.io _) => A' i | _ => [], fun a o h hp => e.w.keep a o (by rw [h0]; exact h) (by rw [hP]; exact hp), fun a ha => e.w.pal a (by rw [hP]; exact ha), e.t, fun a o h => ⟨(e.w.new a o h).1, (e.nn a o h).elim .inr .inl⟩, fun i c hc => ?_, fun i p hp => ?_, fun i j p hi hj => ?_⟩
    · obtain ⟨g1, c0, g2⟩ := cellsAt_get hz hc
      obtain ⟨v, q1, q2, q3⟩ := S'.sl i _ g1
      have q2 : G'.I i = some v := q2
      rw [e.i] at q2
      have q2 : cv i = some v := q2
      simp only [cv, g2] at q2
      refine ⟨v, q2, ?_⟩
      simp only [hc]
      exact q3
    · have hp : p ∈ (match Z[i]? with | some (.io _) => A' i | _ => []) := hp
      split at hp
      · rename_i c hc
        obtain ⟨q1, q2, q3⟩ := S'.al i p hp
        refine ⟨q1, q2, ?_⟩
        rw [hP, h0] at q3
        exact q3
      · cases hp
    · have hi : p ∈ (match Z[i]? with | some (.io _) => A' i | _ => []) := hi
      have hj : p ∈ (match Z[j]? with | some (.io _) => A' j | _ => []) := hj
      split at hi
      · split at hj
        · exact S'.dj i j p hi hj
        · cases hj
      · cases hi
  refine ⟨G, st, ?_⟩
  cases hm : b (initS N.length as) with
  | bad => rw [hm] at hq; exact hq
  | exc ex =>
    rw [hm] at hq
    intro G' H' σ' C d e S' g1 g2
    cases hz : cellsAt as ex.st with
    | none =>
      have hq : (match (R.ofO (cellsAt as ex.st)).bind (fun Z => (R.exc ⟨ex.cls, ex.flds, Z⟩ : R (Rs × List Sl))) with | .bad => False | .exc x => _ | .val z => _) := hq
      rw [hz] at hq
      exact hq.elim
    | some Z =>
      have hq : (match (R.ofO (cellsAt as ex.st)).bind (fun Z => (R.exc ⟨ex.cls, ex.flds, Z⟩ : R (Rs × List Sl))) with | .bad => False | .exc x => _ | .val z => _) := hq
      rw [hz] at hq
      obtain ⟨F', hp⟩ := post G' H' σ' ex.st Z e S' hz
      exact hq H' G'.N F' C d hp g1 g2
  | val r =>
    rw [hm] at hq
    intro G' H' e
    obtain ⟨w, Γ'⟩ := r
    have hq : (match (R.ofO (fwR w)).bind (fun r => (R.ofO (cellsAt as Γ')).bind fun Z => (R.val (r, Z) : R (Rs × List Sl))) with | .bad => False | .exc x => _ | .val z => _) := hq
    cases hz : cellsAt as Γ' with
    | none =>
      rw [hz] at hq
      cases hw : fwR w <;> rw [hw] at hq <;> exact hq.elim
    | some Z =>
      rw [hz] at hq
      have fin : ∀ r, fwR w = some r → ∀ σ', Sta X.K G' H' σ' Γ' → RsOk X.K G'.N H' Q r := fun r hr σ' S' => by
        rw [hr] at hq
        obtain ⟨F', hp⟩ := post G' H' σ' Γ' Z e S' hz
        exact hq H' G'.N F' hp
      cases w with
      | nx => exact fun σ' S' => fin _ rfl σ' S' .non .non
      | bk => exact hq.elim
      | ct => exact hq.elim
      | rt r =>
        cases r with
        | d x => exact fun σ' v S' hv => fin _ rfl σ' S' v hv
        | c x => exact fun σ' v H2 S' hn => fin _ rfl σ' S' v H2 hn
theorem fn_u (F : FunD K x qual params body scope dvs kws f fd) (S : FnScope N ps scope) {b : DS} (hle : ps.length ≤ N.length) (hb : ∀ X W, Here X W P w K mg base scope N k → CS X W body b) :
    FnOk P w K mg base (L2N.CX P w) (k + 1) f fd ps (spU K mg (runB N.length ps.length b)) :=
  F.ok S fn_len fun cdv A outer s H vs Q E hr hsp => by
    obtain ⟨Γ, h⟩ := fn_pre hle (X := cxOf (L2N.CX P w) P w K mg base N qual scope f cdv A outer s H E) rfl rfl hsp
    exact ⟨_, hb _ _ (here_of S hr) Γ, h⟩
end
end PD
set_option Elab.async false
set_option linter.all false
set_option maxRecDepth 100000
set_option maxHeartbeats 4000000
set_option autoImplicit false
namespace PD
open PySem L2
def Clee (X : Cx) (x : Str) (dvs : List V) (sp : Sp) : Prop :=
  ∃ (k : Nat) (f : Addr) (fd : FuncData) (ps : List Str) (ds : List Value), FnOk X.prog X.w X.K X.mg X.base (L2N.CX X.prog X.w) k f fd ps sp ∧ Room k X.A ∧ X.mg x = some (.ref f) ∧ PySem.W.keepIn X.K (.ref f) = true ∧ Binds X.K fd ps ds ∧ Vals dvs ds
def jn (N N' : Hp) : Hp := fun a => match N a with
  | some o => some o
  | none => N' a
theorem jn_left {N N' : Hp} {a : Addr} {o : HO} (h : N a = some o) : jn N N' a = some o := by unfold jn; rw [h]
theorem jn_right {N N' : Hp} {a : Addr} (h : N a = none) : jn N N' a = N' a := by unfold jn; rw [h]
theorem jn_cases {N N' : Hp} {a : Addr} {o : HO} (h : jn N N' a = some o) : N a = some o ∨ (N a = none ∧ N' a = some o) := by
  cases q : N a with
  | some u => rw [jn_left q] at h; exact .inl h
  | none => rw [jn_right q] at h; exact .inr ⟨rfl, h⟩
theorem Same.tup {H H' : Hp} (s : Same H H') : TupLe H H' := fun a xs h => s a _ h
theorem grow_call {G : Gh} {H H' N : Hp} (w : Wf G H) (s : Same H H') (n : NewIn G.N N H H') : Grow G H (jn G.N N) H' [] ∧ RgLe (RN N) (RN (jn G.N N)) := by
  refine ⟨⟨fun a o h _ => s a o h, fun _ h => absurd h (by simp), Same.tup s, fun a o h => jn_left h, fun a o h => ?_⟩, fun a o h => ?_⟩
  · rcases jn_cases h with h | ⟨h1, h2⟩
    · exact ⟨s a o (w.new a o h).1, .inl h⟩
    · exact ⟨(n a o h2).1, (n a o h2).2.elim .inr .inl⟩
  · show jn G.N N a = some o
    cases q : G.N a with
    | none => rw [jn_right q]; exact h
    | some u =>
      rcases (n a o h).2 with z | z
      · have := (w.new a u q).1
        rw [z] at this
        cases this
      · exact jn_left z
theorem call_end {K : PySem.W.Frag} {G : Gh} {H H' N' : Hp} {σ : St} {Γ : List Sl} (S : Sta K G H σ Γ) (s : Same H H') (n : NewIn G.N N' H H') :
    ∃ G', Sta K G' H' σ Γ ∧ Ext G H G' H' ∧ RgLe (RN N') (rg G' true) := by
  obtain ⟨g, l⟩ := grow_call S.w s n
  obtain ⟨S', e⟩ := S.grow g
  exact ⟨_, S', e, l⟩
def rdW (Γ : List Sl) (j : Nat) : Option PyData := match Γ[j]? with
  | some (.own (.tr T)) => trD T
  | some (.io (.tr T)) => trD T
  | _ => rdD Γ (.s j)
theorem StaA.rdW {K : PySem.W.Frag} {G : Gh} {H : Hp} {σ : St} {Γ : List Sl} {A : Nat → List Addr} {j : Nat} {x : PyData} {v : V} (S : StaA K G H σ Γ A) (h : PD.rdW Γ j = some x) (hv : σ[j]? = some (some v)) :
    Dn K (fun a o => H a = some o ∧ (G.N a = some o ∨ a ∈ A j ∨ G.E a = some o)) H v x := by
  have l : RgLe (RgN G) (fun a o => H a = some o ∧ (G.N a = some o ∨ a ∈ A j ∨ G.E a = some o)) := fun a o z => ⟨(S.w.new a o z).1, .inl z⟩
  unfold PD.rdW at h
  split at h
  · obtain ⟨u, h1, h2, h3⟩ := S.sl j _ ‹_›
    rw [hv] at h1
    cases h1
    exact TreOk.dn l h3.1 (fun a ha o ho => ⟨ho, .inr (.inl ha)⟩) x h
  · obtain ⟨u, h1, h2, h3⟩ := S.sl j _ ‹_›
    rw [hv] at h1
    cases h1
    exact TreOk.dn l h3.1 (fun a ha o ho => ⟨ho, .inr (.inl ha)⟩) x h
  · unfold rdD at h
    simp only at h
    split at h
    · cases h
      obtain ⟨u, h1, h2, p, vs, rfl, hfp, hp, hd⟩ := S.sl j _ ‹_›
      rw [hv] at h1
      cases h1
      exact .lst (.inl ⟨hp, .inr (.inl (by rw [hfp]; simp))⟩) (hd.mono l (TupLe.rf _))
    · cases h
      obtain ⟨u, h1, h2, p, vs, rfl, hfp, hp, hd⟩ := S.sl j _ ‹_›
      rw [hv] at h1
      cases h1
      exact .lst (.inl ⟨hp, .inr (.inl (by rw [hfp]; simp))⟩) (hd.mono l (TupLe.rf _))
    · cases h
      obtain ⟨_, p, o, h1, h2, h3, h4, h5, q, vs, e, _, h6, h7⟩ := S.sl j _ ‹_›
      rw [hv] at h1
      cases h1
      cases e
      rw [h3] at h6
      cases h6
      exact .lst (.inl ⟨h3, .inr (.inr h4)⟩) (h7.mono l (TupLe.rf _))
    · cases h
theorem Sta.rdW {K : PySem.W.Frag} {G : Gh} {H : Hp} {σ : St} {Γ : List Sl} {j : Nat} {x : PyData} {v : V} (S : Sta K G H σ Γ) (h : PD.rdW Γ j = some x) (hv : σ[j]? = some (some v)) : Dn K (fun a o => H a = some o ∧ a ∉ []) H v x := by
  obtain ⟨A, T⟩ := S
  exact (T.rdW h hv).mono (fun a o z => ⟨z.1, by simp⟩) (TupLe.rf _)
def rdDs (Γ : List Sl) (i : Option Nat) : List AV → Option (List PyData)
  | [] => some []
  | .d _ x :: as => (rdDs Γ i as).map (x :: ·)
  | .s j :: as => if some j = i then none else (rdW Γ j).bind fun x => (rdDs Γ i as).map (x :: ·)
theorem rdDs_ok {K : PySem.W.Frag} {G : Gh} {H : Hp} {σ : St} {Γ : List Sl} {i : Option Nat} {fp : List Addr} (S : Sta K G H σ Γ) (hr : ∀ fr a o, rg G fr a o → a ∉ fp) (hs : ∀ (j : Nat) (x : PyData) (v : V), some j ≠ i → rdW Γ j = some x → σ[j]? = some (some v) → Dn K (fun a o => H a = some o ∧ a ∉ fp) H v x) :
    ∀ {as : List AV} {ds : List PyData} {vs : List V}, rdDs Γ i as = some ds → AVs K G H σ vs as → DnA K (fun a o => H a = some o ∧ a ∉ fp) H vs ds
  | [], _, _, h, .nil => by cases h; exact .nil
  | .d fr x :: as, ds, _, h, .cons q r => by
    have h : (rdDs Γ i as).map (x :: ·) = some ds := h
    cases e : rdDs Γ i as with
    | none => rw [e] at h; cases h
    | some xs =>
      rw [e] at h
      cases h
      exact .cons (Dn.mono (fun b o z => ⟨S.w.rgl fr b o z, hr fr b o z⟩) (TupLe.rf _) q) (rdDs_ok S hr hs e r)
  | .s j :: as, ds, _, h, .cons (v := v) q r => by
    unfold rdDs at h
    split at h
    · cases h
    · rename_i hj
      cases e1 : rdW Γ j with
      | none => rw [e1] at h; cases h
      | some x =>
        rw [e1] at h
        have h : (rdDs Γ i as).map (x :: ·) = some ds := h
        cases e : rdDs Γ i as with
        | none => rw [e] at h; cases h
        | some xs =>
          rw [e] at h
          cases h
          exact .cons (hs j x v hj e1 q) (rdDs_ok S hr hs e r)
theorem dna_at {K : PySem.W.Frag} {G : Rg} {H : Hp} {vs : List V} {ds : List PyData} {i : Nat} {x : PyData} (h : DnA K G H vs ds) (hx : (ds.map Ar.d)[i]? = some (.d x)) : ∃ v, vs[i]? = some v ∧ Dn K G H v x := by
  rw [List.getElem?_map] at hx
  cases e : ds[i]? with
  | none => rw [e] at hx; cases hx
  | some y =>
    rw [e] at hx
    cases hx
    exact h.get' e
theorem argsD {K : PySem.W.Frag} {H : Hp} {vs : List V} {ds : List PyData} (h : DnA K (fun a o => H a = some o ∧ a ∉ []) H vs ds) {B : Hp} (hB : ∀ a o, B a = some o → H a = some o) : ArgsU K H vs (ds.map Ar.d) (fun _ => []) [] B where
  len := by rw [List.length_map]; exact h.length
  dat := fun i x hx => dna_at h hx
  cel := fun i c hc => by
    rw [List.getElem?_map] at hc
    cases e : ds[i]? <;> rw [e] at hc <;> cases hc
  emp := fun _ _ => rfl
  all := fun _ _ h => h
  al := fun p h => absurd h (by simp)
  dj := fun i j p h => absurd h (by simp)
  nat := fun i x hx => by
    rw [List.getElem?_map] at hx
    cases e : ds[i]? <;> rw [e] at hx <;> cases hx
  bok := fun a o h => ⟨hB a o h, by simp⟩
def R.atX {α : Type} (Γ : List Sl) : R α → R α
  | .exc x => .exc ⟨x.cls, x.flds, Γ⟩
  | m => m
section
variable {X : Cx} {W : WX} {sc : Scope} {N : List Str} {x : Str} {e : Expr} {es : List Expr} {p pos : Pos} {k : DA} {dvs : List V} {dds : List PyData} {m : List Ar → R (Rs × List Sl)}
theorem callD_core {Γ : List Sl} {G : Gh} {H : Hp} {σ : St} {as : List AV} {ds : List PyData} {vs : List V} {Q : VK} (hdv : ∀ G H, DnA X.K G H dvs dds) (S : Sta X.K G H σ Γ) (av : AVs X.K G H σ vs as) (hd : rdDs Γ none as = some ds)
    (hp : Pst X W G H σ ((m ((ds ++ dds).map Ar.d)).atX Γ) fun z G' H' => Sta X.K G' H' σ Γ → RsOk X.K G'.N H' Q z.1) : spU X.K X.mg m (vs ++ dvs) H Q (fun cls d H => W cls d σ H) := by
  have h1 : DnA X.K (fun a o => H a = some o ∧ a ∉ []) H vs ds := rdDs_ok (i := none) (fp := []) S (fun _ _ _ _ => by simp) (fun _ _ _ _ hr hv => S.rdW hr hv) hd av
  refine ⟨_, _, _, G.N, argsD (h1.append (hdv _ _)) (fun a o h => (S.w.new a o h).1), ?_⟩
  cases hm : m ((ds ++ dds).map Ar.d) with
  | bad => rw [hm] at hp; exact hp
  | exc y =>
    rw [hm] at hp
    intro H' N' F' C d P g1 g2
    obtain ⟨G', S', e', l⟩ := call_end S (fun a o h => P.keep a o h (by simp)) P.new
    refine hp G' H' σ C d e' S' g1 ?_
    rcases g2 with ⟨a, fs, q1, q2, q3, q4⟩ | q
    · exact .inl ⟨a, fs, q1, l _ _ q2, q3, q4.mono l (TupLe.rf _)⟩
    · exact .inr q
  | val z =>
    rw [hm] at hp
    intro H' N' F' P
    obtain ⟨G', S', e', l⟩ := call_end S (fun a o h => P.keep a o h (by simp)) P.new
    have q := hp G' H' e' S'
    cases hz : z.1 with
    | d y => rw [hz] at q; exact fun v hv => q v (hv.mono l (TupLe.rf _))
    | c y => rw [hz] at q; exact fun v H2 ⟨fp, n1, n2, n3⟩ => q v H2 ⟨fp, n1, n2, Cl.mono n3 l (fun _ _ => rfl) (TupLe.rf _)⟩
end
end PD
set_option Elab.async false
set_option linter.all false
set_option maxRecDepth 100000
set_option maxHeartbeats 4000000
set_option autoImplicit false
namespace PD
open PySem L2
theorem Sta.cellU {K : PySem.W.Frag} {G : Gh} {H : Hp} {σ : St} {Γ : List Sl} {c : Cl} (S : Sta K G H σ Γ) (i : Nat) (io : Bool) (hi : Γ[i]? = some (if io then .io c else .own c)) :
    ∃ v fp, σ[i]? = some (some v) ∧ c.ok K (RgN G) H v fp ∧ (∀ p ∈ fp, H p ≠ none) ∧ (∀ fr a o, rg G fr a o → a ∉ fp) ∧ (∀ (j : Nat) (x : PyData) (u : V), j ≠ i → PD.rdW Γ j = some x → σ[j]? = some (some u) → Dn K (fun a o => H a = some o ∧ a ∉ fp) H u x) ∧
      ∀ H' N' fp' c', (∀ a o, H a = some o → a ∉ fp → H' a = some o) → (∀ a ∈ fp, H' a ≠ none) → TupLe H H' → NewIn G.N N' H H' → c'.ok K (RN N') H' v fp' → (∀ p ∈ fp', H' p ≠ none ∧ N' p = none ∧ (p ∈ fp ∨ H p = none)) →
        ∃ G', Sta K G' H' σ (Γ.set i (if io then .io c' else .own c')) ∧ Ext G H G' H' ∧ RgLe (RN N') (rg G' true) := by
  obtain ⟨A, S⟩ := S
  have key : ∃ v, σ[i]? = some (some v) ∧ c.ok K (RgN G) H v (A i) ∧ (io = true → G.I i = some v) ∧ (io = false → ∀ p ∈ A i, G.H0 p = none) := by
    cases io with
    | true =>
      obtain ⟨v, h1, h2, h3⟩ := S.sl i _ hi
      exact ⟨v, h1, h3, fun _ => h2, fun h => by cases h⟩
    | false =>
      obtain ⟨v, h1, h2, h3⟩ := S.sl i _ hi
      exact ⟨v, h1, h3, fun h => absurd h (by simp), fun _ => h2⟩
  obtain ⟨v, h1, h2, h3, h4⟩ := key
  refine ⟨v, A i, h1, h2, fun p hp => (S.al i p hp).1, fun fr a o h hp => ?_, fun j x u hj hr hu => ?_, fun H' N' fp' c' k1 k2 t n ok f => ?_⟩
  · obtain ⟨_, q1, q2⟩ := S.al i a hp
    cases fr with
    | true =>
      have h : G.N a = some o := h
      rw [q1] at h; cases h
    | false =>
      rcases h with h | ⟨h, h'⟩
      · rw [q1] at h; cases h
      · rcases q2 with q2 | q2
        · exact h' q2
        · rw [q2] at h; cases h
  · refine (S.rdW hr hu).mono (fun a o z => ⟨z.1, fun hp => ?_⟩) (TupLe.rf _)
    rcases z.2 with z | z | z
    · rw [(S.al i a hp).2.1] at z; cases z
    · exact hj (S.dj j i a z hp)
    · rw [S.ae i a hp] at z; cases z
  · have g : Grow G H (jn G.N N') H' (A i) := by
      refine ⟨k1, k2, t, fun a o h => jn_left h, fun a o h => ?_⟩
      rcases jn_cases h with h | ⟨_, h⟩
      · refine ⟨k1 a o (S.w.new a o h).1 fun hp => ?_, .inl h⟩
        rw [(S.al i a hp).2.1] at h; cases h
      · exact ⟨(n a o h).1, (n a o h).2.elim .inr .inl⟩
    have l : RgLe (RN N') (RN (jn G.N N')) := fun a o h => by
      show jn G.N N' a = some o
      cases q : G.N a with
      | none => rw [jn_right q]; exact h
      | some u =>
        rcases (n a o h).2 with z | z
        · have := (S.w.new a u q).1
          rw [z] at this
          cases this
        · exact jn_left z
    have f2 : ∀ p ∈ fp', H' p ≠ none ∧ jn G.N N' p = none ∧ (p ∈ A i ∨ H p = none) := fun p hp => by
      obtain ⟨q1, q2, q3⟩ := f p hp
      refine ⟨q1, ?_, q3⟩
      have : G.N p = none := by
        rcases q3 with q3 | q3
        · exact (S.al i p q3).2.1
        · exact (S.w.fresh q3).1
      rw [jn_right this]
      exact q2
    obtain ⟨S', e⟩ := S.step (i := i) (fp' := fp') (s' := if io then .io c' else .own c') (σ' := σ) g (fun p hp => hp) (fun j hj => rfl) rfl (fun hlt => by
      cases io with
      | true => exact ⟨v, h1, h3 rfl, Cl.mono ok l (fun _ _ => rfl) (TupLe.rf _)⟩
      | false =>
        refine ⟨v, h1, fun p hp => ?_, Cl.mono ok l (fun _ _ => rfl) (TupLe.rf _)⟩
        rcases (f p hp).2.2 with q | q
        · exact h4 rfl p q
        · exact (S.w.fresh q).2.1) f2
    exact ⟨_, S', e, l⟩
def cellAt (Γ : List Sl) (i : Nat) : Option (Bool × Cl) := match Γ[i]? with
  | some (.own c) => some (false, c)
  | some (.io c) => some (true, c)
  | _ => none
theorem cellAt_ok {Γ : List Sl} {i : Nat} {z : Bool × Cl} (h : cellAt Γ i = some z) : Γ[i]? = some (if z.1 then .io z.2 else .own z.2) := by
  unfold cellAt at h
  split at h
  · cases h; exact ‹_›
  · cases h; exact ‹_›
  · cases h
def pickC (n : Nat) (as : List AV) : Option Nat := match as[n]? with
  | some (.s i) => some i
  | _ => none
def insC (n : Nat) (c : Cl) (ds : List PyData) : List Ar := (ds.take n).map Ar.d ++ .c c :: (ds.drop n).map Ar.d
def ioAt (n : Nat) (Z : List Sl) : Option Cl := match Z[n]? with
  | some (.io c) => some c
  | _ => none
theorem ioAt_ok {n : Nat} {Z : List Sl} {c : Cl} (h : ioAt n Z = some c) : Z[n]? = some (.io c) := by
  unfold ioAt at h
  split at h
  · cases h; exact ‹_›
  · cases h
def R.atC (n : Nat) (Γ : List Sl) (i : Nat) (io : Bool) : R (Rs × List Sl) → R (Rs × List Sl)
  | .bad => .bad
  | .exc x => (R.ofO (ioAt n x.st)).bind fun c => .exc ⟨x.cls, x.flds, Γ.set i (mkS io c)⟩
  | .val z => (R.ofO (ioAt n z.2)).bind fun c => .val (z.1, Γ.set i (mkS io c))
theorem avs_erase {K : PySem.W.Frag} {G : Gh} {H : Hp} {σ : St} : ∀ {n i : Nat} {as : List AV} {vs : List V}, AVs K G H σ vs as → as[n]? = some (.s i) → ∃ v v1 v2, vs = v1 ++ v :: v2 ∧ v1.length = n ∧ σ[i]? = some (some v) ∧ AVs K G H σ (v1 ++ v2) (as.eraseIdx n)
  | 0, i, _, _, .cons (v := v) (vs := vs) h r, e => by
    cases e
    exact ⟨v, [], vs, rfl, rfl, h, r⟩
  | n + 1, i, _, _, .cons (v := u) h r, e => by
    obtain ⟨v, v1, v2, rfl, h1, h2, h3⟩ := avs_erase (n := n) r (by simpa using e)
    exact ⟨v, u :: v1, v2, rfl, by simp [h1], h2, .cons h h3⟩
  | _, _, _, _, .nil, e => by simp at e
theorem dna_split {K : PySem.W.Frag} {G : Rg} {H : Hp} : ∀ {v1 v2 : List V} {ds : List PyData}, DnA K G H (v1 ++ v2) ds → DnA K G H v1 (ds.take v1.length) ∧ DnA K G H v2 (ds.drop v1.length)
  | [], v2, ds, h => ⟨.nil, h⟩
  | v :: v1, v2, _, .cons h r => by
    obtain ⟨q1, q2⟩ := dna_split (v1 := v1) r
    exact ⟨.cons h q1, q2⟩
theorem argsC {K : PySem.W.Frag} {H : Hp} {v1 v2 : List V} {v : V} {ds : List PyData} {c : Cl} {fp : List Addr} (h : DnA K (fun a o => H a = some o ∧ a ∉ fp) H (v1 ++ v2) ds) {B : Hp} (hc : c.ok K (RN B) H v fp) (al : ∀ p ∈ fp, H p ≠ none) (hB : ∀ a o, B a = some o → H a = some o ∧ a ∉ fp) :
    ArgsU K H (v1 ++ v :: v2) (insC v1.length c ds) (fun i => if i = v1.length then fp else []) fp B := by
  obtain ⟨h1, h2⟩ := dna_split h
  have l1 := h1.length
  have l2 := h2.length
  have e1 : ((ds.take v1.length).map Ar.d).length = v1.length := by rw [List.length_map]; exact l1.symm
  refine ⟨?_, fun i x hx => ?_, fun i c' hc' => ?_, fun i hi => ?_, fun i p hp => ?_, al, fun i j p hi hj => ?_, fun i x hx => ?_, hB⟩
  · unfold insC
    rw [List.length_append, List.length_append, List.length_cons, List.length_cons, e1, List.length_map, ← l2]
  · unfold insC at hx
    by_cases hlt : i < v1.length
    · rw [List.getElem?_append_left (by rw [e1]; exact hlt)] at hx
      rw [List.getElem?_append_left hlt]
      exact dna_at h1 hx
    · rw [List.getElem?_append_right (by rw [e1]; omega), e1] at hx
      rw [List.getElem?_append_right (by omega)]
      cases hk : i - v1.length with
      | zero => rw [hk] at hx; cases hx
      | succ q =>
        rw [hk, List.getElem?_cons_succ] at hx
        rw [List.getElem?_cons_succ]
        exact dna_at h2 hx
  · unfold insC at hc'
    by_cases hlt : i < v1.length
    · rw [List.getElem?_append_left (by rw [e1]; exact hlt), List.getElem?_map] at hc'
      cases e : (ds.take v1.length)[i]? <;> rw [e] at hc' <;> cases hc'
    · rw [List.getElem?_append_right (by rw [e1]; omega), e1] at hc'
      cases hk : i - v1.length with
      | zero =>
        rw [hk] at hc'
        cases hc'
        have : i = v1.length := by omega
        subst this
        exact ⟨v, by simp, by rw [if_pos rfl]; exact hc⟩
      | succ q =>
        rw [hk, List.getElem?_cons_succ, List.getElem?_map] at hc'
        cases e : (ds.drop v1.length)[q]? <;> rw [e] at hc' <;> cases hc'
  · by_cases e : i = v1.length
    · subst e
      refine absurd ?_ (hi c)
      unfold insC
      rw [List.getElem?_append_right (by rw [e1]; exact Nat.le_refl _), e1, Nat.sub_self]
      rfl
    · exact if_neg e
  · by_cases e : i = v1.length
    · rw [if_pos e] at hp; exact hp
    · rw [if_neg e] at hp; cases hp
  · by_cases e : i = v1.length
    · by_cases e' : j = v1.length
      · rw [e, e']
      · rw [if_neg e'] at hj; cases hj
    · rw [if_neg e] at hi; cases hi
  · unfold insC at hx
    by_cases hlt : i < v1.length
    · rw [List.getElem?_append_left (by rw [e1]; exact hlt), List.getElem?_map] at hx
      cases e : (ds.take v1.length)[i]? <;> rw [e] at hx <;> cases hx
    · rw [List.getElem?_append_right (by rw [e1]; omega), e1] at hx
      cases hk : i - v1.length with
      | zero => rw [hk] at hx; cases hx
      | succ q =>
        rw [hk, List.getElem?_cons_succ, List.getElem?_map] at hx
        cases e : (ds.drop v1.length)[q]? <;> rw [e] at hx <;> cases hx
section
variable {X : Cx} {W : WX} {sc : Scope} {N : List Str} {x : Str} {e : Expr} {es : List Expr} {p pos : Pos} {k : DA} {dvs : List V} {dds : List PyData} {m : List Ar → R (Rs × List Sl)}
theorem callC_core {Γ : List Sl} {G : Gh} {H : Hp} {σ : St} {as : List AV} {ds : List PyData} {vs : List V} {Q : VK} {n i : Nat} {ic : Bool × Cl} (hdv : ∀ G H, DnA X.K G H dvs dds) (S : Sta X.K G H σ Γ) (av : AVs X.K G H σ vs as) (hn : pickC n as = some i) (hc : cellAt Γ i = some ic) (hd : rdDs Γ (some i) (as.eraseIdx n) = some ds) (hfl : ic.2.fl = true)
    (hp : Pst X W G H σ ((m (insC n ic.2 (ds ++ dds))).atC n Γ i ic.1) fun z G' H' => Sta X.K G' H' σ z.2 → RsOk X.K G'.N H' Q z.1) : spU X.K X.mg m (vs ++ dvs) H Q (fun cls d H => W cls d σ H) := by
  have hn' : as[n]? = some (.s i) := by
    unfold pickC at hn
    split at hn
    · cases hn; exact ‹_›
    · cases hn
  obtain ⟨v, v1, v2, rfl, hv1, hv, av2⟩ := avs_erase av hn'
  obtain ⟨v', fp, g1, g2, g3, g4, g5, g6⟩ := S.cellU i ic.1 (cellAt_ok hc)
  rw [hv] at g1
  cases g1
  have h1 : DnA X.K (fun a o => H a = some o ∧ a ∉ fp) H (v1 ++ v2) ds := rdDs_ok (i := some i) (fp := fp) S g4 (fun j x u hj hr hu => g5 j x u (fun z => hj (by rw [z])) hr hu) hd av2
  have h2 : DnA X.K (fun a o => H a = some o ∧ a ∉ fp) H (v1 ++ (v2 ++ dvs)) (ds ++ dds) := by
    rw [← List.append_assoc]
    exact h1.append (hdv _ _)
  subst hv1
  refine ⟨_, _, _, G.N, by rw [List.append_assoc, List.cons_append]; exact argsC h2 g2 g3 (fun a o h => ⟨(S.w.new a o h).1, g4 true a o h⟩), ?_⟩
  have key : ∀ H' N' F' Z c', PostU X.K H (v1 ++ v :: v2 ++ dvs) (fun i => if i = v1.length then fp else []) fp G.N H' N' Z F' → ioAt v1.length Z = some c' → ∃ G', Sta X.K G' H' σ (Γ.set i (mkS ic.1 c')) ∧ Ext G H G' H' ∧ RgLe (RN N') (rg G' true) := fun H' N' F' Z c' P hz => by
    obtain ⟨u, q1, q2⟩ := P.cel _ _ (ioAt_ok hz)
    have : u = v := by
      rw [List.append_assoc, List.getElem?_append_right (Nat.le_refl _), Nat.sub_self] at q1
      exact (Option.some.inj q1).symm
    subst this
    exact g6 H' N' (F' v1.length) c' P.keep P.pal P.t P.new q2 fun p hp => P.al _ p hp
  cases hm : m (insC v1.length ic.2 (ds ++ dds)) with
  | bad => rw [hm] at hp; exact hp
  | exc y =>
    rw [hm] at hp
    intro H' N' F' C d P k1 k2
    obtain ⟨c', hz, hp⟩ := Pst.ofO (show Pst X W G H σ ((R.ofO (ioAt v1.length y.st)).bind fun c => .exc ⟨y.cls, y.flds, Γ.set i (mkS ic.1 c)⟩) _ from hp)
    obtain ⟨G', S', e', l⟩ := key H' N' F' y.st c' P hz
    refine hp G' H' σ C d e' S' k1 ?_
    rcases k2 with ⟨a, fs, q1, q2, q3, q4⟩ | q
    · exact .inl ⟨a, fs, q1, l _ _ q2, q3, q4.mono l (TupLe.rf _)⟩
    · exact .inr q
  | val z =>
    rw [hm] at hp
    intro H' N' F' P
    obtain ⟨c', hz, hp⟩ := Pst.ofO (show Pst X W G H σ ((R.ofO (ioAt v1.length z.2)).bind fun c => .val (z.1, Γ.set i (mkS ic.1 c))) _ from hp)
    obtain ⟨G', S', e', l⟩ := key H' N' F' z.2 c' P hz
    have q := hp G' H' e' S'
    simp only at q
    cases hz : z.1 with
    | d y => rw [hz] at q; exact fun v hv => q v (hv.mono l (TupLe.rf _))
    | c y => rw [hz] at q; exact fun v H2 ⟨fp, n1, n2, n3⟩ => q v H2 ⟨fp, n1, n2, Cl.mono n3 l (fun _ _ => rfl) (TupLe.rf _)⟩
def preC (n : Nat) (dds : List PyData) (z : List AV × List Sl) : R (Nat × Bool × List Ar) := (R.ofO (pickC n z.1)).bind fun i => (R.ofO (cellAt z.2 i)).bind fun ic => (R.ofO (rdDs z.2 (some i) (z.1.eraseIdx n))).bind fun ds => (R.req ic.2.fl).bind fun _ => .val (i, ic.1, insC n ic.2 (ds ++ dds))
theorem preC_ok {n : Nat} {z : List AV × List Sl} {G : Gh} {H : Hp} {σ : St} {τ : Type} {q : Nat × Bool × List Ar → R τ} {P : τ → Gh → Hp → Prop} (h : Pst X W G H σ ((preC n dds z).bind q) P) : ∃ i ic ds, pickC n z.1 = some i ∧ cellAt z.2 i = some ic ∧ rdDs z.2 (some i) (z.1.eraseIdx n) = some ds ∧ ic.2.fl = true ∧ Pst X W G H σ (q (i, ic.1, insC n ic.2 (ds ++ dds))) P := by
  unfold preC at h
  rw [R.bind_assoc] at h
  obtain ⟨i, h1, h⟩ := Pst.ofO h
  rw [R.bind_assoc] at h
  obtain ⟨ic, h2, h⟩ := Pst.ofO h
  rw [R.bind_assoc] at h
  obtain ⟨ds, h3, h⟩ := Pst.ofO h
  rw [R.bind_assoc] at h
  obtain ⟨h4, h⟩ := Pst.req h
  exact ⟨i, ic, ds, h1, h2, h3, h4, h⟩
end
end PD
set_option Elab.async false
set_option linter.all false
set_option maxRecDepth 100000
set_option maxHeartbeats 4000000
set_option autoImplicit false
namespace PD
open PySem PySem.Spec PyProof.Rows L2
section
variable {P : Program} {w : World} {A : Around} {E : Value → Shared → Prop} {s : Shared}
end
end PD
set_option Elab.async false
set_option linter.all false
set_option maxRecDepth 100000
set_option maxHeartbeats 4000000
set_option autoImplicit false
namespace PD
open PySem PySem.Spec PyProof.Rows L2
theorem rise_ext : ∀ {xs ys : List Int}, xs.Pairwise (· < ·) → ys.Pairwise (· < ·) → (∀ k, k ∈ xs ↔ k ∈ ys) → xs = ys
  | [], [], _, _, _ => rfl
  | [], y :: ys, _, _, h => absurd ((h y).2 (by simp)) (by simp)
  | x :: xs, [], _, _, h => absurd ((h x).1 (by simp)) (by simp)
  | x :: xs, y :: ys, hx, hy, h => by
    have hx' := List.pairwise_cons.mp hx
    have hy' := List.pairwise_cons.mp hy
    have e : x = y := by
      rcases List.mem_cons.mp ((h x).1 (by simp)) with z | z
      · exact z
      · rcases List.mem_cons.mp ((h y).2 (by simp)) with z' | z'
        · exact z'.symm
        · have a := hx'.1 y z'
          have b := hy'.1 x z
          omega
    subst e
    rw [rise_ext hx'.2 hy'.2 fun k => ?_]
    constructor
    · intro z
      rcases List.mem_cons.mp ((h k).1 (by simp [z])) with q | q
      · have := hx'.1 k z; omega
      · exact q
    · intro z
      rcases List.mem_cons.mp ((h k).2 (by simp [z])) with q | q
      · have := hy'.1 k z; omega
      · exact q
end PD
set_option Elab.async false
set_option linter.all false
set_option maxRecDepth 100000
set_option maxHeartbeats 4000000
set_option autoImplicit false
namespace PD
open PySem L2
section
variable {X : Cx} {W : WX} {sc : Scope} {N : List Str} {Γ : List Sl} {e : Expr} {es : List Expr} {pos p : Pos} {α γ : Type} {ma : R α} {as : α → List AV} {Γ1 : α → List Sl}
theorem ev_callT (C : Cf0 X W sc N) {x : Str} {T : String} {r : List V → Hp → VK → Prop} {k : α → R γ} {av : γ → AV} {Γk : γ → List Sl} (hc : CallR X (.type T) r) (hg : glB sc x = true) (hm : X.mg x = none) (hv : bootBuiltins x = some (.type T)) (ha : EvA X W Γ (e :: es) ma as Γ1)
    (hk : ∀ a G H σ vs Q, Sta X.K G H σ (Γ1 a) → AVs X.K G H σ vs (as a) → Pst X W G H σ (k a) (fun z G' H' => ∀ w, Sta X.K G' H' σ (Γk z) → AVok X.K G' H' σ w (av z) → Q w H') → r vs H Q)
    (hn : x ≠ "__name__" := by decide +kernel) (hdb : (x == ("__debug__" : Str)) = false := by decide +kernel) (he : starEach (e :: es) X.env = (false, eval e X.env) :: starEach es X.env := by rfl) (hpl : (backTo pos (starEach es X.env)).any (·.1) = false := by rfl) :
    Ev X W Γ (.Call (.Name x p) (e :: es) [] pos) (ma.bind k) av Γk :=
  pe_imp (pe_callTy hc (C.gl hg) hm hv ha hn hdb he hpl) fun σ H Q ⟨G, S, p⟩ => ⟨G, S, (Pst.bind p).imp fun a G1 H1 e1 p1 vs S1 h1 => hk a G1 H1 σ vs Q S1 h1 p1⟩
end
def intsOf : List PyData → Option (List Int)
  | [] => some []
  | .int i :: ds => (intsOf ds).map (i :: ·)
  | _ => none
theorem intsOf_eq : ∀ {ds : List PyData} {ns : List Int}, intsOf ds = some ns → ds = ns.map PyData.int
  | [], _, h => by cases h; rfl
  | .int i :: ds, ns, h => by
    unfold intsOf at h
    cases e : intsOf ds with
    | none => rw [e] at h; cases h
    | some ms => rw [e] at h; cases h; rw [intsOf_eq e]; rfl
  | .none :: _, _, h => by cases h
  | .bool _ :: _, _, h => by cases h
  | .str _ :: _, _, h => by cases h
  | .list _ :: _, _, h => by cases h
  | .tuple _ :: _, _, h => by cases h
  | .dict _ :: _, _, h => by cases h
theorem intsOf_map : ∀ ns : List Int, intsOf (ns.map PyData.int) = some ns
  | [] => rfl
  | n :: ns => by simp [intsOf, intsOf_map ns]
section
variable {X : Cx} {W : WX} {sc : Scope} {N : List Str} {a b c e : Expr} {es : List Expr} {pos p : Pos} {f g : DF} {k : DA}
def dB (q : List Sl → List AV → R AV) (k : DA) : DF := fun Γ => (k Γ).bind fun z => (q z.2 z.1).bind fun y => .val (y, z.2)
theorem ce_bT (C : Cf0 X W sc N) {x : Str} {id : String} {r : List V → Hp → VK → Prop} (q : List Sl → List AV → R AV) (hc : CallR X (.type id) r) (hg : glB sc x = true) (hm : X.mg x = none) (hv : bootBuiltins x = some (.type id)) (ha : CA X W (e :: es) k)
    (hk : ∀ as Γ2 G H σ vs Q, Sta X.K G H σ Γ2 → AVs X.K G H σ vs as → Pk X W G H σ ((q Γ2 as).bind fun y => .val (y, Γ2)) Q → r vs H Q)
    (hn : x ≠ "__name__" := by decide +kernel) (hdb : (x == ("__debug__" : Str)) = false := by decide +kernel) (he : starEach (e :: es) X.env = (false, eval e X.env) :: starEach es X.env := by rfl) (hpl : (backTo pos (starEach es X.env)).any (·.1) = false := by rfl) :
    CE X W (.Call (.Name x p) (e :: es) [] pos) (dB q k) := fun Γ => ev_callT (k := fun z : List AV × List Sl => (q z.2 z.1).bind fun y => .val (y, z.2)) C hc hg hm hv (ha Γ) (fun z G H σ vs Q S h p => hk z.1 z.2 G H σ vs Q S h p) hn hdb he hpl
def Pn (X : Cx) (W : WX) (G : Gh) (H : Hp) (σ : St) (m : R (List PyData × List Sl)) (Q : VK) : Prop := Pst X W G H σ m fun z G' H' => ∀ q ws, Sta X.K G' H' σ z.2 → H' q = none → DnA X.K (rg G' true) H' ws z.1 → Q (.ref q) (upd H' q (.lst ws))
def dBN (q : List Sl → List AV → R (List PyData)) (k : DA) : DN := fun Γ => (k Γ).bind fun z => (q z.2 z.1).bind fun y => .val (y, z.2)
theorem Pn.v {G : Gh} {H : Hp} {σ : St} {ds : List PyData} {Γ : List Sl} {Q : VK} (h : Pn X W G H σ (.val (ds, Γ)) Q) (S : Sta X.K G H σ Γ) {q : Addr} {ws : List V} (hq : H q = none) (hd : DnA X.K (rg G true) H ws ds) : Q (.ref q) (upd H q (.lst ws)) := h G H (Ext.rf S.w) q ws S hq hd
def kLen (Γ : List Sl) : List AV → R AV
  | [x] => match rdD Γ x with
    | some (.list ds) => .val (.d true (.int (ds.length : Nat)))
    | some (.tuple ds) => .val (.d true (.int (ds.length : Nat)))
    | some (.str z) => gq (decide (z.length ≤ sizeLine)) (.d true (.int (z.length : Nat)))
    | _ => .bad
  | _ => .bad
def kMax2 (_ : List Sl) : List AV → R AV
  | [.d _ (.int i), .d _ (.int j)] => .val (.d true (.int (max2 i j)))
  | _ => .bad
def kMin2 (_ : List Sl) : List AV → R AV
  | [.d _ (.int i), .d _ (.int j)] => .val (.d true (.int (min2 i j)))
  | _ => .bad
theorem ofO_cases {α β : Type} {o : Option α} {k : α → R β} : (∃ y, o = some y ∧ (R.ofO o).bind k = k y) ∨ (R.ofO o).bind k = .bad := by
  cases o with
  | none => exact .inr rfl
  | some y => exact .inl ⟨y, rfl, rfl⟩
def rdSeq (Γ : List Sl) : AV → Option (List PyData × Bool)
  | .d fr (.list ds) => some (ds, fr)
  | .d fr (.tuple ds) => some (ds, fr)
  | .s i => match rdD Γ (.s i) with
    | some (.list ds) => some (ds, true)
    | _ => none
  | _ => none
theorem rdSeq_ok {G : Gh} {H : Hp} {σ : St} {Γ : List Sl} {x : AV} {v : V} {z : List PyData × Bool} (S : Sta X.K G H σ Γ) (hv : AVok X.K G H σ v x) (h : rdSeq Γ x = some z) : ∃ l xs, v = .ref l ∧ (SqL X.K H l xs ∨ H l = some (.tup xs)) ∧ DnA X.K (rg G z.2) H xs z.1 := by
  unfold rdSeq at h
  split at h
  · cases h
    obtain ⟨l, xs, rfl, g1, g2⟩ := dn_list hv
    exact ⟨l, xs, rfl, .inl (g1.mono (S.w.rgl _)).sq, g2⟩
  · cases h
    obtain ⟨l, xs, rfl, g1, g2⟩ := dn_tupleH hv
    exact ⟨l, xs, rfl, .inr g1, g2⟩
  · split at h
    · rename_i ds hd
      cases h
      obtain ⟨l, xs, rfl, g1, g2⟩ := S.slotL hd hv
      exact ⟨l, xs, rfl, .inl (SqL.of g1), g2⟩
    · cases h
  · cases h
def kTuple (Γ : List Sl) : List AV → R AV
  | [x] => (R.ofO (rdSeq Γ x)).bind fun z => .val (.d z.2 (.tuple z.1))
  | _ => .bad
theorem ce_tuple (C : Cf0 X W sc N) (hg : glB sc "tuple" = true) (hm : X.mg "tuple" = none) (ha : CA X W [e] k) (he : starEach [e] X.env = (false, eval e X.env) :: starEach [] X.env := by rfl) : CE X W (.Call (.Name "tuple" p) [e] [] pos) (dB kTuple k) :=
  ce_bT C kTuple call_tuple_of hg hm PyProof.Rows.boot_tuple ha (fun as Γ2 G H σ vs Q S h q => by
    unfold kTuple at q
    split at q
    · rename_i x
      obtain ⟨v, rfl, hv⟩ := avs_one h
      rcases ofO_cases (o := rdSeq Γ2 x) (k := fun z => R.val (AV.d z.2 (.tuple z.1))) with ⟨z, e1, e2⟩ | e2
      · rw [e2] at q
        obtain ⟨l, xs, rfl, hs, hd⟩ := rdSeq_ok S hv e1
        refine ⟨l, xs, rfl, hs.imp (fun hs => ⟨hs, fun l' hl => ?_⟩) fun hs => ⟨SqT.of hs, Pk.v q S (.tup hs hd)⟩⟩
        obtain ⟨G2, S2, e2, h2⟩ := S.newTup hl hd
        exact Pk.v' q e2 S2 h2
      · rw [e2] at q; exact q.elim
    · exact q.elim) (by decide +kernel) (by decide +kernel) he
inductive Tn where
  | int | bool | str | list | tuple | dict
def Tn.nm : Tn → String
  | .int => "int"
  | .bool => "bool"
  | .str => "str"
  | .list => "list"
  | .tuple => "tuple"
  | .dict => "dict"
def tyIs : PyData → Tn → Bool
  | .bool _, .int => true
  | .bool _, .bool => true
  | .int _, .int => true
  | .str _, .str => true
  | .list _, .list => true
  | .tuple _, .tuple => true
  | .dict _, .dict => true
  | _, _ => false
def noDct : PyData → Bool
  | .dict _ => false
  | _ => true
def dIsi (ts : List Tn) (f : DF) : DF := fun Γ => (f Γ).bind fun x => match rdD x.2 x.1 with
  | some d => gq (noDct d) (.d true (.bool (ts.any fun t => tyIs d t)), x.2)
  | none => .bad
end
end PD
set_option Elab.async false
set_option linter.all false
set_option maxRecDepth 100000
set_option maxHeartbeats 4000000
set_option autoImplicit false
namespace PD
open PySem L2
def R.nox {α : Type} : R α → R α
  | .exc _ => .bad
  | m => m
abbrev WF : WX := fun _ _ _ _ => False
section
variable {X : Cx} {W : WX} {sc : Scope} {N : List Str} {Γ : List Sl}
theorem Cf.blk (C : Cf X W sc N) {s : Shared} {H : Hp} {scope : Scope} {cl : List (Str × Addr)} {c : Addr} {fp : List Addr} : Cf (X.blk s H scope (compEnvC scope cl c X.env) fp) WF (relS scope sc) N := by
  refine ⟨⟨?_, C.hN, C.nd, takes0N, C.hu, PassesOwn.never, C.hu2⟩, C.calm⟩
  show relabel scope X.env = relS scope sc
  rw [← C.hsc]
  rfl
theorem Clee.blk {x : Str} {dvs : List V} {sp : Sp} (h : Clee X x dvs sp) {s : Shared} {H : Hp} {scope : Scope} {ce : Env} {fp : List Addr} : Clee (X.blk s H scope ce fp) x dvs sp := h
theorem Sta.wipeS {K : PySem.W.Frag} {G : Gh} {H : Hp} {σ : St} {Γ : List Sl} (S : Sta K G H σ Γ) : ∀ vs : List Nat, Sta K G H (L2.wipe σ vs) (wipeG Γ vs)
  | [] => S
  | v :: vs => (Sta.wipeS S vs).blank v none
theorem wipeG_at {Γ : List Sl} : ∀ {vs : List Nat} {i : Nat}, i ∈ vs → i < Γ.length → (wipeG Γ vs)[i]? = some .un
  | v :: vs, i, h, hl => by
    have hlen : ∀ ws : List Nat, (wipeG Γ ws).length = Γ.length := fun ws => by
      induction ws with
      | nil => rfl
      | cons w ws ih => simp [wipeG, ih]
    by_cases q : i = v
    · subst q
      exact List.getElem?_set_self (by rw [hlen]; exact hl)
    · have h' : i ∈ vs := by
        rcases List.mem_cons.mp h with z | z
        · exact absurd z q
        · exact z
      show ((wipeG Γ vs).set v .un)[i]? = some .un
      rw [List.getElem?_set_ne (Ne.symm q)]
      exact wipeG_at h' hl
theorem wipe_eq {σ σ' : St} {vs ts : List Nat} (hl : σ'.length = σ.length) (h : ∀ j, j ∉ ts → σ'[j]? = σ[j]?) (hs : ∀ j ∈ ts, j ∈ vs) : wipe σ' vs = wipe σ vs := by
  have at_ : ∀ (ρ : St) (ws : List Nat) (j : Nat), j ∈ ws → j < ρ.length → (wipe ρ ws)[j]? = some none := fun ρ ws => by
    induction ws with
    | nil => intro j hj; cases hj
    | cons w ws ih =>
      intro j hj hl
      by_cases q : j = w
      · subst q
        exact List.getElem?_set_self (by rw [wipe_length]; exact hl)
      · show ((wipe ρ ws).set w none)[j]? = some none
        rw [List.getElem?_set_ne (Ne.symm q)]
        refine ih j ?_ hl
        rcases List.mem_cons.mp hj with z | z
        · exact absurd z q
        · exact z
  refine List.ext_getElem? fun j => ?_
  by_cases hj : j ∈ vs
  · by_cases hlt : j < σ.length
    · rw [at_ σ' vs j hj (by rw [hl]; exact hlt), at_ σ vs j hj hlt]
    · rw [List.getElem?_eq_none (by rw [wipe_length, hl]; omega), List.getElem?_eq_none (by rw [wipe_length]; omega)]
  · rw [wipe_out hj, wipe_out hj]
    exact h j fun z => hj (hs j z)
def compU (vs : List Nat) (g : DG) (fr : Bool) (t : DT) (e : DF) : List PyData → List Sl → R (List PyData × List Sl)
  | [], Γ => .val ([], Γ)
  | d :: ds, Γ => (R.ofO (g fr d Γ)).bind fun Γ1 => (t Γ1).nox.bind fun x => if x.1 then (e x.2).nox.bind fun y => (R.ofO (avD y.1)).bind fun o => (compU vs g fr t e ds (wipeG y.2 vs)).bind fun r => .val (o :: r.1, r.2) else compU vs g fr t e ds (wipeG x.2 vs)
theorem compU_cons (vs : List Nat) (g : DG) (fr : Bool) (t : DT) (e : DF) (d : PyData) (ds : List PyData) (Γ : List Sl) : compU vs g fr t e (d :: ds) Γ = (R.ofO (g fr d Γ)).bind fun Γ1 => (t Γ1).nox.bind fun x => if x.1 then (e x.2).nox.bind fun y => (R.ofO (avD y.1)).bind fun o => (compU vs g fr t e ds (wipeG y.2 vs)).bind fun r => .val (o :: r.1, r.2) else compU vs g fr t e ds (wipeG x.2 vs) := rfl
def nComp (vs : List Nat) (g : DG) (it : DI) (t : DT) (e : DF) : DN := fun Γ => (it Γ).bind fun z => (R.req (szB z.1.1)).bind fun _ => compU vs g z.1.2 t e z.1.1 (wipeG z.2 vs)
def CTs (X : Cx) (W : WX) (es : List Expr) (f : DT) : Prop := ∀ Γ, PTs X es (rdT X W Γ (f Γ) Prod.fst Prod.snd)
def tYes : DT := fun Γ => .val (true, Γ)
theorem cts_nil : CTs X W [] tYes := fun Γ => ⟨fun pins s' σ H Q I ⟨G, S, p⟩ => pts_nil.run pins s' σ H Q I (p G H (Ext.rf S.w) S)⟩
variable {tg iter elt : Expr} {ifs : List Expr} {scope : Scope} {own : List (Str × Nat)} {pos : Pos} {it : DI} {g : DG} {t : DT} {e : DF} {ts : List Nat}
theorem comp_rdU (hts : ∀ j ∈ ts, j ∈ own.map (·.2)) {σ : St} {H : Hp} {Q : VK} (h : rdF X W Γ (nComp (own.map (·.2)) g it t e Γ) Prod.fst Prod.snd σ H Q) :
    tLc (rdIU X W Γ (it Γ)) (fun v σ H Q => ∃ G Γ fr d Γ', Sta X.K G H σ Γ ∧ Dn X.K (rg G fr) H v d ∧ g fr d Γ = some Γ' ∧ ∀ σ', σ'.length = σ.length → (∀ j, j ∉ ts → σ'[j]? = σ[j]?) → Sta X.K G H σ' Γ' → Q σ' H)
      (fun σ H Q => ∃ Γ1, rdT X WF Γ1 (t Γ1) Prod.fst Prod.snd σ H Q) (fun σ H Q => ∃ Γ1, rdE X WF Γ1 (e Γ1) Prod.fst Prod.snd σ H Q) (own.map (·.2)) σ H Q := by
  obtain ⟨G, S0, p⟩ := h
  refine ⟨G, S0, (Pst.bind p).imp fun r G1 H1 e1 p1 J S1 I D hD => ?_⟩
  generalize hvs : own.map (·.2) = vs at *
  obtain ⟨⟨items, fr⟩, Γ1⟩ := r
  obtain ⟨hsz, p1⟩ := Pst.req p1
  simp only at hsz p1 I S1
  have hsz : items.length ≤ sizeLine := of_decide_eq_true hsz
  have hE0 : G1.E D = none := by
    cases q : G1.E D with
    | none => rfl
    | some u => rw [(S1.w.ex D u q).1] at hD; cases hD
  have hID : ∀ j, G1.I j ≠ some (.ref D) := fun j h => by
    rcases S1.w.iv j D h with z | z | ⟨xs, z⟩
    · exact S1.w.pal D z hD
    · exact z hE0
    · rw [hD] at z; cases z
  have hww : L2.wipe (L2.wipe σ vs) vs = L2.wipe σ vs := wipe_eq (ts := vs) (wipe_length ..) (fun j hj => wipe_out hj) (fun j hj => hj)
  have nol : ∀ vs' : List V, (∀ xs, HO.lst vs' ≠ .tup xs) ∧ ∀ x y, HO.lst vs' ≠ .frz x y := fun vs' => ⟨fun _ z => (by cases z), fun _ _ z => (by cases z)⟩
  let cu : List PyData → List Sl → R (List PyData × List Sl) := compU vs g fr t e
  let body : Nat → Hp → Prop := fun i H2 => i ≤ items.length ∧ ∃ G2 s0 vacc bs, Sta X.K G2 H2 (L2.wipe σ vs) (wipeG s0 vs) ∧ Le G1 H1 G2 H2 ∧ G2.E = upd G1.E D (.lst vacc) ∧ G2.I = G1.I ∧ DnA X.K (rg G2 true) H2 vacc bs ∧ bs.length ≤ i ∧
    compU vs g fr t e items (wipeG Γ1 vs) = (compU vs g fr t e (items.drop i) (wipeG s0 vs)).bind fun z => .val (bs ++ z.1, z.2)
  refine ⟨fun i m H2 => m = items.length - i ∧ body i H2, ⟨_, rfl, Nat.zero_le _, ?_⟩, ?_⟩
  · have Sw : Sta X.K G1 H1 (L2.wipe σ vs) (wipeG Γ1 vs) := S1.wipeS vs
    obtain ⟨S2, t2⟩ := Sw.pin (o := .lst []) hD
    refine ⟨_, Γ1, [], [], S2, ⟨rfl, rfl, fun _ _ h => h, fun _ _ h => .inl h, t2, S2.w, fun a o h => by show upd G1.E D _ a = _; rw [upd_ne (fun z => by rw [z, hE0] at h; cases h)]; exact h⟩, rfl, rfl, .nil, Nat.le_refl _, ?_⟩
    rw [List.drop_zero]
    have : (fun z : List PyData × List Sl => R.val ([] ++ z.1, z.2)) = fun z => R.val z := rfl
    rw [this, R.bind_val]
  · rintro i m H2 ⟨rfl, hile, G2, s0, vacc, bs, S2, l2, hE2, hI2, d2, hbs, eq⟩
    by_cases hlt : i < items.length
    · rw [List.drop_eq_getElem_cons hlt, compU_cons, R.bind_assoc] at eq
      cases hg : g fr items[i] (wipeG s0 vs) with
      | none => rw [hg] at eq; rw [eq] at p1; exact p1.elim
      | some Γ3 =>
      rw [hg] at eq
      have eq : compU vs g fr t e items (wipeG Γ1 vs) = ((t Γ3).nox.bind fun x => if x.1 then (e x.2).nox.bind fun y => (R.ofO (avD y.1)).bind fun o => (compU vs g fr t e (items.drop (i + 1)) (wipeG y.2 vs)).bind fun r => .val (o :: r.1, r.2) else compU vs g fr t e (items.drop (i + 1)) (wipeG x.2 vs)).bind fun z => .val (bs ++ z.1, z.2) := eq
      rw [R.bind_assoc] at eq
      refine .inr ⟨I.go i G2 H2 hlt l2, body (i + 1), fun H' hb => ⟨_, (by omega), rfl, hb⟩, fun v H3 y => ?_⟩
      obtain ⟨G3, d, hd, e3, S3, dn⟩ := I.yl i G2 H2 _ _ v H3 hlt l2 S2 y
      have hx : d = items[i] := by
        rw [List.getElem?_eq_getElem hlt] at hd
        exact (Option.some.inj hd).symm
      subst hx
      refine ⟨G3, wipeG s0 vs, fr, items[i], Γ3, S3, dn, hg, fun σ2 l3 k3 S4 => ⟨(wipe_eq l3 k3 hts).trans hww, Γ3, G3, S4, ?_⟩⟩
      have hw2 : L2.wipe σ2 vs = L2.wipe σ vs := (wipe_eq l3 k3 hts).trans hww
      cases htt : t Γ3 with
      | bad => rw [htt] at eq; rw [eq] at p1; exact p1.elim
      | exc z => rw [htt] at eq; rw [eq] at p1; exact p1.elim
      | val x =>
        rw [htt] at eq
        intro G4 H4 e4 S5
        obtain ⟨b, Γ4⟩ := x
        have eq : compU vs g fr t e items (wipeG Γ1 vs) = (if b = true then (e Γ4).nox.bind fun y => (R.ofO (avD y.1)).bind fun o => (compU vs g fr t e (items.drop (i + 1)) (wipeG y.2 vs)).bind fun r => .val (o :: r.1, r.2) else compU vs g fr t e (items.drop (i + 1)) (wipeG Γ4 vs)).bind fun z => .val (bs ++ z.1, z.2) := eq
        have l4 : Le G1 H1 G4 H4 := (l2.tr e3.le).tr e4.le
        have hE4 : G4.E = upd G1.E D (.lst vacc) := e4.e.trans (e3.e.trans hE2)
        have hI4 : G4.I = G1.I := e4.i.trans (e3.i.trans hI2)
        have d4 : DnA X.K (rg G4 true) H4 vacc bs := e4.dna (e3.dna d2)
        cases b with
        | false =>
          refine itF ⟨hlt, G4, Γ4, vacc, bs, ?_, l4, hE4, hI4, d4, Nat.le_succ_of_le hbs, ?_⟩
          · rw [← hw2]
            exact S5.wipeS vs
          · rw [eq, if_neg (by simp)]
        | true =>
          rw [if_pos rfl, R.bind_assoc] at eq
          refine itT ⟨Γ4, G4, S5, ?_⟩
          cases hte : e Γ4 with
          | bad => rw [hte] at eq; rw [eq] at p1; exact p1.elim
          | exc z => rw [hte] at eq; rw [eq] at p1; exact p1.elim
          | val z =>
            rw [hte] at eq
            obtain ⟨av, Γ5⟩ := z
            have eq : compU vs g fr t e items (wipeG Γ1 vs) = ((R.ofO (avD av)).bind fun o => (compU vs g fr t e (items.drop (i + 1)) (wipeG Γ5 vs)).bind fun r => .val (o :: r.1, r.2)).bind fun z => .val (bs ++ z.1, z.2) := eq
            cases hav : avD av with
            | none => rw [hav] at eq; rw [eq] at p1; exact p1.elim
            | some o =>
            rw [hav] at eq
            have eq : compU vs g fr t e items (wipeG Γ1 vs) = ((compU vs g fr t e (items.drop (i + 1)) (wipeG Γ5 vs)).bind fun r => .val (o :: r.1, r.2)).bind fun z => .val (bs ++ z.1, z.2) := eq
            intro G5 H5 e5 yv S6 dy
            have dy : Dn X.K (rg G5 true) H5 yv o := by
              unfold avD at hav
              split at hav
              · cases hav; exact dy
              · cases hav
            have hE5 : G5.E = upd G1.E D (.lst vacc) := e5.e.trans hE4
            obtain ⟨S7, hHD, t7⟩ := (S6.wipeS vs).unpin hE5 hE0 (nol vacc).1 (nol vacc).2 (fun j => by rw [e5.i, hI4]; exact hID j)
            have hal : vacc.length = bs.length := d4.length
            refine ⟨vacc, hHD, by omega, ?_⟩
            obtain ⟨S8, t8⟩ := S7.pin (o := .lst (vacc ++ [yv])) del_same
            have hH : upd (PD.del H5 D) D (.lst (vacc ++ [yv])) = upd H5 D (.lst (vacc ++ [yv])) := by
              funext b
              by_cases q : b = D
              · subst q; rw [upd_same, upd_same]
              · rw [upd_ne q, upd_ne q, del_ne q]
            rw [hH] at S8 t8
            have t9 : TupLe H5 (upd H5 D (.lst (vacc ++ [yv]))) := t7.tr t8
            refine ⟨hlt, ⟨G5.H0, G5.P, G5.I, G5.N, upd G1.E D (.lst (vacc ++ [yv]))⟩, Γ5, vacc ++ [yv], bs ++ [o], ?_, ⟨(l4.tr e5.le).h0, (l4.tr e5.le).p, (l4.tr e5.le).n, (l4.tr e5.le).nn, (l4.tr e5.le).t.tr t9, S8.w, fun a o h => by show upd G1.E D _ a = _; rw [upd_ne (fun z => by rw [z, hE0] at h; cases h)]; exact h⟩, rfl, e5.i.trans hI4, ?_, ?_, ?_⟩
            · rw [← hw2]
              exact S8
            · exact ((e5.dna d4).append (.cons dy .nil)).mono (fun _ _ h => h) t9
            · rw [List.length_append]
              show bs.length + 1 ≤ i + 1
              omega
            · rw [eq, R.bind_assoc]
              congr 1
              funext q
              show R.val (bs ++ o :: q.1, q.2) = R.val (bs ++ [o] ++ q.1, q.2)
              rw [List.append_assoc]
              rfl
    · have ei : i = items.length := by omega
      subst ei
      refine .inl ⟨I.st G2 H2 l2, ?_⟩
      rw [List.drop_length] at eq
      have eq : compU vs g fr t e items (wipeG Γ1 vs) = .val (bs ++ [], wipeG s0 vs) := eq
      rw [List.append_nil] at eq
      rw [eq] at p1
      obtain ⟨S7, hHD, t7⟩ := S2.unpin hE2 hE0 (nol vacc).1 (nol vacc).2 (fun j => by rw [hI2]; exact hID j)
      have P := p1 ⟨G2.H0, G2.P, G2.I, G2.N, G1.E⟩ (PD.del H2 D) ⟨l2.h0, l2.p, hI2, rfl, l2.n, l2.nn, l2.t.tr t7, S7.w⟩ D vacc (S7.swap (wipe_length ..).symm fun j => ?_) del_same (d2.mono (fun _ _ h => h) t7)
      · rw [del_upd hHD] at P
        exact P
      · have hlen : ∀ ws : List Nat, (wipeG s0 ws).length = s0.length := fun ws => by
          induction ws with
          | nil => rfl
          | cons w ws ih => simp [wipeG, ih]
        by_cases hj : j ∈ vs
        · by_cases hjl : j < s0.length
          · exact .inr (wipeG_at hj hjl)
          · left
            obtain ⟨A7, Z7⟩ := S7
            have : s0.length = σ.length := by rw [← hlen vs, Z7.len, wipe_length]
            rw [List.getElem?_eq_none (by omega), List.getElem?_eq_none (by rw [wipe_length]; omega)]
        · exact .inl (wipe_out hj).symm
structure CompU (X : Cx) (W : WX) (sc : Scope) (N : List Str) (tg iter elt : Expr) (ifs : List Expr) (scope : Scope) (own : List (Str × Nat)) (ts : List Nat) (g : DG) (it : DI) (t : DT) (e : DF) : Prop where
  hin : CI X W tg iter it
  ok : blkC N sc scope own = true
  hg : ∀ (s : Shared) (H : Hp) (c : Addr) (cl : List (Str × Addr)) (fp : List Addr), CG (X.blk s H scope (compEnvC scope cl c X.env) fp) tg ts g
  ht : ∀ (s : Shared) (H : Hp) (c : Addr) (cl : List (Str × Addr)) (fp : List Addr), CTs (X.blk s H scope (compEnvC scope cl c X.env) fp) WF ifs t
  he : ∀ (s : Shared) (H : Hp) (c : Addr) (cl : List (Str × Addr)) (fp : List Addr), CE (X.blk s H scope (compEnvC scope cl c X.env) fp) WF elt e
  hts : ∀ j ∈ ts, j ∈ own.map (·.2)
  hs : ∀ x, foldedSetIterable iter X.env x = pure x
theorem cn_comp (C : Cf X W sc N) (h : CompU X W sc N tg iter elt ifs scope own ts g it t e) : CN X W (.ListComp elt [⟨tg, iter, ifs, 0⟩] scope pos) (nComp (own.map (·.2)) g it t e) := fun Γ => by
  have hB : BlkOk X.N X.env.scope scope own := by rw [C.hN, C.hsc]; exact blkOk_by h.ok
  refine pe_imp (pe_lc (g := fun v σ H Q => ∃ G Γ fr d Γ', Sta X.K G H σ Γ ∧ Dn X.K (rg G fr) H v d ∧ g fr d Γ = some Γ' ∧ ∀ σ' : St, List.length σ' = List.length σ → (∀ j, j ∉ ts → σ'[j]? = σ[j]?) → Sta X.K G H σ' Γ' → Q σ' H)
    (tt := fun σ H Q => ∃ Γ1, rdT X WF Γ1 (t Γ1) Prod.fst Prod.snd σ H Q) (te := fun σ H Q => ∃ Γ1, rdE X WF Γ1 (e Γ1) Prod.fst Prod.snd σ H Q)
    C.calm (by rw [C.hN]; exact C.nd) (h.hin Γ) hB (fun s H c cl fp => h.hg s H c cl fp) (fun s H c cl fp => ?_) (fun s H c cl fp => ?_) h.hs) fun σ H Q q => comp_rdU h.hts q
  · exact ⟨fun pins s' σ H' Q I ⟨z, q⟩ => (h.ht s H c cl fp z).run pins s' σ H' Q I q⟩
  · exact ⟨fun pins s' σ H' Q I ⟨z, q⟩ => (h.he s H c cl fp z).run pins s' σ H' Q I q⟩
end
end PD
set_option Elab.async false
set_option linter.all false
set_option maxRecDepth 100000
set_option maxHeartbeats 4000000
set_option autoImplicit false
namespace PD
open PySem PySem.Spec PyProof.Rows L2 HotX
open L2H (RoomH HotC Hot1 PIH PIEH TurnH)
section
variable {prog : Program} {w : World} {A : Around} {E : Value → Shared → Prop} {s : Shared}
end
end PD
set_option Elab.async false
set_option linter.all false
set_option maxRecDepth 100000
set_option maxHeartbeats 4000000
set_option autoImplicit false
namespace PD
open PySem PySem.Spec PyProof.Rows L2 HotX
open L2H (RoomH HotC Hot1 PIH PIEH TurnH)
section
variable {P : Program} {w : World} {K : PySem.W.Frag} {tg : Expr} {elts : List Expr} {kk : Nat} {tpos : Pos}
end
section
variable {X : Cx} {tg e : Expr} {te : TE} {ta : TA} {elts : List Expr} {kk : Nat} {p pos tpos : Pos}
end
end PD
set_option Elab.async false
set_option linter.all false
set_option maxRecDepth 100000
set_option maxHeartbeats 4000000
set_option autoImplicit false
namespace PD
open PySem PySem.Spec PyProof.Rows L2 HotX
section
variable {P : Program} {w : World} {A : Around} {E : Value → Shared → Prop} {s : Shared}
section
variable {x it a p : Addr} {es : Array (Int × Value)} {ep : Nat} {t : SetTable} {i sl : Nat} {first : Value}
end
structure TurnsAny (P : Program) (w : World) (I : Addr) (fp : List Addr) (n : Nat) (Pv : Nat → Value → Prop) (St : Nat → Heap → Prop) : Prop where
  frame : ∀ i h h', St i h → (∀ b ∈ fp, ∀ o, h.get? b = some o → h'.get? b = some o) → St i h'
  item : ∀ (A : Around) i (s : Shared) (Q : Option Value → Shared → Prop) (E : Value → Shared → Prop), i < n → St i s.heap →
    (∀ v h' tk, Pv i v → St (i + 1) h' → Heap.SameBut I s.heap h' → Q (some v) { s with heap := h', toks := tk }) → wpAny (model P w) A (pyNext (.ref I)) Q E s
  done : ∀ (A : Around) (x : Addr) (s : Shared) (Q : Option Value → Shared → Prop) (E : Value → Shared → Prop), HotAt A x s.heap → St n s.heap →
    (∀ h', Heap.ExtBut I s.heap h' → Q none { s with heap := h' }) → wpAny (model P w) A (pyNext (.ref I)) Q E s
  self : ∀ (A : Around) i (s : Shared) (Q : Value → Shared → Prop) (E : Value → Shared → Prop), St i s.heap → Q (.ref I) s → wpAny (model P w) A (pyIter (.ref I)) Q E s
  mem : I ∈ fp
  apart : ∀ (A : Around) (x : Addr) (s : Shared) i, HotAt A x s.heap → St i s.heap → x ≠ I
section
variable {a I p : Addr} {es : Array (Int × Value)} {ep : Nat} {t : SetTable}
end
end
end PD
set_option Elab.async false
set_option linter.all false
set_option maxRecDepth 100000
set_option maxHeartbeats 4000000
set_option autoImplicit false
namespace PD
open PySem PySem.Spec PyProof.Rows L2 HotX
section
variable {P : Program} {w : World} {A : Around} {E : Value → Shared → Prop} {s : Shared} {a x : Addr} {es : Array (Int × Value)} {ep : Nat} {t : SetTable}
structure SetItH (P : Program) (w : World) (s : Shared) (a : Addr) (es : Array (Int × Value)) (z : Shared) (I : Addr) (fp : List Addr) (St : Nat → Heap → Prop) (out : List Value) (Pv : Nat → Value → Prop) : Prop where
  keep : ∀ b o, s.heap.get? b = some o → z.heap.get? b = some o
  gens : z.gens = s.gens
  os : z.os = s.os
  new : s.heap.objs.size ≤ I
  foot : ∀ b ∈ fp, b = a ∨ s.heap.objs.size ≤ b
  perm : out.Perm (es.toList.map (·.2))
  turns : TurnsAny P w I fp out.length Pv St
  vals : ∀ j v, Pv j v → out[j]? = some v
  first : St 0 z.heap
theorem TurnsAny.as {I : Addr} {fp : List Addr} {n m : Nat} {Pv : Nat → Value → Prop} {St : Nat → Heap → Prop} (T : TurnsAny P w I fp n Pv St) (e : n = m) : TurnsAny P w I fp m Pv St := e ▸ T
end
end PD
set_option Elab.async false
set_option linter.all false
set_option maxRecDepth 100000
set_option maxHeartbeats 4000000
set_option autoImplicit false
namespace PD
open PySem L2
def cellL (Γ : List Sl) (i : Nat) : Option (Bool × List PyData) := match Γ[i]? with
  | some (.own (.lst ds)) => some (false, ds)
  | some (.io (.lst ds)) => some (true, ds)
  | _ => none
theorem cellL_ok {Γ : List Sl} {i : Nat} {z : Bool × List PyData} (h : cellL Γ i = some z) : Γ[i]? = some (mkS z.1 (.lst z.2)) := by
  unfold cellL at h
  split at h
  · cases h; exact ‹_›
  · cases h; exact ‹_›
  · cases h
section
variable {X : Cx} {W : WX} {sc : Scope} {N : List Str} {o e e2 : Expr} {es : List Expr} {apos cpos pos p : Pos} {k : DA} {f g : DF}
def dLm (i : Nat) (q : List PyData → List AV → R (PyData × List PyData)) (k : DA) : DF := fun Γ => (R.ofO (cellL Γ i)).bind fun _ => (k Γ).bind fun z => (R.ofO (cellL z.2 i)).bind fun c => (q c.2 z.1).bind fun y => .val (.d true y.1, z.2.set i (mkS c.1 (.lst y.2)))
theorem evp_cell (C : Cf0 X W sc N) {Γ : List Sl} {i : Nat} {x : Str} {io : Bool} {c : Cl} (h : Γ[i]? = some (mkS io c)) (hN : N[i]? = some x) (hv : visB sc x = true) (hd : (x == ("__debug__" : Str)) = false := by decide +kernel) (hcd : (x == ("__classdict__" : Str)) = false := by decide +kernel) : EvP X W Γ (.Name x p) (.s i) := by
  cases io with
  | true => exact evp_slot C (.inr (.inl h)) hN hv hd hcd
  | false => exact evp_slot C (.inl h) hN hv hd hcd
theorem ce_lm (C : Cf0 X W sc N) {name : Str} {id : String} {r : V → List V → Hp → VK → Prop} (q : List PyData → List AV → R (PyData × List PyData)) (slot : Slot "list" name id) (hty : typeOf (.builtin id) = pure (.type "method_descriptor")) (hm : MtR X id r)
    (hk : ∀ as ds G H σ p ws Q, H p = some (.lst ws) → DnA X.K (rg G true) H ws ds → (∀ vs, AVs X.K G H σ vs as → (∀ y, q ds as = .val y → ∃ ws' v, DnA X.K (rg G true) H ws' y.2 ∧ Dn X.K (rg G true) H v y.1 ∧ (Q v (upd H p (.lst ws')) → r (.ref p) vs H Q))))
    (i : Nat) {x : Str} (hN : N[i]? = some x) (hv : visB sc x = true) (ha : CA X W (e :: es) k) (hq : ∀ ds as z, q ds as ≠ .exc z)
    (hd : (x == ("__debug__" : Str)) = false := by decide +kernel) (hcd : (x == ("__classdict__" : Str)) = false := by decide +kernel)
    (hfew : ((backTo cpos (starEach (e :: es) X.env)).all (fun x => !x.1) && (backToKw cpos (keywordEach [] X.env)).all (fun x => x.1.isSome) && decide ((e :: es).length + ([] : List Keyword).length + (if ([] : List Keyword).isEmpty then 0 else 1) < 30)) = true := by rfl)
    (hline : (apos.endLine == cpos.line) = true := by rfl) (hs : starEach (e :: es) X.env = (false, eval e X.env) :: starEach es X.env := by rfl) (hplain : (backTo cpos (starEach es X.env)).any (·.1) = false := by rfl)
    (hbase : attributeBase (.Name x p) name X.env (eval (.Name x p) X.env) = eval (.Name x p) X.env := by rfl) :
    CE X W (.Call (.Attribute (.Name x p) name apos) (e :: es) [] cpos) (dLm i q k) := fun Γ => by
  unfold dLm
  cases h0 : cellL Γ i with
  | none => exact ev_bad
  | some c0 =>
    have ho := evp_cell (W := W) (p := p) C (cellL_ok h0) hN hv hd hcd
    refine pe_imp (pe_bm PySem.F.plainAttrs_list slot hty hm ho (ha Γ) hbase hfew hline hs hplain) fun σ H Q ⟨G, S, pp⟩ => ⟨G, S, fun G1 H1 e1 v S1 hx => ?_⟩
    obtain ⟨l, vs, g1, g2, g3, _⟩ := S1.chg i c0.1 (cellL_ok h0)
    have hx : σ[i]? = some (some v) := hx
    rw [g1] at hx
    cases hx
    have pp : Pst X W G H σ ((k Γ).bind fun z => (R.ofO (cellL z.2 i)).bind fun c => (q c.2 z.1).bind fun y => .val (AV.d true y.1, z.2.set i (mkS c.1 (.lst y.2)))) _ := pp
    refine ⟨.inl ⟨rfl, vs, SqL.of g2⟩, G1, S1, (Pst.bind (Pst.ext pp e1)).imp fun z G2 H2 e2 p2 ws S2 hw => ?_⟩
    obtain ⟨c, hc, p2⟩ := Pst.ofO p2
    obtain ⟨l', vs', k1, k2, k3, k4⟩ := S2.chg i c.1 (cellL_ok hc)
    rw [g1] at k1
    cases k1
    cases hy : q c.2 z.1 with
    | bad => rw [hy] at p2; exact p2.elim
    | exc z => exact absurd hy (hq _ _ _)
    | val y =>
      rw [hy] at p2
      obtain ⟨ws', v, m1, m2, m3⟩ := hk z.1 c.2 G2 H2 σ l vs' Q k2 k3 ws hw y hy
      obtain ⟨S3, e3⟩ := k4 ws' y.2 m1
      exact m3 (p2 G2 _ e3 v S3 (e3.dn m2))
def qAppend (ds : List PyData) : List AV → R (PyData × List PyData)
  | [.d true y] => gq (ltS ds) (.none, ds ++ [y])
  | _ => .bad
theorem gq_val {α : Type} {c : Bool} {a b : α} (h : gq c a = .val b) : c = true ∧ b = a := by
  cases c with
  | false => cases h
  | true => cases h; exact ⟨rfl, rfl⟩
theorem gq_nox {α : Type} {c : Bool} {a : α} {z : Exn} : gq c a ≠ .exc z := by cases c <;> intro h <;> cases h
theorem ce_append (C : Cf0 X W sc N) (i : Nat) {x : Str} (hN : N[i]? = some x) (hv : visB sc x = true) (ha : CE X W e f) (hs : starEach [e] X.env = (false, eval e X.env) :: starEach [] X.env := by rfl) (hd : (x == ("__debug__" : Str)) = false := by decide +kernel) (hcd : (x == ("__classdict__" : Str)) = false := by decide +kernel) (hline : (apos.endLine == cpos.line) = true := by rfl)
    (hbase : attributeBase (.Name x p) "append" X.env (eval (.Name x p) X.env) = eval (.Name x p) X.env := by rfl) : CE X W (.Call (.Attribute (.Name x p) "append" apos) [e] [] cpos) (dLm i qAppend (dAc (dFrz f) dA0)) := by
  refine ce_lm C qAppend PySem.F.slot_list_append PySem.F.type_list_append mt_append (fun as ds G H σ p ws Q hp hd vs av y hy => ?_) i hN hv (ca_cons (ce_frz ha) ca_nil hs) (fun ds as z h => ?_) hd hcd (by rw [hs]; rfl) hline hs rfl hbase
  · unfold qAppend at hy
    split at hy
    · rename_i z
      obtain ⟨hc, rfl⟩ := gq_val hy
      obtain ⟨v, rfl, hv⟩ := avs_one av
      have hv : Dn X.K (rg G true) H v z := hv
      exact ⟨ws ++ [v], .non, hd.append (.cons hv .nil), .non, fun q => ⟨p, ws, v, rfl, rfl, hp, by rw [hd.length]; exact of_decide_eq_true hc, q⟩⟩
    · cases hy
  · unfold qAppend at h
    split at h
    · exact gq_nox h
    · cases h
def qPop (ds : List PyData) (_ : List AV) : R (PyData × List PyData) := (R.ofO ds.getLast?).bind fun y => .val (y, ds.dropLast)
end
end PD
set_option Elab.async false
set_option linter.all false
set_option maxRecDepth 100000
set_option maxHeartbeats 4000000
set_option autoImplicit false
namespace PD
open PySem L2
section
variable {X : Cx} {W : WX} {sc : Scope} {N : List Str} {a b e e2 o : Expr} {es : List Expr} {apos cpos pos p : Pos} {k : DA} {f g : DF} {s : Stmt}
theorem u1 (C : Cf0 X W sc N) : X.A.units + 1 < cLine := by have := C.hu2; omega
def dKey : PyData → Option Key
  | .int i => some (.inl i)
  | .str x => some (.inr x)
  | _ => none
def dKeys : List PyData → Option (List Key)
  | [] => some []
  | d :: ds => (dKey d).bind fun k => (dKeys ds).map (k :: ·)
theorem dKey_eq {d : PyData} {k : Key} (h : dKey d = some k) : d = keyD k := by
  cases d <;> simp only [dKey] at h <;> cases h <;> rfl
theorem dKey_ok {K : PySem.W.Frag} {G : Rg} {H : Hp} {v : V} {d : PyData} {k : Key} (h : dKey d = some k) (hv : Dn K G H v d) : v = kV k := by
  cases d <;> simp only [dKey] at h <;> cases h
  · exact dn_int hv
  · exact dn_str hv
theorem dKeys_ok {K : PySem.W.Frag} {G : Rg} {H : Hp} : ∀ {ds : List PyData} {ks : List Key} {vs : List V}, dKeys ds = some ks → DnA K G H vs ds → vs = ks.map kV
  | [], _, _, h, .nil => by cases h; rfl
  | d :: ds, ks, _, h, .cons q r => by
    unfold dKeys at h
    cases e : dKey d with
    | none => rw [e] at h; cases h
    | some k =>
      rw [e] at h
      have h : (dKeys ds).map (k :: ·) = some ks := h
      cases e2 : dKeys ds with
      | none => rw [e2] at h; cases h
      | some js =>
        rw [e2] at h
        cases h
        rw [dKey_ok e q, dKeys_ok e2 r]
        rfl
theorem dKeys_eq : ∀ {ds : List PyData} {ks : List Key}, dKeys ds = some ks → ds = ks.map keyD
  | [], _, h => by cases h; rfl
  | d :: ds, ks, h => by
    unfold dKeys at h
    cases e : dKey d with
    | none => rw [e] at h; cases h
    | some k =>
      rw [e] at h
      have h : (dKeys ds).map (k :: ·) = some ks := h
      cases e2 : dKeys ds with
      | none => rw [e2] at h; cases h
      | some js => rw [e2] at h; cases h; rw [dKey_eq e, dKeys_eq e2]; rfl
end
end PD
set_option Elab.async false
set_option linter.all false
set_option maxRecDepth 100000
set_option maxHeartbeats 4000000
set_option autoImplicit false
namespace PD
open PySem L2
theorem DnA.fresh {K : PySem.W.Frag} {G : Gh} {H : Hp} {fr : Bool} {vs : List V} {ds : List PyData} (h : DnA K (rg G fr) H vs ds) (hf : (fr || flat.flatA ds) = true) : DnA K (rg G true) H vs ds := by
  cases fr with
  | true => exact h
  | false => exact h.free (by simpa using hf)
section
variable {X : Cx} {W : WX} {sc : Scope} {N : List Str} {a b c e e2 o : Expr} {es : List Expr} {apos cpos pos p p2 : Pos} {k : DA} {f g : DF} {s : Stmt}
def rCatL (K : PySem.W.Frag) : R2 := fun x y H Q => ∃ l b xs zs, x = .ref l ∧ y = .ref b ∧ SqL K H l xs ∧ SqL K H b zs ∧ xs.length + zs.length ≤ sizeLine ∧ ∀ p, H p = none → Q (.ref p) (upd H p (.lst (xs ++ zs)))
theorem op_catL : OpR X (binaryOp .Add) (rCatL X.K) := by
  intro pins s σ H x y v u Q I rx ry h
  obtain ⟨l, b, xs, zs, rfl, rfl, hH, hB, hz, q⟩ := h
  cases rx
  cases ry
  obtain ⟨its, r, ⟨⟨cls, dd, data, sl⟩, n, e, hc, hd, hs⟩, z⟩ := I.list hH
  obtain ⟨its2, r2, ⟨⟨cls2, dd2, data2, sl2⟩, n2, e2, hc2, hd2, hs2⟩, z2⟩ := I.list hB
  have hc : cls = .type "list" := hc
  have hs : data = .seq its.toArray n := hs
  have hc2 : cls2 = .type "list" := hc2
  have hs2 : data2 = .seq its2.toArray n2 := hs2
  subst hc hs hc2 hs2
  have hl := r.length
  have hl2 := r2.length
  have ea : its.toArray ++ its2.toArray = (its ++ its2).toArray := by simp
  refine PySem.concat_meets ⟨_, e, rfl⟩ ⟨_, e2, rfl⟩ PySem.noFill_list_add PySem.seq_list_add PySem.F.slot_list_add PySem.F.entry_list_add (PySem.F.args_list_add_2 _ _) (PyProof.Rows.list_addW l b its.toArray its2.toArray n n2 dd dd2 sl sl2 (by rw [List.size_toArray, List.size_toArray]; omega)) ⟨e, e2, ?_⟩
  rw [ea]
  exact ⟨.ref _, _, I.lnew (t' := s.toks) (r.append r2) (by rw [List.length_append]; omega), rfl, q _ I.fresh⟩
def lsA (Γ : List Sl) : AV → Option (List PyData)
  | .d fr (.list ds) => if fr || flat.flatA ds then some ds else none
  | .s j => match rdD Γ (.s j) with
    | some (.list ds) => some ds
    | _ => none
  | _ => none
theorem lsA_ok {Γ : List Sl} {x : AV} {ds : List PyData} {G : Gh} {H : Hp} {σ : St} {v : V} (h : lsA Γ x = some ds) (S : Sta X.K G H σ Γ) (hv : AVok X.K G H σ v x) : ∃ l xs, v = .ref l ∧ SqL X.K H l xs ∧ DnA X.K (rg G true) H xs ds := by
  unfold lsA at h
  split at h
  · rename_i fr ds'
    by_cases hc : (fr || flat.flatA ds') = true
    · rw [if_pos hc] at h
      cases h
      obtain ⟨l, xs, rfl, g1, g2⟩ := dn_list hv
      exact ⟨l, xs, rfl, (g1.mono (S.w.rgl _)).sq, g2.fresh hc⟩
    · rw [if_neg hc] at h; cases h
  · rename_i j
    split at h
    · cases h
      obtain ⟨l, xs, rfl, g1, g2⟩ := S.slotL ‹_› hv
      exact ⟨l, xs, rfl, SqL.of g1, g2⟩
    · cases h
  · cases h
def dCat (f g : DF) : DN := fun Γ => (f Γ).bind fun x => (g x.2).bind fun y => (R.ofO (lsA y.2 x.1)).bind fun ds => (R.ofO (lsA y.2 y.1)).bind fun es => gq (szB (ds ++ es)) (ds ++ es, y.2)
theorem cn_cat (ha : CE X W a f) (hb : CE X W b g) : CN X W (.BinOp a .Add b pos) (dCat f g) := fun Γ =>
  pe_imp (pe_op op_catL (ha Γ) (pe_any fun x : AV × List Sl => hb x.2)) fun σ H Q ⟨G, S, q⟩ => ⟨G, S, (Pst.bind q).imp fun x G1 H1 e1 q1 v S1 hv => ⟨x, G1, S1, (Pst.bind q1).imp fun y G2 H2 e2 q2 u S2 hu => by
    obtain ⟨ds, h1, q2⟩ := Pst.ofO q2
    obtain ⟨es, h2, q2⟩ := Pst.ofO q2
    obtain ⟨hc, q3⟩ := Pst.gq S2.w q2
    obtain ⟨l, xs, rfl, g1, g2⟩ := lsA_ok h1 S2 (hv.ext e2)
    obtain ⟨l2, ys, rfl, g3, g4⟩ := lsA_ok h2 S2 hu
    refine ⟨l, l2, xs, ys, rfl, rfl, g1, g3, ?_, fun p hp => q3 p _ S2 hp (g2.append g4)⟩
    have := of_decide_eq_true hc
    rw [g2.length, g4.length]
    simpa using this⟩⟩
def cutD {α : Type} (ds : List α) (lo hi : Option Int) : List α := (ds.drop (HT.sIx ds.length 0 lo)).take (HT.sIx ds.length ds.length hi - HT.sIx ds.length 0 lo)
abbrev DO := List Sl → R (Option Int × List Sl)
end
end PD
set_option Elab.async false
set_option linter.all false
set_option maxRecDepth 100000
set_option maxHeartbeats 4000000
set_option autoImplicit false
namespace PD
open PySem L2
theorem eqK_keyD (k k' : Key) : eqK (keyD k) (keyD k') = decide (k = k') := by
  cases k <;> cases k' <;> simp [keyD, eqK]
theorem eqKs_keyD : ∀ (k k' : List Key), eqKs (k.map keyD) (k'.map keyD) = decide (k = k')
  | [], [] => rfl
  | [], _ :: _ => by simp [eqKs]
  | _ :: _, [] => by simp [eqKs]
  | x :: xs, y :: ys => by
    simp only [List.map_cons, eqKs, eqK_keyD, eqKs_keyD xs ys, List.cons.injEq]
    by_cases h : x = y <;> by_cases h2 : xs = ys <;> simp [h, h2]
def kOk : Dk → PyData → Bool
  | .k, d => (dKey d).isSome
  | .t, .tuple ks => (dKeys ks).isSome
  | .t, _ => false
  | .n, _ => false
def putD (kvs : List (PyData × PyData)) (k v : PyData) : List (PyData × PyData) := if kvs.any (fun z => eqK z.1 k) then kvs.map (fun z => if eqK z.1 k then (z.1, v) else z) else kvs ++ [(k, v)]
def kindD : List (PyData × PyData) → Option Dk
  | (.int _, _) :: _ => some .k
  | (.str _, _) :: _ => some .k
  | (.tuple _, _) :: _ => some .t
  | _ => none
theorem kindD_ok {t : Dk} {o : HO} {vs : List V} {kvs : List (PyData × PyData)} {t' : Dk} (h : kindD kvs = some t') {a : Addr} (ho : DcO t a o (kvs.map (·.1)) vs) : t = t' := by
  cases t with
  | k =>
    obtain ⟨ks, rfl, h1, _⟩ := ho
    cases kvs with
    | nil => cases h
    | cons z r =>
      cases ks with
      | nil => cases h1
      | cons y s =>
        obtain ⟨d, v⟩ := z
        have h1 := (List.cons.inj h1).1
        have h1 : d = keyD y.1 := h1
        subst h1
        cases hy : y.1 <;> rw [hy] at h <;> cases h <;> rfl
  | t =>
    obtain ⟨ks, rfl, h1, _⟩ := ho
    cases kvs with
    | nil => cases h
    | cons z r =>
      cases ks with
      | nil => cases h1
      | cons y s =>
        obtain ⟨d, v⟩ := z
        have h1 := (List.cons.inj h1).1
        have h1 : d = .tuple (y.1.map keyD) := h1
        subst h1
        cases h
        rfl
  | n =>
    obtain ⟨rs, kds, _, _, _, h1, _⟩ := ho
    cases kvs with
    | nil => cases h
    | cons z r =>
      obtain ⟨d, v⟩ := z
      have h1 : d = PyData.none := (List.cons.inj h1).1
      subst h1
      cases h
section
variable {κ : Type} [DecidableEq κ] {K : PySem.W.Frag} {G : Rg} {H : Hp}
theorem get_rel {f : κ → PyData} (hf : ∀ a b, eqK (f a) (f b) = decide (a = b)) (k : κ) : ∀ {ks : List (κ × V)} {kvs : List (PyData × PyData)}, kvs.map (·.1) = ks.map (fun z => f z.1) → DnA K G H (ks.map (·.2)) (kvs.map (·.2)) →
    (valV ks k = none ∧ getD kvs (f k) = none) ∨ ∃ v d, valV ks k = some v ∧ getD kvs (f k) = some d ∧ Dn K G H v d
  | [], [], _, _ => .inl ⟨rfl, rfl⟩
  | [], _ :: _, h, _ => by cases h
  | _ :: _, [], h, _ => by cases h
  | (y, u) :: ks, (x, w) :: kvs, h, hd => by
    have h1 : x = f y := (List.cons.inj h).1
    have h2 := (List.cons.inj h).2
    obtain ⟨d1, d2⟩ : Dn K G H u w ∧ DnA K G H (ks.map (·.2)) (kvs.map (·.2)) := by cases hd; exact ⟨‹_›, ‹_›⟩
    subst h1
    by_cases e : y = k
    · subst e
      exact .inr ⟨u, w, by simp [valV], by simp [getD, hf], d1⟩
    · have e1 : valV ((y, u) :: ks) k = valV ks k := by simp [valV, List.find?_cons, e]
      have e2 : getD ((f y, w) :: kvs) (f k) = getD kvs (f k) := by simp [getD, List.find?_cons, hf, e]
      rw [e1, e2]
      exact get_rel hf k h2 d2
end
theorem hfK : ∀ a b : Key, eqK (keyD a) (keyD b) = decide (a = b) := eqK_keyD
theorem hfT : ∀ a b : List Key, eqK (.tuple (a.map keyD)) (.tuple (b.map keyD)) = decide (a = b) := eqKs_keyD
theorem dget_rel {K : PySem.W.Frag} {G : Rg} {H : Hp} {a : Addr} {o : HO} {t : Dk} {vs : List V} {kvs : List (PyData × PyData)} {y : V} {k : PyData} {G' : Rg} (hr : Rd H a o) (ho : DcO t a o (kvs.map (·.1)) vs) (hd : DnA K G H vs (kvs.map (·.2))) (hk : kOk t k = true) (hy : Dn K G' H y k) :
    (DGet H a y none ∧ getD kvs k = none) ∨ ∃ v d, DGet H a y (some v) ∧ getD kvs k = some d ∧ Dn K G H v d := by
  cases t with
  | k =>
    obtain ⟨ks, rfl, h1, rfl⟩ := ho
    cases e : dKey k with
    | none => simp [kOk, e] at hk
    | some kk =>
      have hv := dKey_ok e hy
      have he := dKey_eq e
      subst hv he
      rcases get_rel (f := keyD) hfK kk h1 hd with ⟨g1, g2⟩ | ⟨v, d, g1, g2, g3⟩
      · exact .inl ⟨.inl ⟨ks, kk, hr, rfl, g1.symm⟩, g2⟩
      · exact .inr ⟨v, d, .inl ⟨ks, kk, hr, rfl, g1.symm⟩, g2, g3⟩
  | t =>
    obtain ⟨ks, rfl, h1, rfl⟩ := ho
    cases k <;> try (simp [kOk] at hk; done)
    rename_i xs
    cases e : dKeys xs with
    | none => simp [kOk, e] at hk
    | some kk =>
      obtain ⟨b, ws, rfl, hb, hw⟩ := dn_tupleH hy
      have hv := dKeys_ok e hw
      have he := dKeys_eq e
      subst hv he
      rcases get_rel (f := fun z : List Key => .tuple (z.map keyD)) hfT kk h1 hd with ⟨g1, g2⟩ | ⟨v, d, g1, g2, g3⟩
      · exact .inl ⟨.inr ⟨ks, kk, b, hr, rfl, hb, g1.symm⟩, g2⟩
      · exact .inr ⟨v, d, .inr ⟨ks, kk, b, hr, rfl, hb, g1.symm⟩, g2, g3⟩
  | n => cases hk
end PD
set_option Elab.async false
set_option linter.all false
set_option maxRecDepth 100000
set_option maxHeartbeats 4000000
set_option autoImplicit false
namespace PD
open PySem L2
theorem dn_dict {K : PySem.W.Frag} {G : Rg} {H : Hp} {v : V} {kvs : List (PyData × PyData)} (h : Dn K G H v (.dict kvs)) {t0 : Dk} (hk : kindD kvs = some t0) : ∃ a o t vs, v = .ref a ∧ (∃ ob, G a (.frz ob o)) ∧ DcO t a o (kvs.map (·.1)) vs ∧ DnA K G H vs (kvs.map (·.2)) := by
  cases h with
  | dct h1 h2 h3 => exact ⟨_, _, _, _, rfl, h1, h2, h3⟩
  | exc _ _ _ _ => cases hk
  | exc0 _ => cases hk
  | ins _ _ _ _ => cases hk
  | dcu _ _ _ => cases hk
section
variable {X : Cx} {W : WX} {sc : Scope} {N : List Str} {a b c e e2 o : Expr} {es : List Expr} {apos cpos pos p p2 : Pos} {k : DA} {f g : DF} {s : Stmt}
def dicA (Γ : List Sl) : AV → Option (Bool × Dk × List (PyData × PyData))
  | .d fr (.dict kvs) => (kindD kvs).map fun t => (fr, t, kvs)
  | .s j => match Γ[j]? with
    | some (.own (.dic t kvs)) => some (true, t, kvs)
    | some (.io (.dic t kvs)) => some (true, t, kvs)
    | _ => none
  | _ => none
theorem dicA_ok {Γ : List Sl} {x : AV} {z : Bool × Dk × List (PyData × PyData)} {G : Gh} {H : Hp} {σ : St} {v : V} (h : dicA Γ x = some z) (S : Sta X.K G H σ Γ) (hv : AVok X.K G H σ v x) : ∃ l o vs, v = .ref l ∧ Rd H l o ∧ DcO z.2.1 l o (z.2.2.map (·.1)) vs ∧ DnA X.K (rg G z.1) H vs (z.2.2.map (·.2)) := by
  unfold dicA at h
  split at h
  · rename_i fr kvs
    cases hk : kindD kvs with
    | none => rw [hk] at h; cases h
    | some t =>
      rw [hk] at h
      cases h
      obtain ⟨l, o, t', vs, rfl, h1, h2, h3⟩ := dn_dict hv hk
      have := kindD_ok hk h2
      subst this
      exact ⟨l, o, vs, rfl, .inr (h1.imp fun _ z => S.w.rgl fr _ _ z), h2, h3⟩
  · rename_i j
    obtain ⟨A, T⟩ := S
    have hv : σ[j]? = some (some v) := hv
    split at h
    · cases h
      obtain ⟨u, h1, _, p, o, vs, rfl, _, h3, h4, h5⟩ := T.sl j _ ‹_›
      rw [h1] at hv
      cases hv
      exact ⟨p, o, vs, rfl, .inl h3, h4, h5⟩
    · cases h
      obtain ⟨u, h1, _, p, o, vs, rfl, _, h3, h4, h5⟩ := T.sl j _ ‹_›
      rw [h1] at hv
      cases hv
      exact ⟨p, o, vs, rfl, .inl h3, h4, h5⟩
    · cases h
  · cases h
def rIxD : R2 := fun x y H Q => ∃ a v, x = .ref a ∧ DGet H a y (some v) ∧ Q v H
theorem ix_dict (hu : X.A.units + 1 < cLine) : IxR X rIxD := by
  intro value slice pins s σ H x y v u Q I rx ry h hs
  obtain ⟨a, w, rfl, g, q⟩ := h
  cases rx
  exact PyProof.Rows.tail_any (dict_typeIs I g) PySem.F.slot_dict_getitem.lookup (d_getItem hu I g ry fun w' s' I' rw' => ⟨w, H, I', rw', q⟩) hs
def ixB (Γ : List Sl) (x y : AV) : R AV := match dicA Γ x with
  | some z => match y with
    | .d _ kk => (R.req (kOk z.2.1 kk)).bind fun _ => (R.ofO (getD z.2.2 kk)).bind fun d => .val (.d z.1 d)
    | _ => .bad
  | none => ixA Γ x y
def dIxB (f g : DF) : DF := fun Γ => (f Γ).bind fun x => (g x.2).bind fun y => (ixB y.2 x.1 y.1).bind fun z => .val (z, y.2)
theorem ce_ixB (C : Cf0 X W sc N) (ha : CE X W a f) (hb : CE X W b g) (hs : PlainIx b := by exact fun _ _ => rfl) : CE X W (.Subscript a b pos) (dIxB f g) := fun Γ =>
  pe_imp (pe_ix ((ix_dict (u1 C)).or ix_seq) (ha Γ) (pe_any fun x : AV × List Sl => hb x.2) hs) fun σ H Q h => bin_rd (X := X) (W := W) (ava := Prod.fst) (Γa := Prod.snd) (avb := fun _ (y : AV × List Sl) => y.1) (Γb := fun _ (y : AV × List Sl) => y.2) (avk := Prod.fst) (Γk := Prod.snd) (k := fun (x : AV × List Sl) (y : AV × List Sl) => (ixB y.2 x.1 y.1).bind fun z => .val (z, y.2)) (fun x y G H σ u v Q S hu hv p => by
    obtain ⟨x, Γ1⟩ := x
    obtain ⟨y, Γ2⟩ := y
    simp only at hu hv S p
    unfold ixB at p
    split at p
    · rename_i z hz
      split at p
      · rename_i fr kk
        have hk : kOk z.2.1 kk = true := by
          cases hc : kOk z.2.1 kk with
          | true => rfl
          | false => rw [hc] at p; exact p.elim
        rw [hk] at p
        have p : Pst X W G H σ (((R.ofO (getD z.2.2 kk)).bind fun d => R.val (AV.d z.1 d)).bind fun z => .val (z, Γ2)) (fun z G' H' => ∀ (w : V), Sta X.K G' H' σ z.snd → AVok X.K G' H' σ w z.fst → Q w H') := p
        obtain ⟨d, hd⟩ : ∃ d, getD z.2.2 kk = some d := by
          cases hc : getD z.2.2 kk with
          | none => rw [hc] at p; exact p.elim
          | some d => exact ⟨d, rfl⟩
        rw [hd] at p
        obtain ⟨l, o, vs, rfl, h1, h2, h3⟩ := dicA_ok hz S hu
        rcases dget_rel h1 h2 h3 hk hv with ⟨_, g2⟩ | ⟨w, d', g1, g2, g3⟩
        · rw [hd] at g2; cases g2
        · rw [hd] at g2; cases g2
          exact .inl ⟨l, w, rfl, g1, p G H (Ext.rf S.w) w S g3⟩
      · exact p.elim
    · rename_i hnone
      clear hnone
      refine .inr ?_
      unfold ixA at p
      split at p
      · rename_i fr ds _ i
        cases hz : atI ds i with
        | none => rw [hz] at p; exact p.elim
        | some d =>
          rw [hz] at p
          obtain ⟨q, xs, rfl, g1, g2⟩ := dn_list hu
          obtain ⟨w, g3, g4⟩ := atI_dn g2 hz
          exact .inl ⟨q, xs, i, w, rfl, dn_int hv, (g1.mono (S.w.rgl fr)).sq, g3, p G H (Ext.rf S.w) w S g4⟩
      · rename_i fr ds _ i
        cases hz : atI ds i with
        | none => rw [hz] at p; exact p.elim
        | some d =>
          rw [hz] at p
          obtain ⟨q, xs, rfl, g1, g2⟩ := dn_tuple hu
          obtain ⟨w, g3, g4⟩ := atI_dn g2 hz
          exact .inr (.inl ⟨q, xs, i, w, rfl, dn_int hv, g1, g3, p G H (Ext.rf S.w) w S g4⟩)
      · rename_i j _ i
        split at p
        · rename_i ds hd
          cases hz : atI ds i with
          | none => rw [hz] at p; exact p.elim
          | some d =>
            rw [hz] at p
            obtain ⟨q, xs, rfl, g1, g2⟩ := S.slotL hd hu
            obtain ⟨w, g3, g4⟩ := atI_dn g2 hz
            exact .inl ⟨q, xs, i, w, rfl, dn_int hv, SqL.of g1, g3, p G H (Ext.rf S.w) w S g4⟩
        · exact p.elim
      · exact p.elim) h
def kInB (Γ : List Sl) (x y : AV) : R Bool := match dicA Γ y with
  | some z => match rdD Γ x with
    | some kk => gq (kOk z.2.1 kk) (getD z.2.2 kk).isSome
    | none => .bad
  | none => kIn Γ x y
def kNinB (Γ : List Sl) (x y : AV) : R Bool := (kInB Γ x y).bind fun z => .val (!z)
def putC : Cl → PyData → PyData → Option Cl
  | .lst ds, .int k, v => (ixN ds.length k).map fun j => .lst (ds.set j v)
  | .dic t kvs, k, v => if kOk t k && decide (kvs.length < sizeLine) then some (.dic t (putD kvs k v)) else none
  | _, _, _ => none
end
end PD
set_option Elab.async false
set_option linter.all false
set_option maxRecDepth 100000
set_option maxHeartbeats 4000000
set_option autoImplicit false
namespace PD
open PySem L2
section
variable {X : Cx} {W : WX} {sc : Scope} {N : List Str} {a b c e e2 e3 o tg : Expr} {es : List Expr} {apos cpos pos p p1 p2 p3 : Pos} {k : DA} {f g h : DF} {s : Stmt}
def intS : Option Sl → Option Int
  | some (.dat _ (.int i)) => some i
  | _ => none
def bInc (i : Nat) (fe : DF) : DS := fun Γ => (R.ofO (intS Γ[i]?)).bind fun n => (fe Γ).bind fun z => (R.ofO (intA z.1)).bind fun m => .val (.nx, z.2.set i (.dat true (.int (n + m))))
end
end PD
set_option Elab.async false
set_option linter.all false
set_option maxRecDepth 100000
set_option maxHeartbeats 4000000
set_option autoImplicit false
namespace PD
open PySem L2
theorem fd_pcells (l l' : Addr) (t s : Int) : putK (fdK l t s) (.inr "cells" : Key) (.ref l') = fdK l' t s := rfl
theorem ixN0 {n : Nat} (h : 0 < n) : ixN n 0 = some 0 := by
  unfold ixN
  rw [if_pos (Int.le_refl 0), if_pos (by omega)]
  rfl
theorem Sta.feed {K : PySem.W.Frag} {G : Gh} {H : Hp} {σ : St} {Γ : List Sl} {f : Fd} (S : Sta K G H σ Γ) (i : Nat) (io : Bool) (hi : Γ[i]? = some (mkS io (.feed f))) :
    ∃ d l, σ[i]? = some (some (.ref d)) ∧ d ≠ l ∧ H d = some (.dK (fdK l f.2.1 f.2.2)) ∧ H l = some (.lst (f.1.map V.int)) ∧
      (∀ t s, Sta K G (upd H d (.dK (fdK l t s))) σ (Γ.set i (mkS io (.feed (f.1, t, s)))) ∧ Ext G H G (upd H d (.dK (fdK l t s)))) ∧
      (∀ ns : List Int, Sta K G (upd H l (.lst (ns.map V.int))) σ (Γ.set i (mkS io (.feed (ns, f.2)))) ∧ Ext G H G (upd H l (.lst (ns.map V.int)))) ∧
      (∀ l' (ns : List Int), H l' = none → Sta K G (upd (upd H l' (.lst (ns.map V.int))) d (.dK (fdK l' f.2.1 f.2.2))) σ (Γ.set i (mkS io (.feed (ns, f.2)))) ∧ Ext G H G (upd (upd H l' (.lst (ns.map V.int))) d (.dK (fdK l' f.2.1 f.2.2)))) := by
  obtain ⟨A, T⟩ := S
  have hlt : i < Γ.length := (List.getElem?_eq_some_iff.mp hi).1
  have key : ∃ d l, σ[i]? = some (some (.ref d)) ∧ A i = [d, l] ∧ d ≠ l ∧ H d = some (.dK (fdK l f.2.1 f.2.2)) ∧ H l = some (.lst (f.1.map V.int)) ∧
      ∀ (G' : Gh) (H' : Hp) (f' : Fd) (fp' : List Addr), G'.I = G.I → G'.H0 = G.H0 → (Cl.feed f').ok K (RgN G') H' (.ref d) fp' → (∀ p ∈ fp', p ∈ A i ∨ G.H0 p = none) → SlOk K G' H' i σ[i]? fp' (mkS io (.feed f')) := by
    have hs := T.sl i _ hi
    cases io with
    | true =>
      obtain ⟨v, h1, h2, d, l, rfl, h3, h4, h5, h6⟩ := hs
      exact ⟨d, l, h1, h3, h4, h5, h6, fun G' H' f' fp' gi _ ok _ => ⟨_, h1, by rw [gi]; exact h2, ok⟩⟩
    | false =>
      obtain ⟨v, h1, h2, d, l, rfl, h3, h4, h5, h6⟩ := hs
      refine ⟨d, l, h1, h3, h4, h5, h6, fun G' H' f' fp' _ g0 ok hp => ⟨_, h1, fun p hp' => ?_, ok⟩⟩
      rw [g0]
      rcases hp p hp' with q | q
      · exact h2 p q
      · exact q
  obtain ⟨d, l, h1, hA, hne, hd, hl, mk⟩ := key
  have ad := T.al i d (by rw [hA]; simp)
  have al := T.al i l (by rw [hA]; simp)
  refine ⟨d, l, h1, hne, hd, hl, fun t s => ?_, fun ns => ?_, fun l' ns hl' => ?_⟩
  · refine T.step (i := i) (fp' := [d, l]) (grow_mut T.w hd ad.2.1 (fun _ => by simp) (fun _ _ => by simp)) (fun p hp => by rw [hA]; simp at hp; simp [hp]) (fun _ _ => rfl) rfl (fun _ => mk _ _ _ _ rfl rfl ⟨d, l, rfl, rfl, hne, upd_same, by rw [upd_ne (Ne.symm hne)]; exact hl⟩ fun p hp => .inl (by rw [hA]; exact hp)) (fun p hp => ?_)
    simp only [List.mem_cons, List.not_mem_nil, or_false] at hp
    rcases hp with rfl | rfl
    · exact ⟨by rw [upd_same]; simp, ad.2.1, .inl (by rw [hA]; simp)⟩
    · exact ⟨by rw [upd_ne (Ne.symm hne), hl]; simp, al.2.1, .inl (by rw [hA]; simp)⟩
  · refine T.step (i := i) (fp' := [d, l]) (grow_mut T.w hl al.2.1 (fun _ => by simp) (fun _ _ => by simp)) (fun p hp => by rw [hA]; simp at hp; simp [hp]) (fun _ _ => rfl) rfl (fun _ => mk _ _ _ _ rfl rfl ⟨d, l, rfl, rfl, hne, by rw [upd_ne hne]; exact hd, upd_same⟩ fun p hp => .inl (by rw [hA]; exact hp)) (fun p hp => ?_)
    simp only [List.mem_cons, List.not_mem_nil, or_false] at hp
    rcases hp with rfl | rfl
    · exact ⟨by rw [upd_ne hne, hd]; simp, ad.2.1, .inl (by rw [hA]; simp)⟩
    · exact ⟨by rw [upd_same]; simp, al.2.1, .inl (by rw [hA]; simp)⟩
  · obtain ⟨fN, f0, _⟩ := T.w.fresh hl'
    have hdl : d ≠ l' := fun e => by rw [e, hl'] at hd; cases hd
    have g : Grow G H G.N (upd (upd H l' (.lst (ns.map V.int))) d (.dK (fdK l' f.2.1 f.2.2))) [d] := by
      refine ⟨fun a x e hp => ?_, fun a ha => ?_, fun a xs e => ?_, fun _ _ e => e, fun a x e => ⟨?_, .inl e⟩⟩
      · have h2 : a ≠ d := by simpa using hp
        have h3 : a ≠ l' := fun q => by rw [q, hl'] at e; cases e
        rw [upd_ne h2, upd_ne h3]; exact e
      · have : a = d := by simpa using ha
        rw [this, upd_same]; simp
      · have h3 : a ≠ l' := fun q => by rw [q, hl'] at e; cases e
        have h2 : a ≠ d := fun q => by rw [q, hd] at e; cases e
        rw [upd_ne h2, upd_ne h3]; exact e
      · have h2 : a ≠ d := fun q => by rw [q, ad.2.1] at e; cases e
        have h3 : a ≠ l' := fun q => by rw [q, fN] at e; cases e
        rw [upd_ne h2, upd_ne h3]; exact (T.w.new a x e).1
    refine T.step (i := i) (fp' := [d, l']) g (fun p hp => by rw [hA]; simp at hp; simp [hp]) (fun _ _ => rfl) rfl (fun _ => mk _ _ _ _ rfl rfl ⟨d, l', rfl, rfl, hdl, upd_same, by rw [upd_ne (Ne.symm hdl), upd_same]⟩ fun p hp => ?_) (fun p hp => ?_)
    · simp only [List.mem_cons, List.not_mem_nil, or_false] at hp
      rcases hp with rfl | rfl
      · exact .inl (by rw [hA]; simp)
      · exact .inr f0
    · simp only [List.mem_cons, List.not_mem_nil, or_false] at hp
      rcases hp with rfl | rfl
      · exact ⟨by rw [upd_same]; simp, ad.2.1, .inl (by rw [hA]; simp)⟩
      · exact ⟨by rw [upd_ne (Ne.symm hdl), upd_same]; simp, fN, .inr hl'⟩
structure EqT {α : Type} [DecidableEq α] (enc : α → PyData) (k : Nat) : Prop where
  lay : ∀ x, (enc x).canLay0 = true
  dep : ∀ x, (enc x).depth ≤ k
  eq : ∀ x y, PyData.eqv (enc x) (enc y) = decide (x = y)
theorem eqt_int : EqT PyData.int 0 := ⟨fun _ => rfl, fun _ => Nat.le_refl _, fun x y => by show (x == y) = _; rfl⟩
section
variable {α β γ : Type} [DecidableEq α] [DecidableEq β] [DecidableEq γ] {e1 : α → PyData} {e2 : β → PyData} {e3 : γ → PyData} {k k2 k3 : Nat}
theorem EqT.layA (h : EqT e1 k) : ∀ xs : List α, PyData.canLayAll0 (xs.map e1) = true
  | [] => rfl
  | x :: xs => by simp [PyData.canLayAll0, h.lay x, EqT.layA h xs]
theorem EqT.depA (h : EqT e1 k) : ∀ xs : List α, PyData.depthAll (xs.map e1) ≤ k
  | [] => Nat.zero_le _
  | x :: xs => by
    have a := h.dep x
    have b := EqT.depA h xs
    simp only [List.map_cons, PyData.depthAll]
    omega
theorem EqT.eqA (h : EqT e1 k) : ∀ xs ys : List α, PyData.eqvAll (xs.map e1) (ys.map e1) = decide (xs = ys)
  | [], [] => rfl
  | [], y :: ys => by simp [PyData.eqvAll]
  | x :: xs, [] => by simp [PyData.eqvAll]
  | x :: xs, y :: ys => by simp [PyData.eqvAll, h.eq x y, EqT.eqA h xs ys]
theorem eqt_list (h : EqT e1 k) : EqT (fun xs : List α => PyData.list (xs.map e1)) (k + 1) :=
  ⟨fun xs => by simpa [PyData.canLay0] using h.layA xs, fun xs => by simpa [PyData.depth] using h.depA xs, fun xs ys => by simpa [PyData.eqv] using h.eqA xs ys⟩
theorem eqt_tup (h : EqT e1 k) : EqT (fun xs : List α => PyData.tuple (xs.map e1)) (k + 1) :=
  ⟨fun xs => by simpa [PyData.canLay0] using h.layA xs, fun xs => by simpa [PyData.depth] using h.depA xs, fun xs ys => by simpa [PyData.eqv] using h.eqA xs ys⟩
theorem eqt_p2 (h : EqT e1 k) (h2 : EqT e2 k2) : EqT (fun z : α × β => PyData.tuple [e1 z.1, e2 z.2]) (max k k2 + 1) :=
  ⟨fun z => by simp [PyData.canLay0, PyData.canLayAll0, h.lay, h2.lay], fun z => by have a := h.dep z.1; have b := h2.dep z.2; simp [PyData.depth, PyData.depthAll]; omega, fun x y => by
    obtain ⟨x1, x2⟩ := x
    obtain ⟨y1, y2⟩ := y
    simp [PyData.eqv, PyData.eqvAll, h.eq, h2.eq]⟩
theorem EqT.sh (h : EqT e1 k) (hk : k ≤ 64) (x : α) : SeqAt.shaped (e1 x) = true := by
  unfold SeqAt.shaped
  rw [h.lay x, Bool.true_and]
  exact decide_eq_true (Nat.le_trans (h.dep x) hk)
end
def cellF (Γ : List Sl) (i : Nat) : Option (Bool × Fd) := match Γ[i]? with
  | some (.own (.feed f)) => some (false, f)
  | some (.io (.feed f)) => some (true, f)
  | _ => none
theorem cellF_ok {Γ : List Sl} {i : Nat} {z : Bool × Fd} (h : cellF Γ i = some z) : Γ[i]? = some (mkS z.1 (.feed z.2)) := by
  unfold cellF at h
  split at h
  · cases h; exact ‹_›
  · cases h; exact ‹_›
  · cases h
section
variable {X : Cx} {W : WX} {sc : Scope} {N : List Str} {e : Expr} {pos p p2 p3 : Pos} {x : Str} {fe : DF}
theorem pe_nm (C : Cf0 X W sc N) {i : Nat} {x : Str} {pos : Pos} (hN : N[i]? = some x) (hv : visB sc x = true) (hd : (x == ("__debug__" : Str)) = false := by decide +kernel) (hcd : (x == ("__classdict__" : Str)) = false := by decide +kernel) : PE X (.Name x pos) (tVar i) :=
  pe_var (i := i) (by rw [C.hN]; exact hN) (by rw [C.hsc]; exact vis_of hv) hd hcd
def dFdT (i : Nat) : DF := fun Γ => (R.ofO (cellF Γ i)).bind fun z => .val (.d true (.int z.2.2.1), Γ)
def dFdS (i : Nat) : DF := fun Γ => (R.ofO (cellF Γ i)).bind fun z => .val (.d true (.int z.2.2.2), Γ)
def dFd0 (i : Nat) : DF := fun Γ => (R.ofO (cellF Γ i)).bind fun z => (R.ofO (atI z.2.1 0)).bind fun n => .val (.d true (.int n), Γ)
def dFdN (i : Nat) : DF := fun Γ => (R.ofO (cellF Γ i)).bind fun z => .val (.d true (.bool (!decide (z.2.1 = ([] : List Int)))), Γ)
theorem ce_fdT (C : Cf0 X W sc N) {j : Nat} (i : Nat) (hN : N[i]? = some x) (hv : visB sc x = true) (hs : NoSl (.Constant (.str "turn") j p2) := by exact fun _ _ => rfl) (hd : (x == ("__debug__" : Str)) = false := by decide +kernel) (hcd : (x == ("__classdict__" : Str)) = false := by decide +kernel) : CE X W (.Subscript (.Name x p) (.Constant (.str "turn") j p2) pos) (dFdT i) := fun Γ =>
  pe_imp (pe_dget (u1 C) (pe_nm C hN hv hd hcd) (pe_str (x := "turn")) hs) fun σ H Q ⟨G, S, q⟩ => by
    obtain ⟨z, hz, q⟩ := Pst.ofO q
    obtain ⟨d, l, h1, h2, h3, h4, _⟩ := S.feed i z.1 (cellF_ok hz)
    exact ⟨.ref d, h1, d, .int z.2.2.1, rfl, .inl ⟨_, .inr "turn", .inl h3, rfl, rfl⟩, q G H (Ext.rf S.w) _ S (.int _)⟩
theorem ce_fdS (C : Cf0 X W sc N) {j : Nat} (i : Nat) (hN : N[i]? = some x) (hv : visB sc x = true) (hs : NoSl (.Constant (.str "seed") j p2) := by exact fun _ _ => rfl) (hd : (x == ("__debug__" : Str)) = false := by decide +kernel) (hcd : (x == ("__classdict__" : Str)) = false := by decide +kernel) : CE X W (.Subscript (.Name x p) (.Constant (.str "seed") j p2) pos) (dFdS i) := fun Γ =>
  pe_imp (pe_dget (u1 C) (pe_nm C hN hv hd hcd) (pe_str (x := "seed")) hs) fun σ H Q ⟨G, S, q⟩ => by
    obtain ⟨z, hz, q⟩ := Pst.ofO q
    obtain ⟨d, l, h1, h2, h3, h4, _⟩ := S.feed i z.1 (cellF_ok hz)
    exact ⟨.ref d, h1, d, .int z.2.2.2, rfl, .inl ⟨_, .inr "seed", .inl h3, rfl, rfl⟩, q G H (Ext.rf S.w) _ S (.int _)⟩
theorem ce_fd0 (C : Cf0 X W sc N) {j j2 : Nat} (i : Nat) (hN : N[i]? = some x) (hv : visB sc x = true) (hs : NoSl (.Constant (.str "cells") j p2) := by exact fun _ _ => rfl) (hs2 : PlainIx (.Constant (.int 0) j2 p3) := by exact fun _ _ => rfl) (hd : (x == ("__debug__" : Str)) = false := by decide +kernel) (hcd : (x == ("__classdict__" : Str)) = false := by decide +kernel) {q : Pos} :
    CE X W (.Subscript (.Subscript (.Name x p) (.Constant (.str "cells") j p2) q) (.Constant (.int 0) j2 p3) pos) (dFd0 i) := fun Γ =>
  pe_imp (pe_ix ix_list (pe_dget (u1 C) (pe_nm C hN hv hd hcd) (pe_str (x := "cells")) hs) pe_int hs2) fun σ H Q ⟨G, S, q⟩ => by
    obtain ⟨z, hz, q⟩ := Pst.ofO q
    obtain ⟨n, hc, q⟩ := Pst.ofO q
    obtain ⟨d, l, h1, h2, h3, h4, _⟩ := S.feed i z.1 (cellF_ok hz)
    refine ⟨.ref d, h1, d, .ref l, rfl, .inl ⟨_, .inr "cells", .inl h3, rfl, rfl⟩, l, _, 0, .int n, rfl, rfl, SqL.of h4, ?_, q G H (Ext.rf S.w) _ S (.int _)⟩
    have := atI_map (f := V.int) (xs := z.2.1) (i := 0)
    rw [this, hc]
    rfl
theorem ce_fdN (C : Cf0 X W sc N) {j : Nat} (i : Nat) (hN : N[i]? = some x) (hv : visB sc x = true) (hs : NoSl (.Constant (.str "cells") j p2) := by exact fun _ _ => rfl) (hm : behindInMarks .NotEq (.List [] p3) = false := by first | exact nobehind _ (by decide) (by decide) | rfl) (hd : (x == ("__debug__" : Str)) = false := by decide +kernel) (hcd : (x == ("__classdict__" : Str)) = false := by decide +kernel) {q : Pos} :
    CE X W (.Compare (.Subscript (.Name x p) (.Constant (.str "cells") j p2) q) [.NotEq] [.List [] p3] pos) (dFdN i) := fun Γ =>
  pe_imp (pe_cmpR (op_neD C.hu) (pe_dget (u1 C) (pe_nm C hN hv hd hcd) (pe_str (x := "cells")) hs) (pe_lst pa_nil) hm) fun σ H Q ⟨G, S, q⟩ => by
    obtain ⟨z, hz, q⟩ := Pst.ofO q
    obtain ⟨d, l, h1, h2, h3, h4, _⟩ := S.feed i z.1 (cellF_ok hz)
    refine ⟨.ref d, h1, d, .ref l, rfl, .inl ⟨_, .inr "cells", .inl h3, rfl, rfl⟩, Nat.zero_le _, fun a ha => ?_⟩
    have hla : l ≠ a := fun z => by rw [z, ha] at h4; cases h4
    obtain ⟨S2, e2⟩ := Sta.grow S (grow_own (o := .lst []) S.w ha)
    refine ⟨.list (z.2.1.map PyData.int), .list [], .lst (SqL.of (by rw [upd_ne hla]; exact h4)) ((ints_dna (G := RgH _) z.2.1).dp (eqt_int.layA _)), .lst (SqL.of upd_same) .nil, (eqt_list eqt_int).sh (by decide) z.2.1, (eqt_list eqt_int).sh (by decide) [], ?_⟩
    have this : PyData.eqv (.list (z.2.1.map PyData.int)) (.list []) = decide (z.2.1 = []) := (eqt_list eqt_int).eq z.2.1 []
    rw [this]
    exact q _ _ e2 _ S2 (.bl _)
def bFdT (i : Nat) (fe : DF) : DS := fun Γ => (fe Γ).bind fun y => (R.ofO (intA y.1)).bind fun n => (R.ofO (cellF y.2 i)).bind fun z => .val (.nx, y.2.set i (mkS z.1 (.feed (z.2.1, n, z.2.2.2))))
def bFdS (i : Nat) (fe : DF) : DS := fun Γ => (fe Γ).bind fun y => (R.ofO (intA y.1)).bind fun n => (R.ofO (cellF y.2 i)).bind fun z => .val (.nx, y.2.set i (mkS z.1 (.feed (z.2.1, z.2.2.1, n))))
def bFd0 (i : Nat) (fe : DF) : DS := fun Γ => (fe Γ).bind fun y => (R.ofO (intA y.1)).bind fun n => (R.ofO (cellF y.2 i)).bind fun z => (R.req (!decide (z.2.1 = ([] : List Int)))).bind fun _ => .val (.nx, y.2.set i (mkS z.1 (.feed (z.2.1.set 0 n, z.2.2))))
def bFdC (i : Nat) : DS := fun Γ => (R.ofO (cellF Γ i)).bind fun z => .val (.nx, Γ.set i (mkS z.1 (.feed (z.2.1.drop 1, z.2.2))))
theorem c1_fdT (C : Cf0 X W sc N) {j : Nat} (i : Nat) (hN : N[i]? = some x) (hv : visB sc x = true) (he : CE X W e fe) (hs : swapsWith e (some (.Subscript (.Name x p) (.Constant (.str "turn") j p2) p3)) pos.line X.env = pure false := by rfl) (hd : (x == ("__debug__" : Str)) = false := by decide +kernel) (hcd : (x == ("__classdict__" : Str)) = false := by decide +kernel) :
    C1 X W (.Assign [.Subscript (.Name x p) (.Constant (.str "turn") j p2) p3] e pos) (bFdT i fe) := fun Γ =>
  ps_imp (ps_dput (u1 C) (pe_nm C hN hv hd hcd) (pe_str (x := "turn")) (he Γ) hs) fun D σ H ⟨G, S, q⟩ => ⟨G, S, (Pst.bind q).imp fun y G1 H1 e1 q1 v S1 hv => by
    obtain ⟨n, hn, q1⟩ := Pst.ofO q1
    obtain ⟨z, hz, q1⟩ := Pst.ofO q1
    obtain ⟨d, l, h1, h2, h3, h4, h5, _⟩ := S1.feed i z.1 (cellF_ok hz)
    obtain ⟨S3, e3⟩ := h5 n z.2.2.2
    have hv := intA_ok hn hv
    subst hv
    exact ⟨.ref d, h1, d, _, rfl, .inl ⟨_, .inr "turn", h3, rfl, (by decide : 3 < sizeLine), rfl⟩, q1 G1 _ e3 σ S3⟩⟩
theorem c1_fdS (C : Cf0 X W sc N) {j : Nat} (i : Nat) (hN : N[i]? = some x) (hv : visB sc x = true) (he : CE X W e fe) (hs : swapsWith e (some (.Subscript (.Name x p) (.Constant (.str "seed") j p2) p3)) pos.line X.env = pure false := by rfl) (hd : (x == ("__debug__" : Str)) = false := by decide +kernel) (hcd : (x == ("__classdict__" : Str)) = false := by decide +kernel) :
    C1 X W (.Assign [.Subscript (.Name x p) (.Constant (.str "seed") j p2) p3] e pos) (bFdS i fe) := fun Γ =>
  ps_imp (ps_dput (u1 C) (pe_nm C hN hv hd hcd) (pe_str (x := "seed")) (he Γ) hs) fun D σ H ⟨G, S, q⟩ => ⟨G, S, (Pst.bind q).imp fun y G1 H1 e1 q1 v S1 hv => by
    obtain ⟨n, hn, q1⟩ := Pst.ofO q1
    obtain ⟨z, hz, q1⟩ := Pst.ofO q1
    obtain ⟨d, l, h1, h2, h3, h4, h5, _⟩ := S1.feed i z.1 (cellF_ok hz)
    obtain ⟨S3, e3⟩ := h5 z.2.2.1 n
    have hv := intA_ok hn hv
    subst hv
    exact ⟨.ref d, h1, d, _, rfl, .inl ⟨_, .inr "seed", h3, rfl, (by decide : 3 < sizeLine), rfl⟩, q1 G1 _ e3 σ S3⟩⟩
theorem c1_fd0 (C : Cf0 X W sc N) {j j2 : Nat} {q tpos : Pos} (i : Nat) (hN : N[i]? = some x) (hv : visB sc x = true) (he : CE X W e fe) (hs0 : NoSl (.Constant (.str "cells") j p2) := by exact fun _ _ => rfl) (hd : (x == ("__debug__" : Str)) = false := by decide +kernel) (hcd : (x == ("__classdict__" : Str)) = false := by decide +kernel)
    (has : ∀ v, assign (.Subscript (.Subscript (.Name x p) (.Constant (.str "cells") j p2) q) (.Constant (.int 0) j2 p3) tpos) X.env v = (do
      let ov ← holding [v] (eval (.Subscript (.Name x p) (.Constant (.str "cells") j p2) q) X.env)
      let iv ← holding [v, ov] (eval (.Constant (.int 0) j2 p3) X.env)
      standAt tpos
      holding [v, ov, iv] (setItem ov iv v)
      release [v, ov, iv] []) := by intro _; rfl)
    (hs : swapsWithSole [.Subscript (.Subscript (.Name x p) (.Constant (.str "cells") j p2) q) (.Constant (.int 0) j2 p3) tpos] e pos.line X.env = pure false := by rfl) (hw : swappedStores [.Subscript (.Subscript (.Name x p) (.Constant (.str "cells") j p2) q) (.Constant (.int 0) j2 p3) tpos] e X.env = pure none := by rfl) (h1 : (assignEach [.Subscript (.Subscript (.Name x p) (.Constant (.str "cells") j p2) q) (.Constant (.int 0) j2 p3) tpos] X.env).map (·.2) = [assign (.Subscript (.Subscript (.Name x p) (.Constant (.str "cells") j p2) q) (.Constant (.int 0) j2 p3) tpos) X.env] := by rfl) :
    C1 X W (.Assign [.Subscript (.Subscript (.Name x p) (.Constant (.str "cells") j p2) q) (.Constant (.int 0) j2 p3) tpos] e pos) (bFd0 i fe) := fun Γ =>
  ps_imp (ps_asg (he Γ) (pg_sub (pe_dget (u1 C) (pe_nm C hN hv hd hcd) (pe_str (x := "cells")) hs0) pe_int set_list has) hs hw h1) fun D σ H ⟨G, S, q⟩ => ⟨G, S, (Pst.bind q).imp fun y G1 H1 e1 q1 v S1 hv => by
    obtain ⟨n, hn, q1⟩ := Pst.ofO q1
    obtain ⟨z, hz, q1⟩ := Pst.ofO q1
    obtain ⟨hne, q1⟩ := Pst.req q1
    obtain ⟨d, l, h1, h2, h3, h4, _, h5, _⟩ := S1.feed i z.1 (cellF_ok hz)
    obtain ⟨S3, e3⟩ := h5 (z.2.1.set 0 n)
    have hv := intA_ok hn hv
    subst hv
    have hlen : ixN (z.2.1.map V.int).length 0 = some 0 := by
      cases hc : z.2.1 with
      | nil => rw [hc] at hne; simp at hne
      | cons a as => exact ixN0 (by simp)
    rw [List.map_set] at S3 e3
    exact ⟨.ref d, h1, d, .ref l, rfl, .inl ⟨_, .inr "cells", .inl h3, rfl, rfl⟩, l, _, 0, 0, rfl, rfl, h4, hlen, q1 G1 _ e3 σ S3⟩⟩
theorem cut1 (xs : List Int) : cutV (xs.map V.int) (some 1) none = (xs.drop 1).map V.int := by
  unfold cutV
  rw [HT.sIx_none]
  have : HT.sIx (xs.map V.int).length 0 (some 1) = min 1 (xs.map V.int).length := HT.sIx_nat _ _ 1
  rw [this]
  cases xs with
  | nil => rfl
  | cons x xs =>
    have e : (List.map V.int (x :: xs)).length = xs.length + 1 := by simp
    rw [e, Nat.min_eq_left (by omega)]
    show List.take (xs.length + 1 - 1) (List.map V.int xs) = List.map V.int xs
    have e2 : xs.length + 1 - 1 = (List.map V.int xs).length := by simp
    rw [e2, List.take_length]
theorem c1_fdC (C : Cf0 X W sc N) {j j2 j3 : Nat} {p1 p4 p5 p6 p7 : Pos} (i : Nat) (hN : N[i]? = some x) (hv : visB sc x = true) (hs0 : NoSl (.Constant (.str "cells") j2 p4) := by exact fun _ _ => rfl) (hd : (x == ("__debug__" : Str)) = false := by decide +kernel) (hcd : (x == ("__classdict__" : Str)) = false := by decide +kernel) {q : Pos}
    (hs : swapsWith (.Subscript (.Subscript (.Name x p1) (.Constant (.str "cells") j2 p4) p5) (.Slice (some (.Constant (.int 1) j3 p6)) none none p3) p7) (some (.Subscript (.Name x p) (.Constant (.str "cells") j p2) q)) pos.line X.env = pure false := by rfl) :
    C1 X W (.Assign [.Subscript (.Name x p) (.Constant (.str "cells") j p2) q] (.Subscript (.Subscript (.Name x p1) (.Constant (.str "cells") j2 p4) p5) (.Slice (some (.Constant (.int 1) j3 p6)) none none p3) p7) pos) (bFdC i) := fun Γ =>
  ps_imp (ps_dput (u1 C) (pe_nm C hN hv hd hcd) (pe_str (x := "cells")) (pe_slice sl_list (pe_dget (u1 C) (pe_nm C hN hv hd hcd) (pe_str (x := "cells")) hs0) (po_some pe_int) po_none) hs) fun D σ H ⟨G, S, q⟩ => by
    obtain ⟨z, hz, q⟩ := Pst.ofO q
    obtain ⟨d, l, h1, h2, h3, h4, _, _, h5⟩ := S.feed i z.1 (cellF_ok hz)
    refine ⟨.ref d, h1, d, .ref l, rfl, .inl ⟨_, .inr "cells", .inl h3, rfl, rfl⟩, 1, rfl, l, _, rfl, SqL.of h4, fun a ha => ⟨.ref d, h1, ?_⟩⟩
    obtain ⟨S3, e3⟩ := h5 a (z.2.1.drop 1) ha
    have hda : d ≠ a := fun z => by rw [z, ha] at h3; cases h3
    refine ⟨d, _, rfl, .inl ⟨fdK l z.2.2.1 z.2.2.2, .inr "cells", by rw [upd_ne hda]; exact h3, rfl, (by decide : 3 < sizeLine), rfl⟩, ?_⟩
    rw [cut1, fd_pcells]
    exact q G _ e3 σ S3
end
end PD
set_option Elab.async false
set_option linter.all false
set_option maxRecDepth 100000
set_option maxHeartbeats 4000000
set_option autoImplicit false
namespace PD
open PySem L2
def intsS : Option Sl → Option (List Int)
  | some (.dat _ (.list ds)) => intsOf ds
  | _ => none
section
variable {X : Cx} {W : WX} {sc : Scope} {N : List Str} {pos : Pos} {x : Str}
theorem cut_map {α β : Type} (f : α → β) (xs : List α) (lo hi : Option Int) : (cutD xs lo hi).map f = cutD (xs.map f) lo hi := by
  unfold cutD
  rw [List.map_take, List.map_drop, List.length_map]
def nFeed (i : Nat) : DC := fun Γ => (R.ofO (intsS Γ[i]?)).bind fun ns => .val (.feed (cutD ns none (some 63), 0, 0), Γ)
theorem cc_feed (C : Cf0 X W sc N) (i : Nat) {p1 p2 p3 p4 p5 p6 p7 p8 p9 q1 q2 : Pos} {j1 j2 j3 j4 j5 j6 : Nat} (hN : N[i]? = some x) (hv : visB sc x = true) (hg : glB sc "list" = true) (hm : X.mg "list" = none) (hd : (x == ("__debug__" : Str)) = false := by decide +kernel) (hcd : (x == ("__classdict__" : Str)) = false := by decide +kernel)
    (hst : starEach [.Subscript (.Name x p5) (.Slice none (some (.Constant (.int 63) j4 p6)) none p7) p8] X.env = (false, eval (.Subscript (.Name x p5) (.Slice none (some (.Constant (.int 63) j4 p6)) none p7) p8) X.env) :: starEach [] X.env := by rfl) :
    CC X W (.Dict [some (.Constant (.str "cells") j1 p1), some (.Constant (.str "turn") j2 p2), some (.Constant (.str "seed") j3 p3)] [.Call (.Name "list" p4) [.Subscript (.Name x p5) (.Slice none (some (.Constant (.int 63) j4 p6)) none p7) p8] [] p9, .Constant (.int 0) j5 q1, .Constant (.int 0) j6 q2] pos) (nFeed i) := fun Γ =>
  pe_imp (pe_disp (pps_cons pe_str (pe_callTy call_list_of (C.gl hg) hm PyProof.Rows.boot_list (pa_cons (pe_slice sl_list (pe_nm C hN hv hd hcd) po_none (po_some pe_int)) pa_nil hst) (by decide +kernel) (by decide +kernel) hst (by rfl)) (pps_cons pe_str pe_int (pps_cons pe_str pe_int pps_nil))) rfl rfl (by simp) (by simp)) fun σ H Q ⟨G, S, q0⟩ => by
    obtain ⟨ns, hns, q0⟩ := Pst.ofO q0
    have hs : ∃ fr ds, Γ[i]? = some (.dat fr (.list ds)) ∧ intsOf ds = some ns := by
      unfold intsS at hns
      split at hns
      · exact ⟨_, _, ‹_›, hns⟩
      · cases hns
    obtain ⟨fr, ds, hs, hi⟩ := hs
    have hds := intsOf_eq hi
    subst hds
    obtain ⟨A, T⟩ := id S
    obtain ⟨_, v, hv1, hv2⟩ := T.sl i _ hs
    obtain ⟨l, xs, rfl, g1, g2⟩ := dn_list hv2
    rw [dna_ints g2] at g1
    have g1 := (g1.mono (S.w.rgl fr)).sq
    intro p hp
    refine ⟨.ref l, hv1, 63, rfl, l, _, rfl, (same_upd hp).seq g1, fun q hq0 => ?_⟩
    have hcut : cutV (ns.map V.int) none (some 63) = (cutD ns none (some 63)).map V.int := (cut_map V.int ns none (some 63)).symm
    rw [hcut]
    generalize cutD ns none (some 63) = ms at q0 ⊢
    have hpq : p ≠ q := fun e => by rw [e, upd_same] at hq0; cases hq0
    have hq1 : H q = none := by rw [← hq0, upd_ne (Ne.symm hpq)]
    refine ⟨q, _, rfl, .inl (SqL.of upd_same), fun l' hl' => ?_⟩
    have hpl : p ≠ l' := fun e => by rw [e, upd_ne (e ▸ hpq), ← e, upd_same] at hl'; cases hl'
    have hql : q ≠ l' := fun e => by rw [e, upd_same] at hl'; cases hl'
    refine ⟨by rw [upd_ne hpl, upd_ne hpq, upd_same], fdK l' 0 0, rfl, (by decide : 3 ≤ 15), ?_⟩
    have hl1 : H l' = none := by rw [← hl', upd_ne (Ne.symm hql), upd_ne (Ne.symm hpl)]
    obtain ⟨S1, e1⟩ := S.grow (grow_own (o := .lst (ms.map V.int)) S.w hq1)
    have hl2 : upd H q (.lst (ms.map V.int)) l' = none := by rw [upd_ne (Ne.symm hql)]; exact hl1
    have hp2 : upd H q (.lst (ms.map V.int)) p = none := by rw [upd_ne hpq]; exact hp
    have nc : NewC X.K (rg G true) (upd H q (.lst (ms.map V.int))) (.feed (ms, 0, 0)) (.ref p) (upd (upd (upd H q (.lst (ms.map V.int))) l' (.lst (ms.map V.int))) p (.dK (fdK l' 0 0))) := by
      refine ⟨[p, l'], fun a ha => ?_, fun a ha => ?_, p, l', rfl, rfl, hpl, upd_same, by rw [upd_ne (Ne.symm hpl), upd_same]⟩
      · simp only [List.mem_cons, List.not_mem_nil, or_false, not_or] at ha
        rw [upd_ne ha.1, upd_ne ha.2]
      · simp only [List.mem_cons, List.not_mem_nil, or_false] at ha
        rcases ha with rfl | rfl
        · exact ⟨hp2, by rw [upd_same]; simp⟩
        · exact ⟨hl2, by rw [upd_ne (Ne.symm hpl), upd_same]; simp⟩
    have e : upd (upd (upd (upd H p (.dK [])) q (.lst (ms.map V.int))) l' (.lst (ms.map V.int))) p (.dK (mergeK [] (fdK l' 0 0))) = upd (upd (upd H q (.lst (ms.map V.int))) l' (.lst (ms.map V.int))) p (.dK (fdK l' 0 0)) := by
      funext z
      by_cases h1 : z = p
      · subst h1; rw [upd_same, upd_same]; rfl
      · rw [upd_ne h1, upd_ne h1]
        by_cases h2 : z = l'
        · subst h2; rw [upd_same, upd_same]
        · rw [upd_ne h2, upd_ne h2]
          by_cases h3 : z = q
          · subst h3; rw [upd_same, upd_same]
          · rw [upd_ne h3, upd_ne h3, upd_ne h1]
    rw [e]
    exact q0 G _ e1 _ _ S1 nc
end
end PD
set_option Elab.async false
set_option linter.all false
set_option maxRecDepth 100000
set_option maxHeartbeats 4000000
set_option autoImplicit false
namespace PD
open PySem L2
def Gv (P : Program) (w : World) (K : PySem.W.Frag) (mg : Str → Option Value) (base : Heap) (k : Nat) (x : Str) (dvs : List V) (sp : Sp) : Prop :=
  ∃ (f : Addr) (fd : FuncData) (ps : List Str) (ds : List Value), FnOk P w K mg base (L2N.CX P w) k f fd ps sp ∧ mg x = some (.ref f) ∧ PySem.W.keepIn K (.ref f) = true ∧ Binds K fd ps ds ∧ Vals dvs ds
theorem Gv.clee {P : Program} {w : World} {K : PySem.W.Frag} {mg : Str → Option Value} {base : Heap} {k k' : Nat} {x : Str} {dvs : List V} {sp : Sp} {X : Cx} {W : WX} {scope : Scope} {N : List Str} (g : Gv P w K mg base k x dvs sp) (h : Here X W P w K mg base scope N k') (hk : k ≤ k') : Clee X x dvs sp := by
  obtain ⟨f, fd, ps, ds, h1, h2, h3, h4, h5⟩ := g
  refine ⟨k, f, fd, ps, ds, ?_, h.room.mono hk, ?_, ?_, ?_, h5⟩
  · rw [h.prog, h.w, h.K, h.mg, h.base]; exact h1
  · rw [h.mg]; exact h2
  · rw [h.K]; exact h3
  · rw [h.K]; exact h4
theorem Gv.of {P : Program} {w : World} {K : PySem.W.Frag} {mg : Str → Option Value} {base : Heap} {k : Nat} {x x' qual : Str} {params : Arguments} {body : List Stmt} {scope : Scope} {dvs : List V} {kws : List (Str × V)} {f : Addr} {fd : FuncData} {ps : List Str} {dv : List V} {ds : List Value} {sp : Sp}
    (F : FunD K x qual params body scope dvs kws f fd) (hm : mg x' = some (.ref f)) (ok : FnOk P w K mg base (L2N.CX P w) k f fd ps sp) (b : Binds K fd ps ds) (hv : Vals dv ds) : Gv P w K mg base k x' dv sp := ⟨f, fd, ps, ds, ok, hm, F.kp, b, hv⟩
section
variable {X : Cx} {W : WX} {sc : Scope} {N : List Str} {a b c e : Expr} {es : List Expr} {pos p : Pos} {Γ : List Sl}
def GvK (P : Program) (w : World) (K : PySem.W.Frag) (mg : Str → Option Value) (base : Heap) (k : Nat) (x : Str) (n : Nat) (ks : List Str) (dvs : List V) (sp : Sp) : Prop :=
  ∃ (f : Addr) (fd : FuncData) (ps : List Str) (its : List Value), FnOk P w K mg base (L2N.CX P w) k f fd ps sp ∧ mg x = some (.ref f) ∧ PySem.W.keepIn K (.ref f) = true ∧ KBn K fd ps n ks (fun us ws => us ++ ws ++ its) (fun vs zs => vs ++ zs ++ dvs)
def CleeK (X : Cx) (x : Str) (n : Nat) (ks : List Str) (dvs : List V) (sp : Sp) : Prop :=
  ∃ (k : Nat) (f : Addr) (fd : FuncData) (ps : List Str) (its : List Value), FnOk X.prog X.w X.K X.mg X.base (L2N.CX X.prog X.w) k f fd ps sp ∧ Room k X.A ∧ X.mg x = some (.ref f) ∧ PySem.W.keepIn X.K (.ref f) = true ∧ KBn X.K fd ps n ks (fun us ws => us ++ ws ++ its) (fun vs zs => vs ++ zs ++ dvs)
theorem GvK.clee {P : Program} {w : World} {K : PySem.W.Frag} {mg : Str → Option Value} {base : Heap} {k k' : Nat} {x : Str} {n : Nat} {ks : List Str} {dvs : List V} {sp : Sp} {scope : Scope} (g : GvK P w K mg base k x n ks dvs sp) (h : Here X W P w K mg base scope N k') (hk : k ≤ k') : CleeK X x n ks dvs sp := by
  obtain ⟨f, fd, ps, its, g1, g2, g3, g4⟩ := g
  refine ⟨k, f, fd, ps, its, ?_, h.room.mono hk, ?_, ?_, ?_⟩
  · rw [h.prog, h.w, h.K, h.mg, h.base]; exact g1
  · rw [h.mg]; exact g2
  · rw [h.K]; exact g3
  · rw [h.K]; exact g4
theorem CleeK.blk {x : Str} {n : Nat} {ks : List Str} {dvs : List V} {sp : Sp} (h : CleeK X x n ks dvs sp) {s : Shared} {H : Hp} {scope : Scope} {ce : Env} {fp : List Addr} : CleeK (X.blk s H scope ce fp) x n ks dvs sp := h
theorem Gv.u {P : Program} {w : World} {K : PySem.W.Frag} {mg : Str → Option Value} {base : Heap} {k k' : Nat} {x : Str} {dvs : List V} {m : List Ar → R (Rs × List Sl)} {scope : Scope} (g : Gv P w K mg base k x dvs (spU K mg m)) (h : Here X W P w K mg base scope N k') (hk : k ≤ k') : Clee X x dvs (spU X.K X.mg m) := by
  have := g.clee h hk
  rw [h.K, h.mg]
  exact this
theorem GvK.u {P : Program} {w : World} {K : PySem.W.Frag} {mg : Str → Option Value} {base : Heap} {k k' : Nat} {x : Str} {n : Nat} {ks : List Str} {dvs : List V} {m : List Ar → R (Rs × List Sl)} {scope : Scope} (g : GvK P w K mg base k x n ks dvs (spU K mg m)) (h : Here X W P w K mg base scope N k') (hk : k ≤ k') : CleeK X x n ks dvs (spU X.K X.mg m) := by
  have := g.clee h hk
  rw [h.K, h.mg]
  exact this
section
variable {x : Str} {dvs : List V} {dds : List PyData} {m : List Ar → R (Rs × List Sl)} {kws : List Keyword} {ks : List Str} {n : Nat} {k kk : DA}
theorem AVs.append {K : PySem.W.Frag} {G : Gh} {H : Hp} {σ : St} : ∀ {vs us : List V} {as bs : List AV}, AVs K G H σ vs as → AVs K G H σ us bs → AVs K G H σ (vs ++ us) (as ++ bs)
  | _, _, _, _, .nil, h => h
  | _, _, _, _, .cons q r, h => .cons q (AVs.append r h)
end
end
end PD
set_option Elab.async false
set_option linter.all false
set_option maxRecDepth 100000
set_option maxHeartbeats 4000000
set_option autoImplicit false
namespace PD
open PySem L2
abbrev DX := List Sl → R (Rs × List Sl)
def FinX (K : PySem.W.Frag) (G : Gh) (H : Hp) (σ : St) (Γ : List Sl) (Q : VK) : Rs → Prop
  | .d x => ∀ v, Sta K G H σ Γ → Dn K (rg G true) H v x → Q v H
  | .c c => ∀ v H2, Sta K G H σ Γ → NewC K (rg G true) H c v H2 → Q v H2
def rdX (X : Cx) (W : WX) (Γ : List Sl) (m : R (Rs × List Sl)) : TE := fun σ H Q => ∃ G, Sta X.K G H σ Γ ∧ Pst X W G H σ m fun r G' H' => FinX X.K G' H' σ r.2 Q r.1
def CX (X : Cx) (W : WX) (e : Expr) (f : DX) : Prop := ∀ Γ, PE X e (rdX X W Γ (f Γ))
section
variable {X : Cx} {W : WX} {sc : Scope} {N : List Str} {e : Expr} {es : List Expr} {pos p : Pos} {x : Str} {dvs : List V} {dds : List PyData} {m : List Ar → R (Rs × List Sl)} {kws : List Keyword} {ks : List Str} {n : Nat} {k kk : DA} {f : DX}
def xC (n : DC) : DX := fun Γ => (n Γ).bind fun z => .val (.c z.1, z.2)
theorem cx_c {n : DC} (h : CC X W e n) : CX X W e (xC n) := fun Γ => pe_imp (h Γ) fun σ H Q ⟨G, S, q⟩ => ⟨G, S, (Pst.bind q).imp fun z G1 H1 e1 p1 v H2 S1 nc => p1 G1 H1 (Ext.rf S1.w) v H2 S1 nc⟩
def xCall (m : List Ar → R (Rs × List Sl)) (dds : List PyData) (k : DA) : DX := fun Γ => (k Γ).bind fun z => (R.ofO (rdDs z.2 none z.1)).bind fun ds => ((m ((ds ++ dds).map Ar.d)).atX z.2).bind fun r => .val (r.1, z.2)
theorem cx_call (C : Cf0 X W sc N) (hc : Clee X x dvs (spU X.K X.mg m)) (hg : glB sc x = true) (hdv : ∀ G H, DnA X.K G H dvs dds) (ha : CA X W (e :: es) k)
    (hdb : (x == ("__debug__" : Str)) = false := by decide +kernel) (he : starEach (e :: es) X.env = (false, eval e X.env) :: starEach es X.env := by rfl) (hpl : (backTo pos (starEach es X.env)).any (·.1) = false := by rfl) : CX X W (.Call (.Name x p) (e :: es) [] pos) (xCall m dds k) := fun Γ => by
  obtain ⟨k', f, fd, ps, dss, F, hr, hm, hk, hb, hd⟩ := hc
  refine pe_imp (pe_callSD (E := fun σ cls d H => W cls d σ H) F hr (C.gl hg) hm hk hb hd (fun σ => L2N.passAt C.tk σ) (ha Γ) hdb he hpl) fun σ H Q ⟨G, S, q⟩ => ⟨G, S, (Pst.bind q).imp fun z G1 H1 e1 p1 vs S1 av => ?_⟩
  obtain ⟨ds, hds, p1⟩ := Pst.ofO p1
  refine callD_core hdv S1 av hds ((Pst.bind p1).imp fun r G2 H2 e2 p2 S2 => ?_)
  cases hz : r.1 with
  | d w =>
    have p2 := p2 G2 H2 (Ext.rf S2.w)
    rw [hz] at p2
    exact fun v hv => p2 v S2 hv
  | c w =>
    have p2 := p2 G2 H2 (Ext.rf S2.w)
    rw [hz] at p2
    exact fun v H3 hn => p2 v H3 S2 hn
def xCallC (m : List Ar → R (Rs × List Sl)) (n : Nat) (dds : List PyData) (k : DA) : DX := fun Γ => (k Γ).bind fun z => (preC n dds z).bind fun y => ((m y.2.2).atC n z.2 y.1 y.2.1).bind fun r => .val (r.1, r.2)
theorem cx_callC (C : Cf0 X W sc N) (n : Nat) (hc : Clee X x dvs (spU X.K X.mg m)) (hg : glB sc x = true) (hdv : ∀ G H, DnA X.K G H dvs dds) (ha : CA X W (e :: es) k)
    (hdb : (x == ("__debug__" : Str)) = false := by decide +kernel) (he : starEach (e :: es) X.env = (false, eval e X.env) :: starEach es X.env := by rfl) (hpl : (backTo pos (starEach es X.env)).any (·.1) = false := by rfl) : CX X W (.Call (.Name x p) (e :: es) [] pos) (xCallC m n dds k) := fun Γ => by
  obtain ⟨k', f, fd, ps, dss, F, hr, hm, hk, hb, hd⟩ := hc
  refine pe_imp (pe_callSD (E := fun σ cls d H => W cls d σ H) F hr (C.gl hg) hm hk hb hd (fun σ => L2N.passAt C.tk σ) (ha Γ) hdb he hpl) fun σ H Q ⟨G, S, q⟩ => ⟨G, S, (Pst.bind q).imp fun z G1 H1 e1 p1 vs S1 av => ?_⟩
  obtain ⟨i, ic, ds, h1, h2, h3, h4, p1⟩ := preC_ok p1
  refine callC_core hdv S1 av h1 h2 h3 h4 ((Pst.bind p1).imp fun r G2 H2 e2 p2 S2 => ?_)
  cases hz : r.1 with
  | d w =>
    have p2 := p2 G2 H2 (Ext.rf S2.w)
    rw [hz] at p2
    exact fun v hv => p2 v S2 hv
  | c w =>
    have p2 := p2 G2 H2 (Ext.rf S2.w)
    rw [hz] at p2
    exact fun v H3 hn => p2 v H3 S2 hn
def rsF : Rs → Option PyData
  | .d x => some x
  | .c c => frzC c
def eX (f : DX) : DF := fun Γ => (f Γ).bind fun z => (R.ofO (rsF z.1)).bind fun d => .val (.d true d, z.2)
theorem ce_x (h : CX X W e f) : CE X W e (eX f) := fun Γ => pe_imp (h Γ) fun σ H Q ⟨G, S, q⟩ => ⟨G, S, (Pst.bind q).imp fun z G1 H1 e1 p1 => by
  obtain ⟨r, Γ1⟩ := z
  cases r with
  | d x =>
    intro v S1 hv
    exact p1 G1 H1 (Ext.rf S1.w) v S1 hv
  | c c =>
    intro v H2 S1 nc
    obtain ⟨d, hd, p1⟩ := Pst.ofO p1
    obtain ⟨G2, S2, e2, hv⟩ := NewC.frz S1 nc hd
    exact p1 G2 H2 e2 v S2 hv⟩
def rsS : Rs → Sl
  | .d x => .dat true x
  | .c c => .own c
def bSetX (i : Nat) (f : DX) : DS := fun Γ => (f Γ).bind fun z => .val (.nx, z.2.set i (rsS z.1))
theorem c1_setX (C : Cf0 X W sc N) (i : Nat) {x : Str} {p' : Pos} (hN : N[i]? = some x) (hv : Sto X sc x) (he : CX X W e f) (hs : swapsWith e (some (.Name x p')) pos.line X.env = pure false := by rfl) : C1 X W (.Assign [.Name x p'] e pos) (bSetX i f) := fun Γ => by
  have hx : Loc X.env.scope x := by rw [C.hsc]; exact hv.1
  refine ps_imp (ps_set (i := i) (by rw [C.hN]; exact C.nd) (by rw [C.hN]; exact hN) hx (he Γ) hs (by rw [C.hsc]; exact hv.2)) fun D σ H ⟨G, S, p⟩ => ⟨G, S, (Pst.bind p).imp fun z G1 H1 e1 p1 => ?_⟩
  obtain ⟨r, Γ1⟩ := z
  cases r with
  | d x =>
    intro v S1 hv
    exact p1 G1 H1 (Ext.rf S1.w) _ (S1.put i hv)
  | c c =>
    intro v H2 S1 nc
    obtain ⟨S2, e2⟩ := S1.putC i nc
    exact p1 G1 H2 e2 _ S2
def bRetX (f : DX) : DS := fun Γ => (f Γ).bind fun z => .val (.rt z.1, z.2)
def bExprX (f : DX) : DS := fun Γ => (f Γ).bind fun z => (R.ofO (rsF z.1)).bind fun _ => .val (.nx, z.2)
end
end PD
set_option Elab.async false
set_option linter.all false
set_option maxRecDepth 100000
set_option maxHeartbeats 4000000
set_option autoImplicit false
namespace PD
open PySem L2
section
variable {X : Cx} {W : WX} {sc : Scope} {N : List Str} {a b e : Expr} {es : List Expr} {pos p p2 : Pos} {f g : DF}
theorem spU_law {K : PySem.W.Frag} {mg : Str → Option Value} {H : Hp} {a : Addr} {ns : List Int} {m : List Ar → R (Rs × List Sl)} (h : m [.d (.list (ns.map PyData.int))] = .val (.d (.bool true), [.un])) (hS : SqL K H a (ns.map V.int)) : spU K mg m [.ref a] H (fun v _ => v = .bl true) fun _ _ _ => False := by
  refine ⟨[.d (.list (ns.map PyData.int))], fun _ => [], [], fun _ => none, ?_, ?_⟩
  · refine argsD (ds := [.list (ns.map PyData.int)]) (.cons (.lst ((LsR.of_sq hS).mono fun _ _ z => ⟨z, by simp⟩) (ints_dna ns)) .nil) (fun a o h => by cases h)
  · rw [h]
    exact fun H' N F' _ v hv => dn_bool hv
end
end PD
set_option Elab.async false
set_option linter.all false
set_option maxRecDepth 100000
set_option maxHeartbeats 4000000
set_option autoImplicit false
namespace PD
open PySem PySem.Spec L2
open PyProof.Rows hiding St
section
variable {X : Cx} {W : WX} {sc : Scope} {N : List Str} {a b c e : Expr} {es : List Expr} {pos p p2 q2 : Pos} {f g h : DF}
def cLrg (i j : Int) : Bool := cRng i j && decide ((j - i).toNat ≤ 2 ^ 24)
def dLrng1 (f : DF) : DN := fun Γ => (f Γ).bind fun z => (R.ofO (intA z.1)).bind fun j => gq (cLrg 0 j) ((rng 0 j).map PyData.int, z.2)
def dLrng2 (f g : DF) : DN := fun Γ => (f Γ).bind fun z => (g z.2).bind fun y => (R.ofO (intA z.1)).bind fun i => (R.ofO (intA y.1)).bind fun j => gq (cLrg i j) ((rng i j).map PyData.int, y.2)
end
end PD
set_option Elab.async false
set_option linter.all false
set_option maxRecDepth 100000
set_option maxHeartbeats 4000000
set_option autoImplicit false
namespace PD
open PySem L2
def ItK (t : Bool) (h : Heap) (it l : Addr) (i : Nat) : Prop := match t with
  | true => h.IsTupleIter it l i
  | false => h.IsListIter it l i
def SqK (t : Bool) (h : Heap) (l : Addr) (xs : Array Value) : Prop := match t with
  | true => h.IsTuple l xs
  | false => h.IsList l xs
theorem ItK.e {t : Bool} {h h' : Heap} {it b l : Addr} {i : Nat} (x : ItK t h it l i) (hs : Heap.ExtBut b h h') (n : it ≠ b) : ItK t h' it l i := by
  cases t
  · exact Heap.IsListIter.extBut x hs n
  · exact Heap.IsTupleIter.extBut x hs n
theorem ItK.at {t : Bool} {h h' : Heap} {it l : Addr} {i : Nat} (x : ItK t h it l i) (k : ∀ o, h.get? it = some o → h'.get? it = some o) : ItK t h' it l i := by
  cases t
  · exact Heap.IsListIter.at x k
  · exact Heap.IsTupleIter.at x k
theorem ItK.ob {t : Bool} {h : Heap} {it l : Addr} {i : Nat} (x : ItK t h it l i) : ∃ o fs, h.get? it = some o ∧ o.data = .fields fs := by
  cases t
  · obtain ⟨o, h1, _, h2⟩ := x; exact ⟨o, _, h1, h2⟩
  · obtain ⟨o, h1, _, h2⟩ := x; exact ⟨o, _, h1, h2⟩
theorem SqK.e {t : Bool} {h h' : Heap} {l b : Addr} {xs : Array Value} (x : SqK t h l xs) (hs : Heap.ExtBut b h h') (n : l ≠ b) : SqK t h' l xs := by
  cases t
  · exact Heap.IsList.extBut x hs n
  · exact Heap.IsTuple.extBut x hs n
theorem SqK.p {t : Bool} {h : Heap} {l : Addr} {xs : Array Value} (x : SqK t h l xs) (o : Obj) : SqK t (h.push o) l xs := by
  cases t
  · exact Heap.IsList.push x o
  · exact Heap.IsTuple.push x o
section
variable {prog : Program} {w : World} {A : Around} {E : Value → Shared → Prop} {s : Shared}
variable {t1 t2 : Bool} {z TI TO i1 i2 l1 l2 : Addr} {k1 k2 : Nat} {xs ys : Array Value}
end
end PD
set_option Elab.async false
set_option linter.all false
set_option maxRecDepth 100000
set_option maxHeartbeats 4000000
set_option autoImplicit false
namespace PD
open PySem L2
section
variable {prog : Program} {w : World} {A : Around} {E : Value → Shared → Prop} {s : Shared} {t1 t2 : Bool}
variable {z TI TO i1 i2 l1 l2 : Addr} {k1 k2 : Nat} {xs ys : Array Value}
end
end PD
set_option Elab.async false
set_option linter.all false
set_option maxRecDepth 100000
set_option maxHeartbeats 4000000
set_option autoImplicit false
namespace PD
open PySem L2
section
variable {X : Cx} {W : WX} {sc : Scope} {N : List Str} {e e2 : Expr} {pos p : Pos} {f g : DF}
end
end PD
set_option Elab.async false
set_option linter.all false
set_option maxRecDepth 100000
set_option maxHeartbeats 4000000
set_option autoImplicit false
namespace PD
open PySem L2
end PD
set_option Elab.async false
set_option linter.all false
set_option maxRecDepth 100000
set_option maxHeartbeats 4000000
set_option autoImplicit false
namespace PD
open PySem L2
section
variable {X : Cx} {W : WX} {sc : Scope} {N : List Str} {e : Expr} {es : List Expr} {pos p : Pos} {x : Str} {dvs : List V} {dds : List PyData} {m : List Ar → R (Rs × List Sl)}
end
end PD
set_option Elab.async false
set_option linter.all false
set_option maxRecDepth 100000
set_option maxHeartbeats 4000000
set_option autoImplicit false
namespace PD
open PySem L2
section
variable {X : Cx} {W : WX} {sc : Scope} {N : List Str} {e : Expr} {pos p1 : Pos} {x : Str}
end
end PD
set_option Elab.async false
set_option linter.all false
set_option maxRecDepth 100000
set_option maxHeartbeats 4000000
set_option autoImplicit false
namespace PD
open PySem L2
inductive ArsOk (K : PySem.W.Frag) (H : Hp) (R : Rg) (B : Hp) : List V → List Ar → Prop
  | nil : ArsOk K H R B [] []
  | d {v : V} {vs : List V} {x : PyData} {as : List Ar} : Dn K R H v x → ArsOk K H R B vs as → ArsOk K H R B (v :: vs) (.d x :: as)
  | n {v : V} {vs : List V} {x : PyData} {as : List Ar} : Dn K (RN B) H v x → ArsOk K H R B vs as → ArsOk K H R B (v :: vs) (.n x :: as)
section
variable {K : PySem.W.Frag} {H : Hp} {R : Rg} {B : Hp}
theorem ArsOk.length : ∀ {vs : List V} {as : List Ar}, ArsOk K H R B vs as → vs.length = as.length
  | _, _, .nil => rfl
  | _, _, .d _ r => by simp [r.length]
  | _, _, .n _ r => by simp [r.length]
theorem ArsOk.dat : ∀ {vs : List V} {as : List Ar} {i : Nat} {x : PyData}, ArsOk K H R B vs as → as[i]? = some (.d x) → ∃ v, vs[i]? = some v ∧ Dn K R H v x
  | _, _, _, _, .nil, e => by simp at e
  | _, _, 0, _, .d h _, e => by simp at e; subst e; exact ⟨_, rfl, h⟩
  | _, _, 0, _, .n h _, e => by simp at e
  | _, _, i + 1, x, .d _ r, e => by obtain ⟨v, h1, h2⟩ := r.dat (i := i) (x := x) (by simpa using e); exact ⟨v, by simpa using h1, h2⟩
  | _, _, i + 1, x, .n _ r, e => by obtain ⟨v, h1, h2⟩ := r.dat (i := i) (x := x) (by simpa using e); exact ⟨v, by simpa using h1, h2⟩
theorem ArsOk.nat : ∀ {vs : List V} {as : List Ar} {i : Nat} {x : PyData}, ArsOk K H R B vs as → as[i]? = some (.n x) → ∃ v, vs[i]? = some v ∧ Dn K (RN B) H v x
  | _, _, _, _, .nil, e => by simp at e
  | _, _, 0, _, .n h _, e => by simp at e; subst e; exact ⟨_, rfl, h⟩
  | _, _, 0, _, .d h _, e => by simp at e
  | _, _, i + 1, x, .d _ r, e => by obtain ⟨v, h1, h2⟩ := r.nat (i := i) (x := x) (by simpa using e); exact ⟨v, by simpa using h1, h2⟩
  | _, _, i + 1, x, .n _ r, e => by obtain ⟨v, h1, h2⟩ := r.nat (i := i) (x := x) (by simpa using e); exact ⟨v, by simpa using h1, h2⟩
theorem ArsOk.noc : ∀ {vs : List V} {as : List Ar} {i : Nat} {c : Cl}, ArsOk K H R B vs as → as[i]? ≠ some (.c c)
  | _, _, _, _, .nil, e => by simp at e
  | _, _, 0, _, .n h _, e => by simp at e
  | _, _, 0, _, .d h _, e => by simp at e
  | _, _, i + 1, x, .d _ r, e => r.noc (i := i) (c := x) (by simpa using e)
  | _, _, i + 1, x, .n _ r, e => r.noc (i := i) (c := x) (by simpa using e)
theorem ArsOk.app : ∀ {vs : List V} {as : List Ar} {ws : List V} {bs : List Ar}, ArsOk K H R B vs as → ArsOk K H R B ws bs → ArsOk K H R B (vs ++ ws) (as ++ bs)
  | _, _, _, _, .nil, b => b
  | _, _, _, _, .d h r, b => .d h (r.app b)
  | _, _, _, _, .n h r, b => .n h (r.app b)
theorem ArsOk.ofD : ∀ {vs : List V} {ds : List PyData}, DnA K R H vs ds → ArsOk K H R B vs (ds.map Ar.d)
  | _, _, .nil => .nil
  | _, _, .cons h r => .d h (ArsOk.ofD r)
theorem ArsOk.split : ∀ {v1 v2 : List V} {as : List Ar}, ArsOk K H R B (v1 ++ v2) as → ArsOk K H R B v1 (as.take v1.length) ∧ ArsOk K H R B v2 (as.drop v1.length)
  | [], v2, as, h => ⟨.nil, h⟩
  | v :: v1, v2, _, .d h r => by obtain ⟨q1, q2⟩ := ArsOk.split (v1 := v1) r; exact ⟨.d h q1, q2⟩
  | v :: v1, v2, _, .n h r => by obtain ⟨q1, q2⟩ := ArsOk.split (v1 := v1) r; exact ⟨.n h q1, q2⟩
theorem argsA {vs : List V} {as : List Ar} (h : ArsOk K H (fun a o => H a = some o ∧ a ∉ []) B vs as) (hB : ∀ a o, B a = some o → H a = some o) : ArgsU K H vs as (fun _ => []) [] B where
  len := h.length
  dat := fun i x hx => h.dat hx
  cel := fun i c hc => absurd hc h.noc
  emp := fun _ _ => rfl
  all := fun _ _ h => h
  al := fun p h => absurd h (by simp)
  dj := fun i j p h => absurd h (by simp)
  nat := fun i x hx => h.nat hx
  bok := fun a o h => ⟨hB a o h, by simp⟩
end
def rdAs (Γ : List Sl) (i : Option Nat) : List Bool → List AV → Option (List Ar)
  | _, [] => some []
  | true :: ms, .d fr x :: as => if fr || flat x then (rdAs Γ i ms as).map (.n x :: ·) else none
  | true :: _, .s _ :: _ => none
  | false :: ms, .d _ x :: as => (rdAs Γ i ms as).map (.d x :: ·)
  | false :: ms, .s j :: as => if some j = i then none else (rdW Γ j).bind fun x => (rdAs Γ i ms as).map (.d x :: ·)
  | [], .d _ x :: as => (rdAs Γ i [] as).map (.d x :: ·)
  | [], .s j :: as => if some j = i then none else (rdW Γ j).bind fun x => (rdAs Γ i [] as).map (.d x :: ·)
theorem rdAs_ok {K : PySem.W.Frag} {G : Gh} {H : Hp} {σ : St} {Γ : List Sl} {i : Option Nat} {fp : List Addr} (S : Sta K G H σ Γ) (hr : ∀ fr a o, rg G fr a o → a ∉ fp) (hs : ∀ (j : Nat) (x : PyData) (v : V), some j ≠ i → rdW Γ j = some x → σ[j]? = some (some v) → Dn K (fun a o => H a = some o ∧ a ∉ fp) H v x) :
    ∀ {ms : List Bool} {as : List AV} {ars : List Ar} {vs : List V}, rdAs Γ i ms as = some ars → AVs K G H σ vs as → ArsOk K H (fun a o => H a = some o ∧ a ∉ fp) G.N vs ars := by
  intro ms as
  have hd : ∀ {fr : Bool} {x : PyData} {v : V}, Dn K (rg G fr) H v x → Dn K (fun a o => H a = some o ∧ a ∉ fp) H v x := fun {fr x v} q => Dn.mono (fun b o z => ⟨S.w.rgl fr b o z, hr fr b o z⟩) (TupLe.rf _) q
  have hsl : ∀ {j : Nat} {x : PyData} {v : V}, ¬ some j = i → rdW Γ j = some x → σ[j]? = some (some v) → Dn K (fun a o => H a = some o ∧ a ∉ fp) H v x := fun {j x v} hj e1 q => hs j x v hj e1 q
  induction as generalizing ms with
  | nil =>
    intro ars vs h av
    cases av
    have : rdAs Γ i ms [] = some [] := by cases ms <;> rfl
    rw [this] at h
    cases h
    exact .nil
  | cons a as ih =>
    intro ars vs h av
    cases av with
    | cons q r =>
      have dd : ∀ (ms2 : List Bool) {fr : Bool} {x : PyData}, a = .d fr x → (rdAs Γ i ms2 as).map (.d x :: ·) = some ars → ArsOk K H (fun a o => H a = some o ∧ a ∉ fp) G.N (_ :: _) ars := fun ms2 {fr x} ha h2 => by
        subst ha
        cases e : rdAs Γ i ms2 as with
        | none => rw [e] at h2; cases h2
        | some xs => rw [e] at h2; cases h2; exact .d (hd q) (ih e r)
      have ss : ∀ (ms2 : List Bool) {j : Nat}, a = .s j → (if some j = i then none else (rdW Γ j).bind fun x => (rdAs Γ i ms2 as).map (.d x :: ·)) = some ars → ArsOk K H (fun a o => H a = some o ∧ a ∉ fp) G.N (_ :: _) ars := fun ms2 {j} ha h2 => by
        subst ha
        split at h2
        · cases h2
        · rename_i hj
          cases e1 : rdW Γ j with
          | none => rw [e1] at h2; cases h2
          | some x =>
            rw [e1] at h2
            have h2 : (rdAs Γ i ms2 as).map (.d x :: ·) = some ars := h2
            cases e : rdAs Γ i ms2 as with
            | none => rw [e] at h2; cases h2
            | some xs => rw [e] at h2; cases h2; exact .d (hsl hj e1 q) (ih e r)
      cases a with
      | d fr x =>
        cases ms with
        | nil => exact dd [] rfl h
        | cons b ms =>
          cases b with
          | false => exact dd ms rfl h
          | true =>
            unfold rdAs at h
            split at h
            · rename_i hc
              cases e : rdAs Γ i ms as with
              | none => rw [e] at h; cases h
              | some xs =>
                rw [e] at h
                cases h
                refine .n ?_ (ih e r)
                cases fr with
                | true => exact q
                | false => exact Dn.free q (by simpa using hc)
            · cases h
      | s j =>
        cases ms with
        | nil => exact ss [] rfl h
        | cons b ms =>
          cases b with
          | false => exact ss ms rfl h
          | true => cases h
section
variable {X : Cx} {W : WX} {sc : Scope} {N : List Str} {x : Str} {e : Expr} {es : List Expr} {p pos : Pos} {k : DA} {dvs : List V} {dds : List PyData} {m : List Ar → R (Rs × List Sl)}
theorem callM_core {Γ : List Sl} {G : Gh} {H : Hp} {σ : St} {as : List AV} {ars : List Ar} {ms : List Bool} {vs : List V} {Q : VK} (hdv : ∀ G H, DnA X.K G H dvs dds) (S : Sta X.K G H σ Γ) (av : AVs X.K G H σ vs as) (hd : rdAs Γ none ms as = some ars)
    (hp : Pst X W G H σ ((m (ars ++ dds.map Ar.d)).atX Γ) fun z G' H' => Sta X.K G' H' σ Γ → RsOk X.K G'.N H' Q z.1) : spU X.K X.mg m (vs ++ dvs) H Q (fun cls d H => W cls d σ H) := by
  have h1 : ArsOk X.K H (fun a o => H a = some o ∧ a ∉ []) G.N vs ars := rdAs_ok (i := none) (fp := []) S (fun _ _ _ _ => by simp) (fun _ _ _ _ hr hv => S.rdW hr hv) hd av
  refine ⟨_, _, _, G.N, argsA (h1.app (.ofD (hdv _ _))) (fun a o h => (S.w.new a o h).1), ?_⟩
  cases hm : m (ars ++ dds.map Ar.d) with
  | bad => rw [hm] at hp; exact hp
  | exc y =>
    rw [hm] at hp
    intro H' N' F' C d P g1 g2
    obtain ⟨G', S', e', l⟩ := call_end S (fun a o h => P.keep a o h (by simp)) P.new
    refine hp G' H' σ C d e' S' g1 ?_
    rcases g2 with ⟨a, fs, q1, q2, q3, q4⟩ | q
    · exact .inl ⟨a, fs, q1, l _ _ q2, q3, q4.mono l (TupLe.rf _)⟩
    · exact .inr q
  | val z =>
    rw [hm] at hp
    intro H' N' F' P
    obtain ⟨G', S', e', l⟩ := call_end S (fun a o h => P.keep a o h (by simp)) P.new
    have q := hp G' H' e' S'
    cases hz : z.1 with
    | d y => rw [hz] at q; exact fun v hv => q v (hv.mono l (TupLe.rf _))
    | c y => rw [hz] at q; exact fun v H2 ⟨fp, n1, n2, n3⟩ => q v H2 ⟨fp, n1, n2, Cl.mono n3 l (fun _ _ => rfl) (TupLe.rf _)⟩
def xCallM (m : List Ar → R (Rs × List Sl)) (ms : List Bool) (dds : List PyData) (k : DA) : DX := fun Γ => (k Γ).bind fun z => (R.ofO (rdAs z.2 none ms z.1)).bind fun ars => ((m (ars ++ dds.map Ar.d)).atX z.2).bind fun r => .val (r.1, z.2)
theorem cx_callM (C : Cf0 X W sc N) (ms : List Bool) (hc : Clee X x dvs (spU X.K X.mg m)) (hg : glB sc x = true) (hdv : ∀ G H, DnA X.K G H dvs dds) (ha : CA X W (e :: es) k)
    (hdb : (x == ("__debug__" : Str)) = false := by decide +kernel) (he : starEach (e :: es) X.env = (false, eval e X.env) :: starEach es X.env := by rfl) (hpl : (backTo pos (starEach es X.env)).any (·.1) = false := by rfl) : CX X W (.Call (.Name x p) (e :: es) [] pos) (xCallM m ms dds k) := fun Γ => by
  obtain ⟨k', f, fd, ps, dss, F, hr, hm, hk, hb, hd⟩ := hc
  refine pe_imp (pe_callSD (E := fun σ cls d H => W cls d σ H) F hr (C.gl hg) hm hk hb hd (fun σ => L2N.passAt C.tk σ) (ha Γ) hdb he hpl) fun σ H Q ⟨G, S, q⟩ => ⟨G, S, (Pst.bind q).imp fun z G1 H1 e1 p1 vs S1 av => ?_⟩
  obtain ⟨ars, hds, p1⟩ := Pst.ofO p1
  refine callM_core hdv S1 av hds ((Pst.bind p1).imp fun r G2 H2 e2 p2 S2 => ?_)
  cases hz : r.1 with
  | d w =>
    have p2 := p2 G2 H2 (Ext.rf S2.w)
    rw [hz] at p2
    exact fun v hv => p2 v S2 hv
  | c w =>
    have p2 := p2 G2 H2 (Ext.rf S2.w)
    rw [hz] at p2
    exact fun v H3 hn => p2 v H3 S2 hn
end
end PD
set_option Elab.async false
set_option linter.all false
set_option maxRecDepth 100000
set_option maxHeartbeats 4000000
set_option autoImplicit false
namespace PD
open PySem L2
section
variable {X : Cx} {W : WX} {sc : Scope} {N : List Str} {a b e : Expr} {pos : Pos} {f g : DF}
end
end PD
set_option Elab.async false
set_option linter.all false
set_option maxRecDepth 100000
set_option maxHeartbeats 4000000
set_option autoImplicit false
namespace PD
open PySem L2
section
variable {X : Cx} {W : WX} {sc : Scope} {N : List Str} {pos : Pos}
end
end PD
set_option Elab.async false
set_option linter.all false
set_option maxRecDepth 100000
set_option maxHeartbeats 4000000
set_option autoImplicit false
namespace PD
open PySem PySem.Spec L2
open PyProof.Rows (AllBare)
def XO (cls : Value) (d : Option Addr) (a : Addr) : HO := .ext fun h => ∃ (oe : Obj) (vs : Array Value), h.get? a = some oe ∧ Zc cls d oe ∧ oe.data = .fields vs ∧ vs[2]? = some .none
theorem xo_ok {P : Program} {w : World} {H : Hp} {h : Heap} {a : Addr} {cls : Value} {d : Option Addr} {oe : Obj} {vs : Array Value} (e : h.get? a = some oe) (z : Zc cls d oe) (q : oe.data = .fields vs) (qn : vs[2]? = some .none) : ObjOk P w H h a (XO cls d a) := by
  refine ⟨⟨oe, vs, e, z, q, qn⟩, ⟨oe, e⟩, ?_⟩
  rintro h1 h2 ⟨o, v, y, r⟩ k
  exact ⟨o, v, k o y, r⟩
section
variable {X : Cx} {pins : List (Addr × Obj)} {σ : St} {H : Hp} {sI s' : Shared} {B : Heap}
theorem landX (J : Inv X pins σ H sI) (nb : ∀ b o, sI.heap.get? b = some o → b ∉ frs X.stack → B.get? b = some o) (st : B.StaysIn s'.heap) (up : sI.heap.UpToSlots s'.heap) (eo : s'.os = sI.os) (ag : AllBare s'.gens)
    {a : Addr} {oe : Obj} {vs : Array Value} {cls : Value} {d : Option Addr} (ea : s'.heap.get? a = some oe) (ez : Zc cls d oe) (ed : oe.data = .fields vs) (en : vs[2]? = some .none) (na : H a = none) (ns : sI.heap.get? a = none) :
    Inv X pins σ (upd H a (XO cls d a)) s' := by
  have fr : ∀ b ∈ frs X.stack, ∀ o, sI.heap.get? b = some o → ∃ sl, s'.heap.get? b = some { o with slots := sl } := by
    intro b hb o e
    obtain ⟨L, o2, e2, nf⟩ := J.stack.mem hb
    rw [e] at e2
    cases e2
    exact up b o e nf
  have ne : ∀ {b : Addr} {o : Obj}, sI.heap.get? b = some o → b ≠ a := fun {b o} e z => by
    rw [z, ns] at e
    cases e
  have un : Un (frs X.stack) [] H (upd H a (XO cls d a)) sI.heap s'.heap := {
    keep := fun b o e n hb hx => st b o (nb b o e hb)
    slot := fun b o e n hb hx => fr b hb o e
    free := fun b o e n hx => (upd_ne (ne e)).trans n
    there := fun b o e hx => by
      by_cases hb : b ∈ frs X.stack
      · exact (fr b hb o e).elim fun sl q => ⟨_, q⟩
      · exact ⟨o, st b o (nb b o e hb)⟩
    tups := fun b xs e => (upd_ne (ne_of_none e na)).trans e
    frzs := fun b o u e => (upd_ne (ne_of_none e na)).trans e
    tbls := fun b ps e => ⟨#[], by rw [upd_ne (ne_of_none e na), e]; simp⟩ }
  exact J.call' eo un (HOk.laidN (J.inGround nb) st na (xo_ok ea ez ed en)) ag fun b z => absurd z (by simp)
theorem suite0 (I : Inv X pins σ H s') (a : Addr) : Inv (X.suite a (X.pn ++ pins)) [] σ H s' := by
  refine ⟨I.ok.suite _ _, I.os, I.bare, I.base, I.loc, I.cell, I.free, I.freeC, fun p hp => I.pin p ?_, I.hok, I.len⟩
  have hp : p ∈ (X.pn ++ pins) ++ [] := hp
  rwa [List.append_nil] at hp
theorem unsuite0 {a : Addr} {qs : List (Addr × Obj)} (I : Inv (X.suite a (X.pn ++ pins)) qs σ H s') (ok : X.Ok) : Inv X pins σ H s' := by
  refine ⟨ok, I.os, I.bare, I.base, I.loc, I.cell, I.free, I.freeC, fun p hp => I.pin p ?_, I.hok, I.len⟩
  exact List.mem_append_left _ hp
end
def wV (K : PySem.W.Frag) (c : Value) (i : Nat) (ts : Addr → TS) (Wout : WX) (D : Ends) : WX := fun cls d σ H =>
  ∃ b, PySem.W.exmOne K cls c = some b ∧
    (b = true → ∀ a, H a = none → ts a { nx := fun σ1 H1 => D.nx (σ1.set i none) H1, rt := D.rt, bk := fun σ1 H1 => D.bk (σ1.set i none) H1, ct := fun σ1 H1 => D.ct (σ1.set i none) H1 } (σ.set i (some (.ref a))) (upd H a (XO cls d a))) ∧
    (b = false → Wout cls d σ H)
section
variable {X : Cx} {x n : Str} {c : Value} {i : Nat} {body suite : List Stmt} {b0 : Stmt} {np pos pos2 : Pos} {tb : WX → TS} {ts : Addr → TS} {Wout : WX}
theorem ps_try_v (hs : X.stack = X.env :: X.outer) (hf : X.env.frame = some X.env.locals) (hN : X.N.Nodup) (hi : X.N[i]? = some n) (hln : X.env.kindOf n = some .local) (hc : Names X x c) (tk : L2N.Takes X Wout)
    (hb : ∀ (W : WX) (pn : List (Addr × Obj)) (xe : Value → Shared → Prop), L2N.Takes (X.tr pn xe) W → PassesOwn (model X.prog X.w) X.A X.env xe → PSs (X.tr pn xe) body (tb W))
    (hsu : ∀ (a : Addr) (pn : List (Addr × Obj)), PSs (X.suite a pn) (b0 :: suite) (ts a)) :
    PS X (.Try body [.ExceptHandler (some (.Name x np)) (some n) (b0 :: suite) pos2] [] [] pos) (fun D σ H => tb (wV X.K c i ts Wout D) D σ H) := by
  refine ⟨fun pins s σ H D I h => ?_⟩
  have ok := I.ok
  let hd : List ExceptHandler := [.ExceptHandler (some (.Name x np)) (some n) (b0 :: suite) pos2]
  let xe : Value → Shared → Prop := fun e s1 => wpAny (model X.prog X.w) X.A (noteFrame e X.env) (fun _ s2 => wpAny (model X.prog X.w) X.A (setFlight e none) (fun _ s3 =>
    wpAny (model X.prog X.w) X.A (handleBy e X.env hd) (SP X pins D) X.xe s3) X.xe s2) X.xe s1
  have catch_ : L2N.Takes (X.tr (X.pn ++ pins) xe) (wV X.K c i ts Wout D) := by
    rintro u s1 ⟨a, B, sI, pins', σ', H', cls, d, rfl, J', nb, up, sky, na, eo, ag, b, hb1, hyes, hno⟩
    have J : Inv X pins σ' H' sI := J'.ofTry ok
    have sky2 : Sky B (X.env :: X.outer) a (L2N.Zn cls d) X.env.locals s1.heap := by
      rw [← hs]
      exact sky
    have hfr : X.A.frames = some (X.env :: X.outer) := by rw [ok.frames, hs]
    have na0 : B.get? a = none := by
      rcases sky2 with z | z | z
      · exact z.2.1
      · exact z.2.1
      · exact z.2.1
    show wpAny (model X.prog X.w) X.A (noteFrame (.ref a) X.env) _ _ _
    refine L2N.Sky.land L2N.Zn.steady hfr hf sky2 fun g1 fl1 up1 => ?_
    obtain ⟨o1, v1, e1, z1, d1⟩ := fl1.there
    have ns : sI.heap.get? a = none := by
      cases q : sI.heap.get? a with
      | none => rfl
      | some o =>
        by_cases hm : a ∈ frs X.stack
        · obtain ⟨L, o2, e2, nf⟩ := J.stack.mem hm
          obtain ⟨sl, e3⟩ := (up.trans up1) a o2 e2 nf
          have e4 : some o1 = some { o2 with slots := sl } := e1.symm.trans e3
          cases e4
          exact absurd d1 (nf v1)
        · have := nb a o q hm
          rw [na0] at this
          cases this
    have J1 : Inv X pins σ' (upd H' a (XO cls d a)) { s1 with heap := g1 } := landX (s' := { s1 with heap := g1 }) J nb fl1.1 (up.trans up1) eo ag e1 z1.zc d1 (z1.2.2 v1 d1) na ns
    refine wpAny_handleBy_cons (codeAny_handlers_test ?_) (by intro q; cases q)
    have LT : PySem.W.Looks (model X.prog X.w) g1 (typeOf (.ref a)) cls := fun A Q E s k q => wpAny_typeOf_ref (k _ _ e1) (by rw [z1.1]; exact q)
    have LM := PySem.W.exm_one (M := model X.prog X.w) J1.kIn LT hb1
    have test : ∀ {Q : Value → Shared → Prop} {E : Value → Shared → Prop}, Q c { s1 with heap := g1 } → wpAny (model X.prog X.w) (X.A.mark (some (.ref a))) (eval (.Name x np) X.env) Q E { s1 with heap := g1 } := by
      intro Q E q
      obtain ⟨hg, hdb, hm | ⟨hm, hv, hnn⟩⟩ := hc
      · exact ld_glob (suite0 J1 a) hg hm q hdb
      · exact ld_blt (suite0 J1 a) hg hm hv q hnn hdb
    refine test (LM.here ?_)
    cases b with
    | true =>
      refine codeAny_handlers_suite_as (HandSPX.lands_againZ fl1 fun g2 fl2 up2 => ?_)
      obtain ⟨o2, v2, e2, z2, d2⟩ := fl2.there
      have J2 : Inv X pins σ' (upd H' a (XO cls d a)) { s1 with heap := g2 } := landX (s' := { s1 with heap := g2 }) J nb fl2.1 ((up.trans up1).trans up2) eo ag e2 z2.zc d2 (z2.2.2 v2 d2) na ns
      refine store_ok (X := X.suite a (X.pn ++ pins)) (v := .ref a) (suite0 J2 a) hN hi (.inl hln) rfl (fun s2 S2 => ?_) (.inr hln)
      refine wpAny_mono ((hsu a (X.pn ++ pins)).run [] s2 _ _ _ S2 (hyes rfl a na)) (fun f s3 hsp => ?_) (fun _ _ z => False.elim z)
      have fin : ∀ {σ3 : St} {H3 : Hp} {Q : Shared → Prop}, Inv (X.suite a (X.pn ++ pins)) [] σ3 H3 s3 → (∀ s4, Inv X pins (σ3.set i none) H3 s4 → Q s4) → wpAny (model X.prog X.w) X.A (do bindName X.env n .none; unbindBehindTheSuite X.env n pos2) (fun _ s4 => Q s4) X.xe s3 :=
        fun {σ3 H3 Q} S3 hq => gone_ok (unsuite0 S3 ok) hN hi hln hq
      cases f with
      | next =>
        obtain ⟨σ3, H3, S3, q3⟩ := hsp
        exact fin S3 fun s4 J4 => ⟨_, _, J4, q3⟩
      | brk =>
        obtain ⟨σ3, H3, S3, q3⟩ := hsp
        exact fin S3 fun s4 J4 => ⟨_, _, J4, q3⟩
      | cont =>
        obtain ⟨σ3, H3, S3, q3⟩ := hsp
        exact fin S3 fun s4 J4 => ⟨_, _, J4, q3⟩
      | ret u =>
        obtain ⟨v3, σ3, H3, S3, r3, q3⟩ := hsp
        exact fin S3 fun s4 J4 => ⟨_, _, _, J4, r3, q3⟩
    | false =>
      show wpAny _ X.A (handleBy (.ref a) X.env []) _ _ _
      refine wpAny_handleBy_nil ?_
      obtain ⟨k1, k2, k3, oe, vs, T, oT, us, he, hz, hd, h1, hr⟩ := id fl1
      unfold PySem.passOn
      refine wpAny_bind (wpAny_field he hd h1 ?_)
      rw [if_neg (show ¬ ((Value.ref T == Value.none) = true) from by simp)]
      have out : wpAny (model X.prog X.w) X.A (setFlight (.ref a) X.env.frame) (fun _ s4 => wpAny (model X.prog X.w) X.A (throw (.ref a) : Sem Flow) (SP X pins D) X.xe s4) X.xe { s1 with heap := g1 } := by
        rw [hf]
        refine HandSPX.setFlight_upZ fl1 fun g4 hh4 up4 => wpAny_throw (tk _ _ ?_)
        exact ⟨a, B, sI, pins, σ', H', cls, d, rfl, J, nb, (up.trans up1).trans up4, .inr (.inr (by rw [hs]; exact hh4)), na, eo, ag, hno rfl⟩
      first
        | exact wpAny_bind (wpAny_pure (wpAny_bind out))
        | exact wpAny_bind out
  refine wpAny_Try_except (wpAny_mono ((hb _ (X.pn ++ pins) xe catch_ PassesOwn.looking).run [] s σ H D (I.toTry _) h) (fun f s1 hsp => ?_) fun e s1 he => he)
  cases f with
  | next =>
    obtain ⟨σ1, H1, J1, q⟩ := hsp
    exact wpAny_execs_nil ⟨σ1, H1, J1.ofTry ok, q⟩
  | brk =>
    obtain ⟨σ1, H1, J1, q⟩ := hsp
    exact ⟨σ1, H1, J1.ofTry ok, q⟩
  | cont =>
    obtain ⟨σ1, H1, J1, q⟩ := hsp
    exact ⟨σ1, H1, J1.ofTry ok, q⟩
  | ret u =>
    obtain ⟨v, σ1, H1, J1, r, q⟩ := hsp
    exact ⟨v, σ1, H1, J1.ofTry ok, r, q⟩
end
end PD
set_option Elab.async false
set_option linter.all false
set_option maxRecDepth 100000
set_option maxHeartbeats 4000000
set_option autoImplicit false
namespace PD
open PySem PySem.Spec L2
open PyProof.Rows (AllBare)
structure XF (K : PySem.W.Frag) (C : Addr) : Prop where
  cl : (PySem.W.clsIn K C).isSome = true
  ga : PySem.W.findIn K (.ref C) "__getattribute__" = some (some (.builtin "BaseException.__getattribute__"))
  gt : PySem.W.findIn K (.ref C) "__getattr__" = some none
  sb : PySem.W.subIn K (.ref C) (.type "BaseException") = some true
  hd : PySem.W.hasDictIn K C = true
  ca : PySem.W.findIn K (.ref C) "__class__" = some (some (.builtin "object.__class__"))
  gn : PySem.W.specialIn K (.builtin "object.__class__") "__get__" = some (some (.builtin "getset_descriptor.__get__"))
  tk : PySem.W.takesIn K (.builtin "object.__class__") = some true
  mo : PySem.W.mroIn K C (.type "object") = some true
  ty : PySem.W.typeIn K (.ref C) = some (.type "type")
theorem xfb_ok {K : PySem.W.Frag} {c : Str} (h : xfb K c = true) : XF K (He.ga K c) := by
  unfold xfb at h
  simp only [Bool.and_eq_true] at h
  obtain ⟨h1, h2, h3, h4, h5, h6, h7, h8, h9, h10⟩ := h
  exact ⟨h1, of_decide_eq_true h2, of_decide_eq_true h3, of_decide_eq_true h4, h5, of_decide_eq_true h6, of_decide_eq_true h7, of_decide_eq_true h8, of_decide_eq_true h9, of_decide_eq_true h10⟩
def clW (K : PySem.W.Frag) (d : Str) : V := if d = "ValueError" then .ty "ValueError" else .ref (He.ga K d)
theorem cl_cls (K : PySem.W.Frag) (d : Str) : ClsV (clW K d) (clU K d) := by
  unfold clW clU
  split
  · exact .ty _
  · exact .own _
structure XAll (K : PySem.W.Frag) (mg : Str → Option Value) (xs ds hs fs : List Str) : Prop where
  mgc : ∀ c ∈ xs, mg c = some (.ref (He.ga K c))
  mgd : ∀ d ∈ ds, d ≠ "ValueError" → mg d = some (.ref (He.ga K d))
  mgh : ∀ d ∈ hs, mg d = some (.ref (He.ga K d))
  xf : ∀ c ∈ xs, XF K (He.ga K c)
  kn : ∀ d ∈ ds, PySem.W.kitOne K (.type "NoneType") (clU K d) = some false
  kit : ∀ d ∈ ds, ∀ c ∈ xs, PySem.W.kitOne K (.ref (He.ga K c)) (clU K d) = some (exIs c d)
  exm : ∀ d ∈ hs, ∀ c ∈ xs, PySem.W.exmOne K (.ref (He.ga K c)) (.ref (He.ga K d)) = some (exIs c d)
  fld : ∀ c ∈ xs, ∀ f ∈ fs, PySem.W.findIn K (.ref (He.ga K c)) f = some none
theorem xall_ok {K : PySem.W.Frag} {mg : Str → Option Value} {xs ds hs fs : List Str} (h : xallB K xs ds hs fs = true) (m1 : ∀ c ∈ xs, mg c = some (.ref (He.ga K c))) (m2 : ∀ d ∈ ds, d ≠ "ValueError" → mg d = some (.ref (He.ga K d)))
    (m3 : ∀ d ∈ hs, mg d = some (.ref (He.ga K d))) : XAll K mg xs ds hs fs := by
  unfold xallB at h
  simp only [Bool.and_eq_true, List.all_eq_true] at h
  obtain ⟨h1, h2, h3, h4⟩ := h
  refine ⟨m1, m2, m3, fun c hc => xfb_ok (h1 c hc), fun d hd => ?_, fun d hd c hc => ?_, fun d hd c hc => ?_, fun c hc f hf => of_decide_eq_true (h4 c hc f hf)⟩
  · have := h2 d hd
    unfold kitF at this
    exact of_decide_eq_true (Bool.and_eq_true_iff.mp this).1
  · have := h2 d hd
    unfold kitF at this
    exact of_decide_eq_true (List.all_eq_true.mp (Bool.and_eq_true_iff.mp this).2 c hc)
  · have := h3 d hd
    unfold exmF at this
    exact of_decide_eq_true (List.all_eq_true.mp this c hc)
def TyY (K : PySem.W.Frag) (H : Hp) (v : V) (t : Value) : Prop :=
  TyX K H v t ∨ ∃ (a : Addr) (c : Str) (d : Option Addr), v = .ref a ∧ H a = some (XvO K c d a) ∧ (∀ e, d = some e → ∃ fs, H e = some (.xd fs)) ∧ XF K (He.ga K c) ∧ t = .ref (He.ga K c)
section
variable {X : Cx} {pins : List (Addr × Obj)} {σ : St} {H : Hp} {s : Shared}
theorem xvo_inst {a : Addr} {c : Str} {d : Option Addr} (I : Inv X pins σ H s) (h : H a = some (XvO X.K c d a)) (hd : ∀ e, d = some e → ∃ fs, H e = some (.xd fs)) : ∃ oe od, PySem.W.InstAt s.heap a oe (He.ga X.K c) od := by
  obtain ⟨⟨oe, vs, g, z, q, _⟩, _⟩ := (show ObjOk X.prog X.w H s.heap a (XvO X.K c d a) from I.hok a _ h)
  have nc : PySem.W.notCls oe = true := by
    unfold PySem.W.notCls
    rw [q] <;> rfl
  cases d with
  | none => exact ⟨oe, none, g, z.1, nc, by rw [z.2]; trivial⟩
  | some e =>
    obtain ⟨fs, hf⟩ := hd e rfl
    obtain ⟨mA, hns, hr⟩ := (show ObjOk X.prog X.w H s.heap e (.xd fs) from I.hok e _ hf)
    obtain ⟨od, ho, hl⟩ := lookIn_ns hns
    exact ⟨oe, some od, g, z.1, nc, by rw [z.2]; exact ho⟩
theorem kit_y {x : V} {u t : Value} (I : Inv X pins σ H s) (rx : RelV x u) (ty : TyY X.K H x t) : ∃ P : Heap → Prop, PySem.W.KitX X.K u t P ∧ P s.heap ∧ u ≠ .builtin "__main__.__loader__#opaque" := by
  rcases ty with ty | ⟨a, c, d, rfl, h, hd, F, rfl⟩
  · exact kit_of I rx ty
  · cases (show u = Value.ref a from rx)
    obtain ⟨oe, od, J⟩ := xvo_inst I h hd
    exact ⟨_, PySem.W.kitx_exc (x := a) (ox := oe) (od := od) F.cl F.ga F.gt F.sb F.ca F.gn F.tk F.mo, J, fun z => nomatch z⟩
end
def rIsiY (K : PySem.W.Frag) : List V → Hp → VK → Prop := fun xs H Q => ∃ (x c : V) (t u : Value) (b : Bool), xs = [x, c] ∧ ClsV c u ∧ TyY K H x t ∧ PySem.W.kitOne K t u = some b ∧ Q (.bl b) H
theorem vals_two {x c : V} {us : List Value} (r : Vals [x, c] us) : ∃ u1 u2, us = [u1, u2] ∧ RelV x u1 ∧ RelV c u2 := by
  cases r with
  | cons a r =>
    cases r with
    | cons b r =>
      cases r
      exact ⟨_, _, rfl, a, b⟩
theorem call_isiY {X : Cx} : CallR X (.builtin "isinstance") (rIsiY X.K) := by
  rintro pins s σ H xs us Q I r ⟨x, c, t, u, b, rfl, k, ty, e, q⟩
  obtain ⟨u1, u2, rfl, r1, r2⟩ := vals_two r
  cases k.eq r2
  obtain ⟨P, Z, p, hx⟩ := kit_y I r1 ty
  exact PySem.W.kia_one Z I.kIn p e hx fun tk => ⟨.bl b, H, I.tok tk, rfl, q⟩
def dIsx (xs Ds : List Str) (f : DF) : DF := fun Γ => (f Γ).bind fun x => match x.1 with
  | .d _ .none => .val (.d true (.bool false), x.2)
  | .d _ (.dict ((.none, .str c) :: _)) => gq (xs.contains c) (.d true (.bool (Ds.any (exIs c))), x.2)
  | _ => .bad
theorem dn_xc {K : PySem.W.Frag} {G : Rg} {H : Hp} {v : V} {c : Str} {kvs : List (PyData × PyData)} (h : Dn K G H v (.dict ((.none, .str c) :: kvs))) :
    ∃ a d, v = .ref a ∧ G a (XvO K c d a) ∧ ((d = none ∧ kvs = []) ∨ ∃ (dd : Addr) (fs : List (Str × V)) (flds : List (Str × PyData)), d = some dd ∧ G dd (.xd fs) ∧ kvs = flds.map (fun z : Str × PyData => (PyData.str z.1, z.2)) ∧ fs.map (·.1) = flds.map (·.1) ∧ DnA K G H (fs.map (·.2)) (flds.map (·.2))) := by
  cases h with
  | @dct a o t vs _ g ho ha =>
    exfalso
    cases t with
    | k =>
      obtain ⟨ks, _, h1, _⟩ := ho
      cases ks with
      | nil => cases h1
      | cons z r =>
        have h1 : PyData.none = keyD z.1 := (List.cons.inj h1).1
        cases hz : z.1 <;> rw [hz] at h1 <;> cases h1
    | t =>
      obtain ⟨ks, _, h1, _⟩ := ho
      cases ks with
      | nil => cases h1
      | cons z r =>
        have h1 := (List.cons.inj h1).1
        cases h1
    | n =>
      obtain ⟨rs, _, _, _, _, _, hv⟩ := ho
      subst hv
      have ha : DnA K G H (encV rs) (PyData.str c :: kvs.map (·.2)) := ha
      cases ha with
      | cons h1 _ => cases h1
  | exc g1 g2 e a => exact ⟨_, _, rfl, g1, .inr ⟨_, _, _, rfl, g2, rfl, e, a⟩⟩
  | exc0 g => exact ⟨_, _, rfl, g, .inl ⟨rfl, rfl⟩⟩
theorem dn_tyy {K : PySem.W.Frag} {H : Hp} {v : V} {c : Str} {kvs : List (PyData × PyData)} (h : Dn K (RgH H) H v (.dict ((.none, .str c) :: kvs))) (F : XF K (He.ga K c)) : TyY K H v (.ref (He.ga K c)) := by
  obtain ⟨a, d, rfl, g, q⟩ := dn_xc h
  refine .inr ⟨a, c, d, rfl, g, fun e he => ?_, F, rfl⟩
  rcases q with ⟨q, _⟩ | ⟨dd, fs, _, q, g2, _⟩
  · rw [q] at he
    cases he
  · rw [q] at he
    cases he
    exact ⟨fs, g2⟩
section
variable {X : Cx} {W : WX} {sc : Scope} {N : List Str} {xs ds hs fs : List Str} {e : Expr} {p p2 p3 pos : Pos} {f : DF}
theorem pe_cls (C : Cf0 X W sc N) (F : XAll X.K X.mg xs ds hs fs) {D : Str} (hD : D ∈ ds) (hg : glB sc D = true) (hm : D = "ValueError" → X.mg D = none) (hdb : (D == ("__debug__" : Str)) = false := by decide +kernel) : PE X (.Name D p) (tC (clW X.K D)) := by
  by_cases h : D = "ValueError"
  · subst h
    have hv : bootBuiltins "ValueError" = some (.type "ValueError") := PyProof.Rows.Boot.«ValueError»
    exact pe_bltn (C.gl hg) (hm rfl) hv rfl (by decide +kernel) (by decide +kernel)
  · have e1 : clW X.K D = .ref (He.ga X.K D) := if_neg h
    rw [e1]
    exact pe_glob (C.gl hg) (F.mgd D hD h) rfl hdb
theorem ce_isx (C : Cf0 X W sc N) (F : XAll X.K X.mg xs ds hs fs) (D : Str) (hg : glB sc "isinstance" = true) (hm : X.mg "isinstance" = none) (hD : D ∈ ds) (hgD : glB sc D = true) (hmD : D = "ValueError" → X.mg D = none) (ha : CE X W e f)
    (hdD : (D == ("__debug__" : Str)) = false := by decide +kernel) (hst : starEach [e, .Name D p2] X.env = (false, eval e X.env) :: starEach [.Name D p2] X.env := by rfl) (hst2 : starEach [.Name D p2] X.env = (false, eval (.Name D p2) X.env) :: starEach [] X.env := by rfl) :
    CE X W (.Call (.Name "isinstance" p) [e, .Name D p2] [] pos) (dIsx xs [D] f) := fun Γ => by
  have hT : PE X (.Name D p2) (tC (clW X.K D)) := pe_cls C F hD hgD hmD hdD
  refine pe_imp (pe_callB call_isiY (C.gl hg) hm PyProof.Rows.boot_isinstance (pa_cons (ha Γ) (pa_cons hT pa_nil hst2) hst) (by decide +kernel) (by decide +kernel) hst (by rw [hst2]; rfl)) fun σ H Q ⟨G, S, q⟩ => ⟨G, S, (Pst.bind q).imp fun x G1 H1 e1 p1 v S1 hv => ?_⟩
  split at p1
  · rename_i fr hx
    rw [hx] at hv
    cases dn_none hv
    refine ⟨.non, clW X.K D, .type "NoneType", clU X.K D, false, rfl, cl_cls _ _, .inl (.base .non), F.kn D hD, ?_⟩
    exact p1 G1 H1 (Ext.rf S1.w) (.bl false) S1 (.bl _)
  · rename_i fr c kvs hx
    rw [hx] at hv
    obtain ⟨hc, p1⟩ := Pst.gq S1.w p1
    have hc : c ∈ xs := by simpa using hc
    have hv : Dn X.K (RgH H1) H1 v (.dict ((.none, .str c) :: kvs)) := S1.w.dn hv
    refine ⟨v, clW X.K D, .ref (He.ga X.K c), clU X.K D, exIs c D, rfl, cl_cls _ _, dn_tyy hv (F.xf c hc), F.kit D hD c hc, ?_⟩
    refine p1 (.bl (exIs c D)) S1 ?_
    show Dn _ _ _ _ (.bool (exIs c D || false))
    rw [Bool.or_false]
    exact .bl _
  · exact p1.elim
inductive ClNs (X : Cx) (sc : Scope) (ds : List Str) : List Expr → List Str → Prop
  | nil : ClNs X sc ds [] []
  | cons {D : Str} {p : Pos} {es : List Expr} {Ds : List Str} : D ∈ ds → glB sc D = true → (D = "ValueError" → X.mg D = none) → (D == ("__debug__" : Str)) = false → starEach (.Name D p :: es) X.env = (false, eval (.Name D p) X.env) :: starEach es X.env → ClNs X sc ds es Ds → ClNs X sc ds (.Name D p :: es) (D :: Ds)
theorem ClNs.mem {es : List Expr} {Ds : List Str} (h : ClNs X sc ds es Ds) : ∀ d ∈ Ds, d ∈ ds := by
  induction h with
  | nil => intro d hd; cases hd
  | cons h1 _ _ _ _ _ ih =>
    intro d hd
    rcases List.mem_cons.mp hd with z | z
    · rw [z]; exact h1
    · exact ih d z
def fldA (f : Str) : List (PyData × PyData) → Option PyData
  | (.str x, d) :: r => if x = f then some d else fldA f r
  | _ => none
def dAtt (xs : List Str) (n : Str) (f : DF) : DF := fun Γ => (f Γ).bind fun x => match x.1 with
  | .d fr (.dict ((.none, .str c) :: kvs)) => (R.req (xs.contains c)).bind fun _ => (R.ofO (fldA n kvs)).bind fun d => .val (.d fr d, x.2)
  | _ => .bad
theorem fldA_ok {K : PySem.W.Frag} {G : Rg} {H : Hp} {n : Str} {d : PyData} : ∀ {fl : List (Str × V)} {flds : List (Str × PyData)}, fl.map (·.1) = flds.map (·.1) → DnA K G H (fl.map (·.2)) (flds.map (·.2)) →
    fldA n (flds.map fun z => (PyData.str z.1, z.2)) = some d → ∃ v, fl.lookup n = some v ∧ Dn K G H v d
  | [], [], _, _, h => by cases h
  | [], _ :: _, e, _, _ => by cases e
  | _ :: _, [], e, _, _ => by cases e
  | (x, v) :: fl, (y, z) :: flds, e, a, h => by
    have e1 : x = y := (List.cons.inj e).1
    have e2 := (List.cons.inj e).2
    subst e1
    cases a with
    | cons a1 a2 =>
      have h : (if x = n then some z else fldA n (flds.map fun z => (PyData.str z.1, z.2))) = some d := h
      by_cases q : x = n
      · rw [if_pos q] at h
        cases h
        subst q
        exact ⟨v, by simp [List.lookup], a1⟩
      · rw [if_neg q] at h
        obtain ⟨w, h1, h2⟩ := fldA_ok e2 a2 h
        refine ⟨w, ?_, h2⟩
        have : (n == x) = false := by simpa using Ne.symm q
        simp only [List.lookup, this]
        exact h1
theorem ce_att (C : Cf0 X W sc N) (F : XAll X.K X.mg xs ds hs fs) {n : Str} (hn : n ∈ fs) (ha : CE X W e f) (hb : attributeBase e n X.env (eval e X.env) = eval e X.env := by rfl) : CE X W (.Attribute e n pos) (dAtt xs n f) := fun Γ => by
  refine ⟨fun pins s σ H Q I ⟨G, S, q⟩ => ?_⟩
  let k : AV × List Sl → R (AV × List Sl) := fun x => match x.1 with
    | .d fr (.dict ((.none, .str c) :: kvs)) => (R.req (xs.contains c)).bind fun _ => (R.ofO (fldA n kvs)).bind fun d => .val (.d fr d, x.2)
    | _ => .bad
  refine attr_of hb (thn ((ha Γ).run pins s σ H (fun v H1 => ∃ G1 x, Sta X.K G1 H1 σ x.2 ∧ AVok X.K G1 H1 σ v x.1 ∧ Pk X W G1 H1 σ (k x) Q) I ⟨G, S, (Pst.bind (k := k) q).imp fun x G1 H1 e1 p1 v S1 hv => ⟨G1, x, S1, hv, p1⟩⟩) fun u s1 hh => ?_)
  · obtain ⟨v, H1, I1, rv, G1, x, S1, hv, p1⟩ := hh
    unfold Pk at p1
    dsimp only [k] at p1
    split at p1
    · rename_i fr c kvs hx
      rw [hx] at hv
      obtain ⟨hc, p1⟩ := Pst.req p1
      obtain ⟨d, hd, p9⟩ := Pst.ofO p1
      clear p1
      have hc : c ∈ xs := by simpa using hc
      obtain ⟨a, od, rfl, g, h⟩ := dn_xc hv
      obtain rfl : u = Value.ref a := rv
      rcases h with ⟨_, hk⟩ | ⟨dd, fl, flds, rfl, g2, rfl, en, da⟩
      · rw [hk] at hd
        cases hd
      · obtain ⟨w, hw, dw⟩ := fldA_ok en da hd
        have T := F.xf c hc
        obtain ⟨⟨oe, vs, hget, z, hq, _⟩, _⟩ := (show ObjOk X.prog X.w H1 s1.heap a (XvO X.K c (some dd) a) from I1.hok a _ (S1.w.rgl fr _ _ g))
        obtain ⟨mA, hns, hr⟩ := (show ObjOk X.prog X.w H1 s1.heap dd (.xd fl) from I1.hok dd _ (S1.w.rgl fr _ _ g2))
        obtain ⟨o2, ho, hl⟩ := lookIn_ns hns
        obtain ⟨u2, hu, ru⟩ := RelO.some_of (v := w) (o := mA n) (by rw [← hw]; exact hr n)
        have J : PySem.W.InstAt s1.heap a oe (He.ga X.K c) (some o2) := ⟨hget, z.1, by unfold PySem.W.notCls; rw [hq] <;> rfl, by rw [z.2]; exact ho⟩
        exact HandSPX.exc_get I1.kIn J T.ga T.gt T.sb (PySem.W.findObj_own T.hd (F.fld c hc n hn) rfl (by rw [hl, hu])) (handed_of ru) ⟨w, H1, I1.tok _, ru, p9 G1 H1 (Ext.rf S1.w) w S1 dw⟩
    · exact p1.elim
end
end PD
set_option Elab.async false
set_option linter.all false
set_option maxRecDepth 100000
set_option maxHeartbeats 4000000
set_option autoImplicit false
namespace PD
open PySem PySem.Spec L2
open PyProof.Rows (AllBare)
def bTry (xs : List Str) (i : Nat) (D : Str) (b s : DS) : DS := fun Γ => match b Γ with
  | .exc x => if xs.contains x.cls then (if exIs x.cls D then (match s (x.st.set i (.dat true (xcD x.cls x.flds))) with
      | .val z => .val (z.1, z.2.set i .un)
      | _ => .bad) else .exc x) else .bad
  | r => r
section
variable {X : Cx} {W : WX} {sc : Scope} {N : List Str} {xs ds hs fs : List Str} {b s : DS} {body suite : List Stmt} {b0 : Stmt} {np pos pos2 : Pos}
theorem dn_xo {K : PySem.W.Frag} {G : Rg} {H : Hp} {a : Addr} {c : Str} {d : Option Addr} {flds : List (Str × PyData)} (g : G a (XvO K c d a)) (h : XdOk K G H d flds) : Dn K G H (.ref a) (xcD c flds) := by
  rcases h with ⟨dd, fl, rfl, g2, e1, e2⟩ | ⟨rfl, rfl⟩
  · exact .exc g g2 e1 e2
  · exact .exc0 g
theorem XdOk.mono {K : PySem.W.Frag} {G G' : Rg} {H H' : Hp} {d : Option Addr} {flds : List (Str × PyData)} (h : XdOk K G H d flds) (g : RgLe G G') (t : TupLe H H') : XdOk K G' H' d flds := by
  rcases h with ⟨dd, fl, rfl, g2, e1, e2⟩ | ⟨rfl, rfl⟩
  · exact .inl ⟨dd, fl, rfl, g _ _ g2, e1, e2.mono g t⟩
  · exact .inr ⟨rfl, rfl⟩
theorem c1_try (C : Cf X W sc N) (F : XAll X.K X.mg xs ds hs fs) (i : Nat) {x n : Str} (hst : X.stack = X.env :: X.outer) (hfr : X.env.frame = some X.env.locals) (hi : N[i]? = some n) (hln : lclB sc n = true) (hD : x ∈ hs) (hg : glB sc x = true)
    (hb : ∀ (pn : List (Addr × Obj)) (xe : Value → Shared → Prop) (W' : WX), Cf (X.tr pn xe) W' sc N → CS (X.tr pn xe) W' body b) (hsu : ∀ (a : Addr) (pn : List (Addr × Obj)), Cf0 (X.suite a pn) WF sc N → CS (X.suite a pn) WF (b0 :: suite) s)
    (hdb : (x == ("__debug__" : Str)) = false := by decide +kernel) :
    C1 X W (.Try body [.ExceptHandler (some (.Name x np)) (some n) (b0 :: suite) pos2] [] [] pos) (bTry xs i x b s) := fun Γ => by
  have hk : X.env.kindOf n = some .local := by
    show X.env.scope.names.lookup n = some .local
    rw [C.hsc]
    unfold lclB at hln
    split at hln
    · assumption
    · cases hln
  have cf1 : ∀ (pn : List (Addr × Obj)) (xe : Value → Shared → Prop) (W' : WX), L2N.Takes (X.tr pn xe) W' → PassesOwn (model X.prog X.w) X.A X.env xe → Cf (X.tr pn xe) W' sc N :=
    fun pn xe W' tk ps => ⟨⟨C.hsc, C.hN, C.nd, tk, C.hu, ps, C.hu2⟩, C.calm⟩
  have cf0 : ∀ (a : Addr) (pn : List (Addr × Obj)), Cf0 (X.suite a pn) WF sc N := fun a pn => ⟨C.hsc, C.hN, C.nd, takes0N, C.hu, PassesOwn.never, C.hu2⟩
  refine ps_imp (ps_try_v (tb := fun W' => rdB X W' Γ (b Γ)) (ts := fun a D σ H => ∃ Γs, rdB X WF Γs (s Γs) D σ H) (c := .ref (He.ga X.K x)) hst hfr (by rw [C.hN]; exact C.nd) (by rw [C.hN]; exact hi) hk ⟨C.gl hg, hdb, .inl (F.mgh x hD)⟩ C.tk
    (fun W' pn xe tk ps => hb pn xe W' (cf1 pn xe W' tk ps) Γ) (fun a pn => pss_any fun Γs => hsu a pn (cf0 a pn) Γs)) fun D σ H ⟨G, S, p⟩ => ⟨G, S, ?_⟩
  unfold bTry at p
  cases hm : b Γ with
  | bad => rw [hm] at p; exact p
  | val z => rw [hm] at p; exact p
  | exc y =>
    rw [hm] at p
    dsimp only at p
    cases hc : xs.contains y.cls with
    | false => rw [hc, if_neg (by decide)] at p; exact p.elim
    | true =>
      rw [hc, if_pos rfl] at p
      have hc : y.cls ∈ xs := by simpa using hc
      intro G1 H1 σ1 C1 d e1 S1 g1 g2
      have hC : C1 = He.ga X.K y.cls := by
        have := (F.mgc y.cls hc).symm.trans g1
        cases this
        rfl
      subst hC
      refine ⟨exIs y.cls x, F.exm x hD y.cls hc, fun ht a ha => ?_, fun hf => ?_⟩
      · rw [if_pos ht] at p
        obtain ⟨S2, e2⟩ := S1.grow (grow_new (o := XvO X.K y.cls d a) S1.w ha)
        have hx : Dn X.K (rg ⟨G1.H0, G1.P, G1.I, upd G1.N a (XvO X.K y.cls d a), G1.E⟩ true) (upd H1 a (XvO X.K y.cls d a)) (.ref a) (xcD y.cls y.flds) := dn_xo upd_same (g2.mono (e2.rgl true) e2.t)
        have S3 := S2.put i hx
        refine ⟨_, _, S3, ?_⟩
        cases hs2 : s (y.st.set i (.dat true (xcD y.cls y.flds))) with
        | bad => rw [hs2] at p; exact p.elim
        | exc z => rw [hs2] at p; exact p.elim
        | val z =>
          rw [hs2] at p
          intro G3 H3 e3
          have q := p G3 H3 ((e1.tr e2).tr e3)
          obtain ⟨w, Γ3⟩ := z
          cases w with
          | nx => exact fun σ4 S4 => q (σ4.set i none) (S4.blank i none)
          | bk => exact fun σ4 S4 => q (σ4.set i none) (S4.blank i none)
          | ct => exact fun σ4 S4 => q (σ4.set i none) (S4.blank i none)
          | rt r =>
            cases r with
            | d v => exact fun σ4 u S4 hu => q σ4 u (S4.forget i) hu
            | c v => exact fun σ4 u H2 S4 hu => q σ4 u H2 (S4.forget i) hu
      · rw [hf, if_neg (by decide)] at p
        exact p G1 H1 σ1 _ d e1 S1 g1 g2
end
def XMk (X : Cx) (c : Str) (fns : List Str) : Prop :=
  ∀ (e : Expr) (es : List Expr) (t : TA) (p pos : Pos), PA X (e :: es) t → (∀ σ H (Q Q' : List V → Hp → Prop), (∀ vs H1, Q vs H1 → Q' vs H1) → t σ H Q → t σ H Q') → glB X.env.scope c = true → starEach (e :: es) X.env = (false, eval e X.env) :: starEach es X.env → (backTo pos (starEach es X.env)).any (·.1) = false →
    L2N.PMk X (.Call (.Name c p) (e :: es) [] pos) (fun σ H Q => t σ H fun vs H1 => vs.length = fns.length ∧ ∀ d, H1 d = none → Q (.ref (He.ga X.K c)) (some d) (upd H1 d (.xd (fns.zip vs).reverse)))
def bRaise (c : Str) (fns : List Str) (k : DA) : DS := fun Γ => (k Γ).bind fun z => match allF z.1 with
  | some (ds, true) => if ds.length = fns.length then .exc ⟨c, (fns.zip ds).reverse, z.2⟩ else .bad
  | _ => .bad
theorem zip_fst2 {α β : Type} : ∀ (xs : List α) (ys : List β), ys.length = xs.length → (xs.zip ys).map (·.1) = xs
  | [], _, _ => rfl
  | _ :: _, [], h => by cases h
  | x :: xs, y :: ys, h => by
    rw [List.zip_cons_cons, List.map_cons, zip_fst2 xs ys (by simpa using h)]
theorem zip_snd2 {α β : Type} : ∀ (xs : List α) (ys : List β), ys.length = xs.length → (xs.zip ys).map (·.2) = ys
  | [], [], _ => rfl
  | [], _ :: _, h => by cases h
  | _ :: _, [], h => by cases h
  | x :: xs, y :: ys, h => by
    rw [List.zip_cons_cons, List.map_cons, zip_snd2 xs ys (by simpa using h)]
section
variable {X : Cx} {W : WX} {sc : Scope} {N : List Str} {xs ds hs fs fns : List Str} {c : Str} {e : Expr} {es : List Expr} {k : DA} {p pos pos2 : Pos}
theorem c1_raise (C : Cf X W sc N) (F : XAll X.K X.mg xs ds hs fs) (M : XMk X c fns) (hc : c ∈ xs) (hg : glB sc c = true) (ha : CA X W (e :: es) k)
    (he : starEach (e :: es) X.env = (false, eval e X.env) :: starEach es X.env := by rfl) (hpl : (backTo pos (starEach es X.env)).any (·.1) = false := by rfl) : C1 X W (.Raise (some (.Call (.Name c p) (e :: es) [] pos)) none pos2) (bRaise c fns k) := fun Γ => by
  refine ps_imp (L2N.ps_raise C.calm C.tk (M e es _ p pos (ha Γ) (fun σ H Q Q' hk ⟨G, S, q⟩ => ⟨G, S, q.imp fun r G1 H1 e1 h vs S1 av => hk vs H1 (h vs S1 av)⟩) (by rw [C.hsc]; exact hg) he hpl)) fun D σ H ⟨G, S, q⟩ => ⟨G, S, (Pst.bind q).imp fun z G1 H1 e1 p1 vs S1 av => ?_⟩
  cases hz : allF z.1 with
  | none => rw [hz] at p1; exact p1.elim
  | some r =>
    obtain ⟨dl, fr⟩ := r
    rw [hz] at p1
    cases fr with
    | false => exact p1.elim
    | true =>
      dsimp only at p1
      have dn := allF_ok hz av
      by_cases hl : dl.length = fns.length
      · rw [if_pos hl] at p1
        have hv : vs.length = fns.length := by rw [← hl]; exact dn.length
        refine ⟨hv, fun d hd => ?_⟩
        obtain ⟨S2, e2⟩ := S1.grow (grow_new (o := .xd (fns.zip vs).reverse) S1.w hd)
        refine p1 _ _ σ (He.ga X.K c) (some d) e2 S2 (F.mgc c hc) (.inl ⟨d, _, rfl, upd_same, ?_, ?_⟩)
        · rw [List.map_reverse, List.map_reverse, zip_fst2 _ _ hv, zip_fst2 _ _ hl]
        · rw [List.map_reverse, List.map_reverse, zip_snd2 _ _ hv, zip_snd2 _ _ hl]
          exact (e2.dna dn).reverse
      · rw [if_neg hl] at p1
        exact p1.elim
end
end PD
set_option Elab.async false
set_option linter.all false
set_option maxRecDepth 100000
set_option maxHeartbeats 4000000
set_option autoImplicit false
namespace PD
open PySem PySem.Spec L2
structure HuntC (K : PySem.W.Frag) (C : Addr) : Prop where
  rd : PySem.W.readsIn K C (.type "type") = true
  ga : PySem.W.specialIn K (.ref C) "__getattribute__" = some (some (.builtin "type.__getattribute__"))
  ini : PySem.W.findCls K (.ref C) (.type "type") "__init__" = some (.val (.builtin "ValueError.__init__"))
theorem huntB_ok {K : PySem.W.Frag} (h : huntB K = true) : HuntC K (He.ga K "HuntError") := by
  unfold huntB at h
  simp only [Bool.and_eq_true] at h
  obtain ⟨h1, h2, h3⟩ := h
  refine ⟨h1, of_decide_eq_true h2, ?_⟩
  split at h3
  · rename_i n e
    rw [e, of_decide_eq_true h3]
  · cases h3
theorem oexB_ok {K : PySem.W.Frag} {C : Addr} (h : oexB K C = true) : OexC K C := by
  unfold oexB at h
  rw [Bool.and_eq_true] at h
  obtain ⟨h0, h⟩ := h
  simp only [Bool.and_eq_true] at h
  obtain ⟨h1, h2, h3, h4⟩ := h
  refine ⟨?_, of_decide_eq_true h1, of_decide_eq_true h2, of_decide_eq_true h3, h4⟩
  split at h0
  · rename_i dd cd sl ho
    split at h0
    · rename_i C' bm k0 k1 k2 k3 n k5 hm hs
      simp only [Bool.and_eq_true, beq_iff_eq, Bool.not_eq_true'] at h0
      obtain ⟨rfl, rfl, hdel, hdc, ht⟩ := h0
      obtain ⟨nm, bs, mro, ns, qn, hd, sn, sub, ab, col, del⟩ := cd
      dsimp only at hm hdel hdc
      subst hm hdel hdc
      have e : sl = #[k0, k1, k2, k3, some (.builtin "ValueError.__new__"), k5] := by
        obtain ⟨l⟩ := sl
        dsimp only at hs
        rw [hs]
      subst e
      exact ⟨nm, qn, ns, bs, bm, sn, sub, ab, col, dd, k0, k1, k2, k3, k5, ho, ht⟩
    · cases h0
  · cases h0
section
variable {X : Cx} {e : Expr} {es : List Expr} {ta : TA} {p1 p2 pos : Pos}
theorem pe_hinit {CH : Addr} {pl : Sem Bool} (T : HuntC X.K CH) (hg : Gl X "HuntError") (hm : X.mg "HuntError" = some (.ref CH)) (ha : PA X (e :: es) ta)
    (hc : eval (.Call (.Attribute (.Name "HuntError" p1) "__init__" p2) (e :: es) [] pos) X.env = (do
      let ov ← eval (.Name "HuntError" p1) X.env
      standAt p2.atName
      let (f, first) ← holding [ov] (getMethod ov "__init__" pl)
      callWith pos f first (backTo pos (starEach (e :: es) X.env)) (backToKw pos (keywordEach [] X.env))) := by rfl)
    (he : starEach (e :: es) X.env = (false, eval e X.env) :: starEach es X.env := by rfl) (hpl : (backTo pos (starEach es X.env)).any (·.1) = false := by rfl) :
    PE X (.Call (.Attribute (.Name "HuntError" p1) "__init__" p2) (e :: es) [] pos) (tVeI X.K ta) := by
  refine ⟨fun pins s σ H Q I h => ?_⟩
  refine PySem.W.methodCall_KW (ld_glob I hg hm ?_ (by decide +kernel)) hc
  refine PySem.W.method_cls I.kIn T.ga (PySem.W.cls_value I.kIn T.rd T.ini (by decide +kernel) ?_)
  show wpAny _ _ (callWith pos (Value.builtin "ValueError.__init__") [] (backTo pos (starEach (e :: es) X.env)) []) _ _ _
  refine PyProof.Rows.callWith_method1 (thn (ha.run pos pins _ σ H _ (I.tok _) h) fun us s1 ⟨vs, H1, I1, r1, a, C, ws, ev, hl, T, ea, q⟩ => ?_) he hpl
  subst ev
  cases r1 with
  | @cons _ u0 _ ur ra rr =>
    obtain rfl : u0 = Value.ref a := ra
    have hn : ur.length ≤ sizeLine := by
      have e1 := Paired.length rr
      have e2 := sizeLine_eq
      omega
    exact oinit_ok T I1 ea hn fun s2 J => ⟨.non, H1, J, rfl, q⟩
end
def spI (K : PySem.W.Frag) (fns : List Str) : Sp := fun vs H Q _ => ∃ (a C : Addr) (ws : List V), vs = .ref a :: ws ∧ ws.length = fns.length ∧ OexC K C ∧ (∀ f ∈ fns, PySem.W.findIn K (.ref C) f = some none) ∧ H a = some (exo a C none) ∧
  ∀ dx, H dx = none → dx ≠ a → Q .non (upd (upd H dx (exd dx (fns.zip ws).reverse)) a (exo a C (some dx)))
section
variable {P : Program} {w : World} {K : PySem.W.Frag} {mg : Str → Option Value} {base : Heap} {qual : Str} {params : Arguments} {body : List Stmt} {scope : Scope} {fI : Addr} {fd : FuncData} {CH : Addr}
theorem spI_len {fns : List Str} {n : Nat} (hn : fns.length + 1 = n) : ∀ vs H Q E, spI K fns vs H Q E → vs.length = n := fun vs H Q E ⟨a, C, ws, e, h, _⟩ => by
  rw [e, List.length_cons, h, hn]
theorem fi1 {f msg : Str} {j : Nat} {q1 q2 q3 q4 q5 q6 q7 q8 q9 q10 : Pos} (F : FunD K "__init__" qual params body scope [] [] fI fd) (S : FnScope ["self", f] ["self", f] scope)
    (hbd : body = [.Expr (.Call (.Attribute (.Name "HuntError" q1) "__init__" q2) [.Name "self" q3, .Constant (.str msg) j q4] [] q5) q6, .Assign [.Attribute (.Name "self" q7) f q8] (.Name f q9) q10])
    (hc : ∀ env : Env, ∃ pl : Sem Bool, eval (.Call (.Attribute (.Name "HuntError" q1) "__init__" q2) [.Name "self" q3, .Constant (.str msg) j q4] [] q5) env = (do
      let ov ← eval (.Name "HuntError" q1) env
      standAt q2.atName
      let (f, first) ← holding [ov] (getMethod ov "__init__" pl)
      callWith q5 f first (backTo q5 (starEach [.Name "self" q3, .Constant (.str msg) j q4] env)) (backToKw q5 (keywordEach [] env))))
    (hgl : glB scope "HuntError" = true) (hv0 : visB scope "self" = true) (hv1 : visB scope f = true) (hmg : mg "HuntError" = some (.ref CH)) (T : HuntC K CH) (hf1 : (f == ("__debug__" : Str)) = false) (hf2 : (f == ("__classdict__" : Str)) = false) :
    FnOk P w K mg base (L2N.CX P w) 1 fI fd ["self", f] (spI K [f]) := by
  refine F.ok S (spI_len rfl) fun cdv A outer s H vs Q E hr ⟨a, C, ws, e, hl, TC, hno, ea, hq⟩ => ?_
  subst e
  obtain ⟨v, rfl⟩ : ∃ v, ws = [v] := by
    cases ws with
    | nil => cases hl
    | cons v r =>
      cases r with
      | nil => exact ⟨v, rfl⟩
      | cons _ _ => cases hl
  subst hbd
  obtain ⟨pl, hc⟩ := hc (PyProof.Rows.envOfC qual scope s.heap.objs.size fI cdv)
  have g : Gl (cxOf (L2N.CX P w) P w K mg base ["self", f] qual scope fI cdv A outer s H E) "HuntError" := gl_of hgl
  refine ⟨_, pss_cons (ps_expr (pe_hinit (CH := CH) T g hmg (pa_cons (pe_var (i := 0) rfl (vis_of hv0)) (pa_cons pe_str pa_nil)) (pl := pl) hc)) (pss_cons (ps_ost (pe_var (i := 0) rfl (vis_of hv0)) (pe_var (i := 1) rfl (vis_of hv1) hf1 hf2)) pss_nil), ?_⟩
  refine ⟨.ref a, rfl, a, C, [.str msg], rfl, by simp, TC, ea, ?_⟩
  refine ⟨v, rfl, .ref a, rfl, a, C, rfl, TC, hno f (by simp), .inl ⟨ea, fun dx n ne => hq dx n ne⟩⟩
theorem fi2 {f f2 msg : Str} {j : Nat} {q1 q2 q3 q4 q5 q6 q7 q8 q9 q10 r7 r8 r9 r10 : Pos} (F : FunD K "__init__" qual params body scope [] [] fI fd) (S : FnScope ["self", f, f2] ["self", f, f2] scope)
    (hbd : body = [.Expr (.Call (.Attribute (.Name "HuntError" q1) "__init__" q2) [.Name "self" q3, .Constant (.str msg) j q4] [] q5) q6, .Assign [.Attribute (.Name "self" q7) f q8] (.Name f q9) q10, .Assign [.Attribute (.Name "self" r7) f2 r8] (.Name f2 r9) r10])
    (hc : ∀ env : Env, ∃ pl : Sem Bool, eval (.Call (.Attribute (.Name "HuntError" q1) "__init__" q2) [.Name "self" q3, .Constant (.str msg) j q4] [] q5) env = (do
      let ov ← eval (.Name "HuntError" q1) env
      standAt q2.atName
      let (f, first) ← holding [ov] (getMethod ov "__init__" pl)
      callWith q5 f first (backTo q5 (starEach [.Name "self" q3, .Constant (.str msg) j q4] env)) (backToKw q5 (keywordEach [] env))))
    (hgl : glB scope "HuntError" = true) (hv0 : visB scope "self" = true) (hv1 : visB scope f = true) (hv2 : visB scope f2 = true) (hmg : mg "HuntError" = some (.ref CH)) (T : HuntC K CH) (hf1 : (f == ("__debug__" : Str)) = false) (hf2 : (f == ("__classdict__" : Str)) = false)
    (hg1 : (f2 == ("__debug__" : Str)) = false) (hg2 : (f2 == ("__classdict__" : Str)) = false) :
    FnOk P w K mg base (L2N.CX P w) 1 fI fd ["self", f, f2] (spI K [f, f2]) := by
  refine F.ok S (spI_len rfl) fun cdv A outer s H vs Q E hr ⟨a, C, ws, e, hl, TC, hno, ea, hq⟩ => ?_
  subst e
  obtain ⟨v, u, rfl⟩ : ∃ v u, ws = [v, u] := by
    cases ws with
    | nil => cases hl
    | cons v r =>
      cases r with
      | nil => cases hl
      | cons u r =>
        cases r with
        | nil => exact ⟨v, u, rfl⟩
        | cons _ _ => cases hl
  subst hbd
  obtain ⟨pl, hc⟩ := hc (PyProof.Rows.envOfC qual scope s.heap.objs.size fI cdv)
  have g : Gl (cxOf (L2N.CX P w) P w K mg base ["self", f, f2] qual scope fI cdv A outer s H E) "HuntError" := gl_of hgl
  refine ⟨_, pss_cons (ps_expr (pe_hinit (CH := CH) T g hmg (pa_cons (pe_var (i := 0) rfl (vis_of hv0)) (pa_cons pe_str pa_nil)) (pl := pl) hc)) (pss_cons (ps_ost (pe_var (i := 0) rfl (vis_of hv0)) (pe_var (i := 1) rfl (vis_of hv1) hf1 hf2))
    (pss_cons (ps_ost (pe_var (i := 0) rfl (vis_of hv0)) (pe_var (i := 2) rfl (vis_of hv2) hg1 hg2)) pss_nil)), ?_⟩
  refine ⟨.ref a, rfl, a, C, [.str msg], rfl, by simp, TC, ea, ?_⟩
  refine ⟨v, rfl, .ref a, rfl, a, C, rfl, TC, hno f (by simp), .inl ⟨ea, fun dx n ne => ?_⟩⟩
  refine ⟨u, rfl, .ref a, rfl, a, C, rfl, TC, hno f2 (by simp), .inr ⟨dx, _, upd_same, (upd_ne ne).trans upd_same, by simp, ?_⟩⟩
  have q := hq dx n ne
  have e2 : upd (upd (upd H dx (exd dx [(f, v)])) a (exo a C (some dx))) dx (exd dx [(f2, u), (f, v)]) = upd (upd H dx (exd dx [(f2, u), (f, v)])) a (exo a C (some dx)) := by
    funext b
    by_cases h1 : b = a
    · rw [h1, upd_ne (Ne.symm ne), upd_same, upd_same]
    · by_cases h2 : b = dx
      · rw [h2, upd_same, upd_ne ne, upd_same]
      · rw [upd_ne h2, upd_ne h1, upd_ne h2, upd_ne h1, upd_ne h2]
  show Q .non _
  rw [e2]
  exact q
end
section
variable {X : Cx} {x : Str} {e : Expr} {es : List Expr} {ta : TA} {p pos : Pos} {CX : CXT} {C fI : Addr} {k : Nat} {fd : FuncData} {ps : List Str} {sp : L2.Sp} {ds : List Value} {dvs : List V}
theorem pmk_oexN (T : OexC X.K C)
    (iC : PySem.W.findIn X.K (.ref C) "__init__" = some (some (.ref fI)))
    (tI : PySem.W.typeIn X.K (.ref fI) = some (.type "function"))
    (Fi : FnOk X.prog X.w X.K X.mg X.base CX k fI fd ps sp)
    (hr : Room (k + 1) X.A) (hb : Binds X.K fd ps ds) (hd : Vals dvs ds)
    (hx : Passes CX X (fun _ _ _ => False)) (hg : Gl X x) (hm : X.mg x = some (.ref C)) (ha : PA X (e :: es) ta)
    (hdb : (x == ("__debug__" : Str)) = false := by decide)
    (he : starEach (e :: es) X.env = (false, eval e X.env) :: starEach es X.env := by rfl)
    (hpl : (backTo pos (starEach es X.env)).any (·.1) = false := by rfl) : L2N.PMk X (.Call (.Name x p) (e :: es) [] pos) (tMkO C sp dvs ta) := by
  intro pins s0 σ H Q I h
  obtain ⟨nm, q, N, bs, bm, sn, sub, ab, col, dd, c0, c1, c2, c3, c5, hC, hbm⟩ := T.cls
  refine wpAny_Call_Name_kw (ld_glob I hg hm ?_ hdb)
  refine PySem.W.callWith_K (h₀ := X.base) I.ok.mod.kin T.kC ?_ he hpl
  refine thn (ha.run pos pins s0 σ H _ I h) fun us t1 ⟨vs, H1, J1, r1, hz, q1⟩ => ⟨J1.kIn, ?_⟩
  show wpAny _ _ (call (.ref C) us) _ _ _
  obtain ⟨g0, gs, dr, tk, eo⟩ := t1
  obtain ⟨n0, hn0⟩ : ∃ n0, n0 = g0.objs.size + 1 := ⟨_, rfl⟩
  obtain ⟨g1, hg1⟩ : ∃ g1, g1 = (g0.push (PySem.W.kdv_tup us)).push (PySem.HandSPX.excO C g0.objs.size) := ⟨_, rfl⟩
  have low : g0.objs.size ≤ n0 := by omega
  have free : H1 n0 = none := J1.hok.fresh low
  have wish := q1 n0 free
  have keeps : ∀ b o, g0.get? b = some o → g1.get? b = some o := fun b o z => by
    rw [hg1]
    exact Heap.get?_push_of_some _ (Heap.get?_push_of_some _ z)
  have there : g1.get? n0 = some (PySem.HandSPX.excO C g0.objs.size) := by
    rw [hg1, hn0]
    heap_get
  have J2 : Inv X pins σ (upd H1 n0 (exo n0 C none)) ⟨g1, gs, dr, tk, eo⟩ := J1.laid (t' := tk) (a := n0) (o := exo n0 C none) (h' := g1) keeps low (exo_ok there)
  have r2 : Vals (V.ref n0 :: (vs ++ dvs)) (Value.ref n0 :: (us ++ ds)) := .cons rfl (r1.append hd)
  have hl : (Value.ref n0 :: us ++ ds).length = ps.length := r2.length.symm.trans (Fi.len _ _ _ _ wish)
  have hus : us.length ≤ sizeLine := by
    have := Paired.length r1
    rw [sizeLine_eq]
    omega
  have body : codeAny (model X.prog X.w) (X.A.under (.builtin "type.__call__" ⟨.ref C :: us, []⟩)) (.call (.ref fI) ⟨Value.ref n0 :: us, []⟩) _ _ :=
    Fi.run _ X.stack _ _ ⟨Value.ref n0 :: us, []⟩ (Value.ref n0 :: (us ++ ds)) _ _ (fun _ _ _ => False) (hr.make C us []) (J2.env0.make C us []) (hb _ (Value.ref n0 :: us) J2.kIn hl) r2 wish
  have made := fun Y => PySem.HandSPX.refsVE_contains Y bm hbm
  subst hn0 hg1
  refine wpAny_call (PySem.HandSPX.call_own F.excBase_ValueError made (J1.kIn _ _ hC) (PySem.W.looks_findIn J1.kIn iC) (fun self => PySem.W.bind_fn J1.kIn self tI) hus (codeAny_mono body fun r t2 hq => ?_))
  cases r with
  | error er => exact hx pins σ _ _ er t2 J2 hq
  | ok fl =>
    cases fl with
    | ret u =>
      obtain ⟨v, H2, o2, b2, u2, k2, rv, ev, d, fs, ea, ed, hd1, q2⟩ := hq
      subst ev
      obtain ⟨g2, gg, d2, tt, oo⟩ := t2
      obtain ⟨tz, G, J, kG, ge, hoe, na⟩ := mk_end0 (d2 := d2) (t2 := tt) J1 low keeps u2 k2 o2 b2 ea ed hd1
      refine ⟨rv, g0.objs.size + 1, _, _, ⟨G, gg, d2, tt, oo⟩, _, .ref C, some d, rfl, J, kG, ge, hoe, ⟨rfl, rfl, fun ws hw => ?_⟩, rfl, rfl, na, rfl, b2, raises_own T.exC T.tyC, q2⟩
      cases hw
      rfl
    | next => exact hq.elim
    | brk => exact hq.elim
    | cont => exact hq.elim
end
section
variable {X : Cx} {W : WX} {sc : Scope} {N : List Str}
theorem xmk_of (C : Cf0 X W sc N) {c : Str} {fns ps : List Str} {fd : FuncData} (T : OexC X.K (He.ga X.K c)) (iC : PySem.W.findIn X.K (.ref (He.ga X.K c)) "__init__" = some (some (.ref (He.fAd X.K (c, some "__init__")))))
    (tI : PySem.W.typeIn X.K (.ref (He.fAd X.K (c, some "__init__"))) = some (.type "function")) (hno : ∀ f ∈ fns, PySem.W.findIn X.K (.ref (He.ga X.K c)) f = some none)
    (F1 : FnOk X.prog X.w X.K X.mg X.base (L2N.CX X.prog X.w) 1 (He.fAd X.K (c, some "__init__")) fd ps (spI X.K fns)) (hr : Room 2 X.A) (hb : Binds X.K fd ps []) (hm : X.mg c = some (.ref (He.ga X.K c))) (hs : fns.length ≤ 1000)
    (hdb : (c == ("__debug__" : Str)) = false := by decide +kernel) : XMk X c fns := fun e es t p pos ha mn hg he hpl pins s σ H Q I h => by
  refine pmk_oexN (ds := []) (dvs := []) T iC tI F1 hr hb .nil (L2N.passes_call C.tk fun _ _ _ _ z => z.elim) (gl_of hg) hm ha hdb he hpl pins s σ H Q I ?_
  refine mn _ _ _ _ (fun vs H1 ⟨hl, hq⟩ => ⟨by rw [hl]; exact hs, fun a na => ?_⟩) h
  rw [List.append_nil]
  refine ⟨a, He.ga X.K c, vs, rfl, hl, T, hno, upd_same, fun dx hdx ne => ⟨rfl, dx, (fns.zip vs).reverse, upd_same, (upd_ne ne).trans upd_same, ?_, ?_⟩⟩
  · rw [upd_ne ne] at hdx
    exact hdx
  · have e2 : upd (L2.del (upd (upd (upd H1 a (exo a (He.ga X.K c) none)) dx (exd dx (fns.zip vs).reverse)) a (exo a (He.ga X.K c) (some dx))) a) dx (.xd (fns.zip vs).reverse) = upd H1 dx (.xd (fns.zip vs).reverse) := by
      funext b
      by_cases h1 : b = dx
      · rw [h1, upd_same, upd_same]
      · rw [upd_ne h1, upd_ne h1]
        by_cases h2 : b = a
        · rw [h2, L2.del_same, na]
        · rw [L2.del_ne h2, upd_ne h2, upd_ne h1, upd_ne h2]
    rw [e2]
    rw [upd_ne ne] at hdx
    exact hq dx hdx
end
end PD
set_option Elab.async false
set_option linter.all false
set_option maxRecDepth 100000
set_option maxHeartbeats 4000000
set_option autoImplicit false
namespace PD
open PySem PySem.Spec PyProof.Rows L2
open L2H (RoomH)
structure FnQ (P : Program) (w : World) (K : PySem.W.Frag) (mg : Str → Option Value) (base : Heap) (k : Nat) (f : Addr) (fd : FuncData) (ps : List Str) (sp : Sp) : Prop where
  len : ∀ vs H Q E, sp vs H Q E → vs.length = ps.length
  run : ∀ (A : Around) (outer : List Env) (s : Shared) (H : Hp) (args : Args) (us : List Value) (vs : List V) (Q : VK) (E : XK), RoomH k A → Env0 P w K mg base A outer s H → BindsTo s fd args (ps.zip us) → Vals vs us → sp vs H Q E →
    codeAny (model P w) A (.call (.ref f) args) (CR (L2N.CX P w) outer P w H s Q E) s
abbrev cxQ (P : Program) (w : World) (K : PySem.W.Frag) (mg : Str → Option Value) (base : Heap) (N : List Str) (qual : Str) (scope : Scope) (f : Addr) (cd : Value) (A : Around) (outer : List Env) (s : Shared) (H : Hp) (E : XK) : Cx :=
  { cxOf (L2N.CX P w) P w K mg base N qual scope f cd A outer s H E with calm := false }
section
variable {P : Program} {w : World} {K : PySem.W.Frag} {mg : Str → Option Value} {base : Heap} {N ps : List Str} {qual : Str} {scope : Scope} {f : Addr} {cd : Value} {A : Around} {outer : List Env} {s s1 : Shared} {H : Hp} {E : XK} {us : List Value} {vs : List V}
theorem inv_startQ (S : FnScope N ps scope) (e0 : Env0 P w K mg base A outer s H) (hl : vs.length = ps.length) (r : Vals vs us)
    (x : InCallC s s.heap.objs.size (bindL (envOfC qual scope s.heap.objs.size f cd).kindOf (ps.zip us) fun _ => none) (cellsFrom (s.heap.objs.size + 1) scope.names []) (bindC (envOfC qual scope s.heap.objs.size f cd).kindOf (ps.zip us) fun _ => none) s1) :
    Inv (cxQ P w K mg base N qual scope f cd A outer s H E) [] (L2.start N vs) H s1 := by
  have e1 : Env0 P w K mg base { A with handled := none } outer s H := ⟨e0.frames, e0.mod, e0.bs, e0.bsz, e0.funs, e0.frf, e0.hok, e0.bare⟩
  have I := inv_start (CX := L2N.CX P w) (E := E) (A := { A with handled := none }) S rfl e1 hl r x
  obtain ⟨o1, o2, o3, o4, o5, o6, o7, o8, o9, o10, o11, o12, o13, o14, o15, o16, o17, o18⟩ := I.ok
  exact ⟨⟨o1, o2, o3, o4, o5, o6, o7, o8, (fun z => by cases (show false = true from z)), Around.frames_deeper e0.frames, o11, o12, o13, o14, o15, o16, o17, o18⟩, I.os, I.bare, I.base, I.loc, I.cell, I.free, I.freeC, I.pin, I.hok, I.len⟩
theorem fn_ofQ {k : Nat} {name : Str} {params : Arguments} {body : List Stmt} {dvs : List V} {kws : List (Str × V)} {fd : FuncData} {sp : Sp} (F : FunD K name qual params body scope dvs kws f fd) (S : FnScope N ps scope) (len : ∀ vs H Q E, sp vs H Q E → vs.length = ps.length)
    (hbody : ∀ (cdv : Value) (A : Around) (outer : List Env) (s : Shared) (H : Hp) (vs : List V) (Q : VK) (E : XK), RoomH k (A.deeper (envOfC qual scope s.heap.objs.size f cdv)) → sp vs H Q E →
      ∃ t, PSs (cxQ P w K mg base N qual scope f cdv A outer s H E) body t ∧ t { nx := fun _ H' => Q .non H', rt := Q } (L2.start N vs) H) : FnQ P w K mg base (k + 1) f fd ps sp := by
  obtain ⟨oc, od, dV, kV, doc, pm, an, cdv, ct, osl, rfl, lk, hcd, _, _⟩ := F.ex
  refine ⟨len, fun A outer s H args us vs Q E hr e0 hb r hsp => ?_⟩
  have KX : K.In s.heap := e0.mod.kin.keeps fun b o e => (e0.bs b o e).1
  have lim : s.heap.NoLimit := e0.mod.nolimit.keeps fun b o e => (e0.bs b o e).1
  have kinds : ∀ y ∈ ps.zip us, scope.names.lookup y.1 = some .local ∨ (scope.names.lookup y.1 = some .cell ∧ ((cellsFrom (s.heap.objs.size + 1) scope.names []).lookup y.1).isSome = true) := by
    rintro ⟨n, v⟩ hy
    rcases S.par n (List.of_mem_zip hy).1 with q | q
    · exact .inl q
    · exact .inr ⟨q, PySem.W.cellsFrom_some _ _ _ (.inl q)⟩
  refine codeAny_call_function hr.depth (KX _ _ lk) rfl S.co S.gen rfl (PySem.W.codeRec_of KX hcd) (hb _ _ _ _ (wpAny_newFunctionEnv_cells S.kind kinds fun env he s1 x => ?_))
  subst he
  refine ⟨lim.keeps x.toInCall.keep, codeAny_func ?_⟩
  obtain ⟨t, ht, hq⟩ := hbody cdv A outer s H vs Q E (hr.deeper _) hsp
  refine wpAny_mono (ht.run [] s1 (L2.start N vs) H _ (inv_startQ S e0 (len _ _ _ _ hsp) r x) hq) (fun fl s2 hs => ?_) fun e s2 hs => hs
  cases fl with
  | ret u =>
    obtain ⟨v, σ2, H2, J, rv, q⟩ := hs
    exact ⟨v, H2, J.os, J.bare, J.base, J.hok, rv, q⟩
  | next =>
    obtain ⟨σ2, H2, J, q⟩ := hs
    exact ⟨V.non, H2, J.os, J.bare, J.base, J.hok, rfl, q⟩
  | brk =>
    obtain ⟨_, _, _, q⟩ := hs
    exact q.elim
  | cont =>
    obtain ⟨_, _, _, q⟩ := hs
    exact q.elim
end
structure HereQ (X : Cx) (W : WX) (P : Program) (w : World) (K : PySem.W.Frag) (mg : Str → Option Value) (base : Heap) (scope : Scope) (N : List Str) (k : Nat) : Prop where
  cf : Cf0 X W scope N
  prog : X.prog = P
  w : X.w = w
  K : X.K = K
  mg : X.mg = mg
  base : X.base = base
  room : RoomH k X.A
  fn : ∀ x, X.fn x = true
section
variable {P : Program} {w : World} {K : PySem.W.Frag} {mg : Str → Option Value} {base : Heap} {N ps : List Str} {name qual : Str} {scope : Scope} {f : Addr} {k : Nat} {params : Arguments} {body : List Stmt} {dvs : List V} {kws : List (Str × V)} {fd : FuncData}
theorem fn_uQ (F : FunD K name qual params body scope dvs kws f fd) (S : FnScope N ps scope) {b : DS} (hle : ps.length ≤ N.length) (hb : ∀ X W, HereQ X W P w K mg base scope N k → CS X W body b) :
    FnQ P w K mg base (k + 1) f fd ps (spU K mg (runB N.length ps.length b)) :=
  fn_ofQ F S fn_len fun cdv A outer s H vs Q E hr hsp => by
    obtain ⟨Γ, h⟩ := fn_pre hle (X := cxQ P w K mg base N qual scope f cdv A outer s H E) rfl rfl hsp
    refine ⟨_, hb _ _ ⟨⟨rfl, rfl, S.nd, L2N.takes_of rfl rfl rfl rfl, ?_, passes_of rfl, ?_⟩, rfl, rfl, rfl, rfl, rfl, hr, fun x => rfl⟩ Γ, h⟩
    · have := hr.un
      show (A.deeper _).units + 64 < cLine
      omega
    · have := hr.un
      show (A.deeper _).units + 150 < cLine
      omega
end
def CleeQ (X : Cx) (x : Str) (dvs : List V) (sp : Sp) : Prop :=
  ∃ (k : Nat) (f : Addr) (fd : FuncData) (ps : List Str) (ds : List Value), FnQ X.prog X.w X.K X.mg X.base k f fd ps sp ∧ RoomH k X.A ∧ X.mg x = some (.ref f) ∧ PySem.W.keepIn X.K (.ref f) = true ∧ Binds X.K fd ps ds ∧ Vals dvs ds
section
variable {X : Cx} {W : WX} {sc : Scope} {N : List Str} {x : Str} {e : Expr} {es : List Expr} {p pos : Pos} {k : DA} {dvs : List V} {dds : List PyData} {m : List Ar → R (Rs × List Sl)} {t : TA}
theorem CleeQ.suite {sp : Sp} (h : CleeQ X x dvs sp) (a : Addr) (pn : List (Addr × Obj)) : CleeQ (X.suite a pn) x dvs sp := by
  obtain ⟨k, f, fd, ps, ds, h1, h2, h3⟩ := h
  exact ⟨k, f, fd, ps, ds, h1, ⟨h2.dp, h2.un⟩, h3⟩
theorem run_fnQ {pins : List (Addr × Obj)} {σ : L2.St} {H : Hp} {s : Shared} {Q : VK} {us ds : List Value} {vs : List V} {j : Nat} {f : Addr} {fd : FuncData} {ps : List Str} {sp : Sp} {E : XK} (F : FnQ X.prog X.w X.K X.mg X.base j f fd ps sp) (hr : RoomH j X.A) (hb : Binds X.K fd ps ds) (hd : Vals dvs ds)
    (hx : PassesAt (L2N.CX X.prog X.w) X σ E) (I : Inv X pins σ H s) (r : Vals vs us) (h : sp (vs ++ dvs) H Q E) : wpAny (model X.prog X.w) X.A (call (.ref f) us) (EP X pins σ Q) X.xe s := by
  have r2 : Vals (vs ++ dvs) (us ++ ds) := r.append hd
  have hl : (us ++ ds).length = ps.length := r2.length.symm.trans (F.len _ _ _ _ h)
  refine wpAny_call (codeAny_mono (F.run X.A X.stack s H ⟨us, []⟩ (us ++ ds) (vs ++ dvs) Q E hr I.env0 (hb s us I.kIn hl) r2 h) fun z s2 hq => ?_)
  cases z with
  | error e => exact hx pins H s e s2 I hq
  | ok fl =>
    cases fl with
    | ret u => exact I.after hq
    | next => exact hq.elim
    | brk => exact hq.elim
    | cont => exact hq.elim
theorem cx_callQ (C : Cf0 X W sc N) (hc : CleeQ X x dvs (spU X.K X.mg m)) (hg : glB sc x = true) (hdv : ∀ G H, DnA X.K G H dvs dds) (ha : CA X W (e :: es) k)
    (hdb : (x == ("__debug__" : Str)) = false := by decide +kernel) (he : starEach (e :: es) X.env = (false, eval e X.env) :: starEach es X.env := by rfl) (hpl : (backTo pos (starEach es X.env)).any (·.1) = false := by rfl) : CX X W (.Call (.Name x p) (e :: es) [] pos) (xCall m dds k) := fun Γ => by
  obtain ⟨k', f, fd, ps, dss, F, hr, hm, hk, hb, hd⟩ := hc
  refine ⟨fun pins s σ H Q I h => ?_⟩
  obtain ⟨G, S, q⟩ := h
  refine wpAny_Call_Name_kw (ld_glob I (C.gl hg) hm ?_ hdb)
  refine PySem.W.callWith_K (h₀ := X.base) I.ok.mod.kin hk (thn ((ha Γ).run pos pins s σ H (fun vs H1 => spU X.K X.mg m (vs ++ dvs) H1 Q (fun cls d H => W cls d σ H)) I ⟨G, S, (Pst.bind q).imp fun z G1 H1 e1 p1 vs S1 av => ?_⟩) fun us s1 ⟨vs, H1, I1, r, q⟩ => ⟨I1.kIn, ?_⟩) he hpl
  · obtain ⟨ds, hds, p1⟩ := Pst.ofO p1
    refine callD_core hdv S1 av hds ((Pst.bind p1).imp fun r G2 H2 e2 p2 S2 => ?_)
    have p2 := p2 G2 H2 (Ext.rf S2.w)
    cases hz : r.1 with
    | d w =>
      rw [hz] at p2
      exact fun v hv => p2 v S2 hv
    | c w =>
      rw [hz] at p2
      exact fun v H3 hn => p2 v H3 S2 hn
  · exact run_fnQ F hr hb hd (L2N.passAt C.tk σ) I1 r q
end
def GvQ (P : Program) (w : World) (K : PySem.W.Frag) (mg : Str → Option Value) (base : Heap) (k : Nat) (x : Str) (dvs : List V) (sp : Sp) : Prop :=
  ∃ (f : Addr) (fd : FuncData) (ps : List Str) (ds : List Value), FnQ P w K mg base k f fd ps sp ∧ mg x = some (.ref f) ∧ PySem.W.keepIn K (.ref f) = true ∧ Binds K fd ps ds ∧ Vals dvs ds
theorem GvQ.u {P : Program} {w : World} {K : PySem.W.Frag} {mg : Str → Option Value} {base : Heap} {k k' : Nat} {x : Str} {dvs : List V} {m : List Ar → R (Rs × List Sl)} {scope : Scope} {X : Cx} {W : WX} {N : List Str} (g : GvQ P w K mg base k x dvs (spU K mg m)) (h : Here X W P w K mg base scope N k') (hk : k ≤ k') : CleeQ X x dvs (spU X.K X.mg m) := by
  obtain ⟨f, fd, ps, ds, h1, h2, h3, h4, h5⟩ := g
  have e1 := h.prog
  have e2 := h.w
  have e3 := h.K
  have e4 := h.mg
  have e5 := h.base
  subst e1 e2 e3 e4 e5
  exact ⟨k, f, fd, ps, ds, h1, (L2H.roomH_of h.room).mono hk, h2, h3, h4, h5⟩
theorem GvQ.uq {P : Program} {w : World} {K : PySem.W.Frag} {mg : Str → Option Value} {base : Heap} {k k' : Nat} {x : Str} {dvs : List V} {m : List Ar → R (Rs × List Sl)} {scope : Scope} {X : Cx} {W : WX} {N : List Str} (g : GvQ P w K mg base k x dvs (spU K mg m)) (h : HereQ X W P w K mg base scope N k') (hk : k ≤ k') : CleeQ X x dvs (spU X.K X.mg m) := by
  obtain ⟨f, fd, ps, ds, h1, h2, h3, h4, h5⟩ := g
  have e1 := h.prog
  have e2 := h.w
  have e3 := h.K
  have e4 := h.mg
  have e5 := h.base
  subst e1 e2 e3 e4 e5
  exact ⟨k, f, fd, ps, ds, h1, h.room.mono hk, h2, h3, h4, h5⟩
end PD
set_option Elab.async false
set_option linter.all false
set_option maxRecDepth 100000
set_option maxHeartbeats 4000000
set_option autoImplicit false
namespace PD
open PySem PySem.Spec L2
theorem Clee.tr {X : Cx} {x : Str} {dvs : List V} {sp : Sp} (h : Clee X x dvs sp) {pn : List (Addr × Obj)} {xe : Value → Shared → Prop} : Clee (X.tr pn xe) x dvs sp := h
theorem CleeK.tr {X : Cx} {x : Str} {n : Nat} {ks : List Str} {dvs : List V} {sp : Sp} (h : CleeK X x n ks dvs sp) {pn : List (Addr × Obj)} {xe : Value → Shared → Prop} : CleeK (X.tr pn xe) x n ks dvs sp := h
theorem all_nil {p : Str → Prop} : ∀ c ∈ ([] : List Str), p c := fun c h => by cases h
theorem all_cons {p : Str → Prop} {a : Str} {as : List Str} (h : p a) (r : ∀ c ∈ as, p c) : ∀ c ∈ a :: as, p c := fun c hc => by
  rcases List.mem_cons.mp hc with z | z
  · rw [z]; exact h
  · exact r c z
structure IniC (K : PySem.W.Frag) (c : Str) : Prop where
  T : OexC K (He.ga K c)
  iC : PySem.W.findIn K (.ref (He.ga K c)) "__init__" = some (some (.ref (He.fAd K (c, some "__init__"))))
  tI : PySem.W.typeIn K (.ref (He.fAd K (c, some "__init__"))) = some (.type "function")
theorem iniB_ok {K : PySem.W.Frag} {c : Str} (h : iniB K c = true) : IniC K c := by
  unfold iniB at h
  simp only [Bool.and_eq_true] at h
  exact ⟨oexB_ok h.1, of_decide_eq_true h.2.1, of_decide_eq_true h.2.2⟩
def Sh1 (f : Str) (body : List Stmt) : Prop := ∃ (msg : Str) (j : Nat) (q1 q2 q3 q4 q5 q6 q7 q8 q9 q10 : Pos), body = [.Expr (.Call (.Attribute (.Name "HuntError" q1) "__init__" q2) [.Name "self" q3, .Constant (.str msg) j q4] [] q5) q6, .Assign [.Attribute (.Name "self" q7) f q8] (.Name f q9) q10] ∧
  ∀ env : Env, ∃ pl : Sem Bool, eval (.Call (.Attribute (.Name "HuntError" q1) "__init__" q2) [.Name "self" q3, .Constant (.str msg) j q4] [] q5) env = (do
    let ov ← eval (.Name "HuntError" q1) env
    standAt q2.atName
    let (f, first) ← holding [ov] (getMethod ov "__init__" pl)
    callWith q5 f first (backTo q5 (starEach [.Name "self" q3, .Constant (.str msg) j q4] env)) (backToKw q5 (keywordEach [] env)))
def Sh2 (f f2 : Str) (body : List Stmt) : Prop := ∃ (msg : Str) (j : Nat) (q1 q2 q3 q4 q5 q6 q7 q8 q9 q10 r7 r8 r9 r10 : Pos), body = [.Expr (.Call (.Attribute (.Name "HuntError" q1) "__init__" q2) [.Name "self" q3, .Constant (.str msg) j q4] [] q5) q6, .Assign [.Attribute (.Name "self" q7) f q8] (.Name f q9) q10,
    .Assign [.Attribute (.Name "self" r7) f2 r8] (.Name f2 r9) r10] ∧
  ∀ env : Env, ∃ pl : Sem Bool, eval (.Call (.Attribute (.Name "HuntError" q1) "__init__" q2) [.Name "self" q3, .Constant (.str msg) j q4] [] q5) env = (do
    let ov ← eval (.Name "HuntError" q1) env
    standAt q2.atName
    let (f, first) ← holding [ov] (getMethod ov "__init__" pl)
    callWith q5 f first (backTo q5 (starEach [.Name "self" q3, .Constant (.str msg) j q4] env)) (backToKw q5 (keywordEach [] env)))
section
variable {P : Program} {w : World} {K : PySem.W.Frag} {mg : Str → Option Value} {base : Heap} {X : Cx} {W : WX} {scope : Scope} {N : List Str} {k : Nat} {xs ds hs fs : List Str} {c f f2 qual : Str} {params : Arguments} {body : List Stmt} {sc : Scope} {fd : FuncData}
theorem xm1 (h : Here X W P w K mg base scope N k) (hk : 2 ≤ k) (F : FunD K "__init__" qual params body sc [] [] (He.fAd K (c, some "__init__")) fd) (B : Binds K fd ["self", f] []) (I : IniC K c) (A : XAll K mg xs ds hs fs) (T : HuntC K (He.ga K "HuntError")) (hm : mg "HuntError" = some (.ref (He.ga K "HuntError")))
    (hc : c ∈ xs) (hf : f ∈ fs) (S : FnScope ["self", f] ["self", f] sc) (hbd : Sh1 f body) (g : glB sc "HuntError" = true) (v0 : visB sc "self" = true) (v1 : visB sc f = true) (hf1 : (f == ("__debug__" : Str)) = false := by decide +kernel) (hf2 : (f == ("__classdict__" : Str)) = false := by decide +kernel)
    (hdb : (c == ("__debug__" : Str)) = false := by decide +kernel) : XMk X c [f] := by
  obtain ⟨msg, j, q1, q2, q3, q4, q5, q6, q7, q8, q9, q10, hb, he⟩ := hbd
  have e1 := h.prog
  have e2 := h.w
  have e3 := h.K
  have e4 := h.mg
  have e5 := h.base
  subst e1 e2 e3 e4 e5
  have hno : ∀ n ∈ [f], PySem.W.findIn X.K (.ref (He.ga X.K c)) n = some none := fun n hn => by
    have : n = f := by simpa using hn
    rw [this]
    exact A.fld c hc f hf
  exact xmk_of h.cf.toCf0 I.T I.iC I.tI hno (fi1 F S hb he g v0 v1 hm T hf1 hf2) (h.room.mono hk) B (A.mgc c hc) (by simp) hdb
theorem xm2 (h : Here X W P w K mg base scope N k) (hk : 2 ≤ k) (F : FunD K "__init__" qual params body sc [] [] (He.fAd K (c, some "__init__")) fd) (B : Binds K fd ["self", f, f2] []) (I : IniC K c) (A : XAll K mg xs ds hs fs) (T : HuntC K (He.ga K "HuntError")) (hm : mg "HuntError" = some (.ref (He.ga K "HuntError")))
    (hc : c ∈ xs) (hf : f ∈ fs) (hg : f2 ∈ fs) (S : FnScope ["self", f, f2] ["self", f, f2] sc) (hbd : Sh2 f f2 body) (g : glB sc "HuntError" = true) (v0 : visB sc "self" = true) (v1 : visB sc f = true) (v2 : visB sc f2 = true) (hf1 : (f == ("__debug__" : Str)) = false := by decide +kernel)
    (hf2 : (f == ("__classdict__" : Str)) = false := by decide +kernel) (hg1 : (f2 == ("__debug__" : Str)) = false := by decide +kernel) (hg2 : (f2 == ("__classdict__" : Str)) = false := by decide +kernel)
    (hdb : (c == ("__debug__" : Str)) = false := by decide +kernel) : XMk X c [f, f2] := by
  obtain ⟨msg, j, q1, q2, q3, q4, q5, q6, q7, q8, q9, q10, r7, r8, r9, r10, hb, he⟩ := hbd
  have e1 := h.prog
  have e2 := h.w
  have e3 := h.K
  have e4 := h.mg
  have e5 := h.base
  subst e1 e2 e3 e4 e5
  have hno : ∀ n ∈ [f, f2], PySem.W.findIn X.K (.ref (He.ga X.K c)) n = some none := fun n hn => by
    have : n = f ∨ n = f2 := by simpa using hn
    rcases this with z | z
    · rw [z]; exact A.fld c hc f hf
    · rw [z]; exact A.fld c hc f2 hg
  exact xmk_of h.cf.toCf0 I.T I.iC I.tI hno (fi2 F S hb he g v0 v1 v2 hm T hf1 hf2 hg1 hg2) (h.room.mono hk) B (A.mgc c hc) (by simp) hdb
end
theorem obsXG_eq {n : Nat} {fx : List (PySem.W.Frag → Bool)} {fa : List He.Fa} {fn : List He.DefD} {g : Addr → Option Obj} {s : Shared} (h : ∀ a, g a = s.heap.get? a) : obsXG n fx fa fn g = (hookX n fx fa fn).obs s := by
  have e : g = s.heap.get? := funext h
  rw [e] <;> rfl
theorem SaysX.d {fx : List (PySem.W.Frag → Bool)} {fa : List He.Fa} {fn : List He.DefD} {K : PySem.W.Frag} (c : SaysX fx fa fn K) : He.SaysD fa fn K := by
  have c : ((fx.all fun f => f K) && (He.obsD fa fn K).1, (He.obsD fa fn K).2) = He.valD fn := c
  have e1 : ((fx.all fun f => f K) && (He.obsD fa fn K).1) = true := congrArg (fun z : He.AlD => z.1) c
  have e2 : (He.obsD fa fn K).2 = (He.valD fn).2 := (Prod.mk.inj (c.trans (show He.valD fn = ((He.valD fn).1, (He.valD fn).2) from rfl))).2
  exact Prod.ext (Bool.and_eq_true_iff.mp e1).2 e2
theorem SaysX.x {fx : List (PySem.W.Frag → Bool)} {fa : List He.Fa} {fn : List He.DefD} {K : PySem.W.Frag} (c : SaysX fx fa fn K) (i : Nat) {f : PySem.W.Frag → Bool} (h : fx[i]? = some f := by rfl) : f K = true := by
  have c : ((fx.all fun f => f K) && (He.obsD fa fn K).1, (He.obsD fa fn K).2) = He.valD fn := c
  have e1 : ((fx.all fun f => f K) && (He.obsD fa fn K).1) = true := congrArg (fun z : He.AlD => z.1) c
  exact List.all_eq_true.mp (Bool.and_eq_true_iff.mp e1).1 f (List.mem_of_getElem? h)
end PD
set_option Elab.async false
set_option linter.all false
set_option maxRecDepth 100000
set_option maxHeartbeats 4000000
set_option autoImplicit false
namespace PD
open PySem PySem.Spec L2
open PyProof.Rows hiding St
section
variable {X : Cx} {W : WX} {sc : Scope} {N : List Str} {a b e o : Expr} {p p2 pos apos cpos : Pos} {f g h : DF}
end
end PD
set_option Elab.async false
set_option linter.all false
set_option maxRecDepth 100000
set_option maxHeartbeats 4000000
set_option autoImplicit false
namespace PD
open PySem PySem.Spec L2
open PyProof.Rows hiding St
section
variable {X : Cx} {W : WX} {sc : Scope} {N : List Str} {e : Expr} {p pos : Pos} {f : DF} {x : Str} {vs : List V} {ds : List PyData}
end
end PD
set_option Elab.async false
set_option linter.all false
set_option maxRecDepth 100000
set_option maxHeartbeats 4000000
set_option autoImplicit false
namespace PD
open PySem PySem.Spec L2
open PyProof.Rows hiding St
section
variable {X : Cx} {W : WX} {sc : Scope} {N : List Str} {e tg : Expr} {apos cpos p : Pos} {f : DF}
end
end PD
set_option Elab.async false
set_option linter.all false
set_option maxRecDepth 100000
set_option maxHeartbeats 4000000
set_option autoImplicit false
namespace PD
open PySem PySem.Spec L2
open PyProof.Rows hiding St
section
variable {X : Cx} {W : WX} {sc : Scope} {N : List Str} {a b : Expr} {pos : Pos} {f g : DF}
end
end PD
set_option Elab.async false
set_option linter.all false
set_option maxRecDepth 100000
set_option maxHeartbeats 4000000
set_option autoImplicit false
namespace PD
open PySem L2
def pickP {α : Type} (pm : List Nat) (xs : List α) : List α := pm.filterMap fun i => xs[i]?
theorem Vals.pickP {xs : List V} {us : List Value} (h : Vals xs us) (pm : List Nat) : Vals (pickP pm xs) (pickP pm us) := by
  induction pm with
  | nil => exact .nil
  | cons i r ih =>
    unfold PD.pickP at ih ⊢
    rw [List.filterMap_cons, List.filterMap_cons]
    cases hx : xs[i]? with
    | none =>
      have : us[i]? = none := by
        rw [List.getElem?_eq_none_iff] at hx ⊢
        rw [← h.length]; exact hx
      rw [this]
      exact ih
    | some x =>
      obtain ⟨u, hu, r⟩ := h.get hx
      rw [hu]
      exact .cons r ih
section
variable {X : Cx} {W : WX} {sc : Scope} {N : List Str} {a b c e : Expr} {es : List Expr} {pos p : Pos} {Γ : List Sl}
theorem AVs.get {K : PySem.W.Frag} {G : Gh} {H : Hp} {σ : St} : ∀ {vs : List V} {as : List AV}, AVs K G H σ vs as → ∀ i : Nat, (vs[i]? = none ∧ as[i]? = none) ∨ ∃ v a, vs[i]? = some v ∧ as[i]? = some a ∧ AVok K G H σ v a
  | _, _, .nil, i => .inl ⟨by simp, by simp⟩
  | _, _, .cons h t, 0 => .inr ⟨_, _, by simp, by simp, h⟩
  | _, _, .cons h t, i + 1 => by simpa using AVs.get t i
theorem AVs.pickP {K : PySem.W.Frag} {G : Gh} {H : Hp} {σ : St} {vs : List V} {as : List AV} (h : AVs K G H σ vs as) (pm : List Nat) : AVs K G H σ (pickP pm vs) (pickP pm as) := by
  induction pm with
  | nil => exact .nil
  | cons i r ih =>
    unfold PD.pickP at ih ⊢
    rw [List.filterMap_cons, List.filterMap_cons]
    rcases h.get i with ⟨e1, e2⟩ | ⟨v, a, e1, e2, hv⟩
    · rw [e1, e2]; exact ih
    · rw [e1, e2]; exact .cons hv ih
def GvP (P : Program) (w : World) (K : PySem.W.Frag) (mg : Str → Option Value) (base : Heap) (k : Nat) (x : Str) (n : Nat) (ks : List Str) (pm : List Nat) (dvs : List V) (sp : Sp) : Prop :=
  ∃ (f : Addr) (fd : FuncData) (ps : List Str) (its : List Value), FnOk P w K mg base (L2N.CX P w) k f fd ps sp ∧ mg x = some (.ref f) ∧ PySem.W.keepIn K (.ref f) = true ∧ KBn K fd ps n ks (fun us ws => pickP pm (us ++ ws ++ its)) (fun vs zs => pickP pm (vs ++ zs ++ dvs))
def CleeP (X : Cx) (x : Str) (n : Nat) (ks : List Str) (pm : List Nat) (dvs : List V) (sp : Sp) : Prop :=
  ∃ (k : Nat) (f : Addr) (fd : FuncData) (ps : List Str) (its : List Value), FnOk X.prog X.w X.K X.mg X.base (L2N.CX X.prog X.w) k f fd ps sp ∧ Room k X.A ∧ X.mg x = some (.ref f) ∧ PySem.W.keepIn X.K (.ref f) = true ∧ KBn X.K fd ps n ks (fun us ws => pickP pm (us ++ ws ++ its)) (fun vs zs => pickP pm (vs ++ zs ++ dvs))
theorem GvP.clee {P : Program} {w : World} {K : PySem.W.Frag} {mg : Str → Option Value} {base : Heap} {k k' : Nat} {x : Str} {n : Nat} {ks : List Str} {pm : List Nat} {dvs : List V} {sp : Sp} {scope : Scope} (g : GvP P w K mg base k x n ks pm dvs sp) (h : Here X W P w K mg base scope N k') (hk : k ≤ k') : CleeP X x n ks pm dvs sp := by
  obtain ⟨f, fd, ps, its, g1, g2, g3, g4⟩ := g
  refine ⟨k, f, fd, ps, its, ?_, h.room.mono hk, ?_, ?_, ?_⟩
  · rw [h.prog, h.w, h.K, h.mg, h.base]; exact g1
  · rw [h.mg]; exact g2
  · rw [h.K]; exact g3
  · rw [h.K]; exact g4
theorem CleeP.blk {x : Str} {n : Nat} {ks : List Str} {pm : List Nat} {dvs : List V} {sp : Sp} (h : CleeP X x n ks pm dvs sp) {s : Shared} {H : Hp} {scope : Scope} {ce : Env} {fp : List Addr} : CleeP (X.blk s H scope ce fp) x n ks pm dvs sp := h
theorem GvP.u {P : Program} {w : World} {K : PySem.W.Frag} {mg : Str → Option Value} {base : Heap} {k k' : Nat} {x : Str} {n : Nat} {ks : List Str} {pm : List Nat} {dvs : List V} {m : List Ar → R (Rs × List Sl)} {scope : Scope} (g : GvP P w K mg base k x n ks pm dvs (spU K mg m)) (h : Here X W P w K mg base scope N k') (hk : k ≤ k') : CleeP X x n ks pm dvs (spU X.K X.mg m) := by
  have := g.clee h hk
  rw [h.K, h.mg]
  exact this
end
section
variable {X : Cx} {W : WX} {sc : Scope} {N : List Str} {a b c e : Expr} {es : List Expr} {pos p : Pos} {f : DF} {x : Str} {dvs : List V} {dds : List PyData} {m : List Ar → R (Rs × List Sl)} {kws : List Keyword} {ks : List Str} {n : Nat} {pm : List Nat} {k kk : DA}
end
end PD
set_option Elab.async false
set_option linter.all false
set_option maxRecDepth 100000
set_option maxHeartbeats 4000000
set_option autoImplicit false
namespace PD
open PySem PySem.Spec L2 Srt SrtO
open PyProof.Rows hiding St
section
variable {prog : Program} {w : World} {A : Around} {E : Value → Shared → Prop} {s : Shared} {l : Addr} {vs : List Value}
end
section
variable {X : Cx} {W : WX} {sc : Scope} {N : List Str} {a e : Expr} {p pos : Pos} {k : DA}
end
end PD
set_option Elab.async false
set_option linter.all false
set_option maxRecDepth 100000
set_option maxHeartbeats 4000000
set_option autoImplicit false
namespace PD
open PySem PySem.Spec L2
open PyProof.Rows hiding St
mutual
def eqN : PyData → PyData → Bool
  | .none, .none => true
  | .bool a, .bool b => a == b
  | .int a, .int b => decide (a = b)
  | .tuple a, .tuple b => eqNs a b
  | _, _ => false
def eqNs : List PyData → List PyData → Bool
  | [], [] => true
  | a :: as, b :: bs => eqN a b && eqNs as bs
  | _, _ => false
end
inductive NdRel (K : PySem.W.Frag) (G : Rg) (H : Hp) : List (NestedKey × Addr × V) → List (PyData × PyData) → Prop
  | nil : NdRel K G H [] []
  | cons {r : NestedKey × Addr × V} {rs : List (NestedKey × Addr × V)} {k v : PyData} {l : List (PyData × PyData)} : nkD k = some r.1 → r.1.depth ≤ 8 → Dn K G H (.ref r.2.1) k → Dn K G H r.2.2 v → NdRel K G H rs l → NdRel K G H (r :: rs) ((k, v) :: l)
theorem NdRel.mono {K : PySem.W.Frag} {G G' : Rg} {H H' : Hp} (g : RgLe G G') (t : TupLe H H') {rs : List (NestedKey × Addr × V)} {l : List (PyData × PyData)} (h : NdRel K G H rs l) : NdRel K G' H' rs l := by
  induction h with
  | nil => exact .nil
  | cons h1 h2 h3 h4 _ ih => exact .cons h1 h2 (h3.mono g t) (h4.mono g t) ih
theorem NdRel.len {K : PySem.W.Frag} {G : Rg} {H : Hp} {rs : List (NestedKey × Addr × V)} {l : List (PyData × PyData)} (n : NdRel K G H rs l) : rs.length = l.length := by
  induction n with
  | nil => rfl
  | cons _ _ _ _ _ ih => rw [List.length_cons, List.length_cons, ih]
def getN (l : List (PyData × PyData)) (k : PyData) : Option PyData := (l.find? fun z => decide (nkD z.1 = nkD k)).map (·.2)
def putN (l : List (PyData × PyData)) (k v : PyData) : List (PyData × PyData) := if l.any (fun z => decide (nkD z.1 = nkD k)) then l.map (fun z => if nkD z.1 = nkD k then (z.1, v) else z) else l ++ [(k, v)]
theorem NdRel.get {K : PySem.W.Frag} {G : Rg} {H : Hp} {k : PyData} {kk : NestedKey} (hk : nkD k = some kk) {rs : List (NestedKey × Addr × V)} {l : List (PyData × PyData)} (n : NdRel K G H rs l) : (ndGet rs kk = none ∧ getN l k = none) ∨ ∃ v d, ndGet rs kk = some v ∧ getN l k = some d ∧ Dn K G H v d := by
  induction n with
  | nil => exact .inl ⟨rfl, rfl⟩
  | @cons r rs k0 v0 l h1 h2 h3 h4 _ ih =>
    by_cases e : r.1 = kk
    · have e2 : nkD k0 = nkD k := by rw [h1, hk, e]
      exact .inr ⟨r.2.2, v0, by simp [ndGet, e], by simp [getN, e2], h4⟩
    · have e2 : ¬ nkD k0 = nkD k := by rw [h1, hk]; simpa using e
      have g1 : ndGet (r :: rs) kk = ndGet rs kk := by simp [ndGet, List.find?_cons, e]
      have g2 : getN ((k0, v0) :: l) k = getN l k := by simp [getN, List.find?_cons, e2]
      rw [g1, g2]; exact ih
theorem NdRel.any {K : PySem.W.Frag} {G : Rg} {H : Hp} {k : PyData} {kk : NestedKey} (hk : nkD k = some kk) {rs : List (NestedKey × Addr × V)} {l : List (PyData × PyData)} (n : NdRel K G H rs l) : rs.any (fun r => decide (r.1 = kk)) = l.any (fun z => decide (nkD z.1 = nkD k)) := by
  induction n with
  | nil => rfl
  | @cons r rs k0 v0 l h1 h2 h3 h4 _ ih =>
    rw [List.any_cons, List.any_cons, ih]
    congr 1
    rw [decide_eq_decide, h1, hk]
    simp
theorem NdRel.put1 {K : PySem.W.Frag} {G : Rg} {H : Hp} {k v : PyData} {kk : NestedKey} {y : V} (hk : nkD k = some kk) (hv : Dn K G H y v) {rs : List (NestedKey × Addr × V)} {l : List (PyData × PyData)} (n : NdRel K G H rs l) : NdRel K G H (rs.map (fun r => if r.1 = kk then (r.1, r.2.1, y) else r)) (l.map (fun z => if nkD z.1 = nkD k then (z.1, v) else z)) := by
  induction n with
  | nil => exact .nil
  | @cons r rs k0 v0 l h1 h2 h3 h4 _ ih =>
    rw [List.map_cons, List.map_cons]
    by_cases e : r.1 = kk
    · have e2 : nkD k0 = nkD k := by rw [h1, hk, e]
      rw [if_pos e, if_pos e2]
      exact .cons h1 h2 h3 hv ih
    · have e2 : ¬ nkD k0 = nkD k := by rw [h1, hk]; simpa using e
      rw [if_neg e, if_neg e2]
      exact .cons h1 h2 h3 h4 ih
theorem NdRel.put2 {K : PySem.W.Frag} {G : Rg} {H : Hp} {k v : PyData} {kk : NestedKey} {b : Addr} {y : V} (hk : nkD k = some kk) (hd : kk.depth ≤ 8) (hb : Dn K G H (.ref b) k) (hv : Dn K G H y v) {rs : List (NestedKey × Addr × V)} {l : List (PyData × PyData)} (n : NdRel K G H rs l) : NdRel K G H (rs ++ [(kk, b, y)]) (l ++ [(k, v)]) := by
  induction n with
  | nil => exact .cons hk hd hb hv .nil
  | cons h1 h2 h3 h4 _ ih => exact .cons h1 h2 h3 h4 ih
theorem NdRel.put {K : PySem.W.Frag} {G : Rg} {H : Hp} {k v : PyData} {kk : NestedKey} {b : Addr} {y : V} (hk : nkD k = some kk) (hd : kk.depth ≤ 8) (hb : Dn K G H (.ref b) k) (hv : Dn K G H y v) {rs : List (NestedKey × Addr × V)} {l : List (PyData × PyData)} (n : NdRel K G H rs l) : NdRel K G H (ndPut rs kk b y) (putN l k v) := by
  unfold ndPut putN
  rw [n.any hk]
  split
  · exact n.put1 hk hv
  · exact n.put2 hk hd hb hv
def nkOk (k : PyData) : Bool := match k with
  | .tuple _ => match nkD k with
    | some kk => decide (kk.depth ≤ 8)
    | none => false
  | _ => false
section
variable {X : Cx} {W : WX} {sc : Scope} {N : List Str} {a b c e : Expr} {pos : Pos} {f g : DF}
end
end PD
set_option Elab.async false
set_option linter.all false
set_option maxRecDepth 100000
set_option maxHeartbeats 4000000
set_option autoImplicit false
namespace PD
open PySem PySem.Spec L2
open PyProof.Rows hiding St
theorem NdRel.at {K : PySem.W.Frag} {G : Rg} {H : Hp} {rs : List (NestedKey × Addr × V)} {l : List (PyData × PyData)} (n : NdRel K G H rs l) : ∀ {i : Nat} {r : NestedKey × Addr × V}, rs[i]? = some r → ∃ z, l[i]? = some z ∧ Dn K G H (.ref r.2.1) z.1 := by
  induction n with
  | nil => intro i r h; simp at h
  | @cons r0 rs k v l h1 h2 h3 h4 _ ih =>
    intro i r h
    cases i with
    | zero =>
      have : r0 = r := by simpa using h
      subst this
      exact ⟨(k, v), rfl, h3⟩
    | succ j => exact ih (by simpa using h)
section
variable {X : Cx} {W : WX} {sc : Scope} {N : List Str} {e tg : Expr} {f : DF}
end
end PD
set_option Elab.async false
set_option linter.all false
set_option maxRecDepth 100000
set_option maxHeartbeats 4000000
set_option autoImplicit false
namespace PD
open PySem PySem.Spec L2 Srt SrtO
open PySem.W (alike AllAlike Sortable dataLe EachIs)
open PyProof.Rows hiding St
section
variable {X : Cx} {pins : List (Addr × Obj)} {σ : St} {H : Hp} {s : Shared}
end
section
variable {X : Cx} {W : WX} {sc : Scope} {N : List Str} {a e : Expr} {p pos : Pos} {k : DA}
end
end PD
set_option Elab.async false
set_option linter.all false
set_option maxRecDepth 100000
set_option maxHeartbeats 4000000
set_option autoImplicit false
namespace PD
open PySem PySem.Spec L2
open PyProof.Rows hiding St
section
variable {X : Cx} {W : WX} {sc : Scope} {N : List Str} {e : Expr} {f : DX}
end
end PD
set_option Elab.async false
set_option linter.all false
set_option maxRecDepth 100000
set_option maxHeartbeats 4000000
set_option autoImplicit false
namespace PD
open PySem PySem.Spec L2
open PyProof.Rows hiding St
def repD (k : Int) (ds : List PyData) : List PyData := (List.replicate k.toNat ds).flatten
section
variable {X : Cx} {W : WX} {sc : Scope} {N : List Str} {a b : Expr} {pos : Pos} {f g : DF}
theorem DnA.rep {K : PySem.W.Frag} {G : Rg} {H : Hp} {xs : List V} {ds : List PyData} (h : DnA K G H xs ds) : ∀ n : Nat, DnA K G H (List.replicate n xs).flatten (List.replicate n ds).flatten
  | 0 => .nil
  | n + 1 => by
    rw [List.replicate_succ, List.replicate_succ, List.flatten_cons, List.flatten_cons]
    exact h.append (DnA.rep h n)
end
end PD
set_option Elab.async false
set_option linter.all false
set_option maxRecDepth 100000
set_option maxHeartbeats 4000000
set_option autoImplicit false
namespace PD
open PySem L2
section
variable {X : Cx} {W : WX} {sc : Scope} {N : List Str} {s : Stmt} {ss : List Stmt} {b : DS}
def lentL (Γ : List Sl) (i : Nat) : Option (List PyData) := match Γ[i]? with
  | some (.lent (.lst ds)) => some ds
  | _ => none
variable {tg : Expr} {x : Str} {p p2 pos : Pos}
end
end PD
set_option Elab.async false
set_option linter.all false
set_option maxRecDepth 100000
set_option maxHeartbeats 4000000
set_option autoImplicit false
namespace PD
open PySem L2
section
variable {X : Cx} {pins : List (Addr × Obj)} {σ : St} {H : Hp} {s : Shared} {a b : Addr} {u r : Value} {d : V} {k : List Key} {A : Around} {E : Value → Shared → Prop}
end
inductive LsOk (K : PySem.W.Frag) (G : Rg) (H : Hp) : List Addr → List (List PyData) → Prop
  | nil : LsOk K G H [] []
  | cons {q : Addr} {qs : List Addr} {xs : List V} {ds : List PyData} {l : List (List PyData)} : H q = some (.lst xs) → DnA K G H xs ds → LsOk K G H qs l → LsOk K G H (q :: qs) (ds :: l)
theorem LsOk.mono {K : PySem.W.Frag} {G G' : Rg} {H H' : Hp} (g : RgLe G G') (t : TupLe H H') {qs : List Addr} {l : List (List PyData)} (h : LsOk K G H qs l) : (∀ q ∈ qs, H' q = H q) → LsOk K G' H' qs l := by
  induction h with
  | nil => exact fun _ => .nil
  | cons a b _ ih => exact fun k => .cons (by rw [k _ List.mem_cons_self]; exact a) (b.mono g t) (ih fun q hq => k q (List.mem_cons_of_mem _ hq))
theorem LsOk.get {K : PySem.W.Frag} {G : Rg} {H : Hp} {qs : List Addr} {l : List (List PyData)} (h : LsOk K G H qs l) : ∀ {i : Nat} {q : Addr}, qs[i]? = some q → ∃ xs ds, l[i]? = some ds ∧ H q = some (.lst xs) ∧ DnA K G H xs ds := by
  induction h with
  | nil => intro i q e; simp at e
  | cons a b _ ih =>
    intro i q e
    cases i with
    | zero => cases e; exact ⟨_, _, rfl, a, b⟩
    | succ i => exact ih (by simpa using e)
theorem LsOk.set {K : PySem.W.Frag} {G : Rg} {H : Hp} {qs : List Addr} {l : List (List PyData)} (h : LsOk K G H qs l) : ∀ {i : Nat} {q : Addr} {xs : List V} {ds : List PyData}, qs[i]? = some q → qs.Nodup → H q ≠ none → (∀ ys, H q ≠ some (.tup ys)) → DnA K G H xs ds → LsOk K G (upd H q (.lst xs)) qs (l.set i ds) := by
  induction h with
  | nil => intro i q xs ds e; simp at e
  | @cons q0 qs0 xs0 ds0 l0 a b c ih =>
    intro i q xs ds e nd hq ht hd
    obtain ⟨n1, n2⟩ := List.nodup_cons.mp nd
    have t : TupLe H (upd H q (.lst xs)) := fun c ys z => by
      have : c ≠ q := fun w => by rw [w] at z; exact ht ys z
      rw [upd_ne this]; exact z
    cases i with
    | zero =>
      cases e
      exact .cons upd_same (hd.mono (fun _ _ z => z) t) (c.mono (fun _ _ z => z) t fun c hc => upd_ne (fun w => n1 (by rw [← w]; exact hc)))
    | succ i =>
      have e : qs0[i]? = some q := by simpa using e
      have ne : q0 ≠ q := fun w => n1 (by rw [w]; exact List.mem_of_getElem? e)
      exact .cons (by rw [upd_ne ne]; exact a) (b.mono (fun _ _ z => z) t) (ih e n2 hq ht hd)
theorem LsOk.snoc {K : PySem.W.Frag} {G : Rg} {H : Hp} {q : Addr} {xs : List V} {ds : List PyData} {qs : List Addr} {l : List (List PyData)} (h : LsOk K G H qs l) (hq : H q = some (.lst xs)) (hd : DnA K G H xs ds) : LsOk K G H (qs ++ [q]) (l ++ [ds]) := by
  induction h with
  | nil => exact .cons hq hd .nil
  | cons a b _ ih => exact .cons a b ih
theorem LsOk.nt {K : PySem.W.Frag} {G : Rg} {H : Hp} {qs : List Addr} {l : List (List PyData)} (h : LsOk K G H qs l) : ∀ q ∈ qs, ∃ xs, H q = some (.lst xs) := by
  induction h with
  | nil => intro q hq; cases hq
  | cons a b _ ih =>
    intro q hq
    rcases List.mem_cons.mp hq with rfl | hq
    · exact ⟨_, a⟩
    · exact ih q hq
section
variable {X : Cx} {W : WX} {sc : Scope} {N : List Str} {x y : Str} {e : Expr} {pos lpos p1 p2 a1 a2 c1 c2 : Pos} {fk : DF}
end
end PD
set_option Elab.async false
set_option linter.all false
set_option maxRecDepth 100000
set_option maxHeartbeats 4000000
set_option autoImplicit false
namespace PD
open PySem PySem.Spec L2 Srt SrtO
open PySem.W (alike AllAlike Sortable dataLe EachIs dataLt)
open PyProof.Rows hiding St
section
variable {X : Cx}
end
section
variable {X : Cx} {W : WX} {sc : Scope} {N : List Str} {a b c e : Expr} {pos p : Pos} {f g : DF} {k : DA}
end
section
variable {prog : Program} {w : World} {A : Around} {E : Value → Shared → Prop} {s : Shared} {β : Type} {vs : List Value} {bs : List β} {enc : β → PyData} {R : Value → β → Prop}
open PySem.W
end
section
variable {X : Cx} {W : WX} {sc : Scope} {N : List Str} {a e e2 : Expr} {p pos : Pos} {k : DA}
end
end PD
set_option Elab.async false
set_option linter.all false
set_option maxRecDepth 100000
set_option maxHeartbeats 4000000
set_option autoImplicit false
namespace PD
open PySem PySem.Spec L2
open PySem.W (alike dataLt AlikeAll minD)
open PyProof.Rows hiding St
section
variable {X : Cx} {W : WX} {sc : Scope} {N : List Str} {a b e e2 : Expr} {p pos : Pos} {k : DA} {f g : DF}
end
section
variable {X : Cx} {W : WX} {sc : Scope} {N : List Str} {x y : Str} {p p2 pos apos cpos : Pos}
end
def mulD (l : List (PyData × List PyData)) : List (PyData × PyData) := l.map fun z => (z.1, .list z.2)
theorem LsOk.dna {K : PySem.W.Frag} {G : Rg} {H : Hp} {qs : List Addr} {l : List (List PyData)} (h : LsOk K G H qs l) {G' : Rg} (g : RgLe G G') (k : ∀ q ∈ qs, ∀ o, H q = some o → G' q o) : DnA K G' H (qs.map V.ref) (l.map PyData.list) := by
  induction h with
  | nil => exact .nil
  | cons a b _ ih => exact .cons (.lst (.inl (k _ List.mem_cons_self _ a)) (b.mono g (TupLe.rf _))) (ih fun q hq => k q (List.mem_cons_of_mem _ hq))
section
variable {X : Cx} {W : WX} {sc : Scope} {N : List Str} {ss : List Stmt} {g : DS}
end
end PD
set_option Elab.async false
set_option linter.all false
set_option maxRecDepth 100000
set_option maxHeartbeats 4000000
set_option autoImplicit false
namespace PD
open PySem L2
section
variable {X : Cx} {W : WX} {sc : Scope} {N : List Str} {e : Expr} {pos p1 : Pos} {x : Str}
end
end PD
set_option Elab.async false
set_option linter.all false
set_option maxRecDepth 100000
set_option maxHeartbeats 4000000
set_option autoImplicit false
namespace PySem
section
variable {prog : Program} {w : World} {A : Around} {E : Value → Shared → Prop} {s : Shared} {d : Addr} {es : Array DictEntry} {ep : Nat}
end
end PySem
namespace PD
open PySem L2
section
variable {X : Cx} {W : WX} {sc : Scope} {N : List Str} {e : Expr} {pos p : Pos} {k : DA}
end
end PD
set_option Elab.async false
set_option linter.all false
set_option maxRecDepth 100000
set_option maxHeartbeats 4000000
set_option autoImplicit false
namespace PD
open PySem L2
section
variable {K : PySem.W.Frag} {G : Rg} {H : Hp} {fp : List Addr}
theorem ItsOk.app (l : List Addr) : ∀ {vs : List V} {nd : List Itm}, ItsOk K G H fp vs nd → ItsOk K G H (fp ++ l) vs nd
  | _, _, .nil => .nil
  | _, _, .d h a => .d h (ItsOk.app l a)
  | _, _, .r h a => .r (by rw [List.getElem?_append_left (List.getElem?_eq_some_iff.mp h).1]; exact h) (ItsOk.app l a)
theorem ItsOk.append : ∀ {vs ws : List V} {nd ne : List Itm}, ItsOk K G H fp vs nd → ItsOk K G H fp ws ne → ItsOk K G H fp (vs ++ ws) (nd ++ ne)
  | _, _, _, _, .nil, b => b
  | _, _, _, _, .d h a, b => .d h (ItsOk.append a b)
  | _, _, _, _, .r h a, b => .r h (ItsOk.append a b)
theorem ItsOk.length : ∀ {vs : List V} {nd : List Itm}, ItsOk K G H fp vs nd → vs.length = nd.length
  | _, _, .nil => rfl
  | _, _, .d _ a => by simp [a.length]
  | _, _, .r _ a => by simp [a.length]
theorem ItsOk.erase : ∀ {vs : List V} {nd : List Itm} (i : Nat), ItsOk K G H fp vs nd → ItsOk K G H fp (vs.eraseIdx i) (nd.eraseIdx i)
  | _, _, _, .nil => .nil
  | _, _, 0, .d h a => a
  | _, _, 0, .r h a => a
  | _, _, i + 1, .d h a => .d h (ItsOk.erase i a)
  | _, _, i + 1, .r h a => .r h (ItsOk.erase i a)
end
section
variable {K : PySem.W.Frag} {G : Gh} {H : Hp} {σ : St} {Γ : List Sl} {A : Nat → List Addr} {i j k : Nat} {ns : List (List Itm)} {nd : List Itm} {vs : List V} {p : Addr} {ds : List PyData}
end
def unrL (f : Nat → Option PyData) : List Itm → Option (List PyData)
  | [] => some []
  | .d x :: l => (unrL f l).map (x :: ·)
  | .r k :: l => (f k).bind fun d => (unrL f l).map (d :: ·)
def unr (ns : List (List Itm)) : Nat → Nat → Option PyData
  | 0 => fun _ => none
  | n + 1 => fun k => (ns[k]?).bind fun nd => (unrL (unr ns n) nd).map PyData.list
def poolA (Γ : List Sl) (j : Nat) : Option (List (List Itm)) := match Γ[j]? with
  | some (.pool ns) => some ns
  | _ => none
theorem poolA_ok {Γ : List Sl} {j : Nat} {ns : List (List Itm)} (h : poolA Γ j = some ns) : Γ[j]? = some (Sl.pool ns) := by
  unfold poolA at h
  split at h
  · cases h; assumption
  · cases h
def refA (Γ : List Sl) (i j : Nat) : Option Nat := match Γ[i]? with
  | some (.ref j' k) => if j' = j then some k else none
  | _ => none
theorem refA_ok {Γ : List Sl} {i j k : Nat} (h : refA Γ i j = some k) : Γ[i]? = some (Sl.ref j k) := by
  unfold refA at h
  split at h
  · split at h
    · rename_i e
      cases h; subst e; assumption
    · cases h
  · cases h
abbrev DR := List Sl → R (Nat × List Sl)
def nodeA (Γ : List Sl) (i j : Nat) : Option (Nat × List (List Itm) × List Itm) := (refA Γ i j).bind fun k => (poolA Γ j).bind fun ns => (ns[k]?).map fun nd => (k, ns, nd)
theorem nodeA_ok {Γ : List Sl} {i j : Nat} {z : Nat × List (List Itm) × List Itm} (h : nodeA Γ i j = some z) : Γ[i]? = some (Sl.ref j z.1) ∧ Γ[j]? = some (Sl.pool z.2.1) ∧ z.2.1[z.1]? = some z.2.2 := by
  unfold nodeA at h
  cases h1 : refA Γ i j with
  | none => rw [h1] at h; cases h
  | some k =>
    rw [h1] at h
    have h : ((poolA Γ j).bind fun ns => (ns[k]?).map fun nd => (k, ns, nd)) = some z := h
    cases h2 : poolA Γ j with
    | none => rw [h2] at h; cases h
    | some ns =>
      rw [h2] at h
      have h : ((ns[k]?).map fun nd => (k, ns, nd)) = some z := h
      cases h3 : ns[k]? with
      | none => rw [h3] at h; cases h
      | some nd => rw [h3] at h; cases h; exact ⟨refA_ok h1, poolA_ok h2, h3⟩
section
variable {X : Cx} {W : WX} {sc : Scope} {N : List Str} {e e2 : Expr} {es : List Expr} {apos cpos pos p p2 : Pos} {k : DA} {f : DF} {g : DS} {ss : List Stmt} {x y : Str} {i j : Nat} {r : DR}
theorem StaA.node {K : PySem.W.Frag} {G : Gh} {H : Hp} {σ : St} {Γ : List Sl} {A : Nat → List Addr} {z : Nat × List (List Itm) × List Itm} (S : StaA K G H σ Γ A) (h : nodeA Γ i j = some z) : ∃ a vs, (A j)[z.1]? = some a ∧ σ[i]? = some (some (V.ref a)) ∧ H a = some (.lst vs) ∧ ItsOk K (RgN G) H (A j) vs z.2.2 := by
  obtain ⟨h1, h2, h3⟩ := nodeA_ok h
  obtain ⟨a, g1, g2⟩ := S.rf i j z.1 z.2.1 h1 h2
  obtain ⟨_, _, _, q⟩ := S.sl j _ h2
  obtain ⟨b, vs, k1, k2, k3⟩ := q z.1 z.2.2 h3
  rw [g1] at k1
  cases k1
  exact ⟨a, vs, g1, g2, k2, k3⟩
def rdR (X : Cx) (W : WX) (Γ : List Sl) (j : Nat) (m : R (Nat × List Sl)) : TE := fun σ H Q => ∃ G, Sta X.K G H σ Γ ∧ Pst X W G H σ m fun r G' H' => ∀ A p ns, StaA X.K G' H' σ r.2 A → r.2[j]? = some (Sl.pool ns) → (A j)[r.1]? = some p → Q (.ref p) H'
def CR (X : Cx) (W : WX) (j : Nat) (e : Expr) (r : DR) : Prop := ∀ Γ, PE X e (rdR X W Γ j (r Γ))
end
end PD
set_option Elab.async false
set_option linter.all false
set_option maxRecDepth 100000
set_option maxHeartbeats 4000000
set_option autoImplicit false
namespace PD
open PySem L2
section
variable {X : Cx} {W : WX} {sc : Scope} {N : List Str} {e : Expr} {es : List Expr} {apos cpos pos p p2 : Pos} {k : DA} {f : DF}
end
theorem TresOk.snoc {K : PySem.W.Frag} {G : Rg} {H : Hp} {v : V} {x : PyData} (hx : Dn K G H v x) : ∀ {vs : List V} {fp : List Addr} {ts : List Tre}, TresOk K G H vs fp ts → TresOk K G H (vs ++ [v]) fp (ts ++ [.d x])
  | _, _, _, .nil => .cons (f1 := []) (f2 := []) (.d hx) .nil (by simp)
  | _, _, _, .cons h a n => .cons h (TresOk.snoc hx a) n
theorem TresOk.length {K : PySem.W.Frag} {G : Rg} {H : Hp} : ∀ {vs : List V} {fp : List Addr} {ts : List Tre}, TresOk K G H vs fp ts → vs.length = ts.length
  | _, _, _, .nil => rfl
  | _, _, _, .cons _ a _ => by simp [TresOk.length a]
section
variable {X : Cx} {W : WX} {sc : Scope} {N : List Str} {e : Expr} {es : List Expr} {apos cpos pos ipos p p2 : Pos} {k : DA} {f : DF} {x : Str}
end
end PD
set_option Elab.async false
set_option linter.all false
set_option maxRecDepth 100000
set_option maxHeartbeats 4000000
set_option autoImplicit false
namespace PD
open PySem L2
section
variable {X : Cx} {W : WX} {sc : Scope} {N : List Str} {a : Expr} {pos p : Pos} {f : DF}
end
end PD
set_option Elab.async false
set_option linter.all false
set_option maxRecDepth 100000
set_option maxHeartbeats 4000000
set_option autoImplicit false
namespace PD
open PySem L2 RT
section
variable {X : Cx} {W : WX} {sc : Scope} {N : List Str} {e tg : Expr} {pos p : Pos} {f : DF}
end
end PD
set_option Elab.async false
set_option linter.all false
set_option maxRecDepth 100000
set_option maxHeartbeats 4000000
set_option autoImplicit false
namespace HT
open PySem PySem.Spec PyProof.Rows
section
variable {prog : Program} {w : World} {A : Around} {E : Value → Shared → Prop} {s : Shared}
end
end HT
namespace PD
open PySem PySem.Spec L2
open PyProof.Rows hiding St
section
variable {X : Cx} {W : WX} {sc : Scope} {N : List Str} {a : Expr} {p1 p2 p3 pos : Pos} {f : DF}
end
end PD
set_option Elab.async false
set_option linter.all false
set_option maxRecDepth 100000
set_option maxHeartbeats 4000000
set_option autoImplicit false
namespace PD
open PySem PySem.Spec L2
open PyProof.Rows hiding St
structure InsC (K : PySem.W.Frag) (c : Str) (fs : List Str) : Prop where
  cls : Cls K (He.ga K c)
  no : ∀ f ∈ fs, NoAttr K (He.ga K c) f
  mks : PySem.W.makesIn K (He.ga K c) = true
  kp : PySem.W.keepIn K (.ref (He.ga K c)) = true
def methB (K : PySem.W.Frag) (c m : Str) : Bool := decide (PySem.W.findIn K (.ref (He.ga K c)) m = some (some (.ref (He.fAd K (c, some m))))) && (PySem.W.isFn K (.ref (He.fAd K (c, some m))) && PySem.W.keepIn K (.ref (He.fAd K (c, some m))))
theorem methB_ok {K : PySem.W.Frag} {c m : Str} (h : methB K c m = true) : Meth K (He.ga K c) m (He.fAd K (c, some m)) := by
  unfold methB at h
  simp only [Bool.and_eq_true, decide_eq_true_eq] at h
  exact ⟨h.1, h.2.1, h.2.2⟩
section
variable {X : Cx} {W : WX} {sc : Scope} {N : List Str} {a b e o : Expr} {es : List Expr} {apos cpos pos p p2 : Pos} {k : DA} {f g : DF} {s : Stmt} {cl : List (Str × List Str)}
end
end PD
set_option Elab.async false
set_option linter.all false
set_option maxRecDepth 100000
set_option maxHeartbeats 4000000
set_option autoImplicit false
namespace PD
open PySem PySem.Spec L2
open PyProof.Rows hiding St
section
variable {X : Cx} {W : WX} {sc : Scope} {N : List Str} {a b e o : Expr} {es : List Expr} {apos cpos pos p p2 pos' tpos : Pos} {f g fe fi : DF} {s : Stmt} {cl : List (Str × List Str)} {x n : Str}
end
end PD
set_option Elab.async false
set_option linter.all false
set_option maxRecDepth 100000
set_option maxHeartbeats 4000000
set_option autoImplicit false
namespace PD
open PySem PySem.Spec L2
open PyProof.Rows hiding St
abbrev DK := List Sl → Option (Bool × PyData)
section
variable {X : Cx} {W : WX} {sc : Scope} {N : List Str} {a b e o : Expr} {es : List Expr} {apos cpos pos p p2 pos' tpos : Pos} {f g fe fi : DF} {s : Stmt} {cl : List (Str × List Str)} {x n : Str} {r : DK}
end
end PD
set_option Elab.async false
set_option linter.all false
set_option maxRecDepth 100000
set_option maxHeartbeats 4000000
set_option autoImplicit false
namespace PD
open PySem PySem.Spec L2
open PyProof.Rows hiding St
section
variable {X : Cx} {CX : CXT} {k : Nat} {f C : Addr} {fd : FuncData} {ps : List Str} {sp : Sp} {dvs : List V} {ds : List Value} {E : St → XK} {x m : Str} {p pos apos : Pos} {e o : Expr} {es : List Expr} {ta : TE} {t : TA}
end
def CleeM (X : Cx) (c mn : Str) (dvs : List V) (sp : Sp) : Prop :=
  ∃ (k : Nat) (f : Addr) (fd : FuncData) (ps : List Str) (ds : List Value), FnOk X.prog X.w X.K X.mg X.base (L2N.CX X.prog X.w) k f fd ps sp ∧ Room k X.A ∧ Cls X.K (He.ga X.K c) ∧ Meth X.K (He.ga X.K c) mn f ∧ Binds X.K fd ps ds ∧ Vals dvs ds
def CleeI (X : Cx) (c : Str) (dvs : List V) (sp : Sp) : Prop :=
  ∃ (k : Nat) (f : Addr) (fd : FuncData) (ps : List Str) (ds : List Value), FnOk X.prog X.w X.K X.mg X.base (L2N.CX X.prog X.w) k f fd ps sp ∧ Room (k + 1) X.A ∧ X.mg c = some (.ref (He.ga X.K c)) ∧ Mk X.K (He.ga X.K c) f ∧ Binds X.K fd ps ds ∧ Vals dvs ds
def GvM (P : Program) (w : World) (K : PySem.W.Frag) (mg : Str → Option Value) (base : Heap) (k : Nat) (c mn : Str) (dvs : List V) (sp : Sp) : Prop :=
  ∃ (f : Addr) (fd : FuncData) (ps : List Str) (ds : List Value), FnOk P w K mg base (L2N.CX P w) k f fd ps sp ∧ Cls K (He.ga K c) ∧ Meth K (He.ga K c) mn f ∧ Binds K fd ps ds ∧ Vals dvs ds
def GvI (P : Program) (w : World) (K : PySem.W.Frag) (mg : Str → Option Value) (base : Heap) (k : Nat) (c : Str) (dvs : List V) (sp : Sp) : Prop :=
  ∃ (f : Addr) (fd : FuncData) (ps : List Str) (ds : List Value), FnOk P w K mg base (L2N.CX P w) k f fd ps sp ∧ mg c = some (.ref (He.ga K c)) ∧ Mk K (He.ga K c) f ∧ Binds K fd ps ds ∧ Vals dvs ds
section
variable {P : Program} {w : World} {K : PySem.W.Frag} {mg : Str → Option Value} {base : Heap} {k k' : Nat} {c mn : Str} {dvs : List V} {sp : Sp} {X : Cx} {W : WX} {scope : Scope} {N fs : List Str} {fd : FuncData} {ps : List Str} {ds : List Value} {m : List Ar → R (Rs × List Sl)}
theorem GvM.of (I : InsC K c fs) (hm : methB K c mn = true) (ok : FnOk P w K mg base (L2N.CX P w) k (He.fAd K (c, some mn)) fd ps sp) (b : Binds K fd ps ds) (hv : Vals dvs ds) : GvM P w K mg base k c mn dvs sp :=
  ⟨_, fd, ps, ds, ok, I.cls, methB_ok hm, b, hv⟩
theorem GvI.of (I : InsC K c fs) (hm : methB K c "__init__" = true) (hg : mg c = some (.ref (He.ga K c))) (ok : FnOk P w K mg base (L2N.CX P w) k (He.fAd K (c, some "__init__")) fd ps sp) (b : Binds K fd ps ds) (hv : Vals dvs ds) : GvI P w K mg base k c dvs sp :=
  ⟨_, fd, ps, ds, ok, hg, ⟨I.mks, (methB_ok hm).at_, (methB_ok hm).fn, I.kp⟩, b, hv⟩
theorem GvM.u (g : GvM P w K mg base k c mn dvs (spU K mg m)) (h : Here X W P w K mg base scope N k') (hk : k ≤ k') : CleeM X c mn dvs (spU X.K X.mg m) := by
  obtain ⟨f, fd, ps, ds, h1, h2, h3, h4, h5⟩ := g
  have e1 := h.prog
  have e2 := h.w
  have e3 := h.K
  have e4 := h.mg
  have e5 := h.base
  subst e1 e2 e3 e4 e5
  exact ⟨k, f, fd, ps, ds, h1, h.room.mono hk, h2, h3, h4, h5⟩
theorem GvI.u (g : GvI P w K mg base k c dvs (spU K mg m)) (h : Here X W P w K mg base scope N k') (hk : k + 1 ≤ k') : CleeI X c dvs (spU X.K X.mg m) := by
  obtain ⟨f, fd, ps, ds, h1, h2, h3, h4, h5⟩ := g
  have e1 := h.prog
  have e2 := h.w
  have e3 := h.K
  have e4 := h.mg
  have e5 := h.base
  subst e1 e2 e3 e4 e5
  exact ⟨k, f, fd, ps, ds, h1, h.room.mono hk, h2, h3, h4, h5⟩
theorem CleeM.tr (h : CleeM X c mn dvs sp) {pn : List (Addr × Obj)} {xe : Value → Shared → Prop} : CleeM (X.tr pn xe) c mn dvs sp := h
theorem CleeI.tr (h : CleeI X c dvs sp) {pn : List (Addr × Obj)} {xe : Value → Shared → Prop} : CleeI (X.tr pn xe) c dvs sp := h
theorem CleeM.blk (h : CleeM X c mn dvs sp) {s : Shared} {H : Hp} {scope : Scope} {ce : Env} {fp : List Addr} : CleeM (X.blk s H scope ce fp) c mn dvs sp := h
theorem CleeI.blk (h : CleeI X c dvs sp) {s : Shared} {H : Hp} {scope : Scope} {ce : Env} {fp : List Addr} : CleeI (X.blk s H scope ce fp) c dvs sp := h
end
section
variable {X : Cx} {W : WX} {sc : Scope} {N : List Str} {e o : Expr} {es : List Expr} {apos p pos : Pos} {x c n : Str} {fe : DF} {k : DA} {dvs : List V} {dds : List PyData} {m : List Ar → R (Rs × List Sl)} {ms : List Bool}
end
end PD
set_option Elab.async false
set_option linter.all false
set_option maxRecDepth 100000
set_option maxHeartbeats 4000000
set_option autoImplicit false
namespace PD
open PySem PySem.Spec L2 Srt SrtO
open PySem.W (alike AllAlike Sortable dataLe EachIs)
open PyProof.Rows hiding St
section
variable {P : Program} {w : World} {A : Around} {E : Value → Shared → Prop} {s : Shared}
end
section
variable {X : Cx} {W : WX} {sc : Scope} {N : List Str} {a e : Expr} {p pos : Pos} {f : DF}
end
end PD
set_option Elab.async false
set_option linter.all false
set_option maxRecDepth 100000
set_option maxHeartbeats 4000000
set_option autoImplicit false
namespace PD
open PySem L2
section
variable {X : Cx} {W : WX} {sc : Scope} {N : List Str} {e : Expr} {pos : Pos} {f : DX}
end
end PD
set_option Elab.async false
set_option linter.all false
set_option maxRecDepth 100000
set_option maxHeartbeats 4000000
set_option autoImplicit false
namespace SrtK
open PySem PySem.W PySem.Calls PyProof.Rows
section
variable {prog : Program} {w : World} {A : Around} {E : Value → Shared → Prop} {a : Addr} {vs : List Value} {kz : List Int} {f : Value} {P : PySem.Fin → Shared → Prop}
end
end SrtK
namespace PD
open PySem L2
section
open PySem.W PySem.Calls PyProof.Rows
variable {X : Cx} {pins : List (Addr × Obj)} {σ : L2.St} {H : Hp} {s : Shared} {Q : VK}
end
end PD
namespace PD
open PySem L2
def CleeS (X : Cx) (x : Str) (sp : Sp) : Prop :=
  ∃ (k : Nat) (f : Addr) (fd : FuncData) (ps : List Str), FnOk X.prog X.w X.K X.mg X.base (L2N.CX X.prog X.w) k f fd ps sp ∧ Room (k + 2) X.A ∧ X.mg x = some (.ref f) ∧ Binds X.K fd ps []
section
variable {X : Cx} {W : WX} {sc : Scope} {N : List Str} {e : Expr} {p py pos kpos : Pos} {f : DF} {y : Str} {m : List Ar → R (Rs × List Sl)}
end
theorem Gv.key {P : Program} {w : World} {K : PySem.W.Frag} {mg : Str → Option Value} {base : Heap} {k k' : Nat} {x : Str} {m : List Ar → R (Rs × List Sl)} {scope : Scope} {X : Cx} {W : WX} {N : List Str} (g : Gv P w K mg base k x [] (spU K mg m)) (h : Here X W P w K mg base scope N k') (hk : k + 2 ≤ k') : CleeS X x (spU X.K X.mg m) := by
  obtain ⟨f, fd, ps, ds, g1, g2, g3, g4, g5⟩ := g
  cases g5
  rw [h.K, h.mg]
  refine ⟨k, f, fd, ps, ?_, h.room.mono hk, ?_, ?_⟩
  · rw [h.prog, h.w, h.K, h.mg, h.base]; exact g1
  · rw [h.mg]; exact g2
  · rw [h.K]; exact g4
end PD
set_option Elab.async false
set_option linter.all false
set_option maxRecDepth 100000
set_option maxHeartbeats 4000000
set_option autoImplicit false
namespace PD
open PySem L2
section
variable {X : Cx} {W : WX} {sc : Scope} {N : List Str} {e e1 : Expr} {p pos : Pos} {f : DF} {r : DK} {cl : List (Str × List Str)}
end
end PD
set_option Elab.async false
set_option linter.all false
set_option maxRecDepth 100000
set_option maxHeartbeats 4000000
set_option autoImplicit false
namespace PD
open PySem PySem.Spec L2
open PyProof.Rows hiding St
theorem TresOk.split {K : PySem.W.Frag} {G : Rg} {H : Hp} {t : Tre} : ∀ (ts : List Tre) {vs : List V} {fp : List Addr}, TresOk K G H vs fp (ts ++ [t]) → ∃ vs1 v f1 f2, vs = vs1 ++ [v] ∧ TresOk K G H vs1 f1 ts ∧ TreOk K G H v f2 t ∧ (∀ a, a ∈ fp ↔ a ∈ f1 ∨ a ∈ f2) ∧ ∀ p ∈ f1, p ∉ f2
  | [], vs, fp, h => by
    have h : TresOk K G H vs fp [t] := h
    cases h with
    | @cons v vs2 f1 f2 _ _ h1 a n =>
      cases a
      exact ⟨[], v, [], f1, rfl, .nil, h1, fun a => by simp, fun p hp => by cases hp⟩
  | t1 :: ts, vs, fp, h => by
    have h : TresOk K G H vs fp (t1 :: (ts ++ [t])) := h
    cases h with
    | @cons v vs2 f1 f2 _ _ h1 a n =>
      obtain ⟨vs1, w, g1, g2, rfl, b1, b2, b3, b4⟩ := TresOk.split ts a
      refine ⟨v :: vs1, w, f1 ++ g1, g2, rfl, .cons h1 b1 (fun p hp z => n p hp ((b3 p).mpr (.inl z))), b2, fun a => ?_, fun p hp => ?_⟩
      · rw [List.mem_append, List.mem_append, b3, or_assoc]
      · rcases List.mem_append.mp hp with z | z
        · exact fun q => n p z ((b3 p).mpr (.inr q))
        · exact b4 p z
section
variable {X : Cx} {W : WX} {sc : Scope} {N : List Str} {e tg : Expr} {f : DX} {apos cpos : Pos}
end
end PD
set_option Elab.async false
set_option linter.all false
set_option maxRecDepth 100000
set_option maxHeartbeats 4000000
set_option autoImplicit false
namespace PD
open PySem PySem.Spec L2 Srt SrtO
open PySem.W
open PyProof.Rows hiding St
section
variable {prog : Program} {w : World} {A : Around} {s : Shared}
variable {β : Type} {vs : List Value} {bs : List β} {enc : β → PyData} {R : Value → β → Prop} {E : Value → Shared → Prop}
end
section
variable {X : Cx} {W : WX} {sc : Scope} {N : List Str} {a e : Expr} {p pos : Pos} {k : DA}
end
end PD
set_option Elab.async false
set_option linter.all false
set_option maxRecDepth 100000
set_option maxHeartbeats 4000000
set_option autoImplicit false
namespace PD
open PySem PySem.Spec L2
open PyProof.Rows hiding St
def dRepL (f : DN) (g : DF) : DN := fun Γ => (f Γ).bind fun x => (g x.2).bind fun y => match y.1 with
  | .d _ (.int k) => gq (decide (0 ≤ k) && decide (k ≤ 2000) && decide (x.1.length ≤ 1000)) (repD k x.1, y.2)
  | _ => .bad
section
variable {X : Cx} {W : WX} {a b : Expr} {pos : Pos} {f : DN} {g : DF}
theorem cn_repL (ha : CN X W a f) (hb : CE X W b g) : CN X W (.BinOp a .Mult b pos) (dRepL f g) := fun Γ =>
  pe_imp (pe_op op_rep (ha Γ) (pe_any fun x : List PyData × List Sl => hb x.2)) fun σ H Q ⟨G, S, q⟩ => ⟨G, S, (Pst.bind q).imp fun x G1 H1 e1 q1 p ws S1 hp hd => by
    obtain ⟨S1', e1'⟩ := S1.grow (grow_new (o := .lst ws) S1.w hp)
    refine ⟨x, _, S1', ((Pst.bind q1).ext e1').imp fun y G2 H2 e2 q2 u S2 hu => ?_⟩
    have hn : rg _ true p (.lst ws) := e2.n p _ (show upd G1.N p (.lst ws) p = some (.lst ws) from upd_same)
    have hH : H2 p = some (.lst ws) := (S2.w.new _ _ hn).1
    have hd2 : DnA X.K (rg G2 true) H2 ws x.1 := hd.mono (fun a o z => e2.n _ _ (e1'.n _ _ z)) ((tup_upd hp).tr e2.t)
    obtain ⟨z, Γ2⟩ := y
    dsimp only at q2 hu S2
    split at q2
    · rename_i fr k
      obtain ⟨hc, q3⟩ := Pst.gq S2.w q2
      simp only [Bool.and_eq_true, decide_eq_true_eq] at hc
      have hl := hd2.length
      refine ⟨p, k, ws, rfl, dn_int hu, hH, by omega, by omega, ?_, fun q hq => q3 q _ S2 hq (hd2.rep k.toNat)⟩
      have h1 : ws.length * k.toNat ≤ 1000 * 2000 := Nat.mul_le_mul (by omega) (by omega)
      have h2 : 1000 * 2000 ≤ sizeLine := by decide
      exact Nat.le_trans h1 h2
    · exact q2.elim⟩
end
end PD
set_option Elab.async false
set_option linter.all false
set_option maxRecDepth 100000
set_option maxHeartbeats 4000000
set_option autoImplicit false
namespace PD
open PySem L2
section
variable {X : Cx} {W : WX} {sc : Scope} {N : List Str} {a b c e : Expr} {es : List Expr} {pos p : Pos} {f : DF} {x : Str} {dvs : List V} {dds : List PyData} {m : List Ar → R (Rs × List Sl)} {kws : List Keyword} {ks : List Str} {n : Nat} {pm : List Nat} {k kk : DA}
end
end PD
set_option Elab.async false
set_option linter.all false
set_option maxRecDepth 100000
set_option maxHeartbeats 4000000
set_option autoImplicit false
namespace PD
open PySem PySem.Spec L2
open PyProof.Rows hiding St
section
variable {X : Cx} {pins : List (Addr × Obj)} {σ : St} {H : Hp} {s : Shared} {a b : Addr} {r : Value} {d : V} {k : NestedKey} {A : Around} {E : Value → Shared → Prop} {rs : List (NestedKey × Addr × V)}
end
inductive MnRel (K : PySem.W.Frag) (G : Rg) (H : Hp) : List (NestedKey × Addr × V) → List Addr → List (PyData × List PyData) → Prop
  | nil : MnRel K G H [] [] []
  | cons {r : NestedKey × Addr × V} {rs : List (NestedKey × Addr × V)} {q : Addr} {qs : List Addr} {k : PyData} {xs : List V} {ds : List PyData} {l : List (PyData × List PyData)} :
      nkD k = some r.1 → r.1.depth ≤ 8 → Dn K G H (.ref r.2.1) k → r.2.2 = .ref q → H q = some (.lst xs) → DnA K G H xs ds → MnRel K G H rs qs l → MnRel K G H (r :: rs) (q :: qs) ((k, ds) :: l)
section
variable {K : PySem.W.Frag} {G G' : Rg} {H H' : Hp} {rs : List (NestedKey × Addr × V)} {qs : List Addr} {l : List (PyData × List PyData)}
theorem MnRel.mono (g : RgLe G G') (t : TupLe H H') (h : MnRel K G H rs qs l) : (∀ q ∈ qs, H' q = H q) → MnRel K G' H' rs qs l := by
  induction h with
  | nil => exact fun _ => .nil
  | cons h1 h2 h3 h4 h5 h6 _ ih => exact fun k => .cons h1 h2 (h3.mono g t) h4 (by rw [k _ List.mem_cons_self]; exact h5) (h6.mono g t) (ih fun q hq => k q (List.mem_cons_of_mem _ hq))
theorem MnRel.nt (h : MnRel K G H rs qs l) : ∀ q ∈ qs, ∃ xs, H q = some (.lst xs) := by
  induction h with
  | nil => intro q hq; cases hq
  | cons h1 h2 h3 h4 h5 h6 _ ih =>
    intro q hq
    rcases List.mem_cons.mp hq with rfl | hq
    · exact ⟨_, h5⟩
    · exact ih q hq
theorem MnRel.len (h : MnRel K G H rs qs l) : rs.length = l.length := by
  induction h with
  | nil => rfl
  | cons _ _ _ _ _ _ _ ih => rw [List.length_cons, List.length_cons, ih]
theorem MnRel.ks (h : MnRel K G H rs qs l) : ∀ r ∈ rs, ∃ G' k', Dn K G' H (.ref r.2.1) k' ∧ nkD k' = some r.1 ∧ r.1.depth ≤ 8 := by
  induction h with
  | nil => intro r hr; cases hr
  | cons h1 h2 h3 _ _ _ _ ih =>
    intro r hr
    rcases List.mem_cons.mp hr with rfl | hr
    · exact ⟨_, _, h3, h1, h2⟩
    · exact ih r hr
end
theorem MnRel.snoc {K : PySem.W.Frag} {G : Rg} {H : Hp} {rs : List (NestedKey × Addr × V)} {qs : List Addr} {l : List (PyData × List PyData)} (h : MnRel K G H rs qs l) {kk : NestedKey} {b q : Addr} {k : PyData} {xs : List V} {ds : List PyData}
    (h1 : nkD k = some kk) (h2 : kk.depth ≤ 8) (h3 : Dn K G H (.ref b) k) (h5 : H q = some (.lst xs)) (h6 : DnA K G H xs ds) : MnRel K G H (rs ++ [(kk, b, .ref q)]) (qs ++ [q]) (l ++ [(k, ds)]) := by
  induction h with
  | nil => exact .cons h1 h2 h3 rfl h5 h6 .nil
  | cons a1 a2 a3 a4 a5 a6 _ ih => exact .cons a1 a2 a3 a4 a5 a6 ih
section
variable {X : Cx} {W : WX} {sc : Scope} {N : List Str} {x y : Str} {e : Expr} {pos lpos p1 p2 a1 a2 c1 c2 : Pos} {fk : DF}
end
theorem MnRel.nd {K : PySem.W.Frag} {G G' : Rg} {H : Hp} {rs : List (NestedKey × Addr × V)} {qs : List Addr} {l : List (PyData × List PyData)} (h : MnRel K G H rs qs l) (g : RgLe G G') : (∀ q ∈ qs, ∀ o, H q = some o → G' q o) → NdRel K G' H rs (mulD l) := by
  induction h with
  | nil => exact fun _ => .nil
  | cons h1 h2 h3 h4 h5 h6 _ ih => exact fun k => .cons h1 h2 (h3.mono g (TupLe.rf _)) (by rw [h4]; exact .lst (.inl (k _ List.mem_cons_self _ h5)) (h6.mono g (TupLe.rf _))) (ih fun q hq => k q (List.mem_cons_of_mem _ hq))
section
variable {X : Cx} {W : WX} {sc : Scope} {N : List Str} {ss : List Stmt} {g : DS}
end
section
variable {X : Cx} {W : WX} {sc : Scope} {N : List Str} {e tg : Expr} {f : DF} {apos cpos : Pos}
end
end PD
set_option Elab.async false
set_option linter.all false
set_option maxRecDepth 100000
set_option maxHeartbeats 4000000
set_option autoImplicit false
namespace PD
open PySem PySem.Spec L2
open PyProof.Rows hiding St
def stp {α : Type} (xs : List α) (k : Int) : List α := pickP (sliceRange 0 (xs.length : Nat) k) xs
theorem DnA.pickP {K : PySem.W.Frag} {G : Rg} {H : Hp} {vs : List V} {ds : List PyData} (h : DnA K G H vs ds) (pm : List Nat) : DnA K G H (pickP pm vs) (pickP pm ds) := by
  induction pm with
  | nil => exact .nil
  | cons i r ih =>
    unfold PD.pickP at ih ⊢
    rw [List.filterMap_cons, List.filterMap_cons]
    cases hv : vs[i]? with
    | none =>
      have : ds[i]? = none := by
        rw [List.getElem?_eq_none_iff] at hv ⊢
        rw [← h.length]; exact hv
      rw [this]; exact ih
    | some v =>
      obtain ⟨d, h1, h2⟩ := h.get hv
      rw [h1]
      exact .cons h2 ih
section
variable {X : Cx}
end
section
variable {X : Cx} {W : WX} {sc : Scope} {N : List Str} {a e : Expr} {f : DF} {fs : DO} {p3 pos : Pos}
end
end PD
set_option Elab.async false
set_option linter.all false
set_option maxRecDepth 100000
set_option maxHeartbeats 4000000
set_option autoImplicit false
namespace PD
open PySem PySem.Spec L2
open PyProof.Rows hiding St
def ixS' : AV → AV → R AV
  | .d _ (.str z), .d _ (.int i) => (R.ofO (atI z.cps.toList i)).bind fun c => gq (decide (z.length ≤ sizeLine)) (.d true (.str ⟨#[c]⟩))
  | _, _ => .bad
def dIxS (f g : DF) : DF := fun Γ => (f Γ).bind fun x => (g x.2).bind fun y => (ixS' x.1 y.1).bind fun z => .val (z, y.2)
section
variable {X : Cx} {W : WX} {sc : Scope} {N : List Str} {a b e : Expr} {f g : DF} {p2 pos apos : Pos}
theorem ce_ixS (ha : CE X W a f) (hb : CE X W b g) (hs : PlainIx b := by exact fun _ _ => rfl) : CE X W (.Subscript a b pos) (dIxS f g) := fun Γ =>
  pe_imp (pe_ix ix_str (ha Γ) (pe_any fun x : AV × List Sl => hb x.2) hs) fun σ H Q h => bin_rd (X := X) (W := W) (ava := Prod.fst) (Γa := Prod.snd) (avb := fun _ (y : AV × List Sl) => y.1) (Γb := fun _ (y : AV × List Sl) => y.2) (avk := Prod.fst) (Γk := Prod.snd) (k := fun (x : AV × List Sl) (y : AV × List Sl) => (ixS' x.1 y.1).bind fun z => .val (z, y.2)) (fun x y G H σ u v Q S hu hv p => by
    obtain ⟨x, Γ1⟩ := x
    obtain ⟨y, Γ2⟩ := y
    simp only at hu hv S p
    unfold ixS' at p
    split at p
    · rename_i fr z _ i
      cases hz : atI z.cps.toList i with
      | none => rw [hz] at p; exact p.elim
      | some c =>
        rw [hz] at p
        simp only [R.ofO, R.bind] at p
        rcases gq_cases (decide (z.length ≤ sizeLine)) (AV.d true (.str ⟨#[c]⟩)) with e | ⟨hc, e⟩
        · rw [e] at p; exact p.elim
        · rw [e] at p
          exact ⟨z, i, c, dn_str hu, dn_int hv, of_decide_eq_true hc, hz, p G H (Ext.rf S.w) _ S (.str _)⟩
    · exact p.elim) h
end
end PD
set_option Elab.async false
set_option linter.all false
set_option maxRecDepth 100000
set_option maxHeartbeats 4000000
set_option autoImplicit false
namespace PD
open PySem PySem.Spec L2
open PyProof.Rows hiding St
section
variable {X : Cx} {W : WX} {sc : Scope} {N : List Str} {a b e tg o : Expr} {es : List Expr} {f g : DF} {p p2 pos apos cpos : Pos} {k : DA} {x : Str} {vs : List V} {ds : List PyData}
end
end PD
set_option Elab.async false
set_option linter.all false
set_option maxRecDepth 100000
set_option maxHeartbeats 4000000
set_option autoImplicit false
namespace PD
open PySem L2
section
variable {X : Cx} {W : WX} {sc : Scope} {N : List Str} {b b1 b2 e : Expr} {pos : Pos}
end
end PD
set_option Elab.async false
set_option linter.all false
set_option maxRecDepth 100000
set_option maxHeartbeats 4000000
set_option autoImplicit false
namespace PD
open PySem L2
def RowsAt (K : PySem.W.Frag) (G : Rg) (H : Hp) : List (Addr × List V) → List (List PyData) → Prop
  | [], [] => True
  | z :: l, ds :: dss => DnA K G H z.2 ds ∧ RowsAt K G H l dss
  | _, _ => False
theorem RowsAt.mono {K : PySem.W.Frag} {G G' : Rg} {H H' : Hp} (g : RgLe G G') (t : TupLe H H') : ∀ {l : List (Addr × List V)} {dss : List (List PyData)}, RowsAt K G H l dss → RowsAt K G' H' l dss
  | [], [], _ => trivial
  | _ :: _, _ :: _, h => ⟨h.1.mono g t, RowsAt.mono g t h.2⟩
  | [], _ :: _, h => h.elim
  | _ :: _, [], h => h.elim
theorem RowsAt.len {K : PySem.W.Frag} {G : Rg} {H : Hp} : ∀ {l : List (Addr × List V)} {dss : List (List PyData)}, RowsAt K G H l dss → l.length = dss.length
  | [], [], _ => rfl
  | _ :: _, _ :: _, h => by simp [RowsAt.len h.2]
  | [], _ :: _, h => h.elim
  | _ :: _, [], h => h.elim
theorem RowsAt.snoc {K : PySem.W.Frag} {G : Rg} {H : Hp} {z : Addr × List V} {ds : List PyData} (hz : DnA K G H z.2 ds) : ∀ {l : List (Addr × List V)} {dss : List (List PyData)}, RowsAt K G H l dss → RowsAt K G H (l ++ [z]) (dss ++ [ds])
  | [], [], _ => ⟨hz, trivial⟩
  | _ :: _, _ :: _, h => ⟨h.1, RowsAt.snoc hz h.2⟩
  | [], _ :: _, h => h.elim
  | _ :: _, [], h => h.elim
section
variable {X : Cx} {W : WX} {sc : Scope} {N : List Str} {Γ : List Sl} {tg iter elt : Expr} {scope : Scope} {own : List (Str × Nat)} {pos : Pos} {it : DI} {g : DG} {e : DN} {ts : List Nat}
end
end PD
set_option Elab.async false
set_option linter.all false
set_option maxRecDepth 100000
set_option maxHeartbeats 4000000
set_option autoImplicit false
namespace PD
open PySem L2
section
variable {X : Cx} {W : WX} {sc : Scope} {N : List Str} {tg iter elt a b e : Expr} {scope : Scope} {own : List (Str × Nat)} {pos apos cpos p p2 : Pos} {it : DI} {g : DG} {f : DF} {x y : Str} {ts : List Nat}
structure CompT (X : Cx) (W : WX) (sc : Scope) (N : List Str) (tg iter elt : Expr) (scope : Scope) (own : List (Str × Nat)) (ts : List Nat) (g : DG) (it : DI) (e : DN) : Prop where
  hin : CI X W tg iter it
  ok : blkC N sc scope own = true
  hg : ∀ (s : Shared) (H : Hp) (c : Addr) (cl : List (Str × Addr)) (fp : List Addr), CG (X.blk s H scope (compEnvC scope cl c X.env) fp) tg ts g
  he : ∀ (s : Shared) (H : Hp) (c : Addr) (cl : List (Str × Addr)) (fp : List Addr), CN (X.blk s H scope (compEnvC scope cl c X.env) fp) WF elt e
  hts : ∀ j ∈ ts, j ∈ own.map (·.2)
  hs : ∀ x, foldedSetIterable iter X.env x = pure x
end
end PD
set_option Elab.async false
set_option linter.all false
set_option maxRecDepth 100000
set_option maxHeartbeats 4000000
set_option autoImplicit false
namespace PD
open PySem L2
section
variable {X : Cx} {W : WX} {sc : Scope} {N : List Str} {x y : Str}
end
end PD
set_option Elab.async false
set_option linter.all false
set_option maxRecDepth 100000
set_option maxHeartbeats 4000000
set_option autoImplicit false
namespace MinD
open PySem PySem.W PySem.Calls PyProof.Rows
section
variable {prog : Program} {w : World} {A : Around} {R : Result → Shared → Prop} {it B : Addr} {ft wt : List Addr} {len : Nat} {Pv : Nat → Value → Prop} {Tn : Nat → Heap → Prop} {kw : List (Str × Value)}
abbrev two (v : Value) (c : Nat) : Obj := { cls := .type "list", dict := none, data := .seq #[v, v] c, slots := #[] }
theorem nm : (toString "min" ++ toString ".loop" : String) = "min.loop" := by decide
theorem turns (K : Walks prog w A.in1 it ft wt len Pv Tn) (lt : Nat → Nat → Bool) (cmp : CmpOf prog w A.in1 .Lt Pv lt) (nb : B ∉ ft) (m : Nat) :
    ∀ (j : Nat) (s : Shared) (v : Value) (c : Nat), len - (j + 1) = m → j + 1 ≤ len → Tn (j + 1) s.heap → Pv (argBest lt j) v → s.heap.get? B = some (two v c) →
      (∀ u h' tk, Pv (argBest lt (len - 1)) u → (∀ b o, b ∉ wt → b ≠ B → s.heap.get? b = some o → h'.get? b = some o) → R (.ok (.ret u)) { s with heap := h', toks := tk }) → codeAny (model prog w) A (.builtin "min.loop" ⟨[.ref it, .none, .ref B], kw⟩) R s := by
  have nw : B ∉ wt := fun z => nb (K.sub _ z)
  induction m with
  | zero =>
    intro j s v c e1 e2 tn pv hb fin
    obtain rfl : j + 1 = len := by omega
    refine codeAny_builtin F.entry_min_loop ?_; rw [Around.under_plainId F.plain_min_loop _]
    refine wpAny_bind (m := seqItems? (.ref B)) (wpAny_seqItems hb rfl ?_)
    refine wpAny_bind (wpAny_tryCatch (K.done s _ _ tn fun g tk keep => ?_))
    have hb' := keep B _ nw hb
    refine wpAny_bind (m := updateSeq B (fun _ => #[])) (wpAny_updateSeq hb' rfl (wpAny_bind (wpAny_letGo (wpAny_pure ?_))))
    exact fin v _ tk pv fun b o x y z => (Heap.get?_update_other _ _ (Ne.symm y)).trans (keep b o x z)
  | succ m ih =>
    intro j s v c e1 e2 tn pv hb fin
    have lt1 : j + 1 < len := by omega
    refine codeAny_builtin F.entry_min_loop ?_; rw [Around.under_plainId F.plain_min_loop _]
    refine wpAny_bind (m := seqItems? (.ref B)) (wpAny_seqItems hb rfl ?_)
    refine wpAny_bind (wpAny_tryCatch (K.item (j + 1) s _ _ lt1 tn fun u g tk pu tn' keep => ?_))
    have hb' := keep B _ nw hb
    refine wpAny_bind (m := tryCatch (holding [u, u] (richCompare .Lt u v >>= _)) _) (wpAny_tryCatch (wpAny_holding (wpAny_bind (cmp (j + 1) (argBest lt j) u v _ _ _ pu pv ?_))))
    refine wpAny_bind (wpAny_holding (wpAny_truthy_bool (wpAny_bind (wpAny_letGo (wpAny_pure ?_)))))
    cases z : lt (j + 1) (argBest lt j) with
    | false =>
      simp only [Bool.false_eq_true, if_false]
      refine wpAny_bind (wpAny_letGo ?_); rw [nm]
      refine wpAny_pure ⟨plainId_quiet F.plain_min_loop _, ih (j + 1) _ v c (by omega) lt1 tn' (by simp only [argBest, z, Bool.false_eq_true, if_false]; exact pv) hb' fun u' h2 tk2 pu' keep2 => fin u' h2 tk2 pu' fun b o x y q => keep2 b o x y (keep b o x q)⟩
    | true =>
      simp only [if_true]
      refine wpAny_bind (wpAny_updateSeq hb' rfl (wpAny_bind (wpAny_letGo ?_))); rw [nm]
      refine wpAny_pure ⟨plainId_quiet F.plain_min_loop _, ih (j + 1) _ u _ (by omega) lt1 (K.frame _ _ _ tn' fun b x o e => (Heap.get?_update_other _ _ (fun h : B = b => nb (by rw [h]; exact x))).trans e) (by simp only [argBest, z, if_true]; exact pu) (Heap.get?_update_self _ hb' rfl) fun u' h2 tk2 pu' keep2 => ?_⟩
      exact fin u' h2 tk2 pu' fun b o x y q => keep2 b o x y ((Heap.get?_update_other _ _ (Ne.symm y)).trans (keep b o x q))
theorem start (K : Walks prog w A.in1 it ft wt len Pv Tn) (lt : Nat → Nat → Bool) (cmp : CmpOf prog w A.in1 .Lt Pv lt) (nb : B ∉ ft) {d : Value} {nme : Str} {s : Shared} {c : Nat} (tn : Tn 0 s.heap) (hb : s.heap.get? B = some { cls := .type "list", dict := none, data := .seq #[] c, slots := #[] })
    (fin0 : len = 0 → ∀ h' tk, (∀ b o, b ∉ wt → b ≠ B → s.heap.get? b = some o → h'.get? b = some o) → R (.ok (.ret d)) { s with heap := h', toks := tk })
    (fin : 0 < len → ∀ u h' tk, Pv (argBest lt (len - 1)) u → (∀ b o, b ∉ wt → b ≠ B → s.heap.get? b = some o → h'.get? b = some o) → R (.ok (.ret u)) { s with heap := h', toks := tk }) : codeAny (model prog w) A (.builtin "min.loop" ⟨[.ref it, .none, .ref B], [(nme, d)]⟩) R s := by
  have nw : B ∉ wt := fun z => nb (K.sub _ z)
  refine codeAny_builtin F.entry_min_loop ?_; rw [Around.under_plainId F.plain_min_loop _]
  refine wpAny_bind (m := seqItems? (.ref B)) (wpAny_seqItems hb rfl ?_)
  by_cases h0 : len = 0
  · subst h0
    refine wpAny_bind (wpAny_tryCatch (K.done s _ _ tn fun g tk keep => ?_))
    refine wpAny_bind (wpAny_rule ?_)
    exact wpAny_pure (fin0 rfl g tk fun b o x _ z => keep b o x z)
  · refine wpAny_bind (wpAny_tryCatch (K.item 0 s _ _ (by omega) tn fun u g tk pu tn' keep => ?_))
    have hb' := keep B _ nw hb
    refine wpAny_bind (m := updateSeq B (fun _ => #[u, u])) (wpAny_updateSeq hb' rfl ?_); rw [nm]
    refine wpAny_pure ⟨plainId_quiet F.plain_min_loop _, turns K lt cmp nb _ 0 _ u _ rfl (by omega) (K.frame _ _ _ tn' fun b x o e => (Heap.get?_update_other _ _ (fun h : B = b => nb (by rw [h]; exact x))).trans e) pu (Heap.get?_update_self _ hb' rfl) fun u' h2 tk2 pu' keep2 => ?_⟩
    exact fin (by omega) u' h2 tk2 pu' fun b o x y q => keep2 b o x y ((Heap.get?_update_other _ _ (Ne.symm y)).trans (keep b o x q))
end
section
variable {prog : Program} {w : World} {A : Around} {E : Value → Shared → Prop} {s : Shared} {l : Addr} {xs : Array (Int × Tok)}
end
end MinD
namespace PD
open PySem L2 PySem.W PySem.Calls
open PyProof.Rows hiding St
section
variable {X : Cx} {W : WX} {sc : Scope} {N : List Str} {e e2 : Expr} {p pos kpos : Pos} {f g : DF}
end
end PD
set_option Elab.async false
set_option linter.all false
set_option maxRecDepth 100000
set_option maxHeartbeats 4000000
set_option autoImplicit false
namespace PD
open PySem L2
abbrev DL := List Sl → R (List AV × Cl × List Sl)
section
variable {X : Cx} {W : WX} {sc : Scope} {N : List Str} {e : Expr} {es : List Expr} {f : DF} {k : DL} {n0 : DC}
end
section
variable {X : Cx} {W : WX} {sc : Scope} {N : List Str} {e : Expr} {es : List Expr} {x : Str} {p pos : Pos} {m : List Ar → R (Rs × List Sl)} {k : DL}
end
end PD
set_option Elab.async false
set_option linter.all false
set_option maxRecDepth 100000
set_option maxHeartbeats 4000000
set_option autoImplicit false
namespace PD
open PySem L2
inductive Atm where
  | v (i : Nat)
  | h (j c : Nat)
def AtV (σ : St) (H : Hp) : Atm → V → Prop
  | .v i, v => σ[i]? = some (some v)
  | .h j c, v => ∃ p ws, σ[j]? = some (some (.ref p)) ∧ H p = some (.lst ws) ∧ ws[c]? = some v
inductive AtVs (σ : St) (H : Hp) : List Atm → List V → Prop
  | nil : AtVs σ H [] []
  | cons {a : Atm} {as : List Atm} {v : V} {vs : List V} : AtV σ H a v → AtVs σ H as vs → AtVs σ H (a :: as) (v :: vs)
section
variable {X : Cx} {W : WX} {sc : Scope} {N : List Str} {e : Expr} {es : List Expr} {as : List Atm} {x : Str} {p p2 cp pos : Pos}
end
theorem TresOk.at {K : PySem.W.Frag} {G : Rg} {H : Hp} : ∀ {ws : List V} {fp : List Addr} {ts : List Tre} {c : Nat} {t : Tre}, TresOk K G H ws fp ts → ts[c]? = some t → ∃ v f, ws[c]? = some v ∧ TreOk K G H v f t
  | _, _, _, c, t, .nil, e => by simp at e
  | _, _, _, 0, t, .cons h a n, e => by simp at e; subst e; exact ⟨_, _, rfl, h⟩
  | _, _, _, c + 1, t, .cons h a n, e => by
    obtain ⟨v, f, h1, h2⟩ := TresOk.at (c := c) a (by simpa using e)
    exact ⟨v, f, by simpa using h1, h2⟩
section
variable {X : Cx} {W : WX} {sc : Scope} {N : List Str} {e : Expr} {es : List Expr} {as : List Atm} {x : Str} {p pos : Pos} {m : List Ar → R (Rs × List Sl)}
end
end PD
set_option Elab.async false
set_option linter.all false
set_option maxRecDepth 100000
set_option maxHeartbeats 4000000
set_option autoImplicit false
namespace PD
open PySem L2
section
variable {X : Cx} {W : WX} {sc : Scope} {N : List Str} {e e1 : Expr} {x : Str} {p p2 cp cp2 pos tpos apos cpos : Pos} {f : DF} {n : DN}
end
end PD
set_option Elab.async false
set_option linter.all false
set_option maxRecDepth 100000
set_option maxHeartbeats 4000000
set_option autoImplicit false
namespace PD
open PySem L2
section
variable {X : Cx} {W : WX} {sc : Scope} {N : List Str} {e : Expr} {x : Str} {p p2 ipos cp cp2 pos tpos apos cpos : Pos} {f : DF}
end
end PD
set_option Elab.async false
set_option linter.all false
set_option maxRecDepth 100000
set_option maxHeartbeats 4000000
set_option autoImplicit false
namespace PD
open PySem L2
theorem AtVs.heap {σ : St} {H H2 : Hp} : ∀ {is : List Nat} {vs : List V}, AtVs σ H (is.map Atm.v) vs → AtVs σ H2 (is.map Atm.v) vs
  | [], _, .nil => .nil
  | _ :: _, _, .cons h k => .cons h (AtVs.heap k)
section
variable {X : Cx} {W : WX} {sc : Scope} {N : List Str} {e : Expr} {es : List Expr} {is : List Nat} {x : Str} {p pos : Pos} {m : List Ar → R (Rs × List Sl)} {n0 : DC}
end
end PD
set_option Elab.async false
set_option linter.all false
set_option maxRecDepth 100000
set_option maxHeartbeats 4000000
set_option autoImplicit false
namespace PD
open PySem L2
end PD
set_option Elab.async false
set_option linter.all false
set_option maxRecDepth 100000
set_option maxHeartbeats 4000000
set_option autoImplicit false
namespace PD
open PySem L2
section
variable {X : Cx} {Γ : List Sl} {m : List Ar → R (Rs × List Sl)} {r j : Nat} {ms : List Bool} {as : List Atm} {E : St → XK}
end
end PD
set_option Elab.async false
set_option linter.all false
set_option maxRecDepth 100000
set_option maxHeartbeats 4000000
set_option autoImplicit false
namespace PD
open PySem L2
end PD
set_option Elab.async false
set_option linter.all false
set_option maxRecDepth 100000
set_option maxHeartbeats 4000000
set_option autoImplicit false
namespace PD
open PySem L2
section
variable {X : Cx} {W : WX} {sc : Scope} {N : List Str} {x y z n : Str} {m : List Ar → R (Rs × List Sl)} {r j i mk : Nat} {ms : List Bool} {as : List Atm} {cond : Expr} {scope : Scope} {own : List (Str × Nat)} {ss : List Stmt} {b : DS}
end
end PD
set_option Elab.async false
set_option linter.all false
set_option maxRecDepth 100000
set_option maxHeartbeats 4000000
set_option autoImplicit false
namespace PD
open PySem L2
section
variable {X : Cx} {W : WX} {sc : Scope} {N : List Str} {e : Expr} {es : List Expr} {as : List Atm} {x : Str} {p pos : Pos} {m : List Ar → R (Rs × List Sl)}
end
end PD
set_option Elab.async false
set_option linter.all false
set_option maxRecDepth 100000
set_option maxHeartbeats 4000000
set_option autoImplicit false
namespace PD
open PySem L2
abbrev Pr := PyData × List PyData
abbrev DP := List Sl → R (Pr × List Sl)
def rdP (X : Cx) (W : WX) (Γ : List Sl) (m : R (Pr × List Sl)) : TE := fun σ H Q => ∃ G, Sta X.K G H σ Γ ∧ Pst X W G H σ m fun r G' H' => ∀ q a v1 vs, Sta X.K G' H' σ r.2 → H' a = none → H' q = none → q ≠ a → Dn X.K (rg G' true) H' v1 r.1.1 → DnA X.K (rg G' true) H' vs r.1.2 → Q (.ref q) (upd (upd H' a (.lst vs)) q (.lst [v1, .ref a]))
def CP (X : Cx) (W : WX) (e : Expr) (f : DP) : Prop := ∀ Γ, PE X e (rdP X W Γ (f Γ))
section
variable {X : Cx} {W : WX} {sc : Scope} {N : List Str} {a b : Expr} {pos : Pos} {f : DF} {n : DC}
end
abbrev Pl4 := Addr × V × Addr × List V
def RowsP (K : PySem.W.Frag) (G : Rg) (H : Hp) : List Pl4 → List Pr → Prop
  | [], [] => True
  | z :: l, y :: ys => (Dn K G H z.2.1 y.1 ∧ DnA K G H z.2.2.2 y.2) ∧ RowsP K G H l ys
  | _, _ => False
theorem RowsP.mono {K : PySem.W.Frag} {G G' : Rg} {H H' : Hp} (g : RgLe G G') (t : TupLe H H') : ∀ {l : List Pl4} {ys : List Pr}, RowsP K G H l ys → RowsP K G' H' l ys
  | [], [], _ => trivial
  | _ :: _, _ :: _, h => ⟨⟨h.1.1.mono g t, h.1.2.mono g t⟩, RowsP.mono g t h.2⟩
  | [], _ :: _, h => h.elim
  | _ :: _, [], h => h.elim
theorem RowsP.snoc {K : PySem.W.Frag} {G : Rg} {H : Hp} {z : Pl4} {y : Pr} (h1 : Dn K G H z.2.1 y.1) (h2 : DnA K G H z.2.2.2 y.2) : ∀ {l : List Pl4} {ys : List Pr}, RowsP K G H l ys → RowsP K G H (l ++ [z]) (ys ++ [y])
  | [], [], _ => ⟨⟨h1, h2⟩, trivial⟩
  | _ :: _, _ :: _, h => ⟨h.1, RowsP.snoc h1 h2 h.2⟩
  | [], _ :: _, h => h.elim
  | _ :: _, [], h => h.elim
end PD
set_option Elab.async false
set_option linter.all false
set_option maxRecDepth 100000
set_option maxHeartbeats 4000000
set_option autoImplicit false
namespace PD
open PySem L2
section
variable {X : Cx} {W : WX} {sc : Scope} {N : List Str} {Γ : List Sl} {tg iter elt : Expr} {scope : Scope} {own : List (Str × Nat)} {pos : Pos} {it : DI} {g : DG} {e : DP} {ts : List Nat}
end
end PD
set_option Elab.async false
set_option linter.all false
set_option maxRecDepth 100000
set_option maxHeartbeats 4000000
set_option autoImplicit false
namespace PD
open PySem L2
section
variable {X : Cx} {W : WX} {sc : Scope} {N : List Str} {tg iter elt : Expr} {scope : Scope} {own : List (Str × Nat)} {pos : Pos} {it : DI} {g : DG} {y : Str} {ts : List Nat}
structure CompP (X : Cx) (W : WX) (sc : Scope) (N : List Str) (tg iter elt : Expr) (scope : Scope) (own : List (Str × Nat)) (ts : List Nat) (g : DG) (it : DI) (e : DP) : Prop where
  hin : CI X W tg iter it
  ok : blkC N sc scope own = true
  hg : ∀ (s : Shared) (H : Hp) (c : Addr) (cl : List (Str × Addr)) (fp : List Addr), CG (X.blk s H scope (compEnvC scope cl c X.env) fp) tg ts g
  he : ∀ (s : Shared) (H : Hp) (c : Addr) (cl : List (Str × Addr)) (fp : List Addr), CP (X.blk s H scope (compEnvC scope cl c X.env) fp) WF elt e
  hts : ∀ j ∈ ts, j ∈ own.map (·.2)
  hs : ∀ x, foldedSetIterable iter X.env x = pure x
end
section
variable {K : PySem.W.Frag} {G : Gh} {H : Hp} {σ : St} {Γ : List Sl} {A : Nat → List Addr} {i j : Nat} {ns nn : List (List Itm)} {T : Tre}
end
end PD
set_option Elab.async false
set_option linter.all false
set_option maxRecDepth 100000
set_option maxHeartbeats 4000000
set_option autoImplicit false
namespace PD
open PySem L2
end PD
set_option Elab.async false
set_option linter.all false
set_option maxRecDepth 100000
set_option maxHeartbeats 4000000
set_option autoImplicit false
namespace PD
open PySem L2
section
variable {X : Cx} {W : WX} {sc : Scope} {N : List Str} {x y z : Str} {scope : Scope} {own : List (Str × Nat)}
end
end PD
set_option Elab.async false
set_option linter.all false
set_option maxRecDepth 100000
set_option maxHeartbeats 4000000
set_option autoImplicit false
namespace PD
open PySem L2
end PD
set_option Elab.async false
set_option linter.all false
set_option maxRecDepth 100000
set_option maxHeartbeats 4000000
set_option autoImplicit false
namespace PD
open PySem L2
section
variable {X : Cx} {W : WX} {sc : Scope} {N : List Str} {a b : Expr} {pos : Pos} {f g : DF}
end
end PD
set_option Elab.async false
set_option linter.all false
set_option maxRecDepth 100000
set_option maxHeartbeats 4000000
set_option autoImplicit false
namespace PD
open PySem PySem.Spec L2
open PyProof.Rows hiding St
section
variable {X : Cx} {W : WX} {sc : Scope} {N : List Str} {a b e o : Expr} {f g : DF} {p p2 pos apos cpos : Pos}
end
end PD
set_option Elab.async false
set_option linter.all false
set_option maxRecDepth 100000
set_option maxHeartbeats 4000000
set_option autoImplicit false
namespace PD
open PySem PySem.Spec L2
open PyProof.Rows hiding St
section
variable {X : Cx} {W : WX} {sc : Scope} {N : List Str} {a b e tg : Expr} {f g : DF} {p p2 pos apos : Pos} {k : DA} {x : Str}
end
end PD
set_option Elab.async false
set_option linter.all false
set_option maxRecDepth 100000
set_option maxHeartbeats 4000000
set_option autoImplicit false
namespace PD
open PySem PySem.Spec L2
open PyProof.Rows hiding St
section
variable {prog : Program} {w : World} {A : Around} {R : Result → Shared → Prop} {I : Addr} {fp wr : List Addr} {G : Array GenState → Array GenState → Prop} {P : Nat → Value → Prop} {St : Nat → Shared → Prop}
end
section
variable {prog : Program} {w : World} {A : Around} {E : Value → Shared → Prop} {s : Shared}
end
section
variable {X : Cx} {W : WX} {sc : Scope} {N : List Str} {a e : Expr} {pos p p2 q2 : Pos} {f : DF}
end
end PD
set_option Elab.async false
set_option linter.all false
set_option maxRecDepth 100000
set_option maxHeartbeats 4000000
set_option autoImplicit false
namespace PD
open PySem L2
end PD
set_option Elab.async false
set_option linter.all false
set_option maxRecDepth 100000
set_option maxHeartbeats 4000000
set_option autoImplicit false
namespace PD
open PySem L2
theorem getD_tail (cs : List Bool) (i : Nat) : cs.getD (i + 1) false = cs.tail.getD i false := by cases cs <;> rfl
def RdAt (Γ : List Sl) (I : List Nat) (cs : List Bool) (as : List AV) (ars : List Ar) (i : Nat) : Prop :=
  (as[i]? = none ∧ ars[i]? = none) ∨ (∃ fr x, as[i]? = some (.d fr x) ∧ ars[i]? = some (.d x)) ∨ (∃ j ic, as[i]? = some (.s j) ∧ cs.getD i false = true ∧ cellAt Γ j = some ic ∧ ars[i]? = some (.c ic.2)) ∨
    (∃ j x, as[i]? = some (.s j) ∧ cs.getD i false = false ∧ j ∉ I ∧ rdW Γ j = some x ∧ ars[i]? = some (.d x))
theorem RdAt.succ {Γ : List Sl} {I : List Nat} {cs : List Bool} {a : AV} {as : List AV} {y : Ar} {ars : List Ar} {i : Nat} (h : RdAt Γ I cs.tail as ars i) : RdAt Γ I cs (a :: as) (y :: ars) (i + 1) := by
  unfold RdAt at h ⊢
  rw [getD_tail]
  simpa using h
end PD
set_option Elab.async false
set_option linter.all false
set_option maxRecDepth 100000
set_option maxHeartbeats 4000000
set_option autoImplicit false
namespace PD
open PySem L2
section
variable {X : Cx} {W : WX} {sc : Scope} {N : List Str} {x : Str} {e : Expr} {es : List Expr} {p pos : Pos} {k : DA} {dvs : List V} {dds : List PyData} {m : List Ar → R (Rs × List Sl)}
end
end PD
set_option Elab.async false
set_option linter.all false
set_option maxRecDepth 100000
set_option maxHeartbeats 4000000
set_option autoImplicit false
namespace PD
open PySem L2
section
open PySem.W PySem.Calls PyProof.Rows
variable {X : Cx} {pins : List (Addr × Obj)} {σ : L2.St} {H : Hp} {s : Shared} {Q : VK}
end
end PD
namespace PD
open PySem L2
section
variable {X : Cx} {W : WX} {sc : Scope} {N : List Str} {e : Expr} {p py pos kpos : Pos} {f : DF}
end
end PD
set_option Elab.async false
set_option linter.all false
set_option maxRecDepth 100000
set_option maxHeartbeats 4000000
set_option autoImplicit false
namespace PD
open PySem L2
section
open PySem.W PySem.Calls PyProof.Rows
variable {X : Cx} {pins : List (Addr × Obj)} {σ : L2.St} {H : Hp} {s : Shared} {Q : VK}
end
end PD
namespace PD
open PySem L2
section
variable {X : Cx} {W : WX} {sc : Scope} {N : List Str} {e : Expr} {p py pos kpos : Pos} {f : DF}
end
end PD
set_option Elab.async false
set_option linter.all false
set_option maxRecDepth 100000
set_option maxHeartbeats 4000000
set_option autoImplicit false
namespace PD
open PySem L2
inductive Stp where
  | ix (c : Nat)
  | at (n : Str)
  | ky (k : Str)
def idxN (n : Str) : List Str → Option Nat
  | [] => none
  | x :: xs => if x = n then some 0 else (idxN n xs).map (· + 1)
def idxT (k : Str) : List PyData → Option Nat
  | [] => none
  | .str x :: xs => if x = k then some 0 else (idxT k xs).map (· + 1)
  | _ :: xs => (idxT k xs).map (· + 1)
def Tre.at : Tre → List Stp → Option Tre
  | T, [] => some T
  | .lst ts, .ix c :: ss => (ts[c]?).bind fun t => t.at ss
  | .tup ts, .ix c :: ss => (ts[c]?).bind fun t => t.at ss
  | .ins _ fs ts, .at n :: ss => (idxN n fs).bind fun c => (ts[c]?).bind fun t => t.at ss
  | .dic .k ks ts, .ky k :: ss => (idxT k ks).bind fun c => (ts[c]?).bind fun t => t.at ss
  | _, _ => none
def Tre.put : Tre → List Stp → Tre → Tre
  | _, [], U => U
  | .lst ts, .ix c :: ss, U => match ts[c]? with
    | some t => .lst (ts.set c (t.put ss U))
    | none => .lst ts
  | .tup ts, .ix c :: ss, U => match ts[c]? with
    | some t => .tup (ts.set c (t.put ss U))
    | none => .tup ts
  | .ins nm fs ts, .at n :: ss, U => match idxN n fs with
    | some c => match ts[c]? with
      | some t => .ins nm fs (ts.set c (t.put ss U))
      | none => .ins nm fs ts
    | none => .ins nm fs ts
  | .dic .k ks ts, .ky k :: ss, U => match idxT k ks with
    | some c => match ts[c]? with
      | some t => .dic .k ks (ts.set c (t.put ss U))
      | none => .dic .k ks ts
    | none => .dic .k ks ts
  | T, _, _ => T
inductive PathV (K : PySem.W.Frag) (H : Hp) : V → List Stp → V → Prop
  | nil {v : V} : PathV K H v [] v
  | ixl {p : Addr} {vs : List V} {c : Nat} {v u : V} {ss : List Stp} : H p = some (.lst vs) → vs[c]? = some v → PathV K H v ss u → PathV K H (.ref p) (.ix c :: ss) u
  | ixt {p : Addr} {vs : List V} {c : Nat} {v u : V} {ss : List Stp} : H p = some (.tup vs) → vs[c]? = some v → PathV K H v ss u → PathV K H (.ref p) (.ix c :: ss) u
  | att {p C dx : Addr} {n : Str} {fs : List (Str × V)} {v u : V} {ss : List Stp} : H p = some (.ins C dx fs) → fs.lookup n = some v → PathV K H v ss u → PathV K H (.ref p) (.at n :: ss) u
  | key {p : Addr} {k : Str} {kvs : List (Key × V)} {v u : V} {ss : List Stp} : H p = some (.dK kvs) → valV kvs (.inr k) = some v → PathV K H v ss u → PathV K H (.ref p) (.ky k :: ss) u
theorem PathV.snoc {K : PySem.W.Frag} {H : Hp} {s : Stp} : ∀ {ss : List Stp} {v u : V}, PathV K H v (ss ++ [s]) u → ∃ w, PathV K H v ss w ∧ PathV K H w [s] u
  | [], _, _, h => ⟨_, .nil, h⟩
  | _ :: ss, _, _, .ixl h1 h2 h3 => by
    obtain ⟨w, a, b⟩ := PathV.snoc (ss := ss) h3
    exact ⟨w, .ixl h1 h2 a, b⟩
  | _ :: ss, _, _, .ixt h1 h2 h3 => by
    obtain ⟨w, a, b⟩ := PathV.snoc (ss := ss) h3
    exact ⟨w, .ixt h1 h2 a, b⟩
  | _ :: ss, _, _, .att h1 h2 h3 => by
    obtain ⟨w, a, b⟩ := PathV.snoc (ss := ss) h3
    exact ⟨w, .att h1 h2 a, b⟩
  | _ :: ss, _, _, .key h1 h2 h3 => by
    obtain ⟨w, a, b⟩ := PathV.snoc (ss := ss) h3
    exact ⟨w, .key h1 h2 a, b⟩
theorem PathV.keep {K : PySem.W.Frag} {H H' : Hp} (k : ∀ a o, H a = some o → H' a = some o) : ∀ {ss : List Stp} {v u : V}, PathV K H v ss u → PathV K H' v ss u
  | [], _, _, .nil => .nil
  | _ :: _, _, _, .ixl a1 a2 a3 => .ixl (k _ _ a1) a2 (PathV.keep k a3)
  | _ :: _, _, _, .ixt a1 a2 a3 => .ixt (k _ _ a1) a2 (PathV.keep k a3)
  | _ :: _, _, _, .att a1 a2 a3 => .att (k _ _ a1) a2 (PathV.keep k a3)
  | _ :: _, _, _, .key a1 a2 a3 => .key (k _ _ a1) a2 (PathV.keep k a3)
def Tre.node : Tre → Bool
  | .d _ => false
  | _ => true
theorem TreOk.root {K : PySem.W.Frag} {G : Rg} {H : Hp} {v : V} {fp : List Addr} {T : Tre} (h : TreOk K G H v fp T) (hn : T.node = true) : ∃ p, v = .ref p ∧ (p ∈ fp ∨ ∃ xs, H p = some (.tup xs)) := by
  cases h with
  | d _ => cases hn
  | lst h a n => exact ⟨_, rfl, .inl (by simp)⟩
  | tup h a => exact ⟨_, rfl, .inr ⟨_, h⟩⟩
  | dic h c a n => exact ⟨_, rfl, .inl (by simp)⟩
  | ins h1 h2 ne a n1 n2 => exact ⟨_, rfl, .inl (by simp)⟩
end PD
set_option Elab.async false
set_option linter.all false
set_option maxRecDepth 100000
set_option maxHeartbeats 4000000
set_option autoImplicit false
namespace PD
open PySem PySem.Spec L2
open PyProof.Rows hiding St
abbrev DPs := List Sl → Option (List Stp)
section
variable {X : Cx} {W : WX} {sc : Scope} {N : List Str} {a b e o : Expr} {pos p p2 cp : Pos} {cl : List (Str × List Str)} {x y n : Str} {ps : DPs} {i : Nat}
inductive Atp where
  | k (b : Bool) (r : DK)
  | p (i : Nat) (ps : DPs)
  | c (i : Nat) (ps : DPs)
  | w (i : Nat)
def AtOk (K : PySem.W.Frag) (G : Gh) (H : Hp) (σ : L2.St) (Γ : List Sl) (v : V) : Atp → Prop
  | .k _ r => ∀ z, r Γ = some z → Dn K (rg G z.1) H v z.2
  | .p i ps => ∃ v0 ss, ps Γ = some ss ∧ σ[i]? = some (some v0) ∧ PathV K H v0 ss v
  | .c i ps => ∃ v0 ss, ps Γ = some ss ∧ σ[i]? = some (some v0) ∧ PathV K H v0 ss v
  | .w i => σ[i]? = some (some v)
theorem AtOk.ext {K : PySem.W.Frag} {G G' : Gh} {H H' : Hp} {σ : L2.St} {Γ : List Sl} {v : V} {a : Atp} (h : AtOk K G H σ Γ v a) (e : Ext G H G' H') (k : ∀ a o, H a = some o → H' a = some o) : AtOk K G' H' σ Γ v a := by
  cases a with
  | k b r => exact fun z hz => e.dn (h z hz)
  | p i ps => obtain ⟨v0, ss, h1, h2, h3⟩ := h; exact ⟨v0, ss, h1, h2, h3.keep k⟩
  | c i ps => obtain ⟨v0, ss, h1, h2, h3⟩ := h; exact ⟨v0, ss, h1, h2, h3.keep k⟩
  | w i => exact h
end
end PD
set_option Elab.async false
set_option linter.all false
set_option maxRecDepth 100000
set_option maxHeartbeats 4000000
set_option autoImplicit false
namespace PD
open PySem PySem.Spec L2
open PyProof.Rows hiding St
inductive AtsOk (K : PySem.W.Frag) (G : Gh) (H : Hp) (σ : L2.St) (Γ : List Sl) : List V → List Atp → Prop
  | nil : AtsOk K G H σ Γ [] []
  | cons {v : V} {vs : List V} {a : Atp} {as : List Atp} : AtOk K G H σ Γ v a → AtsOk K G H σ Γ vs as → AtsOk K G H σ Γ (v :: vs) (a :: as)
theorem AtsOk.split {K : PySem.W.Frag} {G : Gh} {H : Hp} {σ : L2.St} {Γ : List Sl} {a : Atp} {bs : List Atp} : ∀ {as : List Atp} {vs : List V}, AtsOk K G H σ Γ vs (as ++ a :: bs) → ∃ v1 v v2, vs = v1 ++ v :: v2 ∧ AtsOk K G H σ Γ v1 as ∧ AtOk K G H σ Γ v a ∧ AtsOk K G H σ Γ v2 bs
  | [], _, .cons h r => ⟨[], _, _, rfl, .nil, h, r⟩
  | _ :: as, _, .cons h r => by
    obtain ⟨v1, v, v2, rfl, h1, h2, h3⟩ := AtsOk.split (as := as) r
    exact ⟨_ :: v1, v, v2, rfl, .cons h h1, h2, h3⟩
section
variable {X : Cx} {W : WX} {sc : Scope} {N : List Str} {e : Expr} {es : List Expr} {p pos apos : Pos} {x c n : Str} {dvs : List V} {dds : List PyData} {m : List Ar → R (Rs × List Sl)} {a : Atp} {as a1 a2 : List Atp} {i : Nat} {ps : DPs}
end
end PD
set_option Elab.async false
set_option linter.all false
set_option maxRecDepth 100000
set_option maxHeartbeats 4000000
set_option autoImplicit false
namespace PD
open PySem PySem.Spec L2
open PyProof.Rows hiding St
section
variable {X : Cx} {W : WX} {sc : Scope} {N : List Str} {e a b : Expr} {pos p : Pos} {x y : Str} {i : Nat} {ps : DPs} {f : DF}
end
section
variable {X : Cx} {W : WX} {sc : Scope} {N : List Str} {e : Expr} {x : Str} {p apos cpos : Pos} {f : DX}
end
end PD
set_option Elab.async false
set_option linter.all false
set_option maxRecDepth 100000
set_option maxHeartbeats 4000000
set_option autoImplicit false
namespace PD
open PySem PySem.Spec L2
structure Exc0 (K : PySem.W.Frag) (c : Str) : Prop where
  e : PySem.W.excIn K (He.ga K c) [.type "ValueError", .type "Exception", .type "BaseException", .type "object"] "ValueError.__new__" = true
  T : OexC K (He.ga K c)
theorem exc0B_ok {K : PySem.W.Frag} {c : Str} (h : exc0B K c = true) : Exc0 K c := by
  unfold exc0B at h
  rw [Bool.and_eq_true] at h
  exact ⟨h.1, oexB_ok h.2⟩
section
variable {X : Cx} {C : Addr} {bmB : List Value} {B newId initId : String}
theorem pmk_own0 {x : Str} {p pos : Pos} (F : ExcBaseFacts B newId initId bmB) (q : PySem.W.excIn X.K C bmB newId = true) (gC : X.mg x = some (.ref C)) (kC : PySem.W.keepIn X.K (.ref C) = true) (r : Raises X (.ref C)) (hg : Gl X x)
    (hdb : (x == ("__debug__" : Str)) = false := by decide) : L2N.PMk X (.Call (.Name x p) [] [] pos) (fun _ H Q => Q (.ref C) none H) := by
  intro pins s σ H Q I h
  refine wpAny_Call_Name_kw (ld_glob I hg gC ?_ hdb)
  refine PySem.W.callWith_K0 I.kIn kC ?_
  obtain ⟨bm, N, nm, qn, bs, hdct, sn, sub, ab, col, dd, k0, k1, k2, k3, k5, mN, hC, hN, hni, T⟩ := exc_obj I.kIn q
  refine wpAny_call_exc_subT F T hC hN hni (fun h' e hm => ?_) (Nat.zero_le _)
  exact L2N.mk_of I hm r h (I.hok.gone hm.new)
end
section
variable {X : Cx} {W : WX} {sc : Scope} {N : List Str} {xs ds hs fs : List Str} {c : Str} {p pos pos2 : Pos}
end
end PD
set_option Elab.async false
set_option linter.all false
set_option maxRecDepth 100000
set_option maxHeartbeats 4000000
set_option autoImplicit false
namespace PD
open PySem PySem.Spec L2
def ovr (H' : Hp) (fp : List Addr) (H : Hp) : Hp := fun b => if b ∈ fp then H' b else H b
theorem ovr_nil {H' H : Hp} : ovr H' [] H = H := by funext b; simp [ovr]
theorem ovr_dup {H' H : Hp} {a : Addr} {fp : List Addr} (h : a ∈ fp) : ovr H' (a :: fp) H = ovr H' fp H := by
  funext b
  unfold ovr
  by_cases e : b = a
  · subst e; simp [h]
  · simp [e]
theorem ovr_cons {H' H : Hp} {a : Addr} {fp : List Addr} {o : HO} (e : H' a = some o) : ovr H' (a :: fp) H = upd (ovr H' fp H) a o := by
  funext b
  by_cases q : b = a
  · subst q; rw [upd_same]; unfold ovr; simp [e]
  · rw [upd_ne q]; unfold ovr; simp [q]
theorem Sta.hold {K : PySem.W.Frag} {G : Gh} {H H' : Hp} {σ : L2.St} {Γ : List Sl} (S : Sta K G H σ Γ) : ∀ {fp : List Addr}, (∀ a ∈ fp, H a = none ∧ H' a ≠ none) → Sta K ⟨G.H0, G.P, G.I, G.N, ovr H' fp G.E⟩ (ovr H' fp H) σ Γ ∧ TupLe H (ovr H' fp H)
  | [], _ => by rw [ovr_nil, ovr_nil]; exact ⟨S, TupLe.rf _⟩
  | a :: fp, h => by
    obtain ⟨S1, t1⟩ := Sta.hold S (fp := fp) fun b hb => h b (by simp [hb])
    by_cases ha : a ∈ fp
    · rw [ovr_dup ha, ovr_dup ha]; exact ⟨S1, t1⟩
    · obtain ⟨h1, h2⟩ := h a (by simp)
      cases e : H' a with
      | none => exact absurd e h2
      | some o =>
        obtain ⟨S2, t2⟩ := S1.pin (D := a) (o := o) (by unfold ovr; rw [if_neg ha]; exact h1)
        rw [ovr_cons e, ovr_cons e]
        exact ⟨S2, t1.tr t2⟩
section
variable {X : Cx} {W : WX} {e1 e2 : Expr} {pos : Pos} {f1 f2 : DX}
end
end PD
set_option Elab.async false
set_option linter.all false
set_option maxRecDepth 100000
set_option maxHeartbeats 4000000
set_option autoImplicit false
namespace PD
open PySem PySem.Spec L2
section
variable {X : Cx} {W : WX} {sc : Scope} {N : List Str} {e : Expr} {k : DA} {p pos : Pos}
end
end PD
namespace PD
open PySem PySem.Spec L2
end PD
set_option Elab.async false
set_option linter.all false
set_option maxRecDepth 100000
set_option maxHeartbeats 4000000
set_option autoImplicit false
namespace PD
open PySem PySem.Spec L2
open PyProof.Rows hiding St
section
variable {X : Cx} {W : WX} {sc : Scope} {N : List Str} {cl : List (Str × List Str)} {x n : Str} {e : Expr} {p pos pos' : Pos} {f : DX}
end
end PD
set_option Elab.async false
set_option linter.all false
set_option maxRecDepth 100000
set_option maxHeartbeats 4000000
set_option autoImplicit false
namespace PD
open PySem PySem.Spec L2
open PyProof.Rows hiding St
structure GD (K : PySem.W.Frag) (w : World) (mg : Str → Option Value) (x : Str) (kvs : List (Str × Int)) : Prop where
  g : mg x = some (.ref (He.ga K x))
  d : ∃ es n, KDict K w (He.ga K x) es n
  y : ∀ q ∈ kvs, ∃ u, PySem.W.nsIn K (He.ga K x) q.1 = some (some u) ∧ RelV (.int q.2) u
  no : ∀ z, z ∉ kvs.map (·.1) → PySem.W.nsIn K (He.ga K x) z = some none
section
variable {X : Cx} {W : WX} {sc : Scope} {N : List Str} {e o : Expr} {p pos apos : Pos} {f : DF} {x : Str} {kvs : List (Str × Int)}
end
end PD
set_option Elab.async false
set_option linter.all false
set_option maxRecDepth 100000
set_option maxHeartbeats 4000000
set_option autoImplicit false
namespace PD
open PySem PySem.Spec L2
def obsXT (fx : List (PySem.W.Frag → Bool)) (fa : List He.Fa) (fn : List He.DefD) (ts : List He.Tab) (K : PySem.W.Frag) : He.AlT := (obsX fx fa fn K, ts.map fun t => He.dicW K (t.1 K))
def valXT (fn : List He.DefD) (ts : List He.Tab) (w : World) : He.AlT := (He.valD fn, ts.map fun t => some (He.keysIn w.params t.2))
def SaysXT (fx : List (PySem.W.Frag → Bool)) (fa : List He.Fa) (fn : List He.DefD) (ts : List He.Tab) (w : World) (K : PySem.W.Frag) : Prop := obsXT fx fa fn ts K = valXT fn ts w
section
variable {fx : List (PySem.W.Frag → Bool)} {fa : List He.Fa} {fn : List He.DefD} {ts : List He.Tab} {w : World} {K : PySem.W.Frag}
theorem SaysXT.s (c : SaysXT fx fa fn ts w K) : SaysX fx fa fn K := congrArg (fun z : He.AlT => z.1) c
theorem SaysXT.d (c : SaysXT fx fa fn ts w K) : He.SaysD fa fn K := c.s.d
theorem SaysXT.x (c : SaysXT fx fa fn ts w K) (i : Nat) {f : PySem.W.Frag → Bool} (h : fx[i]? = some f := by rfl) : f K = true := c.s.x i h
end
end PD
set_option Elab.async false
set_option linter.all false
set_option maxRecDepth 100000
set_option maxHeartbeats 4000000
set_option autoImplicit false
namespace PD
open PySem PySem.Spec L2
open PyProof.Rows hiding St
section
variable {X : Cx}
end
section
variable {X : Cx} {W : WX} {sc : Scope} {N : List Str} {a b : Expr} {pos : Pos} {f g : DF}
end
end PD
set_option Elab.async false
set_option linter.all false
set_option maxRecDepth 100000
set_option maxHeartbeats 4000000
set_option autoImplicit false
namespace PD
open PySem PySem.Spec PyProof.Rows L2
open L2H (RoomH HotC Hot1 PIH PIEH TurnH)
abbrev pnX (B : Cx) (q : Addr × Obj) : Cx := { B with pn := [q] }
section
variable {B : Cx} {q : Addr × Obj} {ps : List (Addr × Obj)} {st : L2.St} {M : Hp} {z : Shared}
end
section
variable {X : Cx}
end
end PD
set_option Elab.async false
set_option linter.all false
set_option maxRecDepth 100000
set_option maxHeartbeats 4000000
set_option autoImplicit false
namespace PD
open PySem PySem.Spec PyProof.Rows L2 HotX
open L2H (RoomH HotC Hot1 PIH PIEH TurnH)
section
variable {prog : Program} {w : World} {A : Around} {E : Value → Shared → Prop} {s : Shared}
end
section
variable {X : Cx} {W : WX} {sc : Scope} {N : List Str}
structure CfH (X : Cx) (W : WX) (sc : Scope) (N : List Str) : Prop extends Cf0 X W sc N where
  hot : HotC X
  no : ∀ c d σ H, ¬ W c d σ H
def CIH (X : Cx) (W : WX) (tg iter : Expr) (f : DI) : Prop := ∀ Γ, PIH X tg iter (rdIU X W Γ (f Γ))
variable {e tg iter : Expr} {f : DF} {pos p : Pos}
end
end PD
set_option Elab.async false
set_option linter.all false
set_option maxRecDepth 100000
set_option maxHeartbeats 4000000
set_option autoImplicit false
namespace PD
open PySem PySem.Spec PyProof.Rows L2
open L2H (RoomH HotC Hot1 PIH PIEH TurnH)
section
variable {X : Cx}
variable {W : WX} {sc : Scope} {N : List Str}
theorem CfH.blk (C : CfH X W sc N) {s : Shared} {H : Hp} {scope : Scope} {cl : List (Str × Addr)} {c : Addr} {fp : List Addr} {p : Addr × Obj} (h1 : Hot1 X.A p) : CfH (pnX (X.blk s H scope (compEnvC scope cl c X.env) fp) p) WF (relS scope sc) N := by
  refine ⟨⟨?_, C.hN, C.nd, takes0N, C.hu, PassesOwn.never, C.hu2⟩, ⟨p, h1, List.mem_singleton.mpr rfl⟩, fun _ _ _ _ h => h⟩
  show relabel scope X.env = relS scope sc
  rw [← C.hsc]
  rfl
structure CompH (X : Cx) (W : WX) (sc : Scope) (N : List Str) (tg iter elt : Expr) (ifs : List Expr) (scope : Scope) (own : List (Str × Nat)) (ts : List Nat) (g : DG) (it : DI) (t : DT) (e : DF) : Prop where
  hin : CIH X W tg iter it
  ok : blkC N sc scope own = true
  hg : ∀ p, Hot1 X.A p → p ∈ X.pn → ∀ s H c cl fp, CG (pnX (X.blk s H scope (compEnvC scope cl c X.env) fp) p) tg ts g
  ht : ∀ p, Hot1 X.A p → p ∈ X.pn → ∀ s H c cl fp, CTs (pnX (X.blk s H scope (compEnvC scope cl c X.env) fp) p) WF ifs t
  he : ∀ p, Hot1 X.A p → p ∈ X.pn → ∀ s H c cl fp, CE (pnX (X.blk s H scope (compEnvC scope cl c X.env) fp) p) WF elt e
  hts : ∀ j ∈ ts, j ∈ own.map (·.2)
  hs : ∀ x, foldedSetIterable iter X.env x = pure x
variable {tg iter elt : Expr} {ifs : List Expr} {scope : Scope} {own : List (Str × Nat)} {pos : Pos} {it : DI} {g : DG} {t : DT} {e : DF} {ts : List Nat}
end
end PD
set_option Elab.async false
set_option linter.all false
set_option maxRecDepth 100000
set_option maxHeartbeats 4000000
set_option autoImplicit false
namespace PD
open PySem PySem.Spec PyProof.Rows L2 HotX
open L2H (RoomH HotC Hot1 PIH PIEH TurnH)
section
variable {P : Program} {w : World} {A : Around} {E : Value → Shared → Prop} {s : Shared}
end
section
variable {X : Cx}
end
section
variable {X : Cx} {W : WX} {sc : Scope} {N : List Str} {a e e2 tg iter : Expr} {es : List Expr} {pos p : Pos} {f g : DF} {k : DA}
end
end PD
set_option Elab.async false
set_option linter.all false
set_option maxRecDepth 100000
set_option maxHeartbeats 4000000
set_option autoImplicit false
namespace PD
open PySem PySem.Spec PyProof.Rows L2
open L2H (RoomH HotC Hot1 PIH PIEH TurnH)
def spN (sp : Sp) : Sp := fun vs H Q E => (∀ c d G, ¬ E c d G) ∧ sp vs H Q E
structure HereH (X : Cx) (W : WX) (P : Program) (w : World) (K : PySem.W.Frag) (mg : Str → Option Value) (base : Heap) (scope : Scope) (N : List Str) (k : Nat) : Prop where
  cf : CfH X W scope N
  prog : X.prog = P
  w : X.w = w
  K : X.K = K
  mg : X.mg = mg
  base : X.base = base
  room : RoomH k X.A
  fn : ∀ x, X.fn x = true
section
variable {P : Program} {w : World} {K : PySem.W.Frag} {mg : Str → Option Value} {base : Heap} {N ps : List Str} {name qual : Str} {scope : Scope} {f : Addr} {k : Nat} {params : Arguments} {body : List Stmt} {dvs : List V} {kws : List (Str × V)} {fd : FuncData}
end
def CleeH (X : Cx) (x : Str) (dvs : List V) (sp : Sp) : Prop :=
  ∃ (k : Nat) (f : Addr) (fd : FuncData) (ps : List Str) (ds : List Value), L2H.FnH X.prog X.w X.K X.mg X.base (L2N.CX X.prog X.w) k f fd ps (spN sp) ∧ RoomH k X.A ∧ X.mg x = some (.ref f) ∧ PySem.W.keepIn X.K (.ref f) = true ∧ Binds X.K fd ps ds ∧ Vals dvs ds
def CleeMH (X : Cx) (c mn : Str) (dvs : List V) (sp : Sp) : Prop :=
  ∃ (k : Nat) (f : Addr) (fd : FuncData) (ps : List Str) (ds : List Value), L2H.FnH X.prog X.w X.K X.mg X.base (L2N.CX X.prog X.w) k f fd ps (spN sp) ∧ RoomH k X.A ∧ Cls X.K (He.ga X.K c) ∧ Meth X.K (He.ga X.K c) mn f ∧ Binds X.K fd ps ds ∧ Vals dvs ds
def GvH (P : Program) (w : World) (K : PySem.W.Frag) (mg : Str → Option Value) (base : Heap) (k : Nat) (x : Str) (dvs : List V) (sp : Sp) : Prop :=
  ∃ (f : Addr) (fd : FuncData) (ps : List Str) (ds : List Value), L2H.FnH P w K mg base (L2N.CX P w) k f fd ps (spN sp) ∧ mg x = some (.ref f) ∧ PySem.W.keepIn K (.ref f) = true ∧ Binds K fd ps ds ∧ Vals dvs ds
def GvMH (P : Program) (w : World) (K : PySem.W.Frag) (mg : Str → Option Value) (base : Heap) (k : Nat) (c mn : Str) (dvs : List V) (sp : Sp) : Prop :=
  ∃ (f : Addr) (fd : FuncData) (ps : List Str) (ds : List Value), L2H.FnH P w K mg base (L2N.CX P w) k f fd ps (spN sp) ∧ Cls K (He.ga K c) ∧ Meth K (He.ga K c) mn f ∧ Binds K fd ps ds ∧ Vals dvs ds
section
variable {P : Program} {w : World} {K : PySem.W.Frag} {mg : Str → Option Value} {base : Heap} {k k' : Nat} {x c mn : Str} {dvs : List V} {sp : Sp} {X : Cx} {W : WX} {scope : Scope} {N fs ps : List Str} {fd : FuncData} {ds : List Value} {m : List Ar → R (Rs × List Sl)}
theorem GvMH.of (I : InsC K c fs) (hm : methB K c mn = true) (ok : L2H.FnH P w K mg base (L2N.CX P w) k (He.fAd K (c, some mn)) fd ps (spN sp)) (b : Binds K fd ps ds) (hv : Vals dvs ds) : GvMH P w K mg base k c mn dvs sp :=
  ⟨_, fd, ps, ds, ok, I.cls, methB_ok hm, b, hv⟩
theorem GvH.u (g : GvH P w K mg base k x dvs (spU K mg m)) (h : HereH X W P w K mg base scope N k') (hk : k ≤ k') : CleeH X x dvs (spU X.K X.mg m) := by
  obtain ⟨f, fd, ps, ds, h1, h2, h3, h4, h5⟩ := g
  have e1 := h.prog
  have e2 := h.w
  have e3 := h.K
  have e4 := h.mg
  have e5 := h.base
  subst e1 e2 e3 e4 e5
  exact ⟨k, f, fd, ps, ds, h1, h.room.mono hk, h2, h3, h4, h5⟩
theorem GvMH.u (g : GvMH P w K mg base k c mn dvs (spU K mg m)) (h : HereH X W P w K mg base scope N k') (hk : k ≤ k') : CleeMH X c mn dvs (spU X.K X.mg m) := by
  obtain ⟨f, fd, ps, ds, h1, h2, h3, h4, h5⟩ := g
  have e1 := h.prog
  have e2 := h.w
  have e3 := h.K
  have e4 := h.mg
  have e5 := h.base
  subst e1 e2 e3 e4 e5
  exact ⟨k, f, fd, ps, ds, h1, h.room.mono hk, h2, h3, h4, h5⟩
theorem GvH.us (g : GvH P w K mg base k x dvs (spU K mg m)) (h : Here X W P w K mg base scope N k') (hk : k ≤ k') (a : Addr) (pn : List (Addr × Obj)) : CleeH (X.suite a pn) x dvs (spU X.K X.mg m) := by
  obtain ⟨f, fd, ps, ds, h1, h2, h3, h4, h5⟩ := g
  have e1 := h.prog
  have e2 := h.w
  have e3 := h.K
  have e4 := h.mg
  have e5 := h.base
  subst e1 e2 e3 e4 e5
  have r := (L2H.roomH_of h.room).mono hk
  exact ⟨k, f, fd, ps, ds, h1, ⟨r.dp, r.un⟩, h2, h3, h4, h5⟩
theorem GvMH.us (g : GvMH P w K mg base k c mn dvs (spU K mg m)) (h : Here X W P w K mg base scope N k') (hk : k ≤ k') (a : Addr) (pn : List (Addr × Obj)) : CleeMH (X.suite a pn) c mn dvs (spU X.K X.mg m) := by
  obtain ⟨f, fd, ps, ds, h1, h2, h3, h4, h5⟩ := g
  have e1 := h.prog
  have e2 := h.w
  have e3 := h.K
  have e4 := h.mg
  have e5 := h.base
  subst e1 e2 e3 e4 e5
  have r := (L2H.roomH_of h.room).mono hk
  exact ⟨k, f, fd, ps, ds, h1, ⟨r.dp, r.un⟩, h2, h3, h4, h5⟩
theorem CleeH.blk (h : CleeH X x dvs sp) {s : Shared} {H : Hp} {scope : Scope} {ce : Env} {fp : List Addr} {p : Addr × Obj} : CleeH (pnX (X.blk s H scope ce fp) p) x dvs sp := h
theorem CleeMH.blk (h : CleeMH X c mn dvs sp) {s : Shared} {H : Hp} {scope : Scope} {ce : Env} {fp : List Addr} {p : Addr × Obj} : CleeMH (pnX (X.blk s H scope ce fp) p) c mn dvs sp := h
end
section
variable {X : Cx} {W : WX} {sc : Scope} {N : List Str} {x c n : Str} {e o : Expr} {es : List Expr} {p pos apos : Pos} {k : DA} {fe : DF} {dvs : List V} {dds : List PyData} {m : List Ar → R (Rs × List Sl)} {t : TA}
end
end PD
set_option Elab.async false
set_option linter.all false
set_option maxRecDepth 100000
set_option maxHeartbeats 4000000
set_option autoImplicit false
namespace PD
open PySem PySem.Spec L2
end PD
set_option Elab.async false
set_option linter.all false
set_option maxRecDepth 100000
set_option maxHeartbeats 4000000
set_option autoImplicit false
namespace PD
open PySem PySem.Spec L2
open PyProof.Rows hiding St
section
variable {X : Cx} {W : WX} {sc : Scope} {N : List Str} {e a b : Expr} {pos p cp : Pos} {x y : Str} {i : Nat} {ps : DPs} {f : DF}
def lfB : Tre → Bool
  | .d _ => true
  | _ => false
theorem TreOk.lf {K : PySem.W.Frag} {G : Rg} {H : Hp} {v : V} {fp : List Addr} {t : Tre} (h : TreOk K G H v fp t) (q : lfB t = true) : fp = [] := by
  cases h with
  | d _ => rfl
  | _ => cases q
end
end PD
set_option Elab.async false
set_option linter.all false
set_option maxRecDepth 100000
set_option maxHeartbeats 4000000
set_option autoImplicit false
namespace PD
open PySem PySem.Spec L2
open PyProof.Rows (AllBare)
inductive De
  | f (m : DF)
  | e
section
variable {X : Cx} {W : WX} {sc : Scope} {N : List Str} {pos : Pos}
variable {x : Str} {c : Value} {body suite : List Stmt} {b0 : Stmt} {np pos2 : Pos} {nm : Option Str} {tb : WX → TS} {Wout : WX}
end
end PD
set_option Elab.async false
set_option linter.all false
set_option maxRecDepth 100000
set_option maxHeartbeats 4000000
set_option autoImplicit false
namespace PD
open PySem PySem.Spec L2
open PyProof.Rows (AllBare)
open L2H (RoomH HotC Hot1 PIH PIEH TurnH)
section
variable {X : Cx} {W : WX} {sc : Scope} {N : List Str} {xs ds hs fs fns : List Str} {c : Str} {e : Expr} {es : List Expr} {k : DA} {p pos pos2 : Pos} {t : TA}
end
section
variable {X : Cx} {W : WX} {sc : Scope} {N : List Str} {pos : Pos} {x : Str} {c : Value} {body suite : List Stmt} {b0 : Stmt} {np pos2 : Pos} {tb : WX → TS} {Wout : WX}
end
end PD
set_option Elab.async false
set_option linter.all false
set_option maxRecDepth 100000
set_option maxHeartbeats 4000000
set_option autoImplicit false
namespace PD
open PySem PySem.Spec L2
open PyProof.Rows (AllBare)
open L2H (RoomH HotC Hot1 PIH PIEH TurnH)
section
variable {X : Cx} {W : WX} {sc : Scope} {N : List Str} {pos : Pos} {x n : Str} {i : Nat} {c : Value} {body suite : List Stmt} {b0 : Stmt} {np pos2 : Pos} {tb : WX → TS} {ts : Addr → Value → Option Addr → TS} {Wout : WX}
end
end PD
set_option Elab.async false
set_option linter.all false
set_option maxRecDepth 100000
set_option maxHeartbeats 4000000
set_option autoImplicit false
namespace PD
open PySem PySem.Spec L2
open PyProof.Rows hiding St
section
variable {X : Cx} {CX : CXT} {k n : Nat} {f C : Addr} {fd : FuncData} {ps ks : List Str} {sp : Sp} {E : L2.St → XK} {x : Str} {p pos : Pos} {e : Expr} {es : List Expr} {kws : List Keyword} {t tk : TA} {g : List Value → List Value → List Value} {gV : List V → List V → List V}
end
def CleeIP (X : Cx) (c : Str) (n : Nat) (ks : List Str) (pm : List Nat) (dvs : List V) (sp : Sp) : Prop :=
  ∃ (k : Nat) (f : Addr) (fd : FuncData) (ps : List Str) (its : List Value), FnOk X.prog X.w X.K X.mg X.base (L2N.CX X.prog X.w) k f fd ps sp ∧ Room (k + 1) X.A ∧ X.mg c = some (.ref (He.ga X.K c)) ∧ Mk X.K (He.ga X.K c) f ∧ KBn X.K fd ps (n + 1) ks (fun us ws => pickP (0 :: pm.map (· + 1)) (us ++ ws ++ its)) (fun vs zs => pickP (0 :: pm.map (· + 1)) (vs ++ zs ++ dvs))
def GvIP (P : Program) (w : World) (K : PySem.W.Frag) (mg : Str → Option Value) (base : Heap) (k : Nat) (c : Str) (n : Nat) (ks : List Str) (pm : List Nat) (dvs : List V) (sp : Sp) : Prop :=
  ∃ (f : Addr) (fd : FuncData) (ps : List Str) (its : List Value), FnOk P w K mg base (L2N.CX P w) k f fd ps sp ∧ mg c = some (.ref (He.ga K c)) ∧ Mk K (He.ga K c) f ∧ KBn K fd ps (n + 1) ks (fun us ws => pickP (0 :: pm.map (· + 1)) (us ++ ws ++ its)) (fun vs zs => pickP (0 :: pm.map (· + 1)) (vs ++ zs ++ dvs))
theorem GvIP.u {P : Program} {w : World} {K : PySem.W.Frag} {mg : Str → Option Value} {base : Heap} {k k' n : Nat} {c : Str} {ks : List Str} {pm : List Nat} {dvs : List V} {m : List Ar → R (Rs × List Sl)} {X : Cx} {W : WX} {scope : Scope} {N : List Str} (g : GvIP P w K mg base k c n ks pm dvs (spU K mg m)) (h : Here X W P w K mg base scope N k') (hk : k + 1 ≤ k') : CleeIP X c n ks pm dvs (spU X.K X.mg m) := by
  obtain ⟨f, fd, ps, its, h1, h2, h3, h4⟩ := g
  have e1 := h.prog
  have e2 := h.w
  have e3 := h.K
  have e4 := h.mg
  have e5 := h.base
  subst e1 e2 e3 e4 e5
  exact ⟨k, f, fd, ps, its, h1, h.room.mono hk, h2, h3, h4⟩
theorem GvIP.of {P : Program} {w : World} {K : PySem.W.Frag} {mg : Str → Option Value} {base : Heap} {k n : Nat} {c : Str} {fs ps ks : List Str} {pm : List Nat} {dvs : List V} {sp : Sp} {fd : FuncData} {its : List Value} (I : InsC K c fs) (hm : methB K c "__init__" = true) (hg : mg c = some (.ref (He.ga K c))) (ok : FnOk P w K mg base (L2N.CX P w) k (He.fAd K (c, some "__init__")) fd ps sp)
    (b : KBn K fd ps (n + 1) ks (fun us ws => pickP (0 :: pm.map (· + 1)) (us ++ ws ++ its)) (fun vs zs => pickP (0 :: pm.map (· + 1)) (vs ++ zs ++ dvs))) : GvIP P w K mg base k c n ks pm dvs sp :=
  ⟨_, fd, ps, its, ok, hg, ⟨I.mks, (methB_ok hm).at_, (methB_ok hm).fn, I.kp⟩, b⟩
section
variable {X : Cx} {W : WX} {sc : Scope} {N : List Str} {c : Str} {e : Expr} {es : List Expr} {p pos : Pos} {k kk : DA} {dvs : List V} {dds : List PyData} {m : List Ar → R (Rs × List Sl)} {ms : List Bool} {n : Nat} {ks : List Str} {pm : List Nat} {kws : List Keyword}
end
end PD
set_option Elab.async false
set_option linter.all false
set_option maxRecDepth 100000
set_option maxHeartbeats 4000000
set_option autoImplicit false
namespace PD
open PySem L2
inductive Ats where
  | v (i : Nat)
  | s (i j : Nat)
def AtS (σ : St) : Ats → V → Prop
  | .v i, v => σ[i]? = some (some v)
  | .s i j, v => ∃ a b, σ[i]? = some (some (.int a)) ∧ σ[j]? = some (some (.int b)) ∧ v = .int (a - b)
inductive AtSs (σ : St) : List Ats → List V → Prop
  | nil : AtSs σ [] []
  | cons {a : Ats} {as : List Ats} {v : V} {vs : List V} : AtS σ a v → AtSs σ as vs → AtSs σ (a :: as) (v :: vs)
section
variable {X : Cx} {W : WX} {sc : Scope} {N : List Str} {e : Expr} {es : List Expr} {as : List Ats} {x y : Str} {p p2 pos : Pos}
end
section
variable {X : Cx} {W : WX} {sc : Scope} {N : List Str} {e : Expr} {es : List Expr} {is : List Ats} {x : Str} {p pos : Pos} {m : List Ar → R (Rs × List Sl)} {n0 : DC}
end
end PD
set_option Elab.async false
set_option linter.all false
set_option maxRecDepth 100000
set_option maxHeartbeats 4000000
set_option autoImplicit false
namespace PD
open PySem PySem.Spec L2
open PyProof.Rows hiding St
theorem StaA.cell {K : PySem.W.Frag} {G : Gh} {H : Hp} {σ : L2.St} {Γ : List Sl} {A : Nat → List Addr} (T : StaA K G H σ Γ A) {j : Nat} {b : Bool} {c : Cl} (h : cellAt Γ j = some (b, c)) : ∃ u, σ[j]? = some (some u) ∧ c.ok K (RgN G) H u (A j) := by
  have old := T.sl j _ (cellAt_ok h)
  cases b with
  | true =>
    obtain ⟨u, h1, h2, h3⟩ := old
    exact ⟨u, h1, h3⟩
  | false =>
    obtain ⟨u, h1, h2, h3⟩ := old
    exact ⟨u, h1, h3⟩
section
variable {X : Cx} {W : WX} {sc : Scope} {N : List Str} {e : Expr} {es : List Expr} {p pos : Pos} {x : Str} {m : List Ar → R (Rs × List Sl)} {j i1 i2 : Nat} {ps1 ps2 : DPs}
end
end PD
set_option Elab.async false
set_option linter.all false
set_option maxRecDepth 100000
set_option maxHeartbeats 4000000
set_option autoImplicit false
namespace PD
open PySem PySem.Spec L2
section
variable {X : Cx} {W : WX} {sc : Scope} {N : List Str} {e a b : Expr} {pos p : Pos} {x y : Str} {i : Nat} {ps : DPs} {f : DF}
end
end PD
set_option Elab.async false
set_option linter.all false
set_option maxRecDepth 100000
set_option maxHeartbeats 4000000
set_option autoImplicit false
namespace PD
open PySem PySem.Spec L2
section
variable {X : Cx} {W : WX} {sc : Scope} {N : List Str} {e a b : Expr} {pos p : Pos} {i : Nat} {ps : DPs} {r : DK} {c : Int}
end
end PD
set_option Elab.async false
set_option linter.all false
set_option maxRecDepth 100000
set_option maxHeartbeats 4000000
set_option autoImplicit false
namespace PD
open PySem PySem.Spec L2
section
variable {X : Cx} {W : WX} {e : Expr} {f : DF}
end
end PD
set_option Elab.async false
set_option linter.all false
set_option maxRecDepth 100000
set_option maxHeartbeats 4000000
set_option autoImplicit false
namespace PD
open PySem PySem.Spec L2
section
variable {X : Cx} {W : WX} {sc : Scope} {N : List Str} {e : Expr} {pos : Pos} {f : DF}
end
end PD
set_option Elab.async false
set_option linter.all false
set_option maxRecDepth 100000
set_option maxHeartbeats 4000000
set_option autoImplicit false
namespace SrtK
open PySem PySem.W PySem.Calls PyProof.Rows
section
variable {prog : Program} {w : World} {A : Around} {E : Value → Shared → Prop} {a : Addr} {vs : List Value} {kz : List PyData} {f : Value} {P : PySem.Fin → Shared → Prop}
end
end SrtK
namespace PD
open PySem L2
section
open PySem.W PySem.Calls PyProof.Rows
variable {X : Cx} {pins : List (Addr × Obj)} {σ : L2.St} {H : Hp} {s : Shared} {Q : VK}
end
end PD
set_option Elab.async false
set_option linter.all false
set_option maxRecDepth 100000
set_option maxHeartbeats 4000000
set_option autoImplicit false
namespace PD
open PySem PySem.Spec L2
section
variable {P : Program} {w : World} {K : PySem.W.Frag} {mg : Str → Option Value} {base : Heap} {x y qual : Str} {params : Arguments} {s1 : Stmt} {scope : Scope} {dvs : List V} {kws : List (Str × V)} {f : Addr} {fd : FuncData} {N ps : List Str} {k : Nat} {p1 pos : Pos}
end
end PD
set_option Elab.async false
set_option linter.all false
set_option maxRecDepth 100000
set_option maxHeartbeats 4000000
set_option autoImplicit false
namespace PD
open PySem L2
def RdAtM (Γ : List Sl) (I : List Nat) (cs : List Bool) (as : List AV) (ars : List Ar) (i : Nat) : Prop :=
  (as[i]? = none ∧ ars[i]? = none) ∨ (∃ fr x, as[i]? = some (.d fr x) ∧ ars[i]? = some (.d x)) ∨ (∃ x, as[i]? = some (.d true x) ∧ ars[i]? = some (.n x)) ∨ (∃ j ic, as[i]? = some (.s j) ∧ cs.getD i false = true ∧ cellAt Γ j = some ic ∧ ars[i]? = some (.c ic.2)) ∨
    (∃ j x, as[i]? = some (.s j) ∧ cs.getD i false = false ∧ j ∉ I ∧ rdW Γ j = some x ∧ ars[i]? = some (.d x))
theorem RdAtM.succ {Γ : List Sl} {I : List Nat} {cs : List Bool} {a : AV} {as : List AV} {y : Ar} {ars : List Ar} {i : Nat} (h : RdAtM Γ I cs.tail as ars i) : RdAtM Γ I cs (a :: as) (y :: ars) (i + 1) := by
  unfold RdAtM at h ⊢
  rw [getD_tail]
  simpa using h
section
variable {X : Cx} {W : WX} {sc : Scope} {N : List Str} {x : Str} {e : Expr} {es : List Expr} {p pos : Pos} {k : DA} {dvs : List V} {dds : List PyData} {m : List Ar → R (Rs × List Sl)}
end
end PD
set_option Elab.async false
set_option linter.all false
set_option maxRecDepth 100000
set_option maxHeartbeats 4000000
set_option autoImplicit false
namespace PD
open PySem PySem.Spec L2
section
variable {K : PySem.W.Frag} {G : Gh} {H H' : Hp} {σ τ : L2.St} {Γ Δ : List Sl} {c : Cl} {v : V}
theorem Sta.len (S : Sta K G H σ Γ) : Γ.length = σ.length := S.elim fun _ T => T.len
theorem Sta.more (S : Sta K G H σ Γ) : Sta K G H (σ ++ [none]) (Γ ++ [Sl.un]) := by
  obtain ⟨A, T⟩ := S
  have hl := T.len
  have old : ∀ {i : Nat} {s : Sl}, s ≠ .un → (Γ ++ [Sl.un])[i]? = some s → Γ[i]? = some s ∧ (σ ++ [none])[i]? = σ[i]? := fun {i s} hs h => by
    by_cases hi : i < Γ.length
    · rw [List.getElem?_append_left hi] at h
      exact ⟨h, List.getElem?_append_left (by omega)⟩
    · rw [List.getElem?_append_right (by omega)] at h
      exact absurd (List.mem_singleton.mp (List.mem_of_getElem? h)) hs
  refine ⟨fun i => if i < Γ.length then A i else [], T.w, by simp [hl], fun i s h => ?_, fun i p hp => ?_, fun i p hp => ?_, fun i j p hi hj => ?_, fun i j k ns h1 h2 => ?_⟩
  · by_cases hi : i < Γ.length
    · rw [List.getElem?_append_left hi] at h
      rw [List.getElem?_append_left (by omega)]
      show SlOk K G H i σ[i]? (if i < Γ.length then A i else []) s
      rw [if_pos hi]
      exact T.sl i s h
    · rw [List.getElem?_append_right (by omega)] at h
      obtain rfl := List.mem_singleton.mp (List.mem_of_getElem? h)
      show (if i < Γ.length then A i else []) = []
      rw [if_neg hi]
  · have hp : p ∈ (if i < Γ.length then A i else []) := hp
    split at hp
    · exact T.al i p hp
    · cases hp
  · have hp : p ∈ (if i < Γ.length then A i else []) := hp
    split at hp
    · exact T.ae i p hp
    · cases hp
  · have hi : p ∈ (if i < Γ.length then A i else []) := hi
    have hj : p ∈ (if j < Γ.length then A j else []) := hj
    split at hi
    · split at hj
      · exact T.dj i j p hi hj
      · cases hj
    · cases hi
  · obtain ⟨g1, g2⟩ := old (fun z => by cases z) h1
    obtain ⟨g3, g4⟩ := old (fun z => by cases z) h2
    obtain ⟨p, q1, q2⟩ := T.rf i j k ns g1 g3
    have hj : j < Γ.length := (List.getElem?_eq_some_iff.mp g3).1
    exact ⟨p, by show (if j < Γ.length then A j else [])[k]? = some p; rw [if_pos hj]; exact q1, by rw [g2]; exact q2⟩
theorem Sta.push (S : Sta K G H σ Γ) (h : NewC K (rg G true) H c v H') : Sta K G H' (σ ++ [some v]) (Γ ++ [Sl.own c]) ∧ Ext G H G H' := by
  have hl := S.len
  obtain ⟨S2, e⟩ := S.more.putC Γ.length h
  have e1 : (σ ++ [none]).set Γ.length (some v) = σ ++ [some v] := by rw [hl, List.set_append_right _ _ (Nat.le_refl _)]; simp
  have e2 : (Γ ++ [Sl.un]).set Γ.length (Sl.own c) = Γ ++ [Sl.own c] := by rw [List.set_append_right _ _ (Nat.le_refl _)]; simp
  rw [e1, e2] at S2
  exact ⟨S2, e⟩
end
section
variable {X : Cx} {W : WX} {sc : Scope} {N : List Str} {x : Str} {e : Expr} {es : List Expr} {p pos pos2 : Pos} {k : DA} {m : List Ar → R (Rs × List Sl)} {j : Nat}
end
inductive SlVs (σ : L2.St) : List Nat → List V → Prop
  | nil : SlVs σ [] []
  | cons {i : Nat} {is : List Nat} {v : V} {vs : List V} : σ[i]? = some (some v) → SlVs σ is vs → SlVs σ (i :: is) (v :: vs)
theorem AVs.up {K : PySem.W.Frag} {G : Gh} {H : Hp} {σ τ : L2.St} : ∀ {vs : List V} {as : List AV}, AVs K G H σ vs as → AVs K G H (σ ++ τ) vs as
  | _, _, .nil => .nil
  | _, _, .cons (a := .d fr x) h r => .cons h r.up
  | _, _, .cons (a := .s i) h r => .cons (a := .s i) (by
      have h : σ[i]? = some _ := h
      show (σ ++ τ)[i]? = some _
      rw [List.getElem?_append_left (List.getElem?_eq_some_iff.mp h).1]
      exact h) r.up
theorem AVs.app {K : PySem.W.Frag} {G : Gh} {H : Hp} {σ : L2.St} {ws : List V} {bs : List AV} (h2 : AVs K G H σ ws bs) : ∀ {vs : List V} {as : List AV}, AVs K G H σ vs as → AVs K G H σ (vs ++ ws) (as ++ bs)
  | _, _, .nil => h2
  | _, _, .cons h r => .cons h (AVs.app h2 r)
section
variable {X : Cx} {W : WX} {sc : Scope} {N : List Str} {x y : Str} {e : Expr} {es : List Expr} {p pos pos2 : Pos} {m : List Ar → R (Rs × List Sl)} {j : Nat} {is : List Nat}
end
end PD
set_option Elab.async false
set_option linter.all false
set_option maxRecDepth 100000
set_option maxHeartbeats 4000000
set_option autoImplicit false
namespace PD
open PySem PySem.Spec L2
section
variable {X : Cx} {W : WX} {sc : Scope} {N : List Str} {y : Str} {e : Expr} {p pos py kpos : Pos} {m : List Ar → R (Rs × List Sl)} {f : DX}
end
end PD
set_option Elab.async false
set_option linter.all false
set_option maxRecDepth 100000
set_option maxHeartbeats 4000000
set_option autoImplicit false
namespace PD
open PySem PySem.Spec L2
open PySem.W (alike dataLt)
section
variable {X : Cx} {W : WX} {sc : Scope} {N : List Str} {a b : Expr} {pos : Pos} {f g : DF}
end
end PD
set_option Elab.async false
set_option linter.all false
set_option maxRecDepth 100000
set_option maxHeartbeats 4000000
set_option autoImplicit false
namespace PD
open PySem PySem.Spec L2
section
variable {X : Cx} {W : WX} {sc : Scope} {N : List Str} {a b e : Expr} {pos : Pos} {f g fe fi : DF} {x : Str}
end
end PD
set_option Elab.async false
set_option linter.all false
set_option maxRecDepth 100000
set_option maxHeartbeats 4000000
set_option autoImplicit false
namespace PD
open PySem PySem.Spec L2
section
variable {X : Cx} {W : WX} {sc : Scope} {N : List Str} {a b e : Expr} {es : List Expr} {pos tp p' : Pos} {f g fe fi : DF} {x y : Str}
end
end PD
set_option Elab.async false
set_option linter.all false
set_option maxRecDepth 100000
set_option maxHeartbeats 4000000
set_option autoImplicit false
namespace PD
open PySem PySem.Spec L2
section
variable {X : Cx} {W : WX} {e : Expr} {es : List Expr} {f : DF} {k : DA} {pos p1 p2 : Pos}
end
end PD
set_option Elab.async false
set_option linter.all false
set_option maxRecDepth 100000
set_option maxHeartbeats 4000000
set_option autoImplicit false
namespace PD
open PySem PySem.Spec L2
section
variable {X : Cx} {W : WX} {sc : Scope} {N : List Str} {a b : Expr} {f g : DF} {x : Str} {p2 apos cpos : Pos}
end
end PD
set_option Elab.async false
set_option linter.all false
set_option maxRecDepth 100000
set_option maxHeartbeats 4000000
set_option autoImplicit false
namespace PD
open PySem L2
section
variable {X : Cx} {W : WX} {sc : Scope} {N : List Str} {x : Str} {e : Expr} {es : List Expr} {p pos : Pos} {k : DA} {dvs : List V} {dds : List PyData} {m : List Ar → R (Rs × List Sl)}
end
end PD
set_option Elab.async false
set_option linter.all false
set_option maxRecDepth 100000
set_option maxHeartbeats 4000000
set_option autoImplicit false
namespace PD
open PySem PySem.Spec L2
section
variable {X : Cx} {W : WX} {sc : Scope} {N : List Str} {b : Expr} {g : DF} {x : Str} {pos p1 cp spos : Pos}
end
end PD
set_option Elab.async false
set_option linter.all false
set_option maxRecDepth 100000
set_option maxHeartbeats 4000000
set_option autoImplicit false
namespace PD
open PySem PySem.Spec PyProof.Rows L2 HotX
section
variable {P : Program} {w : World} {A : Around} {E : Value → Shared → Prop} {s : Shared}
end
def Phi (K : PySem.W.Frag) (a : Addr) (G : Gh) : Prop := ∃ nm d, G.N a = some (XvO K nm d a)
theorem Phi.ext {K : PySem.W.Frag} {a : Addr} {G G' : Gh} {H H' : Hp} (h : Phi K a G) (e : Ext G H G' H') : Phi K a G' := by
  obtain ⟨nm, d, h⟩ := h
  exact ⟨nm, d, e.n _ _ h⟩
theorem Phi.hot {X : Cx} {a : Addr} {G : Gh} {H : Hp} {pins : List (Addr × Obj)} {σ : L2.St} {s : Shared} (h : Phi X.K a G) (w : Wf G H) (I : Inv X pins σ H s) (hd : X.A.handled = some (.ref a)) : HotAt X.A a s.heap := by
  obtain ⟨nm, d, h⟩ := h
  obtain ⟨⟨oe, vs, e, z, q, n⟩, _⟩ := (show ObjOk X.prog X.w H s.heap a (XvO X.K nm d a) from I.hok a _ (w.new _ _ h).1)
  exact ⟨hd, oe, vs, e, q, n⟩
section
variable (a : Addr) (X : Cx) (W : WX)
def CEp (e : Expr) (f : DF) : Prop := ∀ Γ, PE X e (fun σ H Q => ∃ G, Phi X.K a G ∧ Sta X.K G H σ Γ ∧ Pst X W G H σ (f Γ) fun r G' H' => ∀ v, Sta X.K G' H' σ r.2 → AVok X.K G' H' σ v r.1 → Q v H')
def CAp (es : List Expr) (k : DA) : Prop := ∀ Γ, PA X es (fun σ H Q => ∃ G, Phi X.K a G ∧ Sta X.K G H σ Γ ∧ Pst X W G H σ (k Γ) fun r G' H' => ∀ vs, Sta X.K G' H' σ r.2 → AVs X.K G' H' σ vs r.1 → Q vs H')
def CNp (e : Expr) (f : DN) : Prop := ∀ Γ, PE X e (fun σ H Q => ∃ G, Phi X.K a G ∧ Sta X.K G H σ Γ ∧ Pst X W G H σ (f Γ) fun r G' H' => ∀ p vs, Sta X.K G' H' σ r.2 → H' p = none → DnA X.K (rg G' true) H' vs r.1 → Q (.ref p) (upd H' p (.lst vs)))
def C1p (s : Stmt) (b : DS) : Prop := ∀ Γ, PS X s (fun D σ H => ∃ G, Phi X.K a G ∧ Sta X.K G H σ Γ ∧ Pst X W G H σ (b Γ) fun z G' H' => FinU X.K G' H' D z.2 z.1)
def CSp (ss : List Stmt) (b : DS) : Prop := ∀ Γ, PSs X ss (fun D σ H => ∃ G, Phi X.K a G ∧ Sta X.K G H σ Γ ∧ Pst X W G H σ (b Γ) fun z G' H' => FinU X.K G' H' D z.2 z.1)
end
section
variable {X : Cx} {W : WX} {sc : Scope} {N : List Str} {x : Addr} {a b c e : Expr} {es rest : List Expr} {pos p : Pos} {f g h : DF} {k : DA} {s : Stmt} {ss : List Stmt}
theorem ca_oneP (ha : CEp x X W e f) (hst : starEach [e] X.env = (false, eval e X.env) :: starEach [] X.env := by rfl) : CAp x X W [e] (dAc f dA0) := fun Γ =>
  pa_imp (pa_cons (ha Γ) pa_nil hst) fun σ H Q ⟨G, hp, S, q⟩ => ⟨G, hp, S, (Pst.bind q).imp fun x G1 H1 e1 p1 v S1 hv => p1 G1 H1 (Ext.rf S1.w) [v] S1 (.cons hv .nil)⟩
theorem ce_ofNP {n : DN} (h : CNp x X W e n) : CEp x X W e (dOfN n) := fun Γ =>
  pe_imp (h Γ) fun σ H Q ⟨G, hp, S, q⟩ => ⟨G, hp, S, (Pst.bind q).impG fun r G' H' _ k p vs S' hq hd => by
    obtain ⟨S2, e2⟩ := S'.grow (grow_new (o := .lst vs) S'.w hq)
    exact k _ _ e2 _ _ (Ext.rf S2.w) _ S2 (.lst (.inl upd_same) (hd.mono e2.n e2.t))⟩
theorem cs_consP {f g : DS} (hs : C1p x X W s f) (hr : CS X W ss g) : CSp x X W (s :: ss) (bSeq f g) := fun Γ =>
  pss_imp (pss_cons (hs Γ) (pss_any fun Γ1 => hr Γ1)) fun D σ H ⟨G, hp, S, p⟩ => ⟨G, hp, S, (Pst.bind p).imp fun z G1 H1 e1 p1 => by
    obtain ⟨w, Γ1⟩ := z
    cases w with
    | nx => exact fun σ1 S1 => ⟨Γ1, G1, S1, p1⟩
    | bk => exact p1 G1 H1 (Ext.rf e1.w)
    | ct => exact p1 G1 H1 (Ext.rf e1.w)
    | rt r =>
      have q : FinU X.K G1 H1 D Γ1 (.rt r) := p1 G1 H1 (Ext.rf e1.w)
      cases r with
      | d x => exact q
      | c x => exact q⟩
theorem c1_tryT {xs ds hs fs : List Str} {b s : DS} {body suite : List Stmt} {b0 : Stmt} {np pos2 : Pos} (C : Cf X W sc N) (F : XAll X.K X.mg xs ds hs fs) (i : Nat) {x n : Str} (hst : X.stack = X.env :: X.outer) (hfr : X.env.frame = some X.env.locals) (hi : N[i]? = some n) (hln : lclB sc n = true) (hD : x ∈ hs) (hg : glB sc x = true)
    (hb : ∀ (pn : List (Addr × Obj)) (xe : Value → Shared → Prop) (W' : WX), Cf (X.tr pn xe) W' sc N → CS (X.tr pn xe) W' body b) (hsu : ∀ (a : Addr) (pn : List (Addr × Obj)), Cf0 (X.suite a pn) WF sc N → (X.suite a pn).A.handled = some (.ref a) → CSp a (X.suite a pn) WF (b0 :: suite) s)
    (hdb : (x == ("__debug__" : Str)) = false := by decide +kernel) :
    C1 X W (.Try body [.ExceptHandler (some (.Name x np)) (some n) (b0 :: suite) pos2] [] [] pos) (bTry xs i x b s) := fun Γ => by
  have hk : X.env.kindOf n = some .local := by
    show X.env.scope.names.lookup n = some .local
    rw [C.hsc]
    unfold lclB at hln
    split at hln
    · assumption
    · cases hln
  have cf1 : ∀ (pn : List (Addr × Obj)) (xe : Value → Shared → Prop) (W' : WX), L2N.Takes (X.tr pn xe) W' → PassesOwn (model X.prog X.w) X.A X.env xe → Cf (X.tr pn xe) W' sc N :=
    fun pn xe W' tk ps => ⟨⟨C.hsc, C.hN, C.nd, tk, C.hu, ps, C.hu2⟩, C.calm⟩
  have cf0 : ∀ (a : Addr) (pn : List (Addr × Obj)), Cf0 (X.suite a pn) WF sc N := fun a pn => ⟨C.hsc, C.hN, C.nd, takes0N, C.hu, PassesOwn.never, C.hu2⟩
  refine ps_imp (ps_try_v (tb := fun W' => rdB X W' Γ (b Γ)) (ts := fun a D σ H => ∃ Γs, ∃ G, Phi X.K a G ∧ Sta X.K G H σ Γs ∧ Pst (X.suite a []) WF G H σ (s Γs) fun z G' H' => FinU X.K G' H' D z.2 z.1) (c := .ref (He.ga X.K x)) hst hfr (by rw [C.hN]; exact C.nd) (by rw [C.hN]; exact hi) hk ⟨C.gl hg, hdb, .inl (F.mgh x hD)⟩ C.tk
    (fun W' pn xe tk ps => hb pn xe W' (cf1 pn xe W' tk ps) Γ) (fun a pn => pss_any fun Γs => hsu a pn (cf0 a pn) rfl Γs)) fun D σ H ⟨G, S, p⟩ => ⟨G, S, ?_⟩
  unfold bTry at p
  cases hm : b Γ with
  | bad => rw [hm] at p; exact p
  | val z => rw [hm] at p; exact p
  | exc y =>
    rw [hm] at p
    dsimp only at p
    cases hc : xs.contains y.cls with
    | false => rw [hc, if_neg (by decide)] at p; exact p.elim
    | true =>
      rw [hc, if_pos rfl] at p
      have hc : y.cls ∈ xs := by simpa using hc
      intro G1 H1 σ1 C1 d e1 S1 g1 g2
      have hC : C1 = He.ga X.K y.cls := by
        have := (F.mgc y.cls hc).symm.trans g1
        cases this
        rfl
      subst hC
      refine ⟨exIs y.cls x, F.exm x hD y.cls hc, fun ht a ha => ?_, fun hf => ?_⟩
      · rw [if_pos ht] at p
        obtain ⟨S2, e2⟩ := S1.grow (grow_new (o := XvO X.K y.cls d a) S1.w ha)
        have hx : Dn X.K (rg ⟨G1.H0, G1.P, G1.I, upd G1.N a (XvO X.K y.cls d a), G1.E⟩ true) (upd H1 a (XvO X.K y.cls d a)) (.ref a) (xcD y.cls y.flds) := dn_xo upd_same (g2.mono (e2.rgl true) e2.t)
        have S3 := S2.put i hx
        refine ⟨_, _, ⟨y.cls, d, upd_same⟩, S3, ?_⟩
        cases hs2 : s (y.st.set i (.dat true (xcD y.cls y.flds))) with
        | bad => rw [hs2] at p; exact p.elim
        | exc z => rw [hs2] at p; exact p.elim
        | val z =>
          rw [hs2] at p
          intro G3 H3 e3
          have q := p G3 H3 ((e1.tr e2).tr e3)
          obtain ⟨w, Γ3⟩ := z
          cases w with
          | nx => exact fun σ4 S4 => q (σ4.set i none) (S4.blank i none)
          | bk => exact fun σ4 S4 => q (σ4.set i none) (S4.blank i none)
          | ct => exact fun σ4 S4 => q (σ4.set i none) (S4.blank i none)
          | rt r =>
            cases r with
            | d v => exact fun σ4 u S4 hu => q σ4 u (S4.forget i) hu
            | c v => exact fun σ4 u H2 S4 hu => q σ4 u H2 (S4.forget i) hu
      · rw [hf, if_neg (by decide)] at p
        exact p G1 H1 σ1 _ d e1 S1 g1 g2
end
end PD
set_option Elab.async false
set_option linter.all false
set_option maxRecDepth 100000
set_option maxHeartbeats 4000000
set_option autoImplicit false
namespace PD
open PySem PySem.Spec L2
section
variable {X : Cx} {e : Expr} {t : L2.St → Hp → XK → Prop}
theorem pe_xmk (h : L2N.PMk X e t) : PE X e (fun σ H Q => t σ H fun cls d H1 => ∀ a, H1 a = none → Q (.ref a) (upd H1 a (XO cls d a))) := by
  refine ⟨fun pins s σ H Q I q => thn (h pins s σ H _ I q) fun v s1 ⟨a, oe, vs, sI, H', cls, d, ev, J, k, hne, ha, hz, hd, h1, na, os, ag, r, q1⟩ => ?_⟩
  subst ev
  exact ⟨.ref a, _, landX (B := sI.heap) J (fun b o z _ => z) k (fun b o z _ => ⟨o.slots, k b o z⟩) os ag ha hz.zc hd (hz.2.2 vs hd) na hne, rfl, q1 a na⟩
end
def dMkX (c : Str) (fns : List Str) (k : DA) : DF := fun Γ => (k Γ).bind fun z => match allF z.1 with
  | some (ds, true) => if ds.length = fns.length then .val (.d true (xcD c (fns.zip ds).reverse), z.2) else .bad
  | _ => .bad
def dMkX0 (c : Str) : DF := fun Γ => .val (.d true (xcD c []), Γ)
section
variable {X : Cx} {W : WX} {sc : Scope} {N : List Str} {xs ds hs fs fns : List Str} {c : Str} {e : Expr} {es : List Expr} {k : DA} {p pos : Pos}
theorem ce_mkX (C : Cf0 X W sc N) (F : XAll X.K X.mg xs ds hs fs) (M : XMk X c fns) (hc : c ∈ xs) (hg : glB sc c = true) (ha : CA X W (e :: es) k)
    (he : starEach (e :: es) X.env = (false, eval e X.env) :: starEach es X.env := by rfl) (hpl : (backTo pos (starEach es X.env)).any (·.1) = false := by rfl) : CE X W (.Call (.Name c p) (e :: es) [] pos) (dMkX c fns k) := fun Γ =>
  pe_imp (pe_xmk (M e es _ p pos (ha Γ) (fun σ H Q Q' hk ⟨G, S, q⟩ => ⟨G, S, q.imp fun r G1 H1 e1 h vs S1 av => hk vs H1 (h vs S1 av)⟩) (by rw [C.hsc]; exact hg) he hpl)) fun σ H Q ⟨G, S, q⟩ => ⟨G, S, (Pst.bind q).imp fun z G1 H1 e1 p1 vs S1 av => by
    cases hz : allF z.1 with
    | none => rw [hz] at p1; exact p1.elim
    | some r =>
      obtain ⟨dl, fr⟩ := r
      rw [hz] at p1
      cases fr with
      | false => exact p1.elim
      | true =>
        dsimp only at p1
        have dn := allF_ok hz av
        by_cases hl : dl.length = fns.length
        · rw [if_pos hl] at p1
          have hv : vs.length = fns.length := by rw [← hl]; exact dn.length
          refine ⟨hv, fun d hd a ha => ?_⟩
          obtain ⟨S2, e2⟩ := S1.grow (grow_new (o := .xd (fns.zip vs).reverse) S1.w hd)
          obtain ⟨S3, e3⟩ := S2.grow (grow_new (o := XvO X.K c (some d) a) S2.w ha)
          refine p1 _ _ (e2.tr e3) (.ref a) S3 (dn_xo upd_same (XdOk.mono (.inl ⟨d, _, rfl, upd_same, ?_, ?_⟩) (e3.rgl true) e3.t))
          · rw [List.map_reverse, List.map_reverse, zip_fst2 _ _ hv, zip_fst2 _ _ hl]
          · rw [List.map_reverse, List.map_reverse, zip_snd2 _ _ hv, zip_snd2 _ _ hl]
            exact (e2.dna dn).reverse
        · rw [if_neg hl] at p1
          exact p1.elim⟩
theorem ce_mkX0 (C : Cf0 X W sc N) (F : XAll X.K X.mg xs ds hs fs) (M : Exc0 X.K c) (hc : c ∈ xs) (hg : glB sc c = true) (hdb : (c == ("__debug__" : Str)) = false := by decide +kernel) : CE X W (.Call (.Name c p) [] [] pos) (dMkX0 c) := fun Γ =>
  pe_imp (pe_xmk (pmk_own0 PySem.F.excBase_ValueError M.e (F.mgc c hc) M.T.kC (raises_own M.T.exC M.T.tyC) (C.gl hg) hdb)) fun σ H Q ⟨G, S, q⟩ a ha => by
    obtain ⟨S3, e3⟩ := S.grow (grow_new (o := XvO X.K c none a) S.w ha)
    exact q _ _ e3 (.ref a) S3 (dn_xo upd_same (.inr ⟨rfl, rfl⟩))
end
end PD
set_option Elab.async false
set_option linter.all false
set_option maxRecDepth 100000
set_option maxHeartbeats 4000000
set_option autoImplicit false
namespace PD
open PySem PySem.Spec PyProof.Rows L2 HotX
open L2H (RoomH)
def spUT (K : PySem.W.Frag) (mg : Str → Option Value) (a : Addr) (m : List Ar → R (Rs × List Sl)) : Sp := fun vs H Q E => ∃ as F L B, (∃ nm d, B a = some (XvO K nm d a)) ∧ ArgsU K H vs as F L B ∧ match m as with
  | .bad => False
  | .exc x => ∀ H' N F' C d, PostU K H vs F L B H' N x.st F' → mg x.cls = some (.ref C) → XdOk K (RN N) H' d x.flds → E (.ref C) d H'
  | .val z => ∀ H' N F', PostU K H vs F L B H' N z.2 F' → RsOk K N H' Q z.1
theorem spUT.sp {K : PySem.W.Frag} {mg : Str → Option Value} {a : Addr} {m : List Ar → R (Rs × List Sl)} {vs : List V} {H : Hp} {Q : VK} {E : XK} (h : spUT K mg a m vs H Q E) : spU K mg m vs H Q E := by
  obtain ⟨as, F, L, B, _, h1, h2⟩ := h
  exact ⟨as, F, L, B, h1, h2⟩
section
variable {P : Program} {w : World} {K : PySem.W.Frag} {mg : Str → Option Value} {base : Heap} {x qual : Str} {params : Arguments} {body : List Stmt} {scope : Scope} {dvs : List V} {kws : List (Str × V)} {f : Addr} {fd : FuncData} {N ps : List Str} {k : Nat}
theorem fn_preT {b : DS} {xa : Addr} (hle : ps.length ≤ N.length) {X : Cx} (eK : X.K = K) (eM : X.mg = mg) {vs : List V} {H : Hp} {Q : VK} {E : XK} (hsp : spUT K mg xa (runB N.length ps.length b) vs H Q E) :
    ∃ Γ, (fun (D : Ends) σ H => ∃ G, Phi X.K xa G ∧ Sta X.K G H σ Γ ∧ Pst X (fun cls d _ H => E cls d H) G H σ (b Γ) fun z G' H' => FinU X.K G' H' D z.2 z.1) { nx := fun _ H' => Q .non H', rt := Q } (L2.start N vs) H := by
  subst eK eM
  have hvl := fn_len vs H Q E hsp.sp
  obtain ⟨as, Fp, L, B, ⟨nm0, d0, hB0⟩, AU, hq⟩ := hsp
  have hal : as.length = ps.length := AU.len.symm.trans hvl
  have hq : match endB as (b (initS N.length as)) with
    | .bad => False
    | .exc x => ∀ H' N F' C d, PostU X.K H vs Fp L B H' N x.st F' → X.mg x.cls = some (.ref C) → XdOk X.K (RN N) H' d x.flds → E (.ref C) d H'
    | .val z => ∀ H' N F', PostU X.K H vs Fp L B H' N z.2 F' → RsOk X.K N H' Q z.1 := by
    unfold runB at hq
    rw [show (as.length == ps.length) = true by simpa using hal] at hq
    exact hq
  refine ⟨initS N.length as, ?_⟩
  let cv : Nat → Option V := fun i => match as[i]? with
    | some (.c _) => vs[i]?
    | _ => none
  let G : Gh := ⟨H, L, cv, B, fun _ => none⟩
  have wf : Wf G H := ⟨fun a o h _ => h, fun a o h => ⟨(AU.bok a o h).1, trivial⟩, fun a h => AU.al a h, fun a h => AU.al a h, fun a o h => (by cases h), fun i p h => by
    have h : cv i = some (.ref p) := h
    simp only [cv] at h
    split at h
    · rename_i c hc
      obtain ⟨v, h1, h2⟩ := AU.cel i c hc
      rw [h1] at h
      cases h
      rcases Cl.root h2 with z | z
      · exact .inl (AU.all i p z)
      · exact .inr (.inr z)
    · cases h⟩
  have hg : RgLe (fun a o => H a = some o ∧ a ∉ L) (rg G false) := fun a o h => .inr h
  have st : Sta X.K G H (L2.start N vs) (initS N.length as) := by
    refine ⟨Fp, wf, ?_, fun i s h => ?_, fun i p h => ⟨AU.al p (AU.all i p h), (by cases q : B p with | none => exact q | some u => exact absurd (AU.all i p h) (AU.bok p u q).2), .inl (AU.all i p h)⟩, fun i p h => rfl, AU.dj, fun i j k ns h1 h2 => ?_⟩
    rotate_right
    · unfold initS at h2
      by_cases hj : j < as.length
      · rw [List.getElem?_append_left (by simpa using hj), List.getElem?_map] at h2
        cases ha : as[j]? with
        | none => rw [ha] at h2; cases h2
        | some y => rw [ha] at h2; cases y <;> cases h2
      · rw [List.getElem?_append_right (by simpa using hj)] at h2
        have := List.eq_of_mem_replicate (List.mem_of_getElem? h2)
        cases this
    · unfold initS L2.start
      simp [AU.len]
    · by_cases hi : i < as.length
      · have hi2 : i < vs.length := by rw [AU.len]; exact hi
        rw [start_get hi2, List.getElem?_map]
        unfold initS at h
        rw [List.getElem?_append_left (by simpa using hi), List.getElem?_map] at h
        cases ha : as[i]? with
        | none => rw [ha] at h; cases h
        | some y =>
          rw [ha] at h
          cases h
          cases y with
          | d x =>
            obtain ⟨v, h1, h2⟩ := AU.dat i x ha
            rw [h1]
            refine ⟨AU.emp i (by rw [ha]; intro c z; cases z), v, rfl, ?_⟩
            cases hx : scD x with
            | true => exact Dn.free h2 (scD_flat hx)
            | false => exact h2.mono hg (TupLe.rf _)
          | n x =>
            obtain ⟨v, h1, h2⟩ := AU.nat i x ha
            rw [h1]
            exact ⟨AU.emp i (by rw [ha]; intro c z; cases z), v, rfl, h2⟩
          | c c =>
            obtain ⟨v, h1, h2⟩ := AU.cel i c ha
            rw [h1]
            refine ⟨v, rfl, ?_, h2⟩
            show cv i = some v
            simp only [cv, ha, h1]
      · unfold initS at h
        rw [List.getElem?_append_right (by simpa using hi)] at h
        have : s = .un := List.eq_of_mem_replicate (List.mem_of_getElem? h)
        subst this
        exact AU.emp i (by rw [List.getElem?_eq_none (by omega)]; intro c z; cases z)
  have post : ∀ G' H' σ' Γ' Z, Ext G H G' H' → Sta X.K G' H' σ' Γ' → cellsAt as Γ' = some Z → ∃ F', PostU X.K H vs Fp L B H' G'.N Z F' := fun G' H' σ' Γ' Z e ⟨A', S'⟩ hz => by
    have h0 : G'.H0 = H := e.h0
    have hP : G'.P = L := e.p
    refine ⟨fun i => match Z[i]? with | some (.io _) => A' i | _ => [], fun a o h hp => e.w.keep a o (by rw [h0]; exact h) (by rw [hP]; exact hp), fun a ha => e.w.pal a (by rw [hP]; exact ha), e.t, fun a o h => ⟨(e.w.new a o h).1, (e.nn a o h).elim .inr .inl⟩, fun i c hc => ?_, fun i p hp => ?_, fun i j p hi hj => ?_⟩
    · obtain ⟨g1, c0, g2⟩ := cellsAt_get hz hc
      obtain ⟨v, q1, q2, q3⟩ := S'.sl i _ g1
      have q2 : G'.I i = some v := q2
      rw [e.i] at q2
      have q2 : cv i = some v := q2
      simp only [cv, g2] at q2
      refine ⟨v, q2, ?_⟩
      simp only [hc]
      exact q3
    · have hp : p ∈ (match Z[i]? with | some (.io _) => A' i | _ => []) := hp
      split at hp
      · rename_i c hc
        obtain ⟨q1, q2, q3⟩ := S'.al i p hp
        refine ⟨q1, q2, ?_⟩
        rw [hP, h0] at q3
        exact q3
      · cases hp
    · have hi : p ∈ (match Z[i]? with | some (.io _) => A' i | _ => []) := hi
      have hj : p ∈ (match Z[j]? with | some (.io _) => A' j | _ => []) := hj
      split at hi
      · split at hj
        · exact S'.dj i j p hi hj
        · cases hj
      · cases hi
  refine ⟨G, ⟨nm0, d0, hB0⟩, st, ?_⟩
  cases hm : b (initS N.length as) with
  | bad => rw [hm] at hq; exact hq
  | exc ex =>
    rw [hm] at hq
    intro G' H' σ' C d e S' g1 g2
    cases hz : cellsAt as ex.st with
    | none =>
      have hq : (match (R.ofO (cellsAt as ex.st)).bind (fun Z => (R.exc ⟨ex.cls, ex.flds, Z⟩ : R (Rs × List Sl))) with | .bad => False | .exc x => _ | .val z => _) := hq
      rw [hz] at hq
      exact hq.elim
    | some Z =>
      have hq : (match (R.ofO (cellsAt as ex.st)).bind (fun Z => (R.exc ⟨ex.cls, ex.flds, Z⟩ : R (Rs × List Sl))) with | .bad => False | .exc x => _ | .val z => _) := hq
      rw [hz] at hq
      obtain ⟨F', hp⟩ := post G' H' σ' ex.st Z e S' hz
      exact hq H' G'.N F' C d hp g1 g2
  | val r =>
    rw [hm] at hq
    intro G' H' e
    obtain ⟨w, Γ'⟩ := r
    have hq : (match (R.ofO (fwR w)).bind (fun r => (R.ofO (cellsAt as Γ')).bind fun Z => (R.val (r, Z) : R (Rs × List Sl))) with | .bad => False | .exc x => _ | .val z => _) := hq
    cases hz : cellsAt as Γ' with
    | none =>
      rw [hz] at hq
      cases hw : fwR w <;> rw [hw] at hq <;> exact hq.elim
    | some Z =>
      rw [hz] at hq
      have fin : ∀ r, fwR w = some r → ∀ σ', Sta X.K G' H' σ' Γ' → RsOk X.K G'.N H' Q r := fun r hr σ' S' => by
        rw [hr] at hq
        obtain ⟨F', hp⟩ := post G' H' σ' Γ' Z e S' hz
        exact hq H' G'.N F' hp
      cases w with
      | nx => exact fun σ' S' => fin _ rfl σ' S' .non .non
      | bk => exact hq.elim
      | ct => exact hq.elim
      | rt r =>
        cases r with
        | d x => exact fun σ' v S' hv => fin _ rfl σ' S' v hv
        | c x => exact fun σ' v H2 S' hn => fin _ rfl σ' S' v H2 hn
structure FnT (P : Program) (w : World) (K : PySem.W.Frag) (mg : Str → Option Value) (base : Heap) (k : Nat) (f : Addr) (fd : FuncData) (ps : List Str) (sp : Addr → Sp) : Prop where
  len : ∀ a vs H Q E, sp a vs H Q E → vs.length = ps.length
  run : ∀ (a : Addr) (A : Around) (outer : List Env) (s : Shared) (H : Hp) (args : Args) (us : List Value) (vs : List V) (Q : VK) (E : XK), A.handled = some (.ref a) → RoomH k A → Env0 P w K mg base A outer s H → BindsTo s fd args (ps.zip us) → Vals vs us → sp a vs H Q E →
    codeAny (model P w) A (.call (.ref f) args) (L2.CR (L2N.CX P w) outer P w H s Q E) s
theorem fn_uT {name : Str} (F : FunD K name qual params body scope dvs kws f fd) (S : FnScope N ps scope) {b : DS} (hle : ps.length ≤ N.length) (hb : ∀ X W a, HereQ X W P w K mg base scope N k → X.A.handled = some (.ref a) → CSp a X W body b) :
    FnT P w K mg base (k + 1) f fd ps (fun a => spUT K mg a (runB N.length ps.length b)) := by
  obtain ⟨oc, od, dV, kV, doc, pm, an, cdv, ct, osl, rfl, lk, hcd, _, _⟩ := F.ex
  refine ⟨fun a vs H Q E h => fn_len vs H Q E h.sp, fun a A outer s H args us vs Q E hha hr e0 hb2 r hsp => ?_⟩
  have KX : K.In s.heap := e0.mod.kin.keeps fun b o e => (e0.bs b o e).1
  have lim : s.heap.NoLimit := e0.mod.nolimit.keeps fun b o e => (e0.bs b o e).1
  have kinds : ∀ y ∈ ps.zip us, scope.names.lookup y.1 = some .local ∨ (scope.names.lookup y.1 = some .cell ∧ ((cellsFrom (s.heap.objs.size + 1) scope.names []).lookup y.1).isSome = true) := by
    rintro ⟨n, v⟩ hy
    rcases S.par n (List.of_mem_zip hy).1 with q | q
    · exact .inl q
    · exact .inr ⟨q, PySem.W.cellsFrom_some _ _ _ (.inl q)⟩
  refine codeAny_call_function hr.depth (KX _ _ lk) rfl S.co S.gen rfl (PySem.W.codeRec_of KX hcd) (hb2 _ _ _ _ (wpAny_newFunctionEnv_cells S.kind kinds fun env he s1 x => ?_))
  subst he
  refine ⟨lim.keeps x.toInCall.keep, codeAny_func ?_⟩
  have hr2 : RoomH k (A.deeper (envOfC qual scope s.heap.objs.size f cdv)) := hr.deeper _
  obtain ⟨Γ, h⟩ := fn_preT hle (X := cxQ P w K mg base N qual scope f cdv A outer s H E) rfl rfl hsp
  have ht := hb (cxQ P w K mg base N qual scope f cdv A outer s H E) (fun cls d _ H => E cls d H) a ⟨⟨rfl, rfl, S.nd, L2N.takes_of rfl rfl rfl rfl, (by
    have := hr2.un
    show (A.deeper _).units + 64 < cLine
    omega), passes_of rfl, (by
    have := hr2.un
    show (A.deeper _).units + 150 < cLine
    omega)⟩, rfl, rfl, rfl, rfl, rfl, hr2, fun x => rfl⟩ hha Γ
  refine wpAny_mono (ht.run [] s1 (L2.start N vs) H _ (inv_startQ S e0 (fn_len _ _ _ _ hsp.sp) r x) h) (fun fl s2 hs => ?_) fun e s2 hs => hs
  cases fl with
  | ret u =>
    obtain ⟨v, σ2, H2, J, rv, q⟩ := hs
    exact ⟨v, H2, J.os, J.bare, J.base, J.hok, rv, q⟩
  | next =>
    obtain ⟨σ2, H2, J, q⟩ := hs
    exact ⟨V.non, H2, J.os, J.bare, J.base, J.hok, rfl, q⟩
  | brk =>
    obtain ⟨_, _, _, q⟩ := hs
    exact q.elim
  | cont =>
    obtain ⟨_, _, _, q⟩ := hs
    exact q.elim
end
def CleeT (X : Cx) (x : Str) (dvs : List V) (sp : Addr → Sp) : Prop :=
  ∃ (k : Nat) (f : Addr) (fd : FuncData) (ps : List Str) (ds : List Value), FnT X.prog X.w X.K X.mg X.base k f fd ps sp ∧ RoomH k X.A ∧ X.mg x = some (.ref f) ∧ PySem.W.keepIn X.K (.ref f) = true ∧ Binds X.K fd ps ds ∧ Vals dvs ds
def GvT (P : Program) (w : World) (K : PySem.W.Frag) (mg : Str → Option Value) (base : Heap) (k : Nat) (x : Str) (dvs : List V) (sp : Addr → Sp) : Prop :=
  ∃ (f : Addr) (fd : FuncData) (ps : List Str) (ds : List Value), FnT P w K mg base k f fd ps sp ∧ mg x = some (.ref f) ∧ PySem.W.keepIn K (.ref f) = true ∧ Binds K fd ps ds ∧ Vals dvs ds
section
variable {P : Program} {w : World} {K : PySem.W.Frag} {mg : Str → Option Value} {base : Heap} {k k' : Nat} {x : Str} {dvs : List V} {m : List Ar → R (Rs × List Sl)} {X : Cx} {W : WX} {scope : Scope} {N : List Str}
theorem GvT.u (g : GvT P w K mg base k x dvs (fun a => spUT K mg a m)) (h : Here X W P w K mg base scope N k') (hk : k ≤ k') : CleeT X x dvs (fun a => spUT X.K X.mg a m) := by
  obtain ⟨f, fd, ps, ds, h1, h2, h3, h4, h5⟩ := g
  have e1 := h.prog
  have e2 := h.w
  have e3 := h.K
  have e4 := h.mg
  have e5 := h.base
  subst e1 e2 e3 e4 e5
  exact ⟨k, f, fd, ps, ds, h1, (L2H.roomH_of h.room).mono hk, h2, h3, h4, h5⟩
theorem CleeT.suite {sp : Addr → Sp} (h : CleeT X x dvs sp) (a : Addr) (pn : List (Addr × Obj)) : CleeT (X.suite a pn) x dvs sp := by
  obtain ⟨k, f, fd, ps, ds, h1, h2, h3⟩ := h
  exact ⟨k, f, fd, ps, ds, h1, ⟨h2.dp, h2.un⟩, h3⟩
end
section
variable {X : Cx} {W : WX} {sc : Scope} {N : List Str} {a : Addr} {x : Str} {o e e2 : Expr} {es : List Expr} {p pos apos cpos : Pos} {k : DA} {f g : DF} {dvs : List V} {dds : List PyData} {m : List Ar → R (Rs × List Sl)} {t : TA}
def CXp (a : Addr) (X : Cx) (W : WX) (e : Expr) (f : DX) : Prop := ∀ Γ, PE X e (fun σ H Q => ∃ G, Phi X.K a G ∧ Sta X.K G H σ Γ ∧ Pst X W G H σ (f Γ) fun r G' H' => FinX X.K G' H' σ r.2 Q r.1)
theorem ce_xP {f : DX} (h : CXp a X W e f) : CEp a X W e (eX f) := fun Γ => pe_imp (h Γ) fun σ H Q ⟨G, hp, S, q⟩ => ⟨G, hp, S, (Pst.bind q).imp fun z G1 H1 e1 p1 => by
  obtain ⟨r, Γ1⟩ := z
  cases r with
  | d x =>
    intro v S1 hv
    exact p1 G1 H1 (Ext.rf S1.w) v S1 hv
  | c c =>
    intro v H2 S1 nc
    obtain ⟨d, hd, p1⟩ := Pst.ofO p1
    obtain ⟨G2, S2, e2, hv⟩ := NewC.frz S1 nc hd
    exact p1 G2 H2 e2 v S2 hv⟩
theorem callT_core {Γ : List Sl} {G : Gh} {H : Hp} {σ : L2.St} {as : List AV} {ds : List PyData} {vs : List V} {Q : VK} (hB : ∃ nm d, G.N a = some (XvO X.K nm d a)) (hdv : ∀ G H, DnA X.K G H dvs dds) (S : Sta X.K G H σ Γ) (av : AVs X.K G H σ vs as) (hd : rdDs Γ none as = some ds)
    (hp : Pst X W G H σ ((m ((ds ++ dds).map Ar.d)).atX Γ) fun z G' H' => Sta X.K G' H' σ Γ → RsOk X.K G'.N H' Q z.1) : spUT X.K X.mg a m (vs ++ dvs) H Q (fun cls d H => W cls d σ H) := by
  have h1 : DnA X.K (fun a o => H a = some o ∧ a ∉ []) H vs ds := rdDs_ok (i := none) (fp := []) S (fun _ _ _ _ => by simp) (fun _ _ _ _ hr hv => S.rdW hr hv) hd av
  refine ⟨_, _, _, G.N, hB, argsD (h1.append (hdv _ _)) (fun a o h => (S.w.new a o h).1), ?_⟩
  cases hm : m ((ds ++ dds).map Ar.d) with
  | bad => rw [hm] at hp; exact hp
  | exc y =>
    rw [hm] at hp
    intro H' N' F' C d P g1 g2
    obtain ⟨G', S', e', l⟩ := call_end S (fun a o h => P.keep a o h (by simp)) P.new
    refine hp G' H' σ C d e' S' g1 ?_
    rcases g2 with ⟨a, fs, q1, q2, q3, q4⟩ | q
    · exact .inl ⟨a, fs, q1, l _ _ q2, q3, q4.mono l (TupLe.rf _)⟩
    · exact .inr q
  | val z =>
    rw [hm] at hp
    intro H' N' F' P
    obtain ⟨G', S', e', l⟩ := call_end S (fun a o h => P.keep a o h (by simp)) P.new
    have q := hp G' H' e' S'
    cases hz : z.1 with
    | d y => rw [hz] at q; exact fun v hv => q v (hv.mono l (TupLe.rf _))
    | c y => rw [hz] at q; exact fun v H2 ⟨fp, n1, n2, n3⟩ => q v H2 ⟨fp, n1, n2, Cl.mono n3 l (fun _ _ => rfl) (TupLe.rf _)⟩
theorem run_fnT {pins : List (Addr × Obj)} {σ : L2.St} {H : Hp} {s : Shared} {Q : VK} {us ds : List Value} {vs : List V} {j : Nat} {f : Addr} {fd : FuncData} {ps : List Str} {sp : Addr → Sp} {E : XK} (F : FnT X.prog X.w X.K X.mg X.base j f fd ps sp) (hh : X.A.handled = some (.ref a)) (hr : RoomH j X.A) (hb : Binds X.K fd ps ds) (hd : Vals dvs ds)
    (hx : PassesAt (L2N.CX X.prog X.w) X σ E) (I : Inv X pins σ H s) (r : Vals vs us) (h : sp a (vs ++ dvs) H Q E) : wpAny (model X.prog X.w) X.A (call (.ref f) us) (EP X pins σ Q) X.xe s := by
  have r2 : Vals (vs ++ dvs) (us ++ ds) := r.append hd
  have hl : (us ++ ds).length = ps.length := r2.length.symm.trans (F.len _ _ _ _ _ h)
  refine wpAny_call (codeAny_mono (F.run a X.A X.stack s H ⟨us, []⟩ (us ++ ds) (vs ++ dvs) Q E hh hr I.env0 (hb s us I.kIn hl) r2 h) fun z s2 hq => ?_)
  cases z with
  | error e => exact hx pins H s e s2 I hq
  | ok fl =>
    cases fl with
    | ret u => exact I.after hq
    | next => exact hq.elim
    | brk => exact hq.elim
    | cont => exact hq.elim
theorem cx_callT (C : Cf0 X W sc N) (hh : X.A.handled = some (.ref a)) (hc : CleeT X x dvs (fun a => spUT X.K X.mg a m)) (hg : glB sc x = true) (hdv : ∀ G H, DnA X.K G H dvs dds) (ha : CA X W (e :: es) k)
    (hdb : (x == ("__debug__" : Str)) = false := by decide +kernel) (he : starEach (e :: es) X.env = (false, eval e X.env) :: starEach es X.env := by rfl) (hpl : (backTo pos (starEach es X.env)).any (·.1) = false := by rfl) : CXp a X W (.Call (.Name x p) (e :: es) [] pos) (xCall m dds k) := fun Γ => by
  obtain ⟨k', f, fd, ps, dss, F, hr, hm, hk, hb, hd⟩ := hc
  refine ⟨fun pins s σ H Q I h => ?_⟩
  obtain ⟨G, hp, S, q⟩ := h
  refine wpAny_Call_Name_kw (ld_glob I (C.gl hg) hm ?_ hdb)
  refine PySem.W.callWith_K (h₀ := X.base) I.ok.mod.kin hk (thn ((ha Γ).run pos pins s σ H (fun vs H1 => spUT X.K X.mg a m (vs ++ dvs) H1 Q (fun cls d H => W cls d σ H)) I ⟨G, S, (Pst.bind q).imp fun z G1 H1 e1 p1 vs S1 av => ?_⟩) fun us s1 ⟨vs, H1, I1, r, q⟩ => ⟨I1.kIn, ?_⟩) he hpl
  · obtain ⟨ds, hds, p1⟩ := Pst.ofO p1
    refine callT_core (hp.ext e1) hdv S1 av hds ((Pst.bind p1).imp fun r G2 H2 e2 p2 S2 => ?_)
    have p2 := p2 G2 H2 (Ext.rf S2.w)
    cases hz : r.1 with
    | d w =>
      rw [hz] at p2
      exact fun v hv => p2 v S2 hv
    | c w =>
      rw [hz] at p2
      exact fun v H3 hn => p2 v H3 S2 hn
  · exact run_fnT F hh hr hb hd (L2N.passAt C.tk σ) I1 r q
theorem c1_exprP {f : DF} (he : CEp a X W e f) (hs : swapsWith e none pos.line X.env = pure false := by rfl) : C1p a X W (.Expr e pos) (bExpr f) := fun Γ =>
  ps_imp (ps_expr (he Γ) hs) fun D σ H ⟨G, hp, S, p⟩ => ⟨G, hp, S, (Pst.bind p).imp fun z G1 H1 e1 p1 v S1 a1 => p1 G1 H1 (Ext.rf S1.w) σ S1⟩
theorem c1_retP {f : DF} (he : CEp a X W e f) : C1p a X W (.Return (some e) pos) (bRet f) := fun Γ =>
  ps_imp (ps_ret (he Γ)) fun D σ H ⟨G, hp, S, p⟩ => ⟨G, hp, S, (Pst.bind p).imp fun z G1 H1 e1 p1 v S1 a1 => by
    obtain ⟨x, Γ1⟩ := z
    obtain ⟨y, G2, S2, e2, a2, p2⟩ := frzP S1 a1 p1
    obtain ⟨y, Γ2⟩ := y
    simp only at p2
    split at p2
    · exact p2 G2 H1 (Ext.rf S2.w) σ v S2 a2
    · exact p2.elim⟩
theorem cs_consP2 {s : Stmt} {ss : List Stmt} {f g : DS} (hs : C1 X W s f) (hr : CSp a X W ss g) : CSp a X W (s :: ss) (bSeq f g) := fun Γ =>
  pss_imp (pss_cons (hs Γ) (pss_any fun Γ1 => hr Γ1)) fun D σ H ⟨G, hp, S, p⟩ => ⟨G, S, (Pst.bind p).imp fun z G1 H1 e1 p1 => by
    obtain ⟨w, Γ1⟩ := z
    cases w with
    | nx => exact fun σ1 S1 => ⟨Γ1, G1, hp.ext e1, S1, p1⟩
    | bk => exact p1 G1 H1 (Ext.rf e1.w)
    | ct => exact p1 G1 H1 (Ext.rf e1.w)
    | rt r =>
      have q : FinU X.K G1 H1 D Γ1 (.rt r) := p1 G1 H1 (Ext.rf e1.w)
      cases r with
      | d x => exact q
      | c x => exact q⟩
theorem ce_eqP {b1 b2 : Expr} (C : Cf0 X W sc N) (ha : CE X W b1 f) (hb : CEp a X W b2 g) (hm : behindInMarks .Eq b2 = false := by first | exact nobehind _ (by decide) (by decide) | rfl) : CEp a X W (.Compare b1 [.Eq] [b2] pos) (dCmp kEq f g) := fun Γ =>
  pe_imp (pe_cmpR (op_eqD C.hu) (ha Γ) (pe_any fun x : AV × List Sl => hb x.2) hm) fun σ H Q ⟨G, hp, S, p⟩ => by
    have p : Pst X W G H σ ((f Γ).bind fun x => (g x.2).bind fun y => boolR (kEq y.2 x.1 y.1) y.2) _ := p
    refine ⟨G, S, (Pst.bind p).imp fun x G1 H1 e1 p1 u S1 a1 => ⟨x, G1, hp.ext e1, S1, (Pst.bind p1).imp fun y G2 H2 e2 p2 v S2 a2 => ?_⟩⟩
    have p2 : Pk X W G2 H2 σ (boolR (kEq y.2 x.1 y.1) y.2) Q := p2
    rcases kEq_val (Γ := y.2) (x := x.1) (y := y.1) with ⟨d, z, h1, h2, s1, s2, e⟩ | e
    · rw [e] at p2
      exact ⟨d, z, ((rdD_ok h1).ok S2 (a1.ext e2)).dps s1, ((rdD_ok h2).ok S2 a2).dps s2, s1, s2, Pk.v p2 S2 (.bl _)⟩
    · rw [e] at p2; exact p2.elim
theorem ce_frzPh (h : CEp a X W e f) : CEp a X W e (dFrz f) := fun Γ => pe_imp (h Γ) fun σ H Q ⟨G, hp, S, p⟩ => ⟨G, hp, S, (Pst.bind p).imp fun x G1 H1 e1 p1 v S1 hv => by
  obtain ⟨x, Γ1⟩ := x
  exact frz_ok S1 hv p1⟩
theorem ce_lmP (C : Cf0 X W sc N) {name : Str} {id : String} {r : V → List V → Hp → VK → Prop} (q : List PyData → List AV → R (PyData × List PyData)) (slot : Slot "list" name id) (hty : typeOf (.builtin id) = pure (.type "method_descriptor")) (hm : MtR X id r)
    (hk : ∀ as ds G H σ p ws Q, H p = some (.lst ws) → DnA X.K (rg G true) H ws ds → (∀ vs, AVs X.K G H σ vs as → (∀ y, q ds as = .val y → ∃ ws' v, DnA X.K (rg G true) H ws' y.2 ∧ Dn X.K (rg G true) H v y.1 ∧ (Q v (upd H p (.lst ws')) → r (.ref p) vs H Q))))
    (i : Nat) {x : Str} (hN : N[i]? = some x) (hv : visB sc x = true) (ha : CAp a X W (e :: es) k) (hq : ∀ ds as z, q ds as ≠ .exc z)
    (hd : (x == ("__debug__" : Str)) = false := by decide +kernel) (hcd : (x == ("__classdict__" : Str)) = false := by decide +kernel)
    (hfew : ((backTo cpos (starEach (e :: es) X.env)).all (fun x => !x.1) && (backToKw cpos (keywordEach [] X.env)).all (fun x => x.1.isSome) && decide ((e :: es).length + ([] : List Keyword).length + (if ([] : List Keyword).isEmpty then 0 else 1) < 30)) = true := by rfl)
    (hline : (apos.endLine == cpos.line) = true := by rfl) (hs : starEach (e :: es) X.env = (false, eval e X.env) :: starEach es X.env := by rfl) (hplain : (backTo cpos (starEach es X.env)).any (·.1) = false := by rfl)
    (hbase : attributeBase (.Name x p) name X.env (eval (.Name x p) X.env) = eval (.Name x p) X.env := by rfl) :
    CEp a X W (.Call (.Attribute (.Name x p) name apos) (e :: es) [] cpos) (dLm i q k) := fun Γ => by
  unfold dLm
  cases h0 : cellL Γ i with
  | none => exact ⟨fun _ _ _ _ _ _ ⟨_, _, _, z⟩ => z.elim⟩
  | some c0 =>
    have ho := evp_cell (W := W) (p := p) C (cellL_ok h0) hN hv hd hcd
    refine pe_imp (pe_bm PySem.F.plainAttrs_list slot hty hm ho (ha Γ) hbase hfew hline hs hplain) fun σ H Q ⟨G, hphi, S, pp⟩ => ⟨G, S, fun G1 H1 e1 v S1 hx => ?_⟩
    obtain ⟨l, vs, g1, g2, g3, _⟩ := S1.chg i c0.1 (cellL_ok h0)
    have hx : σ[i]? = some (some v) := hx
    rw [g1] at hx
    cases hx
    have pp : Pst X W G H σ ((k Γ).bind fun z => (R.ofO (cellL z.2 i)).bind fun c => (q c.2 z.1).bind fun y => .val (AV.d true y.1, z.2.set i (mkS c.1 (.lst y.2)))) _ := pp
    refine ⟨.inl ⟨rfl, vs, SqL.of g2⟩, G1, hphi.ext e1, S1, (Pst.bind (Pst.ext pp e1)).imp fun z G2 H2 e2 p2 ws S2 hw => ?_⟩
    obtain ⟨c, hc, p2⟩ := Pst.ofO p2
    obtain ⟨l', vs', k1, k2, k3, k4⟩ := S2.chg i c.1 (cellL_ok hc)
    rw [g1] at k1
    cases k1
    cases hy : q c.2 z.1 with
    | bad => rw [hy] at p2; exact p2.elim
    | exc z => exact absurd hy (hq _ _ _)
    | val y =>
      rw [hy] at p2
      obtain ⟨ws', v, m1, m2, m3⟩ := hk z.1 c.2 G2 H2 σ l vs' Q k2 k3 ws hw y hy
      obtain ⟨S3, e3⟩ := k4 ws' y.2 m1
      exact m3 (p2 G2 _ e3 v S3 (e3.dn m2))
theorem ce_appendP (C : Cf0 X W sc N) (i : Nat) {x : Str} (hN : N[i]? = some x) (hv : visB sc x = true) (ha : CEp a X W e f) (hs : starEach [e] X.env = (false, eval e X.env) :: starEach [] X.env := by rfl) (hd : (x == ("__debug__" : Str)) = false := by decide +kernel) (hcd : (x == ("__classdict__" : Str)) = false := by decide +kernel) (hline : (apos.endLine == cpos.line) = true := by rfl)
    (hbase : attributeBase (.Name x p) "append" X.env (eval (.Name x p) X.env) = eval (.Name x p) X.env := by rfl) : CEp a X W (.Call (.Attribute (.Name x p) "append" apos) [e] [] cpos) (dLm i qAppend (dAc (dFrz f) dA0)) := by
  refine ce_lmP C qAppend PySem.F.slot_list_append PySem.F.type_list_append mt_append (fun as ds G H σ p ws Q hp hd vs av y hy => ?_) i hN hv (ca_oneP (ce_frzPh ha) hs) (fun ds as z h => ?_) hd hcd (by rw [hs]; rfl) hline hs rfl hbase
  · unfold qAppend at hy
    split at hy
    · rename_i z
      obtain ⟨hc, rfl⟩ := gq_val hy
      obtain ⟨v, rfl, hv⟩ := avs_one av
      have hv : Dn X.K (rg G true) H v z := hv
      exact ⟨ws ++ [v], .non, hd.append (.cons hv .nil), .non, fun q => ⟨p, ws, v, rfl, rfl, hp, by rw [hd.length]; exact of_decide_eq_true hc, q⟩⟩
    · cases hy
  · unfold qAppend at h
    split at h
    · exact gq_nox h
    · cases h
end
def ItrX (K : PySem.W.Frag) (a : Addr) (lo : Int) (n : Nat) : It := ⟨(Itr lo n).go, (Itr lo n).yld, fun i H => (Itr lo n).stop i H ∧ ∃ nm d, H a = some (XvO K nm d a)⟩
structure TurnX (P : Program) (w : World) (K : PySem.W.Frag) (a : Addr) (tg : Expr) (J : It) (fp : List Addr) (it : Addr) (tn : Nat → Heap → Prop) : Prop where
  mem : it ∈ fp
  obj : ∀ i h, tn i h → ∀ b ∈ fp, ∃ o, h.get? b = some o ∧ ∀ v, o.data ≠ .cell v
  keep : ∀ i h h', tn i h → (∀ b ∈ fp, ∀ o, h.get? b = some o → h'.get? b = some o) → tn i h'
  item : ∀ (X : Cx), X.prog = P → X.w = w → X.K = K → X.A.handled = some (.ref a) → ∀ (i : Nat) (pins : List (Addr × Obj)) (s : Shared) (σ : L2.St) (H : Hp) (E : Value → Shared → Prop), Inv X pins σ H s → (∀ b ∈ fp, FpOk X pins H b) → tn i s.heap → J.go i H →
    wpAny (model P w) X.A (pyNext (.ref it)) (fun r s1 => ∃ u, r = some u ∧
      wpAny (model P w) X.A (letOwnedTupleGo tg (.ref it) u) (fun _ s2 => ∃ x H', Inv X pins σ H' s2 ∧ RelV x u ∧ J.yld i H x H' ∧ tn (i + 1) s2.heap ∧ ∀ b ∈ fp, H' b = none) E s1) E s
  done : ∀ (X : Cx), X.prog = P → X.w = w → X.K = K → X.A.handled = some (.ref a) → ∀ (i : Nat) (pins : List (Addr × Obj)) (s : Shared) (σ : L2.St) (H : Hp) (E : Value → Shared → Prop), Inv X pins σ H s → (∀ b ∈ fp, FpOk X pins H b) → tn i s.heap → J.stop i H →
    wpAny (model P w) X.A (pyNext (.ref it)) (fun r s1 => r = none ∧ Inv X pins σ H s1) E s
  self : ∀ (A : Around) (i : Nat) (s : Shared) (Q : Value → Shared → Prop) (E : Value → Shared → Prop), tn i s.heap → Q (.ref it) s → wpAny (model P w) A (pyIter (.ref it)) Q E s
theorem turn_rangeX {P : Program} {w : World} {K : PySem.W.Frag} {a : Addr} {tg : Expr} (it : Addr) (lo : Int) (n : Nat) : TurnX P w K a tg (ItrX K a lo n) [it] it (fun i h => IsRangeIter h it (lo + (i : Nat) * 1) ((n : Int) - (i : Nat)) 1) where
  mem := by simp
  obj := fun i h st b hb => by
    have e : b = it := by simpa using hb
    subst e
    exact ⟨_, st, fun v z => by
      have z' : Data.fields _ = Data.cell v := z
      cases z'⟩
  keep := fun i h h' st k => k it (by simp) _ st
  item := by
    intro X hP hw hK hc i pins s σ H E I hf st hg
    subst hP hw hK
    obtain ⟨f0, f1, f2, f3, f4, f5⟩ := hf it (by simp)
    have hlt : i < n := hg
    refine wpAny_pyNext_range_item st (by omega) fun h' st' sb => ?_
    have st2 : IsRangeIter h' it (lo + ((i + 1 : Nat) : Int) * 1) ((n : Int) - ((i + 1 : Nat) : Int)) 1 := by
      have e1 : lo + ((i : Nat) : Int) * 1 + 1 = lo + ((i + 1 : Nat) : Int) * 1 := by omega
      have e2 : (n : Int) - ((i : Nat) : Int) - 1 = (n : Int) - ((i + 1 : Nat) : Int) := by omega
      rw [← e1, ← e2]
      exact st'
    have I1 : Inv X pins σ H { s with heap := h', toks := s.toks + 1 } := I.turned (fun b o hb e => (sb.2 b hb).trans e) f0 f1 f3 f4 f5
    refine ⟨_, rfl, go_of (s := { s with heap := h', toks := s.toks + 1 }) (n := "range_iterator") st2 rfl rfl (by decide) ⟨.int (lo + i), H, I1, ⟨s.toks, ?_⟩, ⟨rfl, rfl⟩, st2, fun b hb => (hf b hb).1⟩⟩
    rw [Int.mul_one]
  done := by
    intro X hP hw hK hc i pins s σ H E I hf st hg
    subst hP hw hK
    obtain ⟨f0, f1, f2, f3, f4, f5⟩ := hf it (by simp)
    obtain ⟨hg, nm, d, hx⟩ := hg
    obtain ⟨⟨oe, vs, e, z, q, nn⟩, _⟩ := (show ObjOk X.prog X.w H s.heap a (XvO X.K nm d a) from I.hok a _ hx)
    exact pyNext_range_end_hot (x1 := a) ⟨hc, oe, vs, e, q, nn⟩ st (by have : n ≤ i := hg; omega) fun h' eb => ⟨rfl, I.turned (t' := s.toks) (fun b o _ e => eb b o e) f0 f1 f3 f4 f5⟩
  self := fun _ _ _ _ _ st h => wpAny_pyIter_rangeiter st h
def PIEX (X : Cx) (a : Addr) (pins : List (Addr × Obj)) (σ : L2.St) (tg : Expr) (R : It → Hp → Prop) (itv : Value) (s2 : Shared) : Prop :=
  ∃ (it : Addr) (fp : List Addr) (tn : Nat → Heap → Prop) (J : It) (H' : Hp), itv = .ref it ∧ Inv X pins σ H' s2 ∧ TurnX X.prog X.w X.K a tg J fp it tn ∧ tn 0 s2.heap ∧ (∀ b ∈ fp, FpOk X pins H' b) ∧ R J H'
structure PIX (X : Cx) (a : Addr) (tg iter : Expr) (wi : TI) : Prop where
  run : ∀ (pins : List (Addr × Obj)) (s : Shared) (σ : L2.St) (H : Hp) (R : It → Hp → Prop), Inv X pins σ H s → wi σ H R →
    wpAny (model X.prog X.w) X.A (eval iter X.env) (fun v s1 => wpAny (model X.prog X.w) X.A (pyIter v) (PIEX X a pins σ tg R) X.xe s1) X.xe s
section
variable {X : Cx} {xa : Addr} {tg : Expr}
theorem range_itX {pins : List (Addr × Obj)} {σ : L2.St} {H : Hp} {s : Shared} {R : It → Hp → Prop} {E : Value → Shared → Prop} {lo hi : Int} {t u v : Tok} {tk : Nat} (I : Inv X pins σ H s) (h1 : -(2 ^ 62) ≤ lo) (h2 : lo < 2 ^ 62) (h3 : -(2 ^ 62) ≤ hi) (h4 : hi < 2 ^ 62)
    (q : R (ItrX X.K xa lo (hi - lo).toNat) H) : wpAny (model X.prog X.w) X.A (pyIter (.ref s.heap.objs.size)) (PIEX X xa pins σ tg R) E { s with heap := s.heap.push { cls := .type "range", data := .fields #[.int lo t, .int hi u, .int 1 v] }, toks := tk } := by
  refine wpAny_pyIter_range (IsRange.new ..) (small_one h1 h2 h3 h4) ?_
  have I1 : Inv X pins σ H { s with heap := s.heap.push { cls := .type "range", data := .fields #[.int lo t, .int hi u, .int 1 v] }, toks := tk } := I.kept fun b o e => Heap.get?_push_of_some _ e
  refine ⟨(s.heap.push { cls := .type "range", data := .fields #[.int lo t, .int hi u, .int 1 v] }).objs.size, [(s.heap.push { cls := .type "range", data := .fields #[.int lo t, .int hi u, .int 1 v] }).objs.size], _, _, H, rfl,
    I1.kept (t' := tk) fun b o e => Heap.get?_push_of_some _ e, turn_rangeX _ lo (hi - lo).toNat, ?_, fun b hb => ?_, q⟩
  · have e1 : lo + ((0 : Nat) : Int) * 1 = lo := by simp
    have e2 : (((hi - lo).toNat : Nat) : Int) - ((0 : Nat) : Int) = Builtin.Range.rangeSize lo hi 1 := by rw [rangeSize_one]; split <;> omega
    show IsRangeIter _ _ (lo + ((0 : Nat) : Int) * 1) ((((hi - lo).toNat : Nat) : Int) - ((0 : Nat) : Int)) 1
    rw [e1, e2]
    exact Heap.get?_push_size _ rfl
  · have e : b = (s.heap.push { cls := .type "range", data := .fields #[.int lo t, .int hi u, .int 1 v] }).objs.size := by simpa using hb
    subst e
    exact I1.fpOk (Nat.le_refl _) (I1.hok.fresh (Nat.le_refl _))
def iRngX (K : PySem.W.Frag) (xa : Addr) (ta : TA) : TI := fun σ H R => ta σ H fun vs H1 => ∃ j : Int, vs = [.int j] ∧ -(2 ^ 62) ≤ j ∧ j < 2 ^ 62 ∧ R (ItrX K xa 0 j.toNat) H1
theorem pi_range1X {a : Expr} {ta : TA} {p pos : Pos} (hg : Gl X "range") (hm : X.mg "range" = none) (ha : PA X [a] ta) (hs : starEach [a] X.env = [(false, eval a X.env)] := by rfl) : PIX X xa tg (.Call (.Name "range" p) [a] [] pos) (iRngX X.K xa ta) := by
  refine ⟨fun pins s σ H R I h => ?_⟩
  refine Call_ (ld_blt I hg hm boot_range (PyProof.Rows.callWith_type1 (thn (ha.run pos pins s σ H _ I h) fun us s1 ⟨vs, H1, I1, r1, q1⟩ => ?_) hs rfl))
  obtain ⟨j, e, q1, q2, q⟩ := q1
  subst e
  cases r1 with
  | cons r rr =>
    cases rr
    obtain ⟨t, rfl⟩ := r
    exact call_range_1 (range_itX I1 (by omega) (by omega) q1 q2 (by simpa using q))
theorem Phi.le {K : PySem.W.Frag} {a : Addr} {G G' : Gh} {H H' : Hp} (h : Phi K a G) (e : Le G H G' H') : Phi K a G' := let ⟨nm, d, h⟩ := h; ⟨nm, d, e.n _ _ h⟩
theorem itd_rangeX {K : PySem.W.Frag} {G : Gh} {H : Hp} {lo : Int} {n : Nat} {ds : List PyData} (hp : Phi K xa G) (hd : ds = (List.range n).map fun i => PyData.int (lo + (i : Nat))) : ItD K G H (ItrX K xa lo n) ds true :=
  ⟨(itd_range (K := K) hd).go, (itd_range (K := K) hd).yl, fun G2 H2 l => ⟨(itd_range (K := K) hd).st G2 H2 l, by
    obtain ⟨nm, d, h⟩ := hp.le l
    exact ⟨nm, d, (l.w.new _ _ h).1⟩⟩⟩
def rdIP (xa : Addr) (X : Cx) (W : WX) (Γ : List Sl) (m : R ((List PyData × Bool) × List Sl)) : TI := fun σ H Q => ∃ G, Phi X.K xa G ∧ Sta X.K G H σ Γ ∧ Pst X W G H σ m fun r G' H' => ∀ J, Sta X.K G' H' σ r.2 → ItD X.K G' H' J r.1.1 r.1.2 → Q J H'
def CIX (xa : Addr) (X : Cx) (W : WX) (tg iter : Expr) (f : DI) : Prop := ∀ Γ, PIX X xa tg iter (rdIP xa X W Γ (f Γ))
theorem ci_range1P {W : WX} {sc : Scope} {N : List Str} {e : Expr} {f : DF} {p pos : Pos} (C : Cf0 X W sc N) (hg : glB sc "range" = true) (hm : X.mg "range" = none) (ha : CE X W e f) (hst : starEach [e] X.env = [(false, eval e X.env)] := by rfl) : CIX xa X W tg (.Call (.Name "range" p) [e] [] pos) (iRange1 f) := fun Γ =>
  ⟨fun pins s σ H R I ⟨G, hp, S, q⟩ => (pi_range1X (C.gl hg) hm (pa_cons (ha Γ) pa_nil (by rw [hst]; rfl)) hst).run pins s σ H R I ⟨G, S, (Pst.bind q).imp fun z G1 H1 e1 p1 v S1 av => by
    obtain ⟨j, hj, p1⟩ := Pst.ofO p1
    obtain ⟨c, p1⟩ := Pst.gq S1.w p1
    have c := of_decide_eq_true c
    exact ⟨j, by rw [intA_ok hj av], c.2.2.1, c.2.2.2, p1 _ S1 (by rw [show j.toNat = (j - 0).toNat by simp]; exact itd_rangeX (hp.ext e1) (rng_ds 0 j))⟩⟩⟩
theorem lc_coreX {pins : List (Addr × Obj)} {s : Shared} {σ : L2.St} {H : Hp} {Q : VK} {use : Option (Value → Sem Unit)} {Qf : Value → Shared → Prop} {cp2 : Pos} {el tg it0 : Expr} {cs : List Expr} {bs : Scope} {own : List (Str × Nat)} {cp : Pos} {wi : TI} {g : TG} {tt : TT} {te : TE} (hot : X.A.handled = some (.ref xa)) (nd : X.N.Nodup) (J : Inv X pins σ H s) (hi : PIX X xa tg it0 wi) (ok : BlkOk X.N X.env.scope bs own)
    (hg : ∀ (s : Shared) (H : Hp) (c : Addr) (cl : List (Str × Addr)) (fp : List Addr), PG (X.blk s H bs (compEnvC bs cl c X.env) fp) tg g) (ht : ∀ (s : Shared) (H : Hp) (c : Addr) (cl : List (Str × Addr)) (fp : List Addr), PTs (X.blk s H bs (compEnvC bs cl c X.env) fp) cs tt)
    (he : ∀ (s : Shared) (H : Hp) (c : Addr) (cl : List (Str × Addr)) (fp : List Addr), PE (X.blk s H bs (compEnvC bs cl c X.env) fp) el te) (hs : ∀ x, foldedSetIterable it0 X.env x = pure x)
    (h : tLc wi g tt te (own.map (·.2)) σ H Q)
    (back : ∀ D C z m M, Inv X pins σ M z → Q (.ref D) M → z.heap.Ns C m → FpOk X pins M C → compPost (model X.prog X.w) X.A X.xe use Qf (.ref D) C (.ok .next) z) :
    wpAny (model X.prog X.w) X.A (comprehension (.ListComp el [⟨tg, it0, cs, 0⟩] bs cp) bs X.env cp2 (newList []) false (eval it0 X.env) use) Qf X.xe s := by
  have hfr : ∀ y ∈ bs.names, y.2 = .free → ∃ c, X.env.cells.lookup y.1 = some c := fun y hy e => (ok.free y hy e).elim (fun k => J.ok.has _ (.inl k)) fun k => J.ok.has _ (.inr k)
  refine wpAny_comprehension_free (use := use) rfl hs (closure_ok hfr) ok.kind (fun y hy e => by rw [ok.uniq y hy, e]) (thn (hi.run pins s σ H _ J h) fun _ sa ha => thn ha fun _ sb hb => ?_)
  obtain ⟨ia, fp, tn, Jt, Hb, rfl, Jb, T, stb, fb, qq⟩ := hb
  refine wpAny_newObj_type (newEnv_comp ?_) (by show 0 ≤ sizeLine; decide)
  obtain ⟨L, hL⟩ : ∃ L, sb.heap.objs.size = L := ⟨_, rfl⟩
  rw [hL]
  have nL : Hb L = none := Jb.hok.fresh (Nat.le_of_eq hL)
  obtain ⟨W, ⟨m0, w0⟩, turn⟩ := qq L nL
  generalize hsc3 : ({ sb with heap := sb.heap.push { cls := .type "list", data := .seq ([] : List Value).toArray } } : Shared) = sc3
  have Jc : Inv X pins σ (upd Hb L (.lst [])) sc3 := by
    rw [← hsc3]
    refine Jb.laid (t' := sb.toks) (fun b o e => Heap.get?_push_of_some _ e) (Nat.le_of_eq hL) ⟨Nat.zero_le _, [], 0, .nil, ?_⟩
    rw [← hL]
    exact Heap.get?_push_size _ rfl
  have hh3 : sc3.heap = sb.heap.push { cls := .type "list", data := .seq ([] : List Value).toArray } := by rw [← hsc3]
  have fc : ∀ b ∈ fp, FpOk X pins (upd Hb L (.lst [])) b ∧ b < sc3.heap.objs.size := fun b hb => by
    obtain ⟨o, e, _⟩ := T.obj _ _ stb b hb
    have hlt := Heap.lt_size e
    refine ⟨⟨?_, (fb b hb).2⟩, by rw [hh3, Heap.size_push]; exact Nat.lt_succ_of_lt hlt⟩
    rw [upd_ne (by rw [← hL]; exact Nat.ne_of_lt hlt)]
    exact (fb b hb).1
  have stc : tn 0 sc3.heap := T.keep _ _ _ stb fun b _ o e => by rw [hh3]; exact Heap.get?_push_of_some _ e
  have Jd0 := block_start Jc ok nd fc
  have pg := hg sc3 (upd Hb L (.lst [])) sc3.heap.objs.size (cellsFrom (sc3.heap.objs.size + 1) bs.names (cloFrom X.env.cells bs.names [])) fp
  have pt := ht sc3 (upd Hb L (.lst [])) sc3.heap.objs.size (cellsFrom (sc3.heap.objs.size + 1) bs.names (cloFrom X.env.cells bs.names [])) fp
  have pe := he sc3 (upd Hb L (.lst [])) sc3.heap.objs.size (cellsFrom (sc3.heap.objs.size + 1) bs.names (cloFrom X.env.cells bs.names [])) fp
  have nfp : ∀ b ∈ fp, (upd Hb L (.lst [])) b = none := fun b hb => (fc b hb).1.1
  show codeAny _ _ (.compStart (.ListComp el [⟨tg, it0, cs, 0⟩] bs cp) 0 (.ref ia) (.ref L) (compEnvC bs (cellsFrom (sc3.heap.objs.size + 1) bs.names (cloFrom X.env.cells bs.names [])) sc3.heap.objs.size X.env)) (compPost (model X.prog X.w) X.A X.xe use Qf (.ref L) sc3.heap.objs.size) { sc3 with heap := pushCells (sc3.heap.push { cls := .type "dict", data := .dict #[] }) bs.names }
  have kp0 : ∀ b o, sc3.heap.get? b = some o → (pushCells (sc3.heap.push { cls := .type "dict", data := .dict #[] }) bs.names).get? b = some o := fun b o e => pushCells_keeps _ _ _ _ (Heap.get?_push_of_some _ e)
  generalize hce : compEnvC bs (cellsFrom (sc3.heap.objs.size + 1) bs.names (cloFrom X.env.cells bs.names [])) sc3.heap.objs.size X.env = ce at Jd0 pg pt pe ⊢
  have cL : ce.locals = sc3.heap.objs.size := by subst hce; rfl
  generalize hHc : upd Hb L (.lst []) = Hc at Jc Jd0 pg pt pe w0 nfp fc
  generalize hsd : ({ sc3 with heap := pushCells (sc3.heap.push { cls := .type "dict", data := .dict #[] }) bs.names } : Shared) = sd at Jd0 ⊢
  have Jd : Inv (X.blk sc3 Hc bs ce fp) [] (wipe σ (own.map (·.2))) Hc sd := Jd0
  have std : tn 0 sd.heap := T.keep _ _ _ stc fun b _ o e => by rw [← hsd]; exact kp0 _ _ e
  have fpB : ∀ {u : L2.St} {M : Hp} {z : Shared}, Inv (X.blk sc3 Hc bs ce fp) [] u M z → (∀ b ∈ fp, M b = none) → ∀ b ∈ fp, FpOk (X.blk sc3 Hc bs ce fp) [] M b := fun {u M z} Ju hn b hb =>
    ⟨hn b hb, (Ju.ok.exf b hb).1, Ju.ok.exfs b hb, .inl hb, fun x c e => (Ju.ok.exf b hb).2 x c e, fun r hr => nomatch hr⟩
  have again : codeAny (model X.prog X.w) X.A (.compLoop (.ListComp el [⟨tg, it0, cs, 0⟩] bs cp) 0 (.ref ia) (.ref L) ce) (compPost (model X.prog X.w) X.A X.xe use Qf (.ref L) sc3.heap.objs.size) sd := by
    refine compLoop_any (fun n z => ∃ i M, Inv (X.blk sc3 Hc bs ce fp) [] (wipe σ (own.map (·.2))) M z ∧ tn i z.heap ∧ (∀ b ∈ fp, M b = none) ∧ W i n M) ?_ m0 ⟨0, Hc, Jd, std, nfp, w0⟩
    rintro n s5 ⟨i, H5, J5, st5, n5, w5⟩
    rcases turn i n H5 w5 with ⟨hstop, q5⟩ | ⟨hgo, Nx, hN, hstep⟩
    · refine thnF (T.done (X.blk sc3 Hc bs ce fp) rfl rfl rfl hot i [] s5 _ H5 (fun _ _ => False) J5 (fpB J5 n5) st5 hstop) fun r s6 ⟨hr, J6⟩ => ?_
      subst hr
      have J7 : Inv X pins σ H5 s6 := Jc.call' (ch := fp) J6.os J6.base J6.hok J6.bare fun b hb => ⟨(fc b hb).1.2.2.2.1, (fc b hb).1.2.1, (fc b hb).1.2.2.2.2.1, (fc b hb).1.2.2.2.2.2⟩
      have nC : H5 sc3.heap.objs.size = none := by
        have := J6.free
        rw [show (X.blk sc3 Hc bs ce fp).env.locals = sc3.heap.objs.size from cL] at this
        exact this
      obtain ⟨m, hm, _⟩ := J6.loc
      rw [show (X.blk sc3 Hc bs ce fp).env.locals = sc3.heap.objs.size from cL] at hm
      obtain ⟨f0, f1, f2, f3, f4, f5⟩ := Jc.fpOk (Nat.le_refl _) nC
      exact back L sc3.heap.objs.size s6 m H5 J7 q5 hm ⟨f0, f1, f2, f3, f4, f5⟩
    · refine thnF (T.item (X.blk sc3 Hc bs ce fp) rfl rfl rfl hot i [] s5 _ H5 (fun _ _ => False) J5 (fpB J5 n5) st5 hgo) fun r s6 ⟨u, hr, h6⟩ => ?_
      subst hr
      refine thnF h6 fun _ s7 ⟨x, H7, J7, r7, y7, st7, n7⟩ => ?_
      have J7p := J7.pinned (fpB J7 n7) (T.obj _ _ st7)
      refine thnF (pg.run _ s7 _ H7 x u _ J7p r7 (hstep x H7 y7)) fun _ s8 ⟨σ8, H8, J8, hw8, q8⟩ => ?_
      refine thnF (pt.run _ s8 σ8 H8 _ J8 q8) fun b s9 ⟨H9, J9, q9⟩ => ?_
      have fin : ∀ {z : Shared} {M : Hp}, Inv (X.blk sc3 Hc bs ce fp) ([] ++ pinsAt fp s7.heap) σ8 M z → Nx M → ∃ m, m < n ∧ ∃ i M, Inv (X.blk sc3 Hc bs ce fp) [] (wipe σ (own.map (·.2))) M z ∧ tn i z.heap ∧ (∀ b ∈ fp, M b = none) ∧ W i m M := fun {z M} Jz nx => by
        obtain ⟨m', hm, w'⟩ := hN M nx
        have keep : ∀ b ∈ fp, ∀ o, s7.heap.get? b = some o → z.heap.get? b = some o ∧ M b = none := fun b hb o e => by
          have := Jz.pin (b, o) (List.mem_append_right _ (List.mem_append_right _ (mem_pinsAt hb e)))
          exact ⟨this.1, this.2.1⟩
        have hlen : (wipe σ (own.map (·.2))).length = σ8.length := by rw [← hw8, wipe_length]
        refine ⟨m', hm, i + 1, M, Jz.unpinned.weak hlen (fun j v e => ?_), T.keep _ _ _ st7 fun b hb o e => (keep b hb o e).1, fun b hb => ?_, w'⟩
        · rw [← hw8] at e
          exact (wipe_some e).1
        · obtain ⟨o, e, _⟩ := T.obj _ _ st7 b hb
          exact (keep b hb o e).2
      cases b with
      | false =>
        simp only [Bool.false_eq_true, if_false] at q9 ⊢
        exact fin J9 q9
      | true =>
        simp only [if_true] at q9 ⊢
        refine thnF (pe.run _ s9 σ8 H9 _ J9 q9) fun y s10 ⟨yv, H10, J10, r10, acc, hL10, hz10, nx⟩ => ?_
        exact app_ok (X := X.blk sc3 Hc bs ce fp) J10 hL10 hz10 r10 fun s11 J11 => fin J11 nx
  exact codeAny_compStart_list again (T.self X.A 0 _ _ _ std again)
theorem pe_lcX {el tg it0 : Expr} {cs : List Expr} {bs : Scope} {own : List (Str × Nat)} {cp : Pos} {wi : TI} {g : TG} {tt : TT} {te : TE} (hot : X.A.handled = some (.ref xa)) (nd : X.N.Nodup) (hi : PIX X xa tg it0 wi) (ok : BlkOk X.N X.env.scope bs own)
    (hg : ∀ s H c cl fp, PG (X.blk s H bs (compEnvC bs cl c X.env) fp) tg g) (ht : ∀ s H c cl fp, PTs (X.blk s H bs (compEnvC bs cl c X.env) fp) cs tt)
    (he : ∀ s H c cl fp, PE (X.blk s H bs (compEnvC bs cl c X.env) fp) el te) (hs : ∀ x, foldedSetIterable it0 X.env x = pure x) :
    PE X (.ListComp el [⟨tg, it0, cs, 0⟩] bs cp) (tLc wi g tt te (own.map (·.2))) := by
  refine ⟨fun pins s σ H Q J h => ?_⟩
  rw [eval_ListComp]
  exact lc_coreX hot nd J hi ok hg ht he hs h fun L C z m M J2 q ns ⟨f0, f1, f2, f3, f4, f5⟩ => ⟨m, ns, fun h2 sb => ⟨.ref L, M, J2.turned (t' := z.toks) (fun b o hb e => (sb.2 b hb).trans e) f0 f1 f3 f4 f5, rfl, q⟩⟩
variable {W : WX} {sc : Scope} {N : List Str} {Γ : List Sl} {iter elt : Expr} {ifs : List Expr} {scope : Scope} {own : List (Str × Nat)} {pos : Pos} {it : DI} {g : DG} {t : DT} {e : DF} {ts : List Nat}
theorem comp_rdPh (hts : ∀ j ∈ ts, j ∈ own.map (·.2)) {σ : L2.St} {H : Hp} {Q : VK} (h : ∃ G, Phi X.K xa G ∧ Sta X.K G H σ Γ ∧ Pst X W G H σ (nComp (own.map (·.2)) g it t e Γ) fun r G' H' => ∀ p vs, Sta X.K G' H' σ r.2 → H' p = none → DnA X.K (rg G' true) H' vs r.1 → Q (.ref p) (upd H' p (.lst vs))) :
    tLc (rdIP xa X W Γ (it Γ)) (fun v σ H Q => ∃ G Γ fr d Γ', Sta X.K G H σ Γ ∧ Dn X.K (rg G fr) H v d ∧ g fr d Γ = some Γ' ∧ ∀ σ', σ'.length = σ.length → (∀ j, j ∉ ts → σ'[j]? = σ[j]?) → Sta X.K G H σ' Γ' → Q σ' H)
      (fun σ H Q => ∃ Γ1, rdT X WF Γ1 (t Γ1) Prod.fst Prod.snd σ H Q) (fun σ H Q => ∃ Γ1, rdE X WF Γ1 (e Γ1) Prod.fst Prod.snd σ H Q) (own.map (·.2)) σ H Q := by
  obtain ⟨G, hphi, S0, p⟩ := h
  refine ⟨G, hphi, S0, (Pst.bind p).imp fun r G1 H1 e1 p1 J S1 I D hD => ?_⟩
  generalize hvs : own.map (·.2) = vs at *
  obtain ⟨⟨items, fr⟩, Γ1⟩ := r
  obtain ⟨hsz, p1⟩ := Pst.req p1
  simp only at hsz p1 I S1
  have hsz : items.length ≤ sizeLine := of_decide_eq_true hsz
  have hE0 : G1.E D = none := by
    cases q : G1.E D with
    | none => rfl
    | some u => rw [(S1.w.ex D u q).1] at hD; cases hD
  have hID : ∀ j, G1.I j ≠ some (.ref D) := fun j h => by
    rcases S1.w.iv j D h with z | z | ⟨xs, z⟩
    · exact S1.w.pal D z hD
    · exact z hE0
    · rw [hD] at z; cases z
  have hww : L2.wipe (L2.wipe σ vs) vs = L2.wipe σ vs := wipe_eq (ts := vs) (wipe_length ..) (fun j hj => wipe_out hj) (fun j hj => hj)
  have nol : ∀ vs' : List V, (∀ xs, HO.lst vs' ≠ .tup xs) ∧ ∀ x y, HO.lst vs' ≠ .frz x y := fun vs' => ⟨fun _ z => (by cases z), fun _ _ z => (by cases z)⟩
  let cu : List PyData → List Sl → R (List PyData × List Sl) := compU vs g fr t e
  let body : Nat → Hp → Prop := fun i H2 => i ≤ items.length ∧ ∃ G2 s0 vacc bs, Sta X.K G2 H2 (L2.wipe σ vs) (wipeG s0 vs) ∧ Le G1 H1 G2 H2 ∧ G2.E = upd G1.E D (.lst vacc) ∧ G2.I = G1.I ∧ DnA X.K (rg G2 true) H2 vacc bs ∧ bs.length ≤ i ∧
    compU vs g fr t e items (wipeG Γ1 vs) = (compU vs g fr t e (items.drop i) (wipeG s0 vs)).bind fun z => .val (bs ++ z.1, z.2)
  refine ⟨fun i m H2 => m = items.length - i ∧ body i H2, ⟨_, rfl, Nat.zero_le _, ?_⟩, ?_⟩
  · have Sw : Sta X.K G1 H1 (L2.wipe σ vs) (wipeG Γ1 vs) := S1.wipeS vs
    obtain ⟨S2, t2⟩ := Sw.pin (o := .lst []) hD
    refine ⟨_, Γ1, [], [], S2, ⟨rfl, rfl, fun _ _ h => h, fun _ _ h => .inl h, t2, S2.w, fun a o h => by show upd G1.E D _ a = _; rw [upd_ne (fun z => by rw [z, hE0] at h; cases h)]; exact h⟩, rfl, rfl, .nil, Nat.le_refl _, ?_⟩
    rw [List.drop_zero]
    have : (fun z : List PyData × List Sl => R.val ([] ++ z.1, z.2)) = fun z => R.val z := rfl
    rw [this, R.bind_val]
  · rintro i m H2 ⟨rfl, hile, G2, s0, vacc, bs, S2, l2, hE2, hI2, d2, hbs, eq⟩
    by_cases hlt : i < items.length
    · rw [List.drop_eq_getElem_cons hlt, compU_cons, R.bind_assoc] at eq
      cases hg : g fr items[i] (wipeG s0 vs) with
      | none => rw [hg] at eq; rw [eq] at p1; exact p1.elim
      | some Γ3 =>
      rw [hg] at eq
      have eq : compU vs g fr t e items (wipeG Γ1 vs) = ((t Γ3).nox.bind fun x => if x.1 then (e x.2).nox.bind fun y => (R.ofO (avD y.1)).bind fun o => (compU vs g fr t e (items.drop (i + 1)) (wipeG y.2 vs)).bind fun r => .val (o :: r.1, r.2) else compU vs g fr t e (items.drop (i + 1)) (wipeG x.2 vs)).bind fun z => .val (bs ++ z.1, z.2) := eq
      rw [R.bind_assoc] at eq
      refine .inr ⟨I.go i G2 H2 hlt l2, body (i + 1), fun H' hb => ⟨_, (by omega), rfl, hb⟩, fun v H3 y => ?_⟩
      obtain ⟨G3, d, hd, e3, S3, dn⟩ := I.yl i G2 H2 _ _ v H3 hlt l2 S2 y
      have hx : d = items[i] := by
        rw [List.getElem?_eq_getElem hlt] at hd
        exact (Option.some.inj hd).symm
      subst hx
      refine ⟨G3, wipeG s0 vs, fr, items[i], Γ3, S3, dn, hg, fun σ2 l3 k3 S4 => ⟨(wipe_eq l3 k3 hts).trans hww, Γ3, G3, S4, ?_⟩⟩
      have hw2 : L2.wipe σ2 vs = L2.wipe σ vs := (wipe_eq l3 k3 hts).trans hww
      cases htt : t Γ3 with
      | bad => rw [htt] at eq; rw [eq] at p1; exact p1.elim
      | exc z => rw [htt] at eq; rw [eq] at p1; exact p1.elim
      | val x =>
        rw [htt] at eq
        intro G4 H4 e4 S5
        obtain ⟨b, Γ4⟩ := x
        have eq : compU vs g fr t e items (wipeG Γ1 vs) = (if b = true then (e Γ4).nox.bind fun y => (R.ofO (avD y.1)).bind fun o => (compU vs g fr t e (items.drop (i + 1)) (wipeG y.2 vs)).bind fun r => .val (o :: r.1, r.2) else compU vs g fr t e (items.drop (i + 1)) (wipeG Γ4 vs)).bind fun z => .val (bs ++ z.1, z.2) := eq
        have l4 : Le G1 H1 G4 H4 := (l2.tr e3.le).tr e4.le
        have hE4 : G4.E = upd G1.E D (.lst vacc) := e4.e.trans (e3.e.trans hE2)
        have hI4 : G4.I = G1.I := e4.i.trans (e3.i.trans hI2)
        have d4 : DnA X.K (rg G4 true) H4 vacc bs := e4.dna (e3.dna d2)
        cases b with
        | false =>
          refine itF ⟨hlt, G4, Γ4, vacc, bs, ?_, l4, hE4, hI4, d4, Nat.le_succ_of_le hbs, ?_⟩
          · rw [← hw2]
            exact S5.wipeS vs
          · rw [eq, if_neg (by simp)]
        | true =>
          rw [if_pos rfl, R.bind_assoc] at eq
          refine itT ⟨Γ4, G4, S5, ?_⟩
          cases hte : e Γ4 with
          | bad => rw [hte] at eq; rw [eq] at p1; exact p1.elim
          | exc z => rw [hte] at eq; rw [eq] at p1; exact p1.elim
          | val z =>
            rw [hte] at eq
            obtain ⟨av, Γ5⟩ := z
            have eq : compU vs g fr t e items (wipeG Γ1 vs) = ((R.ofO (avD av)).bind fun o => (compU vs g fr t e (items.drop (i + 1)) (wipeG Γ5 vs)).bind fun r => .val (o :: r.1, r.2)).bind fun z => .val (bs ++ z.1, z.2) := eq
            cases hav : avD av with
            | none => rw [hav] at eq; rw [eq] at p1; exact p1.elim
            | some o =>
            rw [hav] at eq
            have eq : compU vs g fr t e items (wipeG Γ1 vs) = ((compU vs g fr t e (items.drop (i + 1)) (wipeG Γ5 vs)).bind fun r => .val (o :: r.1, r.2)).bind fun z => .val (bs ++ z.1, z.2) := eq
            intro G5 H5 e5 yv S6 dy
            have dy : Dn X.K (rg G5 true) H5 yv o := by
              unfold avD at hav
              split at hav
              · cases hav; exact dy
              · cases hav
            have hE5 : G5.E = upd G1.E D (.lst vacc) := e5.e.trans hE4
            obtain ⟨S7, hHD, t7⟩ := (S6.wipeS vs).unpin hE5 hE0 (nol vacc).1 (nol vacc).2 (fun j => by rw [e5.i, hI4]; exact hID j)
            have hal : vacc.length = bs.length := d4.length
            refine ⟨vacc, hHD, by omega, ?_⟩
            obtain ⟨S8, t8⟩ := S7.pin (o := .lst (vacc ++ [yv])) del_same
            have hH : upd (PD.del H5 D) D (.lst (vacc ++ [yv])) = upd H5 D (.lst (vacc ++ [yv])) := by
              funext b
              by_cases q : b = D
              · subst q; rw [upd_same, upd_same]
              · rw [upd_ne q, upd_ne q, del_ne q]
            rw [hH] at S8 t8
            have t9 : TupLe H5 (upd H5 D (.lst (vacc ++ [yv]))) := t7.tr t8
            refine ⟨hlt, ⟨G5.H0, G5.P, G5.I, G5.N, upd G1.E D (.lst (vacc ++ [yv]))⟩, Γ5, vacc ++ [yv], bs ++ [o], ?_, ⟨(l4.tr e5.le).h0, (l4.tr e5.le).p, (l4.tr e5.le).n, (l4.tr e5.le).nn, (l4.tr e5.le).t.tr t9, S8.w, fun a o h => by show upd G1.E D _ a = _; rw [upd_ne (fun z => by rw [z, hE0] at h; cases h)]; exact h⟩, rfl, e5.i.trans hI4, ?_, ?_, ?_⟩
            · rw [← hw2]
              exact S8
            · exact ((e5.dna d4).append (.cons dy .nil)).mono (fun _ _ h => h) t9
            · rw [List.length_append]
              show bs.length + 1 ≤ i + 1
              omega
            · rw [eq, R.bind_assoc]
              congr 1
              funext q
              show R.val (bs ++ o :: q.1, q.2) = R.val (bs ++ [o] ++ q.1, q.2)
              rw [List.append_assoc]
              rfl
    · have ei : i = items.length := by omega
      subst ei
      refine .inl ⟨I.st G2 H2 l2, ?_⟩
      rw [List.drop_length] at eq
      have eq : compU vs g fr t e items (wipeG Γ1 vs) = .val (bs ++ [], wipeG s0 vs) := eq
      rw [List.append_nil] at eq
      rw [eq] at p1
      obtain ⟨S7, hHD, t7⟩ := S2.unpin hE2 hE0 (nol vacc).1 (nol vacc).2 (fun j => by rw [hI2]; exact hID j)
      have P := p1 ⟨G2.H0, G2.P, G2.I, G2.N, G1.E⟩ (PD.del H2 D) ⟨l2.h0, l2.p, hI2, rfl, l2.n, l2.nn, l2.t.tr t7, S7.w⟩ D vacc (S7.swap (wipe_length ..).symm fun j => ?_) del_same (d2.mono (fun _ _ h => h) t7)
      · rw [del_upd hHD] at P
        exact P
      · have hlen : ∀ ws : List Nat, (wipeG s0 ws).length = s0.length := fun ws => by
          induction ws with
          | nil => rfl
          | cons w ws ih => simp [wipeG, ih]
        by_cases hj : j ∈ vs
        · by_cases hjl : j < s0.length
          · exact .inr (wipeG_at hj hjl)
          · left
            obtain ⟨A7, Z7⟩ := S7
            have : s0.length = σ.length := by rw [← hlen vs, Z7.len, wipe_length]
            rw [List.getElem?_eq_none (by omega), List.getElem?_eq_none (by rw [wipe_length]; omega)]
        · exact .inl (wipe_out hj).symm
theorem Cf0.blk (C : Cf0 X W sc N) {s : Shared} {H : Hp} {scope : Scope} {cl : List (Str × Addr)} {c : Addr} {fp : List Addr} : Cf0 (X.blk s H scope (compEnvC scope cl c X.env) fp) WF (relS scope sc) N := by
  refine ⟨?_, C.hN, C.nd, takes0N, C.hu, PassesOwn.never, C.hu2⟩
  show relabel scope X.env = relS scope sc
  rw [← C.hsc]
  rfl
structure CompX (xa : Addr) (X : Cx) (W : WX) (sc : Scope) (N : List Str) (tg iter elt : Expr) (ifs : List Expr) (scope : Scope) (own : List (Str × Nat)) (ts : List Nat) (g : DG) (it : DI) (t : DT) (e : DF) : Prop where
  hin : CIX xa X W tg iter it
  ok : blkC N sc scope own = true
  hg : ∀ (s : Shared) (H : Hp) (c : Addr) (cl : List (Str × Addr)) (fp : List Addr), CG (X.blk s H scope (compEnvC scope cl c X.env) fp) tg ts g
  ht : ∀ (s : Shared) (H : Hp) (c : Addr) (cl : List (Str × Addr)) (fp : List Addr), CTs (X.blk s H scope (compEnvC scope cl c X.env) fp) WF ifs t
  he : ∀ (s : Shared) (H : Hp) (c : Addr) (cl : List (Str × Addr)) (fp : List Addr), CE (X.blk s H scope (compEnvC scope cl c X.env) fp) WF elt e
  hts : ∀ j ∈ ts, j ∈ own.map (·.2)
  hs : ∀ x, foldedSetIterable iter X.env x = pure x
theorem cn_compP (C : Cf0 X W sc N) (hot : X.A.handled = some (.ref xa)) (h : CompX xa X W sc N tg iter elt ifs scope own ts g it t e) : CNp xa X W (.ListComp elt [⟨tg, iter, ifs, 0⟩] scope pos) (nComp (own.map (·.2)) g it t e) := fun Γ => by
  have hB : BlkOk X.N X.env.scope scope own := by rw [C.hN, C.hsc]; exact blkOk_by h.ok
  refine pe_imp (pe_lcX (xa := xa) (g := fun v σ H Q => ∃ G Γ fr d Γ', Sta X.K G H σ Γ ∧ Dn X.K (rg G fr) H v d ∧ g fr d Γ = some Γ' ∧ ∀ σ' : L2.St, List.length σ' = List.length σ → (∀ j, j ∉ ts → σ'[j]? = σ[j]?) → Sta X.K G H σ' Γ' → Q σ' H)
    (tt := fun σ H Q => ∃ Γ1, rdT X WF Γ1 (t Γ1) Prod.fst Prod.snd σ H Q) (te := fun σ H Q => ∃ Γ1, rdE X WF Γ1 (e Γ1) Prod.fst Prod.snd σ H Q)
    hot (by rw [C.hN]; exact C.nd) (h.hin Γ) hB (fun s H c cl fp => h.hg s H c cl fp) (fun s H c cl fp => ?_) (fun s H c cl fp => ?_) h.hs) fun σ H Q q => comp_rdPh h.hts q
  · exact ⟨fun pins s' σ H' Q I ⟨z, q⟩ => (h.ht s H c cl fp z).run pins s' σ H' Q I q⟩
  · exact ⟨fun pins s' σ H' Q I ⟨z, q⟩ => (h.he s H c cl fp z).run pins s' σ H' Q I q⟩
end
theorem Here.tr {X : Cx} {W W' : WX} {P : Program} {w : World} {K : PySem.W.Frag} {mg : Str → Option Value} {base : Heap} {scope : Scope} {N : List Str} {k : Nat} {pn : List (Addr × Obj)} {xe : Value → Shared → Prop} (h : Here X W P w K mg base scope N k) (C : Cf (X.tr pn xe) W' scope N) : Here (X.tr pn xe) W' P w K mg base scope N k :=
  ⟨C, h.prog, h.w, h.K, h.mg, h.base, h.room, h.fn, h.stk, h.frm⟩
end PD
set_option Elab.async false
set_option linter.all false
set_option maxRecDepth 100000
set_option maxHeartbeats 0
namespace PDW
open PySem PySem.Spec PyProof.Rows L2 PD
theorem obD_eq (z : PySem.W.SharedT) : obD z = hkD.obs z.abs := PD.obsXG_eq (HandSHeadRun.getT_eq z)
end PDW
set_option linter.all false
set_option maxRecDepth 100000
set_option autoImplicit false
namespace PD
open PySem L2
def Ok {α : Type} (m : R α) (P : α → Prop) : Prop := ∃ a, m = .val a ∧ P a
section
variable {α β : Type} {P : α → Prop} {Q : β → Prop}
theorem ok_val {a : α} (h : P a) : Ok (.val a) P := ⟨a, rfl, h⟩
theorem ok_bind {m : R α} {k : α → R β} (h : Ok m P) (hk : ∀ a, P a → Ok (k a) Q) : Ok (m.bind k) Q := by
  obtain ⟨a, rfl, p⟩ := h
  exact hk a p
theorem Ok.mono {P' : α → Prop} {m : R α} (h : Ok m P) (hk : ∀ a, P a → P' a) : Ok m P' := by
  obtain ⟨a, e, p⟩ := h
  exact ⟨a, e, hk a p⟩
theorem ok_of {m : R α} {a : α} (h : m = .val a) (p : P a) : Ok m P := ⟨a, h, p⟩
theorem ok_eq {m : R α} {a : α} (h : Ok m fun z => z = a) : m = .val a := by
  obtain ⟨b, e, rfl⟩ := h
  exact e
end
theorem bind_val {α β : Type} (a : α) (k : α → R β) : (R.val a).bind k = k a := rfl
theorem req_true : R.req true = .val () := rfl
theorem ofO_some {α : Type} (a : α) : R.ofO (some a) = .val a := rfl
theorem gq_of {α : Type} {c : Bool} (a : α) (h : c = true) : gq c a = .val a := by subst h; rfl
theorem ok_loopU {is : List Nat} {g : DG} {fr : Bool} {b : DS} {Post : Fw × List Sl → Prop} (Inv : Nat → List Sl → Prop) (ds : List PyData) {Γ : List Sl} (h0 : Inv 0 (wipeG Γ is))
    (hb : ∀ i d Γ, ds[i]? = some d → Inv i Γ → ∃ Γ1, g fr d Γ = some Γ1 ∧ Ok (b Γ1) fun z => match z.1 with
      | .nx => Inv (i + 1) (wipeG z.2 is)
      | .ct => Inv (i + 1) (wipeG z.2 is)
      | .bk => Post (.nx, wipeG z.2 is)
      | .rt r => Post (.rt r, z.2)) (hd : ∀ Γ, Inv ds.length Γ → Post (.nx, Γ)) : Ok (loopU is g fr b ds Γ) Post := by
  have key : ∀ (n : Nat) (xs : List PyData) (Γ : List Sl), (∀ j, xs[j]? = ds[n + j]?) → n + xs.length = ds.length → Inv n (wipeG Γ is) → Ok (loopU is g fr b xs Γ) Post := by
    intro n xs
    induction xs generalizing n with
    | nil =>
      intro Γ _ hl h
      unfold loopU
      refine ok_val (hd _ ?_)
      have : ds.length = n := by simpa using hl.symm
      rw [this]; exact h
    | cons d xs ih =>
      intro Γ hx hl h
      unfold loopU
      obtain ⟨Γ1, e1, o⟩ := hb n d _ (by have := hx 0; simpa using this.symm) h
      rw [e1, ofO_some, bind_val]
      refine ok_bind o fun z hz => ?_
      obtain ⟨w, Γ2⟩ := z
      have hx' : ∀ j, xs[j]? = ds[n + 1 + j]? := fun j => by
        have := hx (j + 1)
        simp only [List.getElem?_cons_succ] at this
        rw [this]; congr 1; omega
      cases w with
      | nx => exact ih (n + 1) Γ2 hx' (by simp at hl; omega) hz
      | ct => exact ih (n + 1) Γ2 hx' (by simp at hl; omega) hz
      | bk => exact ok_val hz
      | rt r => exact ok_val hz
  exact key 0 ds Γ (fun j => by simp) (by simp) h0
theorem ok_compU {vs : List Nat} {g : DG} {fr : Bool} {t : DT} {e : DF} {Post : List PyData × List Sl → Prop} (Inv : Nat → List PyData → List Sl → Prop) (ds : List PyData) {Γ : List Sl} (h0 : Inv 0 [] Γ)
    (hb : ∀ i d out Γ, ds[i]? = some d → Inv i out Γ → ∃ Γ1, g fr d Γ = some Γ1 ∧ Ok (t Γ1) fun x => if x.1 then Ok (e x.2) fun y => ∃ o, avD y.1 = some o ∧ Inv (i + 1) (out ++ [o]) (wipeG y.2 vs) else Inv (i + 1) out (wipeG x.2 vs))
    (hd : ∀ out Γ, Inv ds.length out Γ → Post (out, Γ)) : Ok (compU vs g fr t e ds Γ) Post := by
  have key : ∀ (n : Nat) (xs : List PyData) (pre : List PyData) (Γ : List Sl), (∀ j, xs[j]? = ds[n + j]?) → n + xs.length = ds.length → Inv n pre Γ → Ok (compU vs g fr t e xs Γ) fun z => Post (pre ++ z.1, z.2) := by
    intro n xs
    induction xs generalizing n with
    | nil =>
      intro pre Γ _ hl h
      unfold compU
      refine ok_val ?_
      have : ds.length = n := by simpa using hl.symm
      show Post (pre ++ [], Γ)
      rw [List.append_nil]
      exact hd _ _ (by rw [this]; exact h)
    | cons d xs ih =>
      intro pre Γ hx hl h
      rw [compU_cons]
      obtain ⟨Γ1, e1, o⟩ := hb n d pre Γ (by have := hx 0; simpa using this.symm) h
      have hx' : ∀ j, xs[j]? = ds[n + 1 + j]? := fun j => by
        have := hx (j + 1)
        simp only [List.getElem?_cons_succ] at this
        rw [this]; congr 1; omega
      rw [e1]
      obtain ⟨x, ex, ox⟩ := o
      rw [ofO_some, bind_val, ex]
      show Ok (if x.1 then _ else _) _
      by_cases hc : x.1 = true
      · rw [if_pos hc] at ox ⊢
        obtain ⟨y, ey, w, ew, hw⟩ := ox
        rw [ey]
        show Ok ((R.ofO (avD y.1)).bind _) _
        rw [ew, ofO_some, bind_val]
        refine ok_bind (ih (n + 1) (pre ++ [w]) _ hx' (by simp at hl; omega) hw) fun r hr => ok_val ?_
        show Post (pre ++ w :: r.1, r.2)
        have : pre ++ w :: r.1 = pre ++ [w] ++ r.1 := by simp
        rw [this]; exact hr
      · rw [if_neg hc] at ox ⊢
        exact ih (n + 1) pre _ hx' (by simp at hl; omega) ox
  have := key 0 ds [] Γ (fun j => by simp) (by simp) h0
  refine this.mono fun z hz => ?_
  simpa using hz
end PD
set_option linter.all false
set_option maxRecDepth 100000
set_option autoImplicit false
namespace PD
open PySem L2
section
variable {Γ Γ1 Γ2 Γ3 : List Sl} {f g h : DF} {k : DA} {n : DN} {c : DC} {t t2 : DT} {fr fr2 : Bool} {d : PyData} {i j : Int} {z z2 : Bool} {ds es : List PyData} {a b : AV} {as : List AV}
theorem e_var {m : Nat} (e : Γ[m]? = some (.dat fr d)) : dVar m Γ = .val (.d fr d, Γ) := by unfold dVar; rw [e]
theorem e_varO {m : Nat} {c : Cl} (e : Γ[m]? = some (.own c)) : dVar m Γ = .val (.s m, Γ) := by unfold dVar; rw [e]
theorem e_varI {m : Nat} {c : Cl} (e : Γ[m]? = some (.io c)) : dVar m Γ = .val (.s m, Γ) := by unfold dVar; rw [e]
theorem e_C : dC d Γ = .val (.d true d, Γ) := rfl
theorem e_I {kk : Int → Int → R Int} {r : Int} (h1 : f Γ = .val (.d fr (.int i), Γ1)) (h2 : g Γ1 = .val (.d fr2 (.int j), Γ2)) (h3 : kk i j = .val r) : dI kk f g Γ = .val (.d true (.int r), Γ2) := by
  unfold dI; rw [h1, bind_val, h2, bind_val]; simp only; rw [h3, bind_val]
theorem k_sub : kSub i j = .val (i - j) := rfl
theorem k_and : kAnd i j = .val (Builtin.bitAnd i j) := rfl
theorem k_or : kOr i j = .val (Builtin.bitOr i j) := rfl
theorem k_mul (e : cMulX i j = true) : kMul i j = .val (i * j) := gq_of _ e
theorem k_div (e : cDiv i j = true) : kDiv i j = .val (i / j) := gq_of _ e
theorem k_mod (e : cMod i j = true) : kMod i j = .val (i % j) := gq_of _ e
theorem k_pow (e : cPow i j = true) : kPow i j = .val (i ^ j.toNat) := gq_of _ e
theorem k_shl (e : cShl i j = true) : kShl i j = .val (i * 2 ^ j.toNat) := gq_of _ e
theorem k_shr (e : cShr i j = true) : kShr i j = .val (i / 2 ^ j.toNat) := gq_of _ e
theorem e_add (h1 : f Γ = .val (.d fr (.int i), Γ1)) (h2 : g Γ1 = .val (.d fr2 (.int j), Γ2)) : dAdd f g Γ = .val (.d true (.int (i + j)), Γ2) := by
  unfold dAdd; rw [h1, bind_val, h2, bind_val]; rfl
theorem e_neg (h1 : f Γ = .val (.d fr (.int i), Γ1)) : dNeg f Γ = .val (.d true (.int (-i)), Γ1) := by
  unfold dNeg; rw [h1, bind_val]
theorem e_cmp {kk : List Sl → AV → AV → R Bool} (h1 : f Γ = .val (a, Γ1)) (h2 : g Γ1 = .val (b, Γ2)) (h3 : kk Γ2 a b = .val z) : dCmp kk f g Γ = .val (.d true (.bool z), Γ2) := by
  unfold dCmp boolR; rw [h1, bind_val, h2, bind_val, h3, bind_val]
theorem k_eqI : kEq Γ (.d fr (.int i)) (.d fr2 (.int j)) = .val (decide (i = j)) := by unfold kEq rdD; exact gq_of _ rfl
theorem k_neI : kNe Γ (.d fr (.int i)) (.d fr2 (.int j)) = .val (!decide (i = j)) := by unfold kNe; rw [k_eqI]; rfl
theorem k_eq {p q : PyData} (h1 : rdD Γ a = some p) (h2 : rdD Γ b = some q) (s1 : SeqAt.shaped p = true) (s2 : SeqAt.shaped q = true) (e : PyData.eqv p q = z) : kEq Γ a b = .val z := by
  unfold kEq; rw [h1, h2]; simp only [s1, s2, Bool.and_true]; rw [e]; rfl
theorem k_ne {p q : PyData} (h1 : rdD Γ a = some p) (h2 : rdD Γ b = some q) (s1 : SeqAt.shaped p = true) (s2 : SeqAt.shaped q = true) (e : PyData.eqv p q = z) : kNe Γ a b = .val (!z) := by
  unfold kNe; rw [k_eq h1 h2 s1 s2 e]; rfl
theorem k_I {r : Int → Int → Bool} : kI r Γ (.d fr (.int i)) (.d fr2 (.int j)) = .val (r i j) := rfl
theorem t_tst (h1 : f Γ = .val (.d fr (.bool z), Γ1)) : dTst f Γ = .val (z, Γ1) := by unfold dTst; rw [h1]; rfl
theorem t_not (h1 : t Γ = .val (z, Γ1)) : dTnot t Γ = .val (!z, Γ1) := by unfold dTnot; rw [h1]; rfl
theorem t_or (h1 : t Γ = .val (z, Γ1)) (h2 : z = false → t2 Γ1 = .val (z2, Γ1)) : dTor t t2 Γ = .val (z || z2, Γ1) := by
  unfold dTor; rw [h1, bind_val]
  cases z with
  | true => rfl
  | false =>
    show ((t2 Γ1).bind fun y => R.val y) = _
    rw [h2 rfl]; rfl
theorem t_and (h1 : t Γ = .val (z, Γ1)) (h2 : z = true → t2 Γ1 = .val (z2, Γ1)) : dTand t t2 Γ = .val (z && z2, Γ1) := by
  unfold dTand; rw [h1, bind_val]
  cases z with
  | false => rfl
  | true =>
    show ((t2 Γ1).bind fun y => R.val y) = _
    rw [h2 rfl]; rfl
theorem e_not (h1 : f Γ = .val (.d fr (.bool z), Γ1)) : dNot f Γ = .val (.d true (.bool (!z)), Γ1) := by unfold dNot; rw [h1]; rfl
theorem e_and (h1 : f Γ = .val (.d fr (.bool z), Γ1)) (h2 : z = true → g Γ1 = .val (.d fr2 (.bool z2), Γ1)) : dAnd f g Γ = .val (.d true (.bool (z && z2)), Γ1) := by
  unfold dAnd; rw [h1, bind_val]
  cases z with
  | false => rfl
  | true => show ((g Γ1).bind _) = _; rw [h2 rfl]; rfl
theorem e_or (h1 : f Γ = .val (.d fr (.bool z), Γ1)) (h2 : z = false → g Γ1 = .val (.d fr2 (.bool z2), Γ1)) : dOr f g Γ = .val (.d true (.bool (z || z2)), Γ1) := by
  unfold dOr; rw [h1, bind_val]
  cases z with
  | true => rfl
  | false => show ((g Γ1).bind _) = _; rw [h2 rfl]; rfl
theorem a_nil : dA0 Γ = .val ([], Γ) := rfl
theorem a_cons (h1 : f Γ = .val (a, Γ1)) (h2 : k Γ1 = .val (as, Γ2)) : dAc f k Γ = .val (a :: as, Γ2) := by unfold dAc; rw [h1, bind_val, h2]; rfl
theorem e_frz (h1 : f Γ = .val (.d true d, Γ1)) : dFrz f Γ = .val (.d true d, Γ1) := by unfold dFrz; rw [h1]; rfl
theorem e_frzF (h1 : f Γ = .val (.d false d, Γ1)) : dFrz f Γ = .val (.d (flat d) d, Γ1) := by unfold dFrz; rw [h1]; rfl
theorem e_frzD (h1 : f Γ = .val (.d fr d, Γ1)) : dFrz f Γ = .val (.d (fr || flat d) d, Γ1) := by
  cases fr with
  | true => exact e_frz h1
  | false => rw [Bool.false_or]; exact e_frzF h1
theorem n_lst (h1 : k Γ = .val (as, Γ1)) (h2 : allT as = some ds) (h3 : szB as = true) : dLst k Γ = .val (ds, Γ1) := by
  unfold dLst; rw [h1, bind_val]; simp only [h2]; exact gq_of _ h3
theorem e_tup (h1 : k Γ = .val (as, Γ1)) (h2 : allF as = some (ds, fr)) (h3 : szB as = true) : dTup k Γ = .val (.d fr (.tuple ds), Γ1) := by
  unfold dTup; rw [h1, bind_val]; simp only [h2]; exact gq_of _ h3
theorem e_ofN (h1 : n Γ = .val (ds, Γ1)) : dOfN n Γ = .val (.d true (.list ds), Γ1) := by unfold dOfN; rw [h1]; rfl
theorem c_l (h1 : n Γ = .val (ds, Γ1)) : nL n Γ = .val (.lst ds, Γ1) := by unfold nL; rw [h1]; rfl
theorem x_c {cl : Cl} (h1 : c Γ = .val (cl, Γ1)) : xC c Γ = .val (.c cl, Γ1) := by unfold xC; rw [h1]; rfl
theorem e_xd {x : DX} (h1 : x Γ = .val (.d d, Γ1)) : eX x Γ = .val (.d true d, Γ1) := by unfold eX; rw [h1]; rfl
theorem e_xc {x : DX} (h1 : x Γ = .val (.c (.lst ds), Γ1)) : eX x Γ = .val (.d true (.list ds), Γ1) := by unfold eX; rw [h1]; rfl
theorem e_ixL (h1 : f Γ = .val (.d fr (.list ds), Γ1)) (h2 : g Γ1 = .val (.d fr2 (.int i), Γ2)) (h3 : atI ds i = some d) : dIxB f g Γ = .val (.d fr d, Γ2) := by
  unfold dIxB; rw [h1, bind_val, h2, bind_val]; unfold ixB dicA ixA; simp only [h3]; rfl
theorem e_ixT (h1 : f Γ = .val (.d fr (.tuple ds), Γ1)) (h2 : g Γ1 = .val (.d fr2 (.int i), Γ2)) (h3 : atI ds i = some d) : dIxB f g Γ = .val (.d fr d, Γ2) := by
  unfold dIxB; rw [h1, bind_val, h2, bind_val]; unfold ixB dicA ixA; simp only [h3]; rfl
theorem e_ixS {m : Nat} (h1 : f Γ = .val (.s m, Γ1)) (h2 : g Γ1 = .val (.d fr2 (.int i), Γ2)) (h4 : rdD Γ2 (.s m) = some (.list ds)) (h3 : atI ds i = some d) : dIxB f g Γ = .val (.d true d, Γ2) := by
  unfold dIxB; rw [h1, bind_val, h2, bind_val]
  have e : dicA Γ2 (.s m) = none := by
    unfold rdD at h4
    unfold dicA
    simp only at h4 ⊢
    split at h4 <;> simp_all
  show (ixB Γ2 (.s m) (.d fr2 (.int i))).bind _ = _
  unfold ixB
  rw [e]
  simp only [ixA, h4, h3]
  rfl
theorem e_B {q : List Sl → List AV → R AV} (h1 : k Γ = .val (as, Γ1)) (h2 : q Γ1 as = .val a) : dB q k Γ = .val (a, Γ1) := by unfold dB; rw [h1, bind_val, h2]; rfl
theorem n_B {q : List Sl → List AV → R (List PyData)} (h1 : k Γ = .val (as, Γ1)) (h2 : q Γ1 as = .val ds) : dBN q k Γ = .val (ds, Γ1) := by unfold dBN; rw [h1, bind_val, h2]; rfl
theorem k_lenL (h : rdD Γ a = some (.list ds)) : kLen Γ [a] = .val (.d true (.int (ds.length : Nat))) := by unfold kLen; simp only [h]
theorem k_lenT (h : rdD Γ a = some (.tuple ds)) : kLen Γ [a] = .val (.d true (.int (ds.length : Nat))) := by unfold kLen; simp only [h]
theorem x_call {m : List Ar → R (Rs × List Sl)} {dds : List PyData} {r : Rs} {Z : List Sl} (h1 : k Γ = .val (as, Γ1)) (h2 : rdDs Γ1 none as = some ds) (h3 : m ((ds ++ dds).map Ar.d) = .val (r, Z)) : xCall m dds k Γ = .val (r, Γ1) := by
  unfold xCall; rw [h1, bind_val, h2, ofO_some, bind_val, h3]; rfl
theorem x_callC {m : List Ar → R (Rs × List Sl)} {dds : List PyData} {r : Rs} {Z : List Sl} {p q : Nat} {ic : Bool × Cl} {cl : Cl} (h1 : k Γ = .val (as, Γ1)) (h2 : pickC p as = some q) (h3 : cellAt Γ1 q = some ic) (h4 : rdDs Γ1 (some q) (as.eraseIdx p) = some ds) (h5 : ic.2.fl = true) (h6 : m (insC p ic.2 (ds ++ dds)) = .val (r, Z)) (h7 : ioAt p Z = some cl) :
    xCallC m p dds k Γ = .val (r, Γ1.set q (mkS ic.1 cl)) := by
  unfold xCallC; rw [h1, bind_val]; unfold preC; rw [h2, ofO_some, bind_val, h3, ofO_some, bind_val, h4, ofO_some, bind_val, h5]
  show ((m (insC p ic.2 (ds ++ dds))).atC p Γ1 q ic.1).bind _ = _
  rw [h6]
  show ((R.ofO (ioAt p Z)).bind _).bind _ = _
  rw [h7]
  rfl
theorem i_seqL (h1 : f Γ = .val (.d fr (.list ds), Γ1)) : iSeq f Γ = .val ((ds, fr), Γ1) := by unfold iSeq; rw [h1]; rfl
theorem i_seqT (h1 : f Γ = .val (.d fr (.tuple ds), Γ1)) : iSeq f Γ = .val ((ds, fr), Γ1) := by unfold iSeq; rw [h1]; rfl
theorem i_enumL (h1 : f Γ = .val (.d fr (.list ds), Γ1)) : iEnum f Γ = .val ((enumD ds, fr), Γ1) := by unfold iEnum; rw [h1]; rfl
theorem i_enumT (h1 : f Γ = .val (.d fr (.tuple ds), Γ1)) : iEnum f Γ = .val ((enumD ds, fr), Γ1) := by unfold iEnum; rw [h1]; rfl
theorem i_range1 (h1 : f Γ = .val (.d fr (.int j), Γ1)) (h2 : cRng 0 j = true) : iRange1 f Γ = .val (((rng 0 j).map PyData.int, true), Γ1) := by unfold iRange1; rw [h1, bind_val]; exact gq_of _ h2
theorem i_range2 (h1 : f Γ = .val (.d fr (.int i), Γ1)) (h3 : g Γ1 = .val (.d fr2 (.int j), Γ2)) (h2 : cRng i j = true) : iRange2 f g Γ = .val (((rng i j).map PyData.int, true), Γ2) := by unfold iRange2; rw [h1, bind_val, h3, bind_val]; exact gq_of _ h2
theorem n_lrng1 (h1 : f Γ = .val (.d fr (.int j), Γ1)) (h2 : cLrg 0 j = true) : dLrng1 f Γ = .val ((rng 0 j).map PyData.int, Γ1) := by unfold dLrng1; rw [h1, bind_val]; exact gq_of _ h2
theorem n_lrng2 (h1 : f Γ = .val (.d fr (.int i), Γ1)) (h3 : g Γ1 = .val (.d fr2 (.int j), Γ2)) (h2 : cLrg i j = true) : dLrng2 f g Γ = .val ((rng i j).map PyData.int, Γ2) := by unfold dLrng2; rw [h1, bind_val, h3, bind_val]; exact gq_of _ h2
theorem n_cat (h1 : f Γ = .val (a, Γ1)) (h2 : g Γ1 = .val (b, Γ2)) (h3 : lsA Γ2 a = some ds) (h4 : lsA Γ2 b = some es) (h5 : szB (ds ++ es) = true) : dCat f g Γ = .val (ds ++ es, Γ2) := by
  unfold dCat; rw [h1, bind_val, h2, bind_val, h3, ofO_some, bind_val, h4, ofO_some, bind_val]; exact gq_of _ h5
theorem e_isi {ts : List Tn} (h1 : f Γ = .val (a, Γ1)) (h2 : rdD Γ1 a = some d) (h3 : noDct d = true) : dIsi ts f Γ = .val (.d true (.bool (ts.any fun t => tyIs d t)), Γ1) := by
  unfold dIsi; rw [h1, bind_val]; simp only [h2]; exact gq_of _ h3
end
def W (b : DS) (Γ : List Sl) (P : Fw → List Sl → Prop) : Prop := Ok (b Γ) fun z => P z.1 z.2
section
variable {Γ Γ1 Γ2 : List Sl} {f g : DF} {b r r2 : DS} {x : DX} {n : DC} {t : DT} {fr z : Bool} {d : PyData} {P : Fw → List Sl → Prop} {m : Nat}
theorem w_nil (h : P .nx Γ) : W bNil Γ P := ok_val h
theorem w_seq (h : W b Γ fun w Γ1 => match w with
    | .nx => W r Γ1 P
    | w => P w Γ1) : W (bSeq b r) Γ P := by
  unfold W bSeq
  refine ok_bind h fun z hz => ?_
  obtain ⟨w, Γ1⟩ := z
  cases w with
  | nx => exact hz
  | bk => exact ok_val hz
  | ct => exact ok_val hz
  | rt r => exact ok_val hz
theorem w_one (h : ∃ Γ1, b Γ = .val (.nx, Γ1) ∧ W r Γ1 P) : W (bSeq b r) Γ P := by
  obtain ⟨Γ1, e, h⟩ := h
  exact w_seq ⟨(.nx, Γ1), e, h⟩
theorem w_set (h1 : f Γ = .val (.d fr d, Γ1)) (h : W r (Γ1.set m (.dat fr d)) P) : W (bSeq (bSet m f) r) Γ P := w_one ⟨_, by unfold bSet; rw [h1]; rfl, h⟩
theorem w_setC {c : Cl} (h1 : n Γ = .val (c, Γ1)) (h : W r (Γ1.set m (.own c)) P) : W (bSeq (bSetC m n) r) Γ P := w_one ⟨_, by unfold bSetC; rw [h1]; rfl, h⟩
theorem w_setX {s : Rs} (h1 : x Γ = .val (s, Γ1)) (h : W r (Γ1.set m (rsS s)) P) : W (bSeq (bSetX m x) r) Γ P := w_one ⟨_, by unfold bSetX; rw [h1]; rfl, h⟩
theorem w_setG {gg : DG} (h1 : f Γ = .val (.d fr d, Γ1)) (h2 : gg fr d Γ1 = some Γ2) (h : W r Γ2 P) : W (bSeq (bSetG gg f) r) Γ P := w_one ⟨_, by unfold bSetG; rw [h1, bind_val]; simp only; rw [h2]; rfl, h⟩
theorem w_expr {a : AV} (h1 : f Γ = .val (a, Γ1)) (h : W r Γ1 P) : W (bSeq (bExpr f) r) Γ P := w_one ⟨_, by unfold bExpr; rw [h1]; rfl, h⟩
theorem w_exprX {s : Rs} {e : PyData} (h1 : x Γ = .val (s, Γ1)) (h2 : rsF s = some e) (h : W r Γ1 P) : W (bSeq (bExprX x) r) Γ P := w_one ⟨_, by unfold bExprX; rw [h1, bind_val, h2]; rfl, h⟩
theorem w_ret (h1 : f Γ = .val (.d true d, Γ1)) (h : P (.rt (.d d)) Γ1) : W (bSeq (bRet f) r) Γ P := w_seq ⟨(.rt (.d d), Γ1), by unfold bRet; rw [h1]; rfl, h⟩
theorem w_ret0 (h : P (.rt (.d .none)) Γ) : W (bSeq bRet0 r) Γ P := w_seq ⟨(.rt (.d .none), Γ), rfl, h⟩
theorem w_retC {c : Cl} (h1 : n Γ = .val (c, Γ1)) (h : P (.rt (.c c)) Γ1) : W (bSeq (bRetC n) r) Γ P := w_seq ⟨(.rt (.c c), Γ1), by unfold bRetC; rw [h1]; rfl, h⟩
theorem w_retX {s : Rs} (h1 : x Γ = .val (s, Γ1)) (h : P (.rt s) Γ1) : W (bSeq (bRetX x) r) Γ P := w_seq ⟨(.rt s, Γ1), by unfold bRetX; rw [h1]; rfl, h⟩
theorem w_retO {c : Cl} (h1 : Γ[m]? = some (.own c)) (h : P (.rt (.c c)) (Γ.set m .un)) : W (bSeq (bRetO m) r) Γ P := w_seq ⟨(.rt (.c c), Γ.set m .un), by unfold bRetO; rw [h1], h⟩
theorem w_if {c2 : DS} (h1 : t Γ = .val (z, Γ1)) (hT : z = true → W (bSeq b r) Γ1 P) (hF : z = false → W (bSeq c2 r) Γ1 P) : W (bSeq (bIf t b c2) r) Γ P := by
  have e : bSeq (bIf t b c2) r Γ = if z then bSeq b r Γ1 else bSeq c2 r Γ1 := by
    unfold bSeq bIf
    rw [h1, bind_val]
    cases z <;> rfl
  unfold W
  rw [e]
  cases z with
  | true => exact hT rfl
  | false => exact hF rfl
theorem w_seqA (h : W (bSeq b (bSeq r r2)) Γ P) : W (bSeq (bSeq b r) r2) Γ P := by
  have e : bSeq (bSeq b r) r2 Γ = bSeq b (bSeq r r2) Γ := by
    unfold bSeq
    rw [R.bind_assoc]
    congr 1
    funext z
    obtain ⟨w, Γ1⟩ := z
    cases w <;> rfl
  unfold W
  rw [e]
  exact h
theorem w_seqN (h : W r Γ P) : W (bSeq bNil r) Γ P := h
theorem w_inc {i j : Int} {fr2 : Bool} (h0 : Γ[m]? = some (.dat fr (.int i))) (h1 : f Γ = .val (.d fr2 (.int j), Γ1)) (h : W r (Γ1.set m (.dat true (.int (i + j)))) P) : W (bSeq (bInc m f) r) Γ P := w_one ⟨_, by unfold bInc; rw [h0]; simp only [intS]; rw [ofO_some, bind_val, h1]; rfl, h⟩
theorem w_for {is : List Nat} {gg : DG} {it : DI} {y : List PyData × Bool} (Inv : Nat → List Sl → Prop) (h1 : it Γ = .val (y, Γ1)) (h0 : Inv 0 (wipeG Γ1 is))
    (hb : ∀ i d Γ, y.1[i]? = some d → Inv i Γ → ∃ Γ1, gg y.2 d Γ = some Γ1 ∧ W b Γ1 fun w Γ2 => match w with
      | .nx => Inv (i + 1) (wipeG Γ2 is)
      | .ct => Inv (i + 1) (wipeG Γ2 is)
      | .bk => W r (wipeG Γ2 is) P
      | .rt s => P (.rt s) Γ2) (hd : ∀ Γ, Inv y.1.length Γ → W r Γ P) : W (bSeq (bFor is gg it b) r) Γ P := by
  refine w_seq ?_
  unfold W bFor
  rw [h1, bind_val]
  exact ok_loopU (Post := fun z => match z.1 with
    | .nx => W r z.2 P
    | w => P w z.2) Inv y.1 h0 (fun i d Γ hd hi => by
      obtain ⟨Γ1, e1, o⟩ := hb i d Γ hd hi
      exact ⟨Γ1, e1, o.mono fun z hz => by
        obtain ⟨w, Γ2⟩ := z
        cases w <;> exact hz⟩) hd
end
theorem ok_run {n np : Nat} {b : DS} {as : List Ar} {Q : Rs × List Sl → Prop} (hl : as.length = np) (h : W b (initS n as) fun w Γ => ∃ r Z, fwR w = some r ∧ cellsAt as Γ = some Z ∧ Q (r, Z)) : Ok (runB n np b as) Q := by
  unfold runB
  have : (as.length == np) = true := by rw [hl]; exact beq_self_eq_true _
  rw [this, req_true, bind_val]
  obtain ⟨z, e, r, Z, h1, h2, h3⟩ := h
  rw [e]
  show Ok ((R.ofO (fwR z.1)).bind _) Q
  rw [h1, ofO_some, bind_val, h2]
  exact ok_val h3
local macro_rules
  | `(tactic| bv_omega) => `(tactic| with_reducible first
  | exact e_C | exact a_nil | exact k_sub | exact k_and | exact k_or | exact k_eqI | exact k_neI | exact k_I
  | apply e_I | apply e_add | apply e_neg | apply e_cmp | apply t_tst | apply t_not | apply e_not
  | apply k_mul | apply k_div | apply k_mod | apply k_pow | apply k_shl | apply k_shr
  | apply a_cons | apply n_lst | apply e_tup | apply e_ofN | apply c_l | apply x_c | apply e_B | apply n_B | apply e_isi)
local macro_rules
  | `(tactic| symm_saturate) => `(tactic| repeat' first | bv_omega | exact e_var rfl | exact e_varO rfl | exact e_varI rfl | rfl | assumption)
end PD
section
open PySem L2 PD
local macro_rules
  | `(tactic| bv_omega) => `(tactic| with_reducible first
  | exact e_C | exact a_nil | exact k_sub | exact k_and | exact k_or | exact k_eqI | exact k_neI | exact k_I
  | apply e_I | apply e_add | apply e_neg | apply e_cmp | apply t_tst | apply t_not | apply e_not
  | apply k_mul | apply k_div | apply k_mod | apply k_pow | apply k_shl | apply k_shr
  | apply a_cons | apply n_lst | apply e_tup | apply e_ofN | apply c_l | apply x_c | apply e_B | apply n_B | apply e_isi)
local macro_rules
  | `(tactic| symm_saturate) => `(tactic| repeat' first | bv_omega | exact e_var rfl | exact e_varO rfl | exact e_varI rfl | rfl | assumption)
set_option linter.all false
set_option maxRecDepth 100000
set_option autoImplicit false
namespace PD
open PySem L2
section
variable {Γ Γ1 Γ2 : List Sl} {fe : DF} {r : DS} {m : Nat} {io fr : Bool} {f : Fd} {n : Int} {P : Fw → List Sl → Prop}
theorem e_fdT (h : cellF Γ m = some (io, f)) : dFdT m Γ = .val (.d true (.int f.2.1), Γ) := by unfold dFdT; rw [h]; rfl
theorem e_fdS (h : cellF Γ m = some (io, f)) : dFdS m Γ = .val (.d true (.int f.2.2), Γ) := by unfold dFdS; rw [h]; rfl
theorem e_fdN (h : cellF Γ m = some (io, f)) : dFdN m Γ = .val (.d true (.bool (!decide (f.1 = ([] : List Int)))), Γ) := by unfold dFdN; rw [h]; rfl
theorem e_fd0 (h : cellF Γ m = some (io, f)) (h2 : atI f.1 0 = some n) : dFd0 m Γ = .val (.d true (.int n), Γ) := by unfold dFd0; rw [h, ofO_some, bind_val, h2]; rfl
theorem w_fdT (h1 : fe Γ = .val (.d fr (.int n), Γ1)) (h2 : cellF Γ1 m = some (io, f)) (h : W r (Γ1.set m (mkS io (.feed (f.1, n, f.2.2)))) P) : W (bSeq (bFdT m fe) r) Γ P := w_one ⟨_, by unfold bFdT; rw [h1, bind_val]; show ((R.ofO (some n)).bind _) = _; rw [ofO_some, bind_val, h2]; rfl, h⟩
theorem w_fdS (h1 : fe Γ = .val (.d fr (.int n), Γ1)) (h2 : cellF Γ1 m = some (io, f)) (h : W r (Γ1.set m (mkS io (.feed (f.1, f.2.1, n)))) P) : W (bSeq (bFdS m fe) r) Γ P := w_one ⟨_, by unfold bFdS; rw [h1, bind_val]; show ((R.ofO (some n)).bind _) = _; rw [ofO_some, bind_val, h2]; rfl, h⟩
theorem w_fd0 (h1 : fe Γ = .val (.d fr (.int n), Γ1)) (h2 : cellF Γ1 m = some (io, f)) (h3 : f.1 ≠ []) (h : W r (Γ1.set m (mkS io (.feed (f.1.set 0 n, f.2)))) P) : W (bSeq (bFd0 m fe) r) Γ P := w_one ⟨_, by
  unfold bFd0; rw [h1, bind_val]; show ((R.ofO (some n)).bind _) = _; rw [ofO_some, bind_val, h2, ofO_some, bind_val]
  have : (!decide ((io, f).2.1 = ([] : List Int))) = true := by simpa using h3
  rw [this]; rfl, h⟩
theorem w_fdC (h2 : cellF Γ m = some (io, f)) (h : W r (Γ.set m (mkS io (.feed (f.1.drop 1, f.2)))) P) : W (bSeq (bFdC m) r) Γ P := w_one ⟨_, by unfold bFdC; rw [h2]; rfl, h⟩
end
theorem mod_64 {a M : Int} (h : 0 < M) (h2 : M < 2 ^ 64) : (a % M).natAbs < 2 ^ 64 := by
  have h3 := Int.emod_nonneg a (by omega : M ≠ 0)
  have h4 := Int.emod_lt_of_pos a h
  omega
theorem mulR {i j : Int} (h : j.natAbs < 2 ^ 64) : cMulX i j = true := by unfold cMulX; rw [decide_eq_true h]; simp
theorem mulL {i j : Int} (h : i.natAbs < 2 ^ 64) : cMulX i j = true := by unfold cMulX; rw [decide_eq_true h]; simp
theorem modP {i j : Int} (h : 0 < j) : cMod i j = true := decide_eq_true h
theorem log2_lt {n : Nat} (h : n < 2 ^ 64) : n.log2 < 9000 := by
  by_cases h0 : n = 0
  · subst h0; decide
  · have := (Nat.log2_lt h0 (k := 64)).mpr h
    omega
theorem divP {i j : Int} (h : 0 < j) (h2 : j < 2 ^ 64) : cDiv i j = true := by
  unfold cDiv
  rw [Bool.and_eq_true]
  exact ⟨decide_eq_true h, decide_eq_true (log2_lt (by omega))⟩
def feedTake : DS := (bSeq (bFdT 0 (dAdd (dFdT 0) (dC (.int 1)))) (bSeq (bIf (dTst (dFdN 0)) (bSeq (bSet 2 (dFrz (dFd0 0))) (bSeq (bIf (dTst (dCmp (kI fun i j => decide (j ≤ i)) (dVar 2) (dI kPow (dC (.int 10)) (dC (.int 18))))) (bSeq (bFd0 0 (dI kDiv (dVar 2) (dVar 1))) (bSeq (bRet (dI kMod (dVar 2) (dVar 1))) bNil)) bNil) (bSeq (bFdS 0 (dI kMod (dAdd (dAdd (dI kMul (dFdS 0) (dC (.int 30011))) (dI kMod (dVar 2) (dC (.int 999999937)))) (dC (.int 7))) (dC (.int 1000000007)))) (bSeq (bFdC 0) bNil)))) bNil) (bSeq (bSet 3 (dI kMod (dI kMul (dAdd (dAdd (dFdS 0) (dI kMul (dC (.int 40503)) (dFdT 0))) (dC (.int 9973))) (dC (.int 69069))) (dC (.int 2147483647)))) (bSeq (bSet 3 (dI kMod (dAdd (dAdd (dI kMul (dVar 3) (dVar 3)) (dI kMul (dC (.int 30269)) (dVar 3))) (dFdT 0)) (dC (.int 2147483629)))) (bSeq (bRet (dI kMod (dI kDiv (dVar 3) (dC (.int 64))) (dVar 1))) bNil)))))
theorem take_end (f : Fd) (n : Int) (hm : 0 < n) (s2 : Sl) (P : Fw → List Sl → Prop) (hP : ∀ r s3 s4, 0 ≤ r → r < n → P (.rt (.d (.int r))) [.io (.feed f), .dat true (.int n), s3, s4]) :
    W (bSeq (bSet 3 (dI kMod (dI kMul (dAdd (dAdd (dFdS 0) (dI kMul (dC (.int 40503)) (dFdT 0))) (dC (.int 9973))) (dC (.int 69069))) (dC (.int 2147483647)))) (bSeq (bSet 3 (dI kMod (dAdd (dAdd (dI kMul (dVar 3) (dVar 3)) (dI kMul (dC (.int 30269)) (dVar 3))) (dFdT 0)) (dC (.int 2147483629)))) (bSeq (bRet (dI kMod (dI kDiv (dVar 3) (dC (.int 64))) (dVar 1))) bNil))) [.io (.feed f), .dat true (.int n), s2, .un] P := by
  apply w_set
  · repeat' first | bv_omega | exact e_fdS rfl | exact e_fdT rfl | exact mulR (by decide) | exact mulL (by decide) | exact modP (by decide)
  apply w_set
  · repeat' first | bv_omega | exact e_fdT rfl | exact e_var rfl | exact mulL (by decide) | exact mulL (mod_64 (by decide) (by decide)) | exact modP (by decide)
  apply w_ret
  · repeat' first | bv_omega | exact e_var rfl | exact divP (by decide) (by decide) | exact modP hm
  exact hP _ _ _ (Int.emod_nonneg _ (by omega)) (Int.emod_lt_of_pos _ hm)
theorem feedTake_ok (f : Fd) (n : Int) (hm : 0 < n) (hn : n < 2 ^ 64) : Ok (runB 4 2 feedTake [.c (.feed f), .d (.int n)]) fun z => ∃ r f', z = (.d (.int r), [.io (.feed f'), .un]) ∧ 0 ≤ r ∧ r < n := by
  refine ok_run rfl ?_
  unfold feedTake
  apply w_fdT
  · repeat' first | bv_omega | exact e_fdT rfl
  · rfl
  apply w_if
  · repeat' first | bv_omega | exact e_fdN rfl
  · intro hz
    have hne : f.1 ≠ [] := by simpa using hz
    obtain ⟨x, xs, hx⟩ : ∃ x xs, f.1 = x :: xs := by
      cases h : f.1 with
      | nil => exact absurd h hne
      | cons a b => exact ⟨a, b, rfl⟩
    apply w_seqA
    apply w_set
    · apply e_frz
      apply e_fd0 rfl
      show atI f.1 0 = some x
      rw [hx]; exact atI_nat (j := 0) rfl
    apply w_seqA
    apply w_if
    · repeat' first | bv_omega | exact e_var rfl | exact rfl
    · intro _
      apply w_seqA
      apply w_fd0
      · repeat' first | bv_omega | exact e_var rfl | exact divP hm hn
      · rfl
      · exact hne
      apply w_seqA
      apply w_ret
      · repeat' first | bv_omega | exact e_var rfl | exact modP hm
      exact ⟨_, _, rfl, rfl, _, _, rfl, Int.emod_nonneg _ (by omega), Int.emod_lt_of_pos _ hm⟩
    · intro _
      apply w_seqN
      apply w_seqA
      apply w_fdS
      · repeat' first | bv_omega | exact e_var rfl | exact e_fdS rfl | exact mulR (by decide) | exact modP (by decide)
      · rfl
      apply w_seqA
      apply w_fdC
      · rfl
      apply w_seqN
      exact take_end _ n hm _ _ fun r s3 s4 h1 h2 => ⟨_, _, rfl, rfl, r, _, rfl, h1, h2⟩
  · intro _
    apply w_seqN
    exact take_end _ n hm _ _ fun r s3 s4 h1 h2 => ⟨_, _, rfl, rfl, r, _, rfl, h1, h2⟩
end PD
set_option linter.all false
set_option maxRecDepth 100000
set_option autoImplicit false
namespace PD
open PySem L2
abbrev dL (ns : List Int) : PyData := .list (ns.map PyData.int)
abbrev dT (ns : List Int) : PyData := .tuple (ns.map PyData.int)
abbrev dTT (rs : List (List Int)) : PyData := .tuple (rs.map fun r => dT r)
theorem flat_int (i : Int) : flat (.int i) = true := rfl
theorem gmap {α β : Type} {f : α → β} {xs : List α} {i : Nat} {d : β} (h : (xs.map f)[i]? = some d) : ∃ x, xs[i]? = some x ∧ d = f x := by
  rw [List.getElem?_map] at h
  cases hx : xs[i]? with
  | none => rw [hx] at h; cases h
  | some x => rw [hx] at h; cases h; exact ⟨x, rfl, rfl⟩
theorem ltS_of {α : Type} {xs : List α} (h : xs.length < 2 ^ 20) : ltS xs = true := by
  unfold ltS
  apply decide_eq_true
  have : (2 : Nat) ^ 20 ≤ sizeLine := by decide
  omega
theorem szB_of {α : Type} {xs : List α} (h : xs.length < 2 ^ 20) : szB xs = true := by
  unfold szB
  apply decide_eq_true
  have : (2 : Nat) ^ 20 ≤ sizeLine := by decide
  omega
end PD
set_option linter.all false
set_option maxRecDepth 100000
set_option autoImplicit false
namespace PD
open PySem L2
structure Msk (k : Nat) (m : Int) (S : Nat → Prop) : Prop where
  nn : 0 ≤ m
  lt : m.toNat < 2 ^ k
  bit : ∀ j, m.toNat.testBit j = true ↔ S j
def Rise (xs : List Int) (S : Nat → Prop) : Prop := xs.Pairwise (· < ·) ∧ ∀ y : Int, y ∈ xs ↔ ∃ j : Nat, S j ∧ y = j
theorem Rise.ext {xs ys : List Int} {S : Nat → Prop} (h : Rise xs S) (h' : Rise ys S) : xs = ys := rise_ext h.1 h'.1 fun k => (h.2 k).trans (h'.2 k).symm
theorem Rise.nil {xs : List Int} {S : Nat → Prop} (h : Rise xs S) : xs = [] ↔ ∀ j, ¬ S j := by
  constructor
  · rintro rfl j hj
    exact absurd ((h.2 j).mpr ⟨j, hj, rfl⟩) (by simp)
  · intro z
    cases hx : xs with
    | nil => rfl
    | cons y ys =>
      obtain ⟨j, h1, _⟩ := (h.2 y).mp (by rw [hx]; simp)
      exact absurd h1 (z j)
def NetOk (net : List (List Int)) : Prop := ∀ (k : Nat) (row : List Int), net[k]? = some row → (∀ e ∈ row, 0 ≤ e ∧ e < (k : Int)) ∧ row.Pairwise (· < ·)
inductive Anc (net : List (List Int)) : Nat → Nat → Prop
  | rf (i : Nat) : Anc net i i
  | st {i k j : Nat} {row : List Int} : net[i]? = some row → ((k : Nat) : Int) ∈ row → Anc net k j → Anc net i j
def RowOk (n : Nat) (row : List Bool) (S : Nat → Prop) : Prop := row.length = n ∧ ∀ (j : Nat) (b : Bool), row[j]? = some b → (b = true ↔ S j)
theorem RowOk.at {n : Nat} {row : List Bool} {S : Nat → Prop} (h : RowOk n row S) {j : Nat} (hj : j < n) : ∃ b, row[j]? = some b ∧ (b = true ↔ S j) := by
  have : j < row.length := by rw [h.1]; exact hj
  exact ⟨row[j], List.getElem?_eq_getElem this, h.2 j _ (List.getElem?_eq_getElem this)⟩
theorem rise_len {xs : List Int} {S : Nat → Prop} {n : Nat} (h : Rise xs S) (hS : ∀ j, S j → j < n) : xs.length ≤ n := by
  have key : ∀ (l : List Int) (a : Nat), l.Pairwise (· < ·) → (∀ x ∈ l, (a : Int) ≤ x ∧ x < n) → a ≤ n → l.length + a ≤ n := by
    intro l
    induction l with
    | nil => intro a _ _ h; simpa using h
    | cons y l ih =>
      intro a hp hq ha
      rw [List.pairwise_cons] at hp
      have hy := hq y (by simp)
      have := ih (y.toNat + 1) hp.2 (fun x hx => ⟨by have := hp.1 x hx; omega, (hq x (by simp [hx])).2⟩) (by omega)
      simp
      omega
  simpa using key xs 0 h.1 (fun x hx => by obtain ⟨j, hj, rfl⟩ := (h.2 x).mp hx; have := hS j hj; omega) (Nat.zero_le _)
def bBitsOf : DS := (bSeq (bSetX 1 (xC (nL (dLst dA0)))) (bSeq (bFor [2, 3, 4, 5] (gT2 (gN 2) (gN 3)) (iEnum (dVar 0)) (bSeq (bSet 4 (dI kShl (dC (.int 1)) (dVar 2))) (bSeq (bFor [5] (gN 5) (iSeq (dVar 3)) (bSeq (bSet 4 (dI kOr (dVar 4) (dIxB (dVar 1) (dVar 5)))) bNil)) (bSeq (bExpr (dLm 1 qAppend (dAc (dFrz (dVar 4)) dA0))) bNil)))) (bSeq (bRetO 1) bNil)))
def BitsOk (net : List (List Int)) (bs : List Int) : Prop := bs.length = net.length ∧ ∀ (i : Nat) (b : Int), bs[i]? = some b → Msk net.length b (Anc net i)
end PD
set_option linter.all false
set_option maxRecDepth 100000
set_option autoImplicit false
namespace PD
open PySem L2
def inb (b one : Int) : Bool := decide (Builtin.bitAnd (b / 2 ^ one.toNat) 1 = 1)
def optI : Option Int → PyData
  | none => .none
  | some i => .int i
def BestAt (L : Nat → Int) (barred : List Int) (n : Nat) (best : Option Int) (most : Int) : Prop := match best with
  | none => most = 0 ∧ ∀ k : Nat, k < n → ((k : Nat) : Int) ∉ barred → L k ≤ 0
  | some m => ∃ j : Nat, m = j ∧ j < n ∧ ((j : Nat) : Int) ∉ barred ∧ most = L j ∧ 0 < L j ∧ (∀ k : Nat, k < n → ((k : Nat) : Int) ∉ barred → L k ≤ L j) ∧ ∀ k : Nat, k < j → ((k : Nat) : Int) ∉ barred → L k < L j
theorem BestAt.nn {L : Nat → Int} {barred : List Int} {n : Nat} {best : Option Int} {most : Int} (h : BestAt L barred n best most) : 0 ≤ most := by
  cases best with
  | none => have := h.1; omega
  | some m => obtain ⟨j, _, _, _, h1, h2, _⟩ := h; omega
theorem BestAt.more {L : Nat → Int} {barred : List Int} {n : Nat} {best : Option Int} {most : Int} (h : BestAt L barred n best most) (hb : ((n : Nat) : Int) ∉ barred) (hs : most < L n) : BestAt L barred (n + 1) (some (n : Int)) (L n) := by
  have nn := h.nn
  have old : ∀ k : Nat, k < n → ((k : Nat) : Int) ∉ barred → L k ≤ most := by
    cases best with
    | none => obtain ⟨h1, h2⟩ := h; intro k hk hb; have := h2 k hk hb; omega
    | some m => obtain ⟨j, e1, e2, e3, e4, e5, e6, e7⟩ := h; intro k hk hb; rw [e4]; exact e6 k hk hb
  refine ⟨n, rfl, by omega, hb, rfl, by omega, fun k hk hb => ?_, fun k hk hb => ?_⟩
  · by_cases e : k = n
    · subst e; omega
    · have := old k (by omega) hb; omega
  · have := old k hk hb; omega
theorem rng_at {j : Int} {i : Nat} {x : Int} (h : (rng 0 j)[i]? = some x) : x = (i : Nat) ∧ (i : Int) < j := by
  unfold rng at h
  obtain ⟨k, hk, rfl⟩ := gmap h
  rw [List.getElem?_range (by
    have := (List.getElem?_eq_some_iff.mp hk).1
    simpa using this)] at hk
  cases hk
  have := (List.getElem?_eq_some_iff.mp h).1
  simp at this
  omega
theorem rng_len (i j : Int) : (rng i j).length = (j - i).toNat := by unfold rng; simp
theorem cRng_of {i j : Int} (h1 : -(2 ^ 62) ≤ i) (h2 : i < 2 ^ 62) (h3 : -(2 ^ 62) ≤ j) (h4 : j < 2 ^ 62) : cRng i j = true := decide_eq_true ⟨h1, h2, h3, h4⟩
end PD
set_option linter.all false
set_option maxRecDepth 100000
set_option autoImplicit false
namespace PD
open PySem L2
theorem e_frzT {Γ Γ1 : List Sl} {f : DF} {fr : Bool} {d : PyData} (h1 : f Γ = .val (.d fr d, Γ1)) (h2 : flat d = true) : dFrz f Γ = .val (.d true d, Γ1) := by
  have := e_frzD h1
  rw [h2, Bool.or_true] at this
  exact this
theorem x_callE {Γ Γ1 Γ2 : List Sl} {k : DA} {as : List AV} {ds : List PyData} {m : List Ar → R (Rs × List Sl)} {dds : List PyData} {r : Rs} {Z : List Sl} {p q : Nat} {ic : Bool × Cl} {cl : Cl} (h1 : k Γ = .val (as, Γ1)) (h2 : pickC p as = some q) (h3 : cellAt Γ1 q = some ic) (h4 : rdDs Γ1 (some q) (as.eraseIdx p) = some ds) (h5 : ic.2.fl = true) (h6 : m (insC p ic.2 (ds ++ dds)) = .val (r, Z)) (h7 : ioAt p Z = some cl) (h8 : Γ1.set q (mkS ic.1 cl) = Γ2) :
    xCallC m p dds k Γ = .val (r, Γ2) := by rw [x_callC h1 h2 h3 h4 h5 h6 h7, h8]
local macro_rules
  | `(tactic| apply_mod_cast $h) => `(tactic| (apply e_xd; apply x_callE; (· symm_saturate); (· rfl); (· rfl); (· rfl); (· rfl); (· exact $h); (· rfl); (· rfl)))
def uTake : List Ar → R (Rs × List Sl) := runB 4 2 feedTake
theorem take_q (f : Fd) (n : Int) (hm : 0 < n) (hn : n < 2 ^ 64) : ∃ r f', uTake [.c (.feed f), .d (.int n)] = .val (.d (.int r), [.io (.feed f'), .un]) ∧ 0 ≤ r ∧ r < n := by
  obtain ⟨z, e, r, f', rfl, h1, h2⟩ := feedTake_ok f n hm hn
  exact ⟨r, f', e, h1, h2⟩
def bFeed : DS := (bSeq (bRetC (nFeed 0)) bNil)
theorem feed_q (ns : List Int) : runB 1 1 bFeed [.d (dL ns)] = .val (.c (.feed (cutD ns none (some 63), 0, 0)), [.un]) := by
  refine ok_eq (ok_run rfl ?_)
  unfold bFeed
  apply w_retC
  · show nFeed 0 [.dat false (dL ns)] = _
    unfold nFeed
    show (R.ofO (intsOf (ns.map PyData.int))).bind _ = _
    rw [intsOf_map]
    rfl
  exact ⟨_, _, rfl, rfl, rfl⟩
end PD
section
open PySem L2 PD
local macro_rules
  | `(tactic| apply_mod_cast $h) => `(tactic| (apply e_xd; apply x_callE; (· symm_saturate); (· rfl); (· rfl); (· rfl); (· rfl); (· exact $h); (· rfl); (· rfl)))
set_option linter.all false
set_option maxRecDepth 100000
set_option autoImplicit false
namespace PD
open PySem L2
end PD
set_option linter.all false
set_option maxRecDepth 100000
set_option autoImplicit false
namespace PD
open PySem L2
def Reach (net : List (List Int)) (rs : List (List Bool)) : Prop := rs.length = net.length ∧ ∀ (i : Nat) (row : List Bool), rs[i]? = some row → RowOk net.length row (Anc net i)
end PD
set_option linter.all false
set_option maxRecDepth 100000
set_option autoImplicit false
namespace PD
open PySem L2
theorem BestAt.uniq {L L' : Nat → Int} {barred : List Int} {n : Nat} {b b' : Option Int} {m m' : Int} (hL : ∀ k, k < n → L k = L' k) (h : BestAt L barred n b m) (h' : BestAt L' barred n b' m') : b = b' ∧ m = m' := by
  cases b with
  | none =>
    cases b' with
    | none => exact ⟨rfl, by rw [h.1, h'.1]⟩
    | some x =>
      obtain ⟨j, e1, e2, e3, e4, e5, _⟩ := h'
      have := h.2 j e2 e3
      rw [hL j e2] at this
      omega
  | some x =>
    obtain ⟨j, e1, e2, e3, e4, e5, e6, e7⟩ := h
    cases b' with
    | none =>
      have := h'.2 j e2 e3
      rw [← hL j e2] at this
      omega
    | some y =>
      obtain ⟨i, d1, d2, d3, d4, d5, d6, d7⟩ := h'
      have hij : i = j := by
        rcases Nat.lt_trichotomy i j with q | q | q
        · have a := e7 i q d3
          have b := d6 j e2 e3
          rw [hL i d2, hL j e2] at a
          omega
        · exact q
        · have a := d7 j q e3
          have b := e6 i d2 d3
          rw [hL i d2, hL j e2] at b
          omega
      subst hij
      exact ⟨by rw [e1, d1], by rw [e4, d4, hL i e2]⟩
theorem filt_sum (p : Int → Bool) : ∀ ms : List Int, (ms.filter p).length + (ms.filter fun x => !p x).length = ms.length
  | [] => rfl
  | x :: ms => by
    have := filt_sum p ms
    cases h : p x <;> simp [h] <;> omega
end PD
set_option linter.all false
set_option maxRecDepth 100000
set_option autoImplicit false
namespace PD
open PySem L2
end PD
set_option linter.all false
set_option autoImplicit false
namespace PD
open PySem L2
def uFeed : List Ar → R (Rs × List Sl) := runB 1 1 bFeed
def uBitsOf : List Ar → R (Rs × List Sl) := runB 6 1 bBitsOf
end PD
set_option Elab.async false
set_option linter.all false
set_option maxRecDepth 100000
set_option maxHeartbeats 0
set_option autoImplicit false
namespace PDW
open PySem PySem.Spec PyProof.Rows L2 PD
structure Env (K : PySem.W.Frag) (mg : Str → Option Value) : Prop where
  d_p_law : ∃ f fd, FunD K "law" "law" (defArgs (top 26)) (defBody (top 26)) (defScope (top 26)) [] [] f fd ∧ mg "law" = some (.ref f)
  d_qfeed : ∃ f fd, FunD K "_law_feed" "_law_feed" (defArgs (top 15)) (defBody (top 15)) (defScope (top 15)) [] [] f fd ∧ mg "_law_feed" = some (.ref f)
  d_qnumber : ∃ f fd, FunD K "_law_number" "_law_number" (defArgs (top 17)) (defBody (top 17)) (defScope (top 17)) [] [] f fd ∧ mg "_law_number" = some (.ref f)
  d_qtake : ∃ f fd, FunD K "_law_take" "_law_take" (defArgs (top 16)) (defBody (top 16)) (defScope (top 16)) [] [] f fd ∧ mg "_law_take" = some (.ref f)
  d_qtext : ∃ f fd, FunD K "_law_text" "_law_text" (defArgs (top 18)) (defBody (top 18)) (defScope (top 18)) [] [] f fd ∧ mg "_law_text" = some (.ref f)
  d_qrows : ∃ f fd, FunD K "_law_rows" "_law_rows" (defArgs (top 19)) (defBody (top 19)) (defScope (top 19)) [] [] f fd ∧ mg "_law_rows" = some (.ref f)
  d_qone_field : ∃ f fd, FunD K "_law_one_field" "_law_one_field" (defArgs (top 23)) (defBody (top 23)) (defScope (top 23)) [] [] f fd ∧ mg "_law_one_field" = some (.ref f)
  d_qown : ∃ f fd, FunD K "_law_own" "_law_own" (defArgs (top 22)) (defBody (top 22)) (defScope (top 22)) [] [] f fd ∧ mg "_law_own" = some (.ref f)
  d_qkinds : ∃ f fd, FunD K "_law_kinds" "_law_kinds" (defArgs (top 21)) (defBody (top 21)) (defScope (top 21)) [] [] f fd ∧ mg "_law_kinds" = some (.ref f)
  d_qtwo_fields : ∃ f fd, FunD K "_law_two_fields" "_law_two_fields" (defArgs (top 24)) (defBody (top 24)) (defScope (top 24)) [] [] f fd ∧ mg "_law_two_fields" = some (.ref f)
  d_qpath : ∃ f fd, FunD K "_law_path" "_law_path" (defArgs (top 20)) (defBody (top 20)) (defScope (top 20)) [] [] f fd ∧ mg "_law_path" = some (.ref f)
  d_qcaught : ∃ f fd, FunD K "_law_caught" "_law_caught" (defArgs (top 25)) (defBody (top 25)) (defScope (top 25)) [] [] f fd ∧ mg "_law_caught" = some (.ref f)
  b_list : mg "list" = none
  b_range : mg "range" = none
  b_isinstance : mg "isinstance" = none
  b_ValueError : mg "ValueError" = none
  b_tuple : mg "tuple" = none
  x_all : XAll K mg ["NoBook", "NoMake", "NoName", "NoNet", "NoOrder", "NoPlan", "NoRow", "NoText", "NoTrial", "NoTruth", "NothingTold", "TooGreat"] ["HuntError", "NoBook", "NoMake", "NoName", "NoNet", "NoOrder", "NoPlan", "NoRow", "NoText", "NoTrial", "NoTruth", "NothingTold", "TooGreat", "ValueError"] ["HuntError", "NoBook"] ["make", "many", "name", "path", "place", "row", "rows", "word"]
  hunt : HuntC K (He.ga K "HuntError") ∧ mg "HuntError" = some (.ref (He.ga K "HuntError"))
  i_NoNet : ∃ fd, FunD K "__init__" "NoNet.__init__" (defArgs (clsInit (top 2))) (defBody (clsInit (top 2))) (defScope (clsInit (top 2))) [] [] (He.fAd K ("NoNet", some "__init__")) fd
  j_NoNet : IniC K "NoNet"
  i_NoOrder : ∃ fd, FunD K "__init__" "NoOrder.__init__" (defArgs (clsInit (top 3))) (defBody (clsInit (top 3))) (defScope (clsInit (top 3))) [] [] (He.fAd K ("NoOrder", some "__init__")) fd
  j_NoOrder : IniC K "NoOrder"
  i_NoMake : ∃ fd, FunD K "__init__" "NoMake.__init__" (defArgs (clsInit (top 4))) (defBody (clsInit (top 4))) (defScope (clsInit (top 4))) [] [] (He.fAd K ("NoMake", some "__init__")) fd
  j_NoMake : IniC K "NoMake"
  i_NoTrial : ∃ fd, FunD K "__init__" "NoTrial.__init__" (defArgs (clsInit (top 5))) (defBody (clsInit (top 5))) (defScope (clsInit (top 5))) [] [] (He.fAd K ("NoTrial", some "__init__")) fd
  j_NoTrial : IniC K "NoTrial"
  i_NoTruth : ∃ fd, FunD K "__init__" "NoTruth.__init__" (defArgs (clsInit (top 6))) (defBody (clsInit (top 6))) (defScope (clsInit (top 6))) [] [] (He.fAd K ("NoTruth", some "__init__")) fd
  j_NoTruth : IniC K "NoTruth"
  i_TooGreat : ∃ fd, FunD K "__init__" "TooGreat.__init__" (defArgs (clsInit (top 9))) (defBody (clsInit (top 9))) (defScope (clsInit (top 9))) [] [] (He.fAd K ("TooGreat", some "__init__")) fd
  j_TooGreat : IniC K "TooGreat"
  i_NoText : ∃ fd, FunD K "__init__" "NoText.__init__" (defArgs (clsInit (top 10))) (defBody (clsInit (top 10))) (defScope (clsInit (top 10))) [] [] (He.fAd K ("NoText", some "__init__")) fd
  j_NoText : IniC K "NoText"
  i_NoName : ∃ fd, FunD K "__init__" "NoName.__init__" (defArgs (clsInit (top 11))) (defBody (clsInit (top 11))) (defScope (clsInit (top 11))) [] [] (He.fAd K ("NoName", some "__init__")) fd
  j_NoName : IniC K "NoName"
  i_NoPlan : ∃ fd, FunD K "__init__" "NoPlan.__init__" (defArgs (clsInit (top 7))) (defBody (clsInit (top 7))) (defScope (clsInit (top 7))) [] [] (He.fAd K ("NoPlan", some "__init__")) fd
  j_NoPlan : IniC K "NoPlan"
  i_NoBook : ∃ fd, FunD K "__init__" "NoBook.__init__" (defArgs (clsInit (top 8))) (defBody (clsInit (top 8))) (defScope (clsInit (top 8))) [] [] (He.fAd K ("NoBook", some "__init__")) fd
  j_NoBook : IniC K "NoBook"
  z_NothingTold : Exc0 K "NothingTold"
  z_NoRow : Exc0 K "NoRow"
theorem sc_qfeed : FnScope ["_law_script"] ["_law_script"] (defScope (top 15)) := ⟨rfl, rfl, rfl, by decide +kernel, rfl, by decide +kernel, by decide +kernel⟩
theorem fo_qfeed {P : Program} {w : World} {K : PySem.W.Frag} {mg : Str → Option Value} {base : Heap} (E : Env K mg) {f : Addr} {fd : FuncData} (F : FunD K "_law_feed" "_law_feed" (defArgs (top 15)) (defBody (top 15)) (defScope (top 15)) [] [] f fd) : FnOk P w K mg base (L2N.CX P w) (0 + 1) f fd ["_law_script"] (spU K mg uFeed) := by
  refine fn_u (N := ["_law_script"]) (ps := ["_law_script"]) (k := 0) F sc_qfeed (b := bFeed) (by decide) fun X W h => ?_
  have C := h.cf
  have hb_list : X.mg "list" = none := by rw [h.mg]; exact E.b_list
  have n0 : (["_law_script"] : List Str)[0]? = some ("_law_script" : Str) := rfl
  have v0 : visB (defScope (top 15)) "_law_script" = true := by decide +kernel
  have s0 : Sto X (defScope (top 15)) "_law_script" := sto_c h.fn (by decide +kernel)
  unfold bFeed
  exact (cs_cons (c1_retC (cc_feed C.toCf0 0 n0 v0 (by decide +kernel) hb_list)) cs_nil)
theorem ok_qfeed {P : Program} {w : World} {K : PySem.W.Frag} {mg : Str → Option Value} {base : Heap} (E : Env K mg) : Gv P w K mg base (0 + 1) "_law_feed" [] (spU K mg uFeed) := by
  obtain ⟨f, fd, F, hmg⟩ := E.d_qfeed
  exact Gv.of F hmg (fo_qfeed E F) (F.bindsN fun _ _ _ _ _ _ us hl => match us, hl with | [_], _ => rfl) .nil
theorem sc_qtake : FnScope ["_law_feed_here", "_law_many", "_law_cell", "_law_mixed"] ["_law_feed_here", "_law_many"] (defScope (top 16)) := ⟨rfl, rfl, rfl, by decide +kernel, rfl, by decide +kernel, by decide +kernel⟩
theorem fo_qtake {P : Program} {w : World} {K : PySem.W.Frag} {mg : Str → Option Value} {base : Heap} (E : Env K mg) {f : Addr} {fd : FuncData} (F : FunD K "_law_take" "_law_take" (defArgs (top 16)) (defBody (top 16)) (defScope (top 16)) [] [] f fd) : FnOk P w K mg base (L2N.CX P w) (0 + 1) f fd ["_law_feed_here", "_law_many"] (spU K mg uTake) := by
  refine fn_u (N := ["_law_feed_here", "_law_many", "_law_cell", "_law_mixed"]) (ps := ["_law_feed_here", "_law_many"]) (k := 0) F sc_qtake (b := feedTake) (by decide) fun X W h => ?_
  have C := h.cf
  have n0 : (["_law_feed_here", "_law_many", "_law_cell", "_law_mixed"] : List Str)[0]? = some ("_law_feed_here" : Str) := rfl
  have v0 : visB (defScope (top 16)) "_law_feed_here" = true := by decide +kernel
  have s0 : Sto X (defScope (top 16)) "_law_feed_here" := sto_c h.fn (by decide +kernel)
  have n1 : (["_law_feed_here", "_law_many", "_law_cell", "_law_mixed"] : List Str)[1]? = some ("_law_many" : Str) := rfl
  have v1 : visB (defScope (top 16)) "_law_many" = true := by decide +kernel
  have s1 : Sto X (defScope (top 16)) "_law_many" := sto_c h.fn (by decide +kernel)
  have n2 : (["_law_feed_here", "_law_many", "_law_cell", "_law_mixed"] : List Str)[2]? = some ("_law_cell" : Str) := rfl
  have v2 : visB (defScope (top 16)) "_law_cell" = true := by decide +kernel
  have s2 : Sto X (defScope (top 16)) "_law_cell" := sto_c h.fn (by decide +kernel)
  have n3 : (["_law_feed_here", "_law_many", "_law_cell", "_law_mixed"] : List Str)[3]? = some ("_law_mixed" : Str) := rfl
  have v3 : visB (defScope (top 16)) "_law_mixed" = true := by decide +kernel
  have s3 : Sto X (defScope (top 16)) "_law_mixed" := sto_c h.fn (by decide +kernel)
  unfold feedTake
  exact (cs_cons (c1_fdT C.toCf0 0 n0 v0 (ce_add (ce_fdT C.toCf0 0 n0 v0) ce_int)) (cs_cons (c1_if (ct_cmp (ce_fdN C.toCf0 0 n0 v0)) (cs_cons (c1_set C.toCf0 2 n2 s2 (ce_frz (ce_fd0 C.toCf0 0 n0 v0))) (cs_cons (c1_if (ct_cmp (ce_ge (ce_var C.toCf0 2 n2 (by decide +kernel)) (ce_pow ce_int ce_int))) (cs_cons (c1_fd0 C.toCf0 0 n0 v0 (ce_fdiv (ce_var C.toCf0 2 n2 (by decide +kernel)) (ce_var C.toCf0 1 n1 (by decide +kernel)))) (cs_cons (c1_ret (ce_mod (ce_var C.toCf0 2 n2 (by decide +kernel)) (ce_var C.toCf0 1 n1 (by decide +kernel)))) cs_nil)) cs_nil) (cs_cons (c1_fdS C.toCf0 0 n0 v0 (ce_mod (ce_add (ce_add (ce_mul (ce_fdS C.toCf0 0 n0 v0) ce_int) (ce_mod (ce_var C.toCf0 2 n2 (by decide +kernel)) ce_int)) ce_int) ce_int)) (cs_cons (c1_fdC C.toCf0 0 n0 v0) cs_nil)))) cs_nil) (cs_cons (c1_set C.toCf0 3 n3 s3 (ce_mod (ce_mul (ce_add (ce_add (ce_fdS C.toCf0 0 n0 v0) (ce_mul ce_int (ce_fdT C.toCf0 0 n0 v0))) ce_int) ce_int) ce_int)) (cs_cons (c1_set C.toCf0 3 n3 s3 (ce_mod (ce_add (ce_add (ce_mul (ce_var C.toCf0 3 n3 (by decide +kernel)) (ce_var C.toCf0 3 n3 (by decide +kernel))) (ce_mul ce_int (ce_var C.toCf0 3 n3 (by decide +kernel)))) (ce_fdT C.toCf0 0 n0 v0)) ce_int)) (cs_cons (c1_ret (ce_mod (ce_fdiv (ce_var C.toCf0 3 n3 (by decide +kernel)) ce_int) (ce_var C.toCf0 1 n1 (by decide +kernel)))) cs_nil)))))
theorem ok_qtake {P : Program} {w : World} {K : PySem.W.Frag} {mg : Str → Option Value} {base : Heap} (E : Env K mg) : Gv P w K mg base (0 + 1) "_law_take" [] (spU K mg uTake) := by
  obtain ⟨f, fd, F, hmg⟩ := E.d_qtake
  exact Gv.of F hmg (fo_qtake E F) (F.bindsN fun _ _ _ _ _ _ us hl => match us, hl with | [_, _], _ => rfl) .nil
def b_qnumber : DS := (bSeq (bSet 1 (eX (xCallC uTake 0 [] (dAc (dVar 0) (dAc (dC (.int 60)) dA0))))) (bSeq (bFor [2] (gN 2) (iRange1 (dI kMul (dC (.int 9)) (eX (xCallC uTake 0 [] (dAc (dVar 0) (dAc (dC (.int 2)) dA0)))))) (bSeq (bSet 1 (dAdd (dI kMul (dVar 1) (dI kPow (dC (.int 10)) (dC (.int 6)))) (eX (xCallC uTake 0 [] (dAc (dVar 0) (dAc (dI kPow (dC (.int 10)) (dC (.int 6))) dA0)))))) bNil)) (bSeq (bRet (dIxB (dOfN (dLst (dAc (dFrz (dVar 1)) (dAc (dI kSub (dNeg (dC (.int 1))) (dVar 1)) dA0)))) (eX (xCallC uTake 0 [] (dAc (dVar 0) (dAc (dC (.int 2)) dA0)))))) bNil)))
def u_qnumber : List Ar → R (Rs × List Sl) := runB 3 1 b_qnumber
theorem sc_qnumber : FnScope ["_law_feed_here", "_law_found", "_law_k"] ["_law_feed_here"] (defScope (top 17)) := ⟨rfl, rfl, rfl, by decide +kernel, rfl, by decide +kernel, by decide +kernel⟩
theorem fo_qnumber {P : Program} {w : World} {K : PySem.W.Frag} {mg : Str → Option Value} {base : Heap} (E : Env K mg) {f : Addr} {fd : FuncData} (F : FunD K "_law_number" "_law_number" (defArgs (top 17)) (defBody (top 17)) (defScope (top 17)) [] [] f fd) : FnOk P w K mg base (L2N.CX P w) (1 + 1) f fd ["_law_feed_here"] (spU K mg u_qnumber) := by
  refine fn_u (N := ["_law_feed_here", "_law_found", "_law_k"]) (ps := ["_law_feed_here"]) (k := 1) F sc_qnumber (b := b_qnumber) (by decide) fun X W h => ?_
  have C := h.cf
  have hb_range : X.mg "range" = none := by rw [h.mg]; exact E.b_range
  have c_qtake := (ok_qtake (P := P) (w := w) (base := base) E).u h (by omega)
  have n0 : (["_law_feed_here", "_law_found", "_law_k"] : List Str)[0]? = some ("_law_feed_here" : Str) := rfl
  have v0 : visB (defScope (top 17)) "_law_feed_here" = true := by decide +kernel
  have s0 : Sto X (defScope (top 17)) "_law_feed_here" := sto_c h.fn (by decide +kernel)
  have n1 : (["_law_feed_here", "_law_found", "_law_k"] : List Str)[1]? = some ("_law_found" : Str) := rfl
  have v1 : visB (defScope (top 17)) "_law_found" = true := by decide +kernel
  have s1 : Sto X (defScope (top 17)) "_law_found" := sto_c h.fn (by decide +kernel)
  have n2 : (["_law_feed_here", "_law_found", "_law_k"] : List Str)[2]? = some ("_law_k" : Str) := rfl
  have v2 : visB (defScope (top 17)) "_law_k" = true := by decide +kernel
  have s2 : Sto X (defScope (top 17)) "_law_k" := sto_c h.fn (by decide +kernel)
  unfold b_qnumber
  exact (cs_cons (c1_set C.toCf0 1 n1 s1 (ce_x (cx_callC C.toCf0 0 c_qtake (by decide +kernel) (fun _ _ => .nil) (ca_cons (ce_var C.toCf0 0 n0 (by decide +kernel)) (ca_cons ce_int ca_nil))))) (cs_cons (c1_for C [2] (ci_range1 C.toCf0 (by decide +kernel) hb_range (ce_mul ce_int (ce_x (cx_callC C.toCf0 0 c_qtake (by decide +kernel) (fun _ _ => .nil) (ca_cons (ce_var C.toCf0 0 n0 (by decide +kernel)) (ca_cons ce_int ca_nil)))))) (cg_name C.toCf0 2 n2 s2) (cs_cons (c1_set C.toCf0 1 n1 s1 (ce_add (ce_mul (ce_var C.toCf0 1 n1 (by decide +kernel)) (ce_pow ce_int ce_int)) (ce_x (cx_callC C.toCf0 0 c_qtake (by decide +kernel) (fun _ _ => .nil) (ca_cons (ce_var C.toCf0 0 n0 (by decide +kernel)) (ca_cons (ce_pow ce_int ce_int) ca_nil)))))) cs_nil)) (cs_cons (c1_ret (ce_ixB C.toCf0 (ce_ofN (cn_lst (ca_cons (ce_frz (ce_var C.toCf0 1 n1 (by decide +kernel))) (ca_cons (ce_sub (ce_neg ce_int) (ce_var C.toCf0 1 n1 (by decide +kernel))) ca_nil)))) (ce_x (cx_callC C.toCf0 0 c_qtake (by decide +kernel) (fun _ _ => .nil) (ca_cons (ce_var C.toCf0 0 n0 (by decide +kernel)) (ca_cons ce_int ca_nil)))))) cs_nil)))
theorem ok_qnumber {P : Program} {w : World} {K : PySem.W.Frag} {mg : Str → Option Value} {base : Heap} (E : Env K mg) : Gv P w K mg base (1 + 1) "_law_number" [] (spU K mg u_qnumber) := by
  obtain ⟨f, fd, F, hmg⟩ := E.d_qnumber
  exact Gv.of F hmg (fo_qnumber E F) (F.bindsN fun _ _ _ _ _ _ us hl => match us, hl with | [_], _ => rfl) .nil
def b_qtext_k08 : DS := (bSeq (bSet 1 (dC (.str ""))) (bSeq (bFor [2] (gN 2) (iRange1 (eX (xCallC uTake 0 [] (dAc (dVar 0) (dAc (dC (.int 9)) dA0))))) (bSeq (bSet 1 (dAdd (dVar 1) (dIxS (dC (.str "abcdefghijklmnopqrstuvwxyz")) (eX (xCallC uTake 0 [] (dAc (dVar 0) (dAc (dC (.int 26)) dA0))))))) bNil)) (bSeq (bRet (dVar 1)) bNil)))
def u_qtext_k08 : List Ar → R (Rs × List Sl) := runB 3 1 b_qtext_k08
theorem sc_qtext : FnScope ["_law_feed_here", "_law_text_here", "_law_k"] ["_law_feed_here"] (defScope (top 18)) := ⟨rfl, rfl, rfl, by decide +kernel, rfl, by decide +kernel, by decide +kernel⟩
theorem fo_qtext {P : Program} {w : World} {K : PySem.W.Frag} {mg : Str → Option Value} {base : Heap} (E : Env K mg) {f : Addr} {fd : FuncData} (F : FunD K "_law_text" "_law_text" (defArgs (top 18)) (defBody (top 18)) (defScope (top 18)) [] [] f fd) : FnOk P w K mg base (L2N.CX P w) (1 + 1) f fd ["_law_feed_here"] (spU K mg u_qtext_k08) := by
  refine fn_u (N := ["_law_feed_here", "_law_text_here", "_law_k"]) (ps := ["_law_feed_here"]) (k := 1) F sc_qtext (b := b_qtext_k08) (by decide) fun X W h => ?_
  have C := h.cf
  have hb_range : X.mg "range" = none := by rw [h.mg]; exact E.b_range
  have c_qtake := (ok_qtake (P := P) (w := w) (base := base) E).u h (by omega)
  have n0 : (["_law_feed_here", "_law_text_here", "_law_k"] : List Str)[0]? = some ("_law_feed_here" : Str) := rfl
  have v0 : visB (defScope (top 18)) "_law_feed_here" = true := by decide +kernel
  have s0 : Sto X (defScope (top 18)) "_law_feed_here" := sto_c h.fn (by decide +kernel)
  have n1 : (["_law_feed_here", "_law_text_here", "_law_k"] : List Str)[1]? = some ("_law_text_here" : Str) := rfl
  have v1 : visB (defScope (top 18)) "_law_text_here" = true := by decide +kernel
  have s1 : Sto X (defScope (top 18)) "_law_text_here" := sto_c h.fn (by decide +kernel)
  have n2 : (["_law_feed_here", "_law_text_here", "_law_k"] : List Str)[2]? = some ("_law_k" : Str) := rfl
  have v2 : visB (defScope (top 18)) "_law_k" = true := by decide +kernel
  have s2 : Sto X (defScope (top 18)) "_law_k" := sto_c h.fn (by decide +kernel)
  unfold b_qtext_k08
  exact (cs_cons (c1_set C.toCf0 1 n1 s1 ce_str) (cs_cons (c1_for C [2] (ci_range1 C.toCf0 (by decide +kernel) hb_range (ce_x (cx_callC C.toCf0 0 c_qtake (by decide +kernel) (fun _ _ => .nil) (ca_cons (ce_var C.toCf0 0 n0 (by decide +kernel)) (ca_cons ce_int ca_nil))))) (cg_name C.toCf0 2 n2 s2) (cs_cons (c1_set C.toCf0 1 n1 s1 (ce_add (ce_var C.toCf0 1 n1 (by decide +kernel)) (ce_ixS ce_str (ce_x (cx_callC C.toCf0 0 c_qtake (by decide +kernel) (fun _ _ => .nil) (ca_cons (ce_var C.toCf0 0 n0 (by decide +kernel)) (ca_cons ce_int ca_nil))))))) cs_nil)) (cs_cons (c1_ret (ce_var C.toCf0 1 n1 (by decide +kernel))) cs_nil)))
theorem ok_qtext {P : Program} {w : World} {K : PySem.W.Frag} {mg : Str → Option Value} {base : Heap} (E : Env K mg) : Gv P w K mg base (1 + 1) "_law_text" [] (spU K mg u_qtext_k08) := by
  obtain ⟨f, fd, F, hmg⟩ := E.d_qtext
  exact Gv.of F hmg (fo_qtext E F) (F.bindsN fun _ _ _ _ _ _ us hl => match us, hl with | [_], _ => rfl) .nil
def b_qrows : DS := (bSeq (bSetX 1 (xC (nL (dLst dA0)))) (bSeq (bFor [2] (gN 2) (iRange1 (eX (xCallC uTake 0 [] (dAc (dVar 0) (dAc (dC (.int 7)) dA0))))) (bSeq (bExpr (dLm 1 qAppend (dAc (dFrz (dOfN (nComp [3] (gN 3) (iRange1 (eX (xCallC uTake 0 [] (dAc (dVar 0) (dAc (dC (.int 5)) dA0))))) tYes (dFrz (eX (xCallC uTake 0 [] (dAc (dVar 0) (dAc (dC (.int 200)) dA0)))))))) dA0))) bNil)) (bSeq (bRetO 1) bNil)))
def u_qrows : List Ar → R (Rs × List Sl) := runB 4 1 b_qrows
theorem sc_qrows : FnScope ["_law_feed_here", "_law_found", "_law_k", "_law_j"] ["_law_feed_here"] (defScope (top 19)) := ⟨rfl, rfl, rfl, by decide +kernel, rfl, by decide +kernel, by decide +kernel⟩
theorem fo_qrows {P : Program} {w : World} {K : PySem.W.Frag} {mg : Str → Option Value} {base : Heap} (E : Env K mg) {f : Addr} {fd : FuncData} (F : FunD K "_law_rows" "_law_rows" (defArgs (top 19)) (defBody (top 19)) (defScope (top 19)) [] [] f fd) : FnOk P w K mg base (L2N.CX P w) (1 + 1) f fd ["_law_feed_here"] (spU K mg u_qrows) := by
  refine fn_u (N := ["_law_feed_here", "_law_found", "_law_k", "_law_j"]) (ps := ["_law_feed_here"]) (k := 1) F sc_qrows (b := b_qrows) (by decide) fun X W h => ?_
  have C := h.cf
  have hb_range : X.mg "range" = none := by rw [h.mg]; exact E.b_range
  have c_qtake := (ok_qtake (P := P) (w := w) (base := base) E).u h (by omega)
  have n0 : (["_law_feed_here", "_law_found", "_law_k", "_law_j"] : List Str)[0]? = some ("_law_feed_here" : Str) := rfl
  have v0 : visB (defScope (top 19)) "_law_feed_here" = true := by decide +kernel
  have s0 : Sto X (defScope (top 19)) "_law_feed_here" := sto_c h.fn (by decide +kernel)
  have n1 : (["_law_feed_here", "_law_found", "_law_k", "_law_j"] : List Str)[1]? = some ("_law_found" : Str) := rfl
  have v1 : visB (defScope (top 19)) "_law_found" = true := by decide +kernel
  have s1 : Sto X (defScope (top 19)) "_law_found" := sto_c h.fn (by decide +kernel)
  have n2 : (["_law_feed_here", "_law_found", "_law_k", "_law_j"] : List Str)[2]? = some ("_law_k" : Str) := rfl
  have v2 : visB (defScope (top 19)) "_law_k" = true := by decide +kernel
  have s2 : Sto X (defScope (top 19)) "_law_k" := sto_c h.fn (by decide +kernel)
  have n3 : (["_law_feed_here", "_law_found", "_law_k", "_law_j"] : List Str)[3]? = some ("_law_j" : Str) := rfl
  unfold b_qrows
  exact (cs_cons (c1_setX C.toCf0 1 n1 s1 (cx_c (cc_l (cn_lst ca_nil)))) (cs_cons (c1_for C [2] (ci_range1 C.toCf0 (by decide +kernel) hb_range (ce_x (cx_callC C.toCf0 0 c_qtake (by decide +kernel) (fun _ _ => .nil) (ca_cons (ce_var C.toCf0 0 n0 (by decide +kernel)) (ca_cons ce_int ca_nil))))) (cg_name C.toCf0 2 n2 s2) (cs_cons (c1_expr (ce_append C.toCf0 1 n1 (by decide +kernel) (ce_ofN (cn_comp C (CompU.mk (own := [("_law_j", 3)]) (ci_range1 C.toCf0 (by decide +kernel) hb_range (ce_x (cx_callC C.toCf0 0 c_qtake (by decide +kernel) (fun _ _ => .nil) (ca_cons (ce_var C.toCf0 0 n0 (by decide +kernel)) (ca_cons ce_int ca_nil))))) (by decide +kernel) (fun _ _ _ _ _ => (cg_name (Cf.blk C).toCf0 3 n3 (sto_l (by decide +kernel)))) (fun _ _ _ _ _ => cts_nil) (fun _ _ _ _ _ => (ce_frz (ce_x (cx_callC (Cf.blk C).toCf0 0 c_qtake.blk (by decide +kernel) (fun _ _ => .nil) (ca_cons (ce_var (Cf.blk C).toCf0 0 n0 (by decide +kernel)) (ca_cons ce_int ca_nil)))))) (by decide) (fun _ => rfl)))))) cs_nil)) (cs_cons (c1_retO C.toCf0 1 n1 (by decide +kernel)) cs_nil)))
theorem ok_qrows {P : Program} {w : World} {K : PySem.W.Frag} {mg : Str → Option Value} {base : Heap} (E : Env K mg) : Gv P w K mg base (1 + 1) "_law_rows" [] (spU K mg u_qrows) := by
  obtain ⟨f, fd, F, hmg⟩ := E.d_qrows
  exact Gv.of F hmg (fo_qrows E F) (F.bindsN fun _ _ _ _ _ _ us hl => match us, hl with | [_], _ => rfl) .nil
theorem xm_NoNet {P : Program} {w : World} {K : PySem.W.Frag} {mg : Str → Option Value} {base : Heap} (E : Env K mg) {X : Cx} {W : WX} {sc : Scope} {N : List Str} {k : Nat} (h : Here X W P w K mg base sc N k) (hk : 2 ≤ k) : XMk X "NoNet" ["make"] := by
  obtain ⟨fd, F⟩ := E.i_NoNet
  exact xm1 h hk F (F.bindsN fun _ _ _ _ _ _ us hl => match us, hl with | [_, _], _ => rfl) E.j_NoNet E.x_all E.hunt.1 E.hunt.2 (by decide +kernel) (by decide +kernel) ⟨rfl, rfl, rfl, by decide +kernel, rfl, by decide +kernel, by decide +kernel⟩ ⟨_, _, _, _, _, _, _, _, _, _, _, _, rfl, fun env => ⟨_, rfl⟩⟩ (by decide +kernel) (by decide +kernel) (by decide +kernel)
theorem xm_NoOrder {P : Program} {w : World} {K : PySem.W.Frag} {mg : Str → Option Value} {base : Heap} (E : Env K mg) {X : Cx} {W : WX} {sc : Scope} {N : List Str} {k : Nat} (h : Here X W P w K mg base sc N k) (hk : 2 ≤ k) : XMk X "NoOrder" ["place"] := by
  obtain ⟨fd, F⟩ := E.i_NoOrder
  exact xm1 h hk F (F.bindsN fun _ _ _ _ _ _ us hl => match us, hl with | [_, _], _ => rfl) E.j_NoOrder E.x_all E.hunt.1 E.hunt.2 (by decide +kernel) (by decide +kernel) ⟨rfl, rfl, rfl, by decide +kernel, rfl, by decide +kernel, by decide +kernel⟩ ⟨_, _, _, _, _, _, _, _, _, _, _, _, rfl, fun env => ⟨_, rfl⟩⟩ (by decide +kernel) (by decide +kernel) (by decide +kernel)
theorem xm_NoMake {P : Program} {w : World} {K : PySem.W.Frag} {mg : Str → Option Value} {base : Heap} (E : Env K mg) {X : Cx} {W : WX} {sc : Scope} {N : List Str} {k : Nat} (h : Here X W P w K mg base sc N k) (hk : 2 ≤ k) : XMk X "NoMake" ["make"] := by
  obtain ⟨fd, F⟩ := E.i_NoMake
  exact xm1 h hk F (F.bindsN fun _ _ _ _ _ _ us hl => match us, hl with | [_, _], _ => rfl) E.j_NoMake E.x_all E.hunt.1 E.hunt.2 (by decide +kernel) (by decide +kernel) ⟨rfl, rfl, rfl, by decide +kernel, rfl, by decide +kernel, by decide +kernel⟩ ⟨_, _, _, _, _, _, _, _, _, _, _, _, rfl, fun env => ⟨_, rfl⟩⟩ (by decide +kernel) (by decide +kernel) (by decide +kernel)
theorem xm_NoTrial {P : Program} {w : World} {K : PySem.W.Frag} {mg : Str → Option Value} {base : Heap} (E : Env K mg) {X : Cx} {W : WX} {sc : Scope} {N : List Str} {k : Nat} (h : Here X W P w K mg base sc N k) (hk : 2 ≤ k) : XMk X "NoTrial" ["place"] := by
  obtain ⟨fd, F⟩ := E.i_NoTrial
  exact xm1 h hk F (F.bindsN fun _ _ _ _ _ _ us hl => match us, hl with | [_, _], _ => rfl) E.j_NoTrial E.x_all E.hunt.1 E.hunt.2 (by decide +kernel) (by decide +kernel) ⟨rfl, rfl, rfl, by decide +kernel, rfl, by decide +kernel, by decide +kernel⟩ ⟨_, _, _, _, _, _, _, _, _, _, _, _, rfl, fun env => ⟨_, rfl⟩⟩ (by decide +kernel) (by decide +kernel) (by decide +kernel)
theorem xm_NoTruth {P : Program} {w : World} {K : PySem.W.Frag} {mg : Str → Option Value} {base : Heap} (E : Env K mg) {X : Cx} {W : WX} {sc : Scope} {N : List Str} {k : Nat} (h : Here X W P w K mg base sc N k) (hk : 2 ≤ k) : XMk X "NoTruth" ["rows"] := by
  obtain ⟨fd, F⟩ := E.i_NoTruth
  exact xm1 h hk F (F.bindsN fun _ _ _ _ _ _ us hl => match us, hl with | [_, _], _ => rfl) E.j_NoTruth E.x_all E.hunt.1 E.hunt.2 (by decide +kernel) (by decide +kernel) ⟨rfl, rfl, rfl, by decide +kernel, rfl, by decide +kernel, by decide +kernel⟩ ⟨_, _, _, _, _, _, _, _, _, _, _, _, rfl, fun env => ⟨_, rfl⟩⟩ (by decide +kernel) (by decide +kernel) (by decide +kernel)
theorem xm_TooGreat {P : Program} {w : World} {K : PySem.W.Frag} {mg : Str → Option Value} {base : Heap} (E : Env K mg) {X : Cx} {W : WX} {sc : Scope} {N : List Str} {k : Nat} (h : Here X W P w K mg base sc N k) (hk : 2 ≤ k) : XMk X "TooGreat" ["many"] := by
  obtain ⟨fd, F⟩ := E.i_TooGreat
  exact xm1 h hk F (F.bindsN fun _ _ _ _ _ _ us hl => match us, hl with | [_, _], _ => rfl) E.j_TooGreat E.x_all E.hunt.1 E.hunt.2 (by decide +kernel) (by decide +kernel) ⟨rfl, rfl, rfl, by decide +kernel, rfl, by decide +kernel, by decide +kernel⟩ ⟨_, _, _, _, _, _, _, _, _, _, _, _, rfl, fun env => ⟨_, rfl⟩⟩ (by decide +kernel) (by decide +kernel) (by decide +kernel)
theorem xm_NoText {P : Program} {w : World} {K : PySem.W.Frag} {mg : Str → Option Value} {base : Heap} (E : Env K mg) {X : Cx} {W : WX} {sc : Scope} {N : List Str} {k : Nat} (h : Here X W P w K mg base sc N k) (hk : 2 ≤ k) : XMk X "NoText" ["row"] := by
  obtain ⟨fd, F⟩ := E.i_NoText
  exact xm1 h hk F (F.bindsN fun _ _ _ _ _ _ us hl => match us, hl with | [_, _], _ => rfl) E.j_NoText E.x_all E.hunt.1 E.hunt.2 (by decide +kernel) (by decide +kernel) ⟨rfl, rfl, rfl, by decide +kernel, rfl, by decide +kernel, by decide +kernel⟩ ⟨_, _, _, _, _, _, _, _, _, _, _, _, rfl, fun env => ⟨_, rfl⟩⟩ (by decide +kernel) (by decide +kernel) (by decide +kernel)
theorem xm_NoName {P : Program} {w : World} {K : PySem.W.Frag} {mg : Str → Option Value} {base : Heap} (E : Env K mg) {X : Cx} {W : WX} {sc : Scope} {N : List Str} {k : Nat} (h : Here X W P w K mg base sc N k) (hk : 2 ≤ k) : XMk X "NoName" ["name"] := by
  obtain ⟨fd, F⟩ := E.i_NoName
  exact xm1 h hk F (F.bindsN fun _ _ _ _ _ _ us hl => match us, hl with | [_, _], _ => rfl) E.j_NoName E.x_all E.hunt.1 E.hunt.2 (by decide +kernel) (by decide +kernel) ⟨rfl, rfl, rfl, by decide +kernel, rfl, by decide +kernel, by decide +kernel⟩ ⟨_, _, _, _, _, _, _, _, _, _, _, _, rfl, fun env => ⟨_, rfl⟩⟩ (by decide +kernel) (by decide +kernel) (by decide +kernel)
def b_qkinds : DS := (bSeq (bSet 1 (dOfN (dLst (dAc (dIsx ["NoBook", "NoMake", "NoName", "NoNet", "NoOrder", "NoPlan", "NoRow", "NoText", "NoTrial", "NoTruth", "NothingTold", "TooGreat"] ["NoNet"] (dVar 0)) (dAc (dIsx ["NoBook", "NoMake", "NoName", "NoNet", "NoOrder", "NoPlan", "NoRow", "NoText", "NoTrial", "NoTruth", "NothingTold", "TooGreat"] ["NoOrder"] (dVar 0)) (dAc (dIsx ["NoBook", "NoMake", "NoName", "NoNet", "NoOrder", "NoPlan", "NoRow", "NoText", "NoTrial", "NoTruth", "NothingTold", "TooGreat"] ["NoMake"] (dVar 0)) (dAc (dIsx ["NoBook", "NoMake", "NoName", "NoNet", "NoOrder", "NoPlan", "NoRow", "NoText", "NoTrial", "NoTruth", "NothingTold", "TooGreat"] ["NoTrial"] (dVar 0)) dA0))))))) (bSeq (bSet 1 (dOfN (dCat (dVar 1) (dOfN (dLst (dAc (dIsx ["NoBook", "NoMake", "NoName", "NoNet", "NoOrder", "NoPlan", "NoRow", "NoText", "NoTrial", "NoTruth", "NothingTold", "TooGreat"] ["NoTruth"] (dVar 0)) (dAc (dIsx ["NoBook", "NoMake", "NoName", "NoNet", "NoOrder", "NoPlan", "NoRow", "NoText", "NoTrial", "NoTruth", "NothingTold", "TooGreat"] ["NoPlan"] (dVar 0)) (dAc (dIsx ["NoBook", "NoMake", "NoName", "NoNet", "NoOrder", "NoPlan", "NoRow", "NoText", "NoTrial", "NoTruth", "NothingTold", "TooGreat"] ["NoBook"] (dVar 0)) (dAc (dIsx ["NoBook", "NoMake", "NoName", "NoNet", "NoOrder", "NoPlan", "NoRow", "NoText", "NoTrial", "NoTruth", "NothingTold", "TooGreat"] ["TooGreat"] (dVar 0)) dA0))))))))) (bSeq (bSet 1 (dOfN (dCat (dVar 1) (dOfN (dLst (dAc (dIsx ["NoBook", "NoMake", "NoName", "NoNet", "NoOrder", "NoPlan", "NoRow", "NoText", "NoTrial", "NoTruth", "NothingTold", "TooGreat"] ["NoText"] (dVar 0)) (dAc (dIsx ["NoBook", "NoMake", "NoName", "NoNet", "NoOrder", "NoPlan", "NoRow", "NoText", "NoTrial", "NoTruth", "NothingTold", "TooGreat"] ["NoName"] (dVar 0)) (dAc (dIsx ["NoBook", "NoMake", "NoName", "NoNet", "NoOrder", "NoPlan", "NoRow", "NoText", "NoTrial", "NoTruth", "NothingTold", "TooGreat"] ["NothingTold"] (dVar 0)) (dAc (dIsx ["NoBook", "NoMake", "NoName", "NoNet", "NoOrder", "NoPlan", "NoRow", "NoText", "NoTrial", "NoTruth", "NothingTold", "TooGreat"] ["NoRow"] (dVar 0)) dA0))))))))) (bSeq (bRet (dVar 1)) bNil))))
def u_qkinds : List Ar → R (Rs × List Sl) := runB 2 1 b_qkinds
theorem sc_qkinds : FnScope ["_law_e", "_law_kinds_here"] ["_law_e"] (defScope (top 21)) := ⟨rfl, rfl, rfl, by decide +kernel, rfl, by decide +kernel, by decide +kernel⟩
theorem fo_qkinds {P : Program} {w : World} {K : PySem.W.Frag} {mg : Str → Option Value} {base : Heap} (E : Env K mg) {f : Addr} {fd : FuncData} (F : FunD K "_law_kinds" "_law_kinds" (defArgs (top 21)) (defBody (top 21)) (defScope (top 21)) [] [] f fd) : FnOk P w K mg base (L2N.CX P w) (0 + 1) f fd ["_law_e"] (spU K mg u_qkinds) := by
  refine fn_u (N := ["_law_e", "_law_kinds_here"]) (ps := ["_law_e"]) (k := 0) F sc_qkinds (b := b_qkinds) (by decide) fun X W h => ?_
  have C := h.cf
  have hb_isinstance : X.mg "isinstance" = none := by rw [h.mg]; exact E.b_isinstance
  have hX : XAll X.K X.mg ["NoBook", "NoMake", "NoName", "NoNet", "NoOrder", "NoPlan", "NoRow", "NoText", "NoTrial", "NoTruth", "NothingTold", "TooGreat"] ["HuntError", "NoBook", "NoMake", "NoName", "NoNet", "NoOrder", "NoPlan", "NoRow", "NoText", "NoTrial", "NoTruth", "NothingTold", "TooGreat", "ValueError"] ["HuntError", "NoBook"] ["make", "many", "name", "path", "place", "row", "rows", "word"] := by rw [h.K, h.mg]; exact E.x_all
  have n0 : (["_law_e", "_law_kinds_here"] : List Str)[0]? = some ("_law_e" : Str) := rfl
  have v0 : visB (defScope (top 21)) "_law_e" = true := by decide +kernel
  have s0 : Sto X (defScope (top 21)) "_law_e" := sto_c h.fn (by decide +kernel)
  have n1 : (["_law_e", "_law_kinds_here"] : List Str)[1]? = some ("_law_kinds_here" : Str) := rfl
  have v1 : visB (defScope (top 21)) "_law_kinds_here" = true := by decide +kernel
  have s1 : Sto X (defScope (top 21)) "_law_kinds_here" := sto_c h.fn (by decide +kernel)
  unfold b_qkinds
  exact (cs_cons (c1_set C.toCf0 1 n1 s1 (ce_ofN (cn_lst (ca_cons (ce_isx C.toCf0 hX "NoNet" (by decide +kernel) hb_isinstance (by decide +kernel) (by decide +kernel) (fun z => absurd z (by decide +kernel)) (ce_var C.toCf0 0 n0 (by decide +kernel))) (ca_cons (ce_isx C.toCf0 hX "NoOrder" (by decide +kernel) hb_isinstance (by decide +kernel) (by decide +kernel) (fun z => absurd z (by decide +kernel)) (ce_var C.toCf0 0 n0 (by decide +kernel))) (ca_cons (ce_isx C.toCf0 hX "NoMake" (by decide +kernel) hb_isinstance (by decide +kernel) (by decide +kernel) (fun z => absurd z (by decide +kernel)) (ce_var C.toCf0 0 n0 (by decide +kernel))) (ca_cons (ce_isx C.toCf0 hX "NoTrial" (by decide +kernel) hb_isinstance (by decide +kernel) (by decide +kernel) (fun z => absurd z (by decide +kernel)) (ce_var C.toCf0 0 n0 (by decide +kernel))) ca_nil))))))) (cs_cons (c1_set C.toCf0 1 n1 s1 (ce_ofN (cn_cat (ce_var C.toCf0 1 n1 (by decide +kernel)) (ce_ofN (cn_lst (ca_cons (ce_isx C.toCf0 hX "NoTruth" (by decide +kernel) hb_isinstance (by decide +kernel) (by decide +kernel) (fun z => absurd z (by decide +kernel)) (ce_var C.toCf0 0 n0 (by decide +kernel))) (ca_cons (ce_isx C.toCf0 hX "NoPlan" (by decide +kernel) hb_isinstance (by decide +kernel) (by decide +kernel) (fun z => absurd z (by decide +kernel)) (ce_var C.toCf0 0 n0 (by decide +kernel))) (ca_cons (ce_isx C.toCf0 hX "NoBook" (by decide +kernel) hb_isinstance (by decide +kernel) (by decide +kernel) (fun z => absurd z (by decide +kernel)) (ce_var C.toCf0 0 n0 (by decide +kernel))) (ca_cons (ce_isx C.toCf0 hX "TooGreat" (by decide +kernel) hb_isinstance (by decide +kernel) (by decide +kernel) (fun z => absurd z (by decide +kernel)) (ce_var C.toCf0 0 n0 (by decide +kernel))) ca_nil))))))))) (cs_cons (c1_set C.toCf0 1 n1 s1 (ce_ofN (cn_cat (ce_var C.toCf0 1 n1 (by decide +kernel)) (ce_ofN (cn_lst (ca_cons (ce_isx C.toCf0 hX "NoText" (by decide +kernel) hb_isinstance (by decide +kernel) (by decide +kernel) (fun z => absurd z (by decide +kernel)) (ce_var C.toCf0 0 n0 (by decide +kernel))) (ca_cons (ce_isx C.toCf0 hX "NoName" (by decide +kernel) hb_isinstance (by decide +kernel) (by decide +kernel) (fun z => absurd z (by decide +kernel)) (ce_var C.toCf0 0 n0 (by decide +kernel))) (ca_cons (ce_isx C.toCf0 hX "NothingTold" (by decide +kernel) hb_isinstance (by decide +kernel) (by decide +kernel) (fun z => absurd z (by decide +kernel)) (ce_var C.toCf0 0 n0 (by decide +kernel))) (ca_cons (ce_isx C.toCf0 hX "NoRow" (by decide +kernel) hb_isinstance (by decide +kernel) (by decide +kernel) (fun z => absurd z (by decide +kernel)) (ce_var C.toCf0 0 n0 (by decide +kernel))) ca_nil))))))))) (cs_cons (c1_ret (ce_var C.toCf0 1 n1 (by decide +kernel))) cs_nil))))
theorem ok_qkinds {P : Program} {w : World} {K : PySem.W.Frag} {mg : Str → Option Value} {base : Heap} (E : Env K mg) : Gv P w K mg base (0 + 1) "_law_kinds" [] (spU K mg u_qkinds) := by
  obtain ⟨f, fd, F, hmg⟩ := E.d_qkinds
  exact Gv.of F hmg (fo_qkinds E F) (F.bindsN fun _ _ _ _ _ _ us hl => match us, hl with | [_], _ => rfl) .nil
def b_qown : DS := (bSeq (bIf (dTor (dTnot (dTst (dIsx ["NoBook", "NoMake", "NoName", "NoNet", "NoOrder", "NoPlan", "NoRow", "NoText", "NoTrial", "NoTruth", "NothingTold", "TooGreat"] ["HuntError"] (dVar 0)))) (dTnot (dTst (dIsx ["NoBook", "NoMake", "NoName", "NoNet", "NoOrder", "NoPlan", "NoRow", "NoText", "NoTrial", "NoTruth", "NothingTold", "TooGreat"] ["ValueError"] (dVar 0))))) (bSeq (bRet (dC (.bool false))) bNil) bNil) (bSeq (bRet (dCmp kEq (eX (xCall u_qkinds [] (dAc (dVar 0) dA0))) (dOfN (nComp [2] (gN 2) (iRange1 (dC (.int 12))) tYes (dFrz (dCmp kEq (dVar 2) (dVar 1))))))) bNil))
def u_qown : List Ar → R (Rs × List Sl) := runB 3 2 b_qown
theorem sc_qown : FnScope ["_law_e", "_law_place", "_law_k"] ["_law_e", "_law_place"] (defScope (top 22)) := ⟨rfl, rfl, rfl, by decide +kernel, rfl, by decide +kernel, by decide +kernel⟩
theorem fo_qown {P : Program} {w : World} {K : PySem.W.Frag} {mg : Str → Option Value} {base : Heap} (E : Env K mg) {f : Addr} {fd : FuncData} (F : FunD K "_law_own" "_law_own" (defArgs (top 22)) (defBody (top 22)) (defScope (top 22)) [] [] f fd) : FnOk P w K mg base (L2N.CX P w) (1 + 1) f fd ["_law_e", "_law_place"] (spU K mg u_qown) := by
  refine fn_u (N := ["_law_e", "_law_place", "_law_k"]) (ps := ["_law_e", "_law_place"]) (k := 1) F sc_qown (b := b_qown) (by decide) fun X W h => ?_
  have C := h.cf
  have hb_isinstance : X.mg "isinstance" = none := by rw [h.mg]; exact E.b_isinstance
  have hb_ValueError : X.mg "ValueError" = none := by rw [h.mg]; exact E.b_ValueError
  have hb_range : X.mg "range" = none := by rw [h.mg]; exact E.b_range
  have c_qkinds := (ok_qkinds (P := P) (w := w) (base := base) E).u h (by omega)
  have hX : XAll X.K X.mg ["NoBook", "NoMake", "NoName", "NoNet", "NoOrder", "NoPlan", "NoRow", "NoText", "NoTrial", "NoTruth", "NothingTold", "TooGreat"] ["HuntError", "NoBook", "NoMake", "NoName", "NoNet", "NoOrder", "NoPlan", "NoRow", "NoText", "NoTrial", "NoTruth", "NothingTold", "TooGreat", "ValueError"] ["HuntError", "NoBook"] ["make", "many", "name", "path", "place", "row", "rows", "word"] := by rw [h.K, h.mg]; exact E.x_all
  have n0 : (["_law_e", "_law_place", "_law_k"] : List Str)[0]? = some ("_law_e" : Str) := rfl
  have v0 : visB (defScope (top 22)) "_law_e" = true := by decide +kernel
  have s0 : Sto X (defScope (top 22)) "_law_e" := sto_c h.fn (by decide +kernel)
  have n1 : (["_law_e", "_law_place", "_law_k"] : List Str)[1]? = some ("_law_place" : Str) := rfl
  have v1 : visB (defScope (top 22)) "_law_place" = true := by decide +kernel
  have s1 : Sto X (defScope (top 22)) "_law_place" := sto_c h.fn (by decide +kernel)
  have n2 : (["_law_e", "_law_place", "_law_k"] : List Str)[2]? = some ("_law_k" : Str) := rfl
  unfold b_qown
  exact (cs_cons (c1_if (ct_w (cw_or (ct_not (ct_of (ce_isx C.toCf0 hX "HuntError" (by decide +kernel) hb_isinstance (by decide +kernel) (by decide +kernel) (fun z => absurd z (by decide +kernel)) (ce_var C.toCf0 0 n0 (by decide +kernel))))) (cw_or1 (ct_not (ct_of (ce_isx C.toCf0 hX "ValueError" (by decide +kernel) hb_isinstance (by decide +kernel) (by decide +kernel) (fun _ => hb_ValueError) (ce_var C.toCf0 0 n0 (by decide +kernel)))))))) (cs_cons (c1_ret ce_bool) cs_nil) cs_nil) (cs_cons (c1_ret (ce_eq C.toCf0 (ce_x (cx_call C.toCf0 c_qkinds (by decide +kernel) (fun _ _ => .nil) (ca_cons (ce_var C.toCf0 0 n0 (by decide +kernel)) ca_nil))) (ce_ofN (cn_comp C (CompU.mk (own := [("_law_k", 2)]) (ci_range1 C.toCf0 (by decide +kernel) hb_range ce_int) (by decide +kernel) (fun _ _ _ _ _ => (cg_name (Cf.blk C).toCf0 2 n2 (sto_l (by decide +kernel)))) (fun _ _ _ _ _ => cts_nil) (fun _ _ _ _ _ => (ce_frz (ce_eq (Cf.blk C).toCf0 (ce_var (Cf.blk C).toCf0 2 n2 (by decide +kernel)) (ce_var (Cf.blk C).toCf0 1 n1 (by decide +kernel))))) (by decide) (fun _ => rfl)))))) cs_nil))
theorem ok_qown {P : Program} {w : World} {K : PySem.W.Frag} {mg : Str → Option Value} {base : Heap} (E : Env K mg) : Gv P w K mg base (1 + 1) "_law_own" [] (spU K mg u_qown) := by
  obtain ⟨f, fd, F, hmg⟩ := E.d_qown
  exact Gv.of F hmg (fo_qown E F) (F.bindsN fun _ _ _ _ _ _ us hl => match us, hl with | [_, _], _ => rfl) .nil
def b_qone_field : DS := (bSeq (bSet 3 (dOfN (dLst (dAc (dTup (dAc (dC (.int 0)) (dAc (dMkX "NoNet" ["make"] (dAc (dFrz (dVar 0)) dA0)) dA0))) (dAc (dTup (dAc (dC (.int 1)) (dAc (dMkX "NoOrder" ["place"] (dAc (dFrz (dVar 0)) dA0)) dA0))) (dAc (dTup (dAc (dC (.int 2)) (dAc (dMkX "NoMake" ["make"] (dAc (dFrz (dVar 0)) dA0)) dA0))) (dAc (dTup (dAc (dC (.int 3)) (dAc (dMkX "NoTrial" ["place"] (dAc (dFrz (dVar 0)) dA0)) dA0))) (dAc (dTup (dAc (dC (.int 4)) (dAc (dMkX "NoTruth" ["rows"] (dAc (dFrz (dVar 2)) dA0)) dA0))) dA0)))))))) (bSeq (bSet 3 (dOfN (dCat (dVar 3) (dOfN (dLst (dAc (dTup (dAc (dC (.int 7)) (dAc (dMkX "TooGreat" ["many"] (dAc (dFrz (dVar 0)) dA0)) dA0))) (dAc (dTup (dAc (dC (.int 8)) (dAc (dMkX "NoText" ["row"] (dAc (dFrz (dVar 0)) dA0)) dA0))) (dAc (dTup (dAc (dC (.int 9)) (dAc (dMkX "NoName" ["name"] (dAc (dFrz (dVar 1)) dA0)) dA0))) (dAc (dTup (dAc (dC (.int 10)) (dAc (dMkX0 "NothingTold") dA0))) (dAc (dTup (dAc (dC (.int 11)) (dAc (dMkX0 "NoRow") dA0))) dA0)))))))))) (bSeq (bFor [4, 5] (gT2 (gN 4) (gN 5)) (iSeq (dVar 3)) (bSeq (bIf (dTnot (dTst (eX (xCall u_qown [] (dAc (dVar 5) (dAc (dVar 4) dA0)))))) (bSeq (bRet (dC (.bool false))) bNil) bNil) bNil)) (bSeq (bSet 6 (dOfN (dLst (dAc (dAtt ["NoBook", "NoMake", "NoName", "NoNet", "NoOrder", "NoPlan", "NoRow", "NoText", "NoTrial", "NoTruth", "NothingTold", "TooGreat"] "make" (dIxB (dIxB (dVar 3) (dC (.int 0))) (dC (.int 1)))) (dAc (dAtt ["NoBook", "NoMake", "NoName", "NoNet", "NoOrder", "NoPlan", "NoRow", "NoText", "NoTrial", "NoTruth", "NothingTold", "TooGreat"] "place" (dIxB (dIxB (dVar 3) (dC (.int 1))) (dC (.int 1)))) (dAc (dAtt ["NoBook", "NoMake", "NoName", "NoNet", "NoOrder", "NoPlan", "NoRow", "NoText", "NoTrial", "NoTruth", "NothingTold", "TooGreat"] "make" (dIxB (dIxB (dVar 3) (dC (.int 2))) (dC (.int 1)))) (dAc (dAtt ["NoBook", "NoMake", "NoName", "NoNet", "NoOrder", "NoPlan", "NoRow", "NoText", "NoTrial", "NoTruth", "NothingTold", "TooGreat"] "place" (dIxB (dIxB (dVar 3) (dC (.int 3))) (dC (.int 1)))) (dAc (dAtt ["NoBook", "NoMake", "NoName", "NoNet", "NoOrder", "NoPlan", "NoRow", "NoText", "NoTrial", "NoTruth", "NothingTold", "TooGreat"] "many" (dIxB (dIxB (dVar 3) (dC (.int 5))) (dC (.int 1)))) (dAc (dAtt ["NoBook", "NoMake", "NoName", "NoNet", "NoOrder", "NoPlan", "NoRow", "NoText", "NoTrial", "NoTruth", "NothingTold", "TooGreat"] "row" (dIxB (dIxB (dVar 3) (dC (.int 6))) (dC (.int 1)))) dA0))))))))) (bSeq (bRet (dAnd (dCmp kEq (dVar 6) (dOfN (dRepL (dLst (dAc (dFrz (dVar 0)) dA0)) (dC (.int 6))))) (dAnd (dCmp kEq (dAtt ["NoBook", "NoMake", "NoName", "NoNet", "NoOrder", "NoPlan", "NoRow", "NoText", "NoTrial", "NoTruth", "NothingTold", "TooGreat"] "rows" (dIxB (dIxB (dVar 3) (dC (.int 4))) (dC (.int 1)))) (dVar 2)) (dCmp kEq (dAtt ["NoBook", "NoMake", "NoName", "NoNet", "NoOrder", "NoPlan", "NoRow", "NoText", "NoTrial", "NoTruth", "NothingTold", "TooGreat"] "name" (dIxB (dIxB (dVar 3) (dC (.int 7))) (dC (.int 1)))) (dVar 1))))) bNil)))))
def u_qone_field : List Ar → R (Rs × List Sl) := runB 7 3 b_qone_field
theorem sc_qone_field : FnScope ["_law_number_here", "_law_text_here", "_law_rows_here", "_law_made", "_law_place", "_law_e", "_law_borne"] ["_law_number_here", "_law_text_here", "_law_rows_here"] (defScope (top 23)) := ⟨rfl, rfl, rfl, by decide +kernel, rfl, by decide +kernel, by decide +kernel⟩
theorem fo_qone_field {P : Program} {w : World} {K : PySem.W.Frag} {mg : Str → Option Value} {base : Heap} (E : Env K mg) {f : Addr} {fd : FuncData} (F : FunD K "_law_one_field" "_law_one_field" (defArgs (top 23)) (defBody (top 23)) (defScope (top 23)) [] [] f fd) : FnOk P w K mg base (L2N.CX P w) (2 + 1) f fd ["_law_number_here", "_law_text_here", "_law_rows_here"] (spU K mg u_qone_field) := by
  refine fn_u (N := ["_law_number_here", "_law_text_here", "_law_rows_here", "_law_made", "_law_place", "_law_e", "_law_borne"]) (ps := ["_law_number_here", "_law_text_here", "_law_rows_here"]) (k := 2) F sc_qone_field (b := b_qone_field) (by decide) fun X W h => ?_
  have C := h.cf
  have c_qown := (ok_qown (P := P) (w := w) (base := base) E).u h (by omega)
  have hX : XAll X.K X.mg ["NoBook", "NoMake", "NoName", "NoNet", "NoOrder", "NoPlan", "NoRow", "NoText", "NoTrial", "NoTruth", "NothingTold", "TooGreat"] ["HuntError", "NoBook", "NoMake", "NoName", "NoNet", "NoOrder", "NoPlan", "NoRow", "NoText", "NoTrial", "NoTruth", "NothingTold", "TooGreat", "ValueError"] ["HuntError", "NoBook"] ["make", "many", "name", "path", "place", "row", "rows", "word"] := by rw [h.K, h.mg]; exact E.x_all
  have m_NoNet := xm_NoNet E h (by omega)
  have m_NoOrder := xm_NoOrder E h (by omega)
  have m_NoMake := xm_NoMake E h (by omega)
  have m_NoTrial := xm_NoTrial E h (by omega)
  have m_NoTruth := xm_NoTruth E h (by omega)
  have m_TooGreat := xm_TooGreat E h (by omega)
  have m_NoText := xm_NoText E h (by omega)
  have m_NoName := xm_NoName E h (by omega)
  have z_NothingTold : Exc0 X.K "NothingTold" := by rw [h.K]; exact E.z_NothingTold
  have z_NoRow : Exc0 X.K "NoRow" := by rw [h.K]; exact E.z_NoRow
  have n0 : (["_law_number_here", "_law_text_here", "_law_rows_here", "_law_made", "_law_place", "_law_e", "_law_borne"] : List Str)[0]? = some ("_law_number_here" : Str) := rfl
  have v0 : visB (defScope (top 23)) "_law_number_here" = true := by decide +kernel
  have s0 : Sto X (defScope (top 23)) "_law_number_here" := sto_c h.fn (by decide +kernel)
  have n1 : (["_law_number_here", "_law_text_here", "_law_rows_here", "_law_made", "_law_place", "_law_e", "_law_borne"] : List Str)[1]? = some ("_law_text_here" : Str) := rfl
  have v1 : visB (defScope (top 23)) "_law_text_here" = true := by decide +kernel
  have s1 : Sto X (defScope (top 23)) "_law_text_here" := sto_c h.fn (by decide +kernel)
  have n2 : (["_law_number_here", "_law_text_here", "_law_rows_here", "_law_made", "_law_place", "_law_e", "_law_borne"] : List Str)[2]? = some ("_law_rows_here" : Str) := rfl
  have v2 : visB (defScope (top 23)) "_law_rows_here" = true := by decide +kernel
  have s2 : Sto X (defScope (top 23)) "_law_rows_here" := sto_c h.fn (by decide +kernel)
  have n3 : (["_law_number_here", "_law_text_here", "_law_rows_here", "_law_made", "_law_place", "_law_e", "_law_borne"] : List Str)[3]? = some ("_law_made" : Str) := rfl
  have v3 : visB (defScope (top 23)) "_law_made" = true := by decide +kernel
  have s3 : Sto X (defScope (top 23)) "_law_made" := sto_c h.fn (by decide +kernel)
  have n4 : (["_law_number_here", "_law_text_here", "_law_rows_here", "_law_made", "_law_place", "_law_e", "_law_borne"] : List Str)[4]? = some ("_law_place" : Str) := rfl
  have v4 : visB (defScope (top 23)) "_law_place" = true := by decide +kernel
  have s4 : Sto X (defScope (top 23)) "_law_place" := sto_c h.fn (by decide +kernel)
  have n5 : (["_law_number_here", "_law_text_here", "_law_rows_here", "_law_made", "_law_place", "_law_e", "_law_borne"] : List Str)[5]? = some ("_law_e" : Str) := rfl
  have v5 : visB (defScope (top 23)) "_law_e" = true := by decide +kernel
  have s5 : Sto X (defScope (top 23)) "_law_e" := sto_c h.fn (by decide +kernel)
  have n6 : (["_law_number_here", "_law_text_here", "_law_rows_here", "_law_made", "_law_place", "_law_e", "_law_borne"] : List Str)[6]? = some ("_law_borne" : Str) := rfl
  have v6 : visB (defScope (top 23)) "_law_borne" = true := by decide +kernel
  have s6 : Sto X (defScope (top 23)) "_law_borne" := sto_c h.fn (by decide +kernel)
  unfold b_qone_field
  exact (cs_cons (c1_set C.toCf0 3 n3 s3 (ce_ofN (cn_lst (ca_cons (ce_tup (ca_cons ce_int (ca_cons (ce_mkX C.toCf0 hX m_NoNet (by decide +kernel) (by decide +kernel) (ca_cons (ce_frz (ce_var C.toCf0 0 n0 (by decide +kernel))) ca_nil)) ca_nil))) (ca_cons (ce_tup (ca_cons ce_int (ca_cons (ce_mkX C.toCf0 hX m_NoOrder (by decide +kernel) (by decide +kernel) (ca_cons (ce_frz (ce_var C.toCf0 0 n0 (by decide +kernel))) ca_nil)) ca_nil))) (ca_cons (ce_tup (ca_cons ce_int (ca_cons (ce_mkX C.toCf0 hX m_NoMake (by decide +kernel) (by decide +kernel) (ca_cons (ce_frz (ce_var C.toCf0 0 n0 (by decide +kernel))) ca_nil)) ca_nil))) (ca_cons (ce_tup (ca_cons ce_int (ca_cons (ce_mkX C.toCf0 hX m_NoTrial (by decide +kernel) (by decide +kernel) (ca_cons (ce_frz (ce_var C.toCf0 0 n0 (by decide +kernel))) ca_nil)) ca_nil))) (ca_cons (ce_tup (ca_cons ce_int (ca_cons (ce_mkX C.toCf0 hX m_NoTruth (by decide +kernel) (by decide +kernel) (ca_cons (ce_frz (ce_var C.toCf0 2 n2 (by decide +kernel))) ca_nil)) ca_nil))) ca_nil)))))))) (cs_cons (c1_set C.toCf0 3 n3 s3 (ce_ofN (cn_cat (ce_var C.toCf0 3 n3 (by decide +kernel)) (ce_ofN (cn_lst (ca_cons (ce_tup (ca_cons ce_int (ca_cons (ce_mkX C.toCf0 hX m_TooGreat (by decide +kernel) (by decide +kernel) (ca_cons (ce_frz (ce_var C.toCf0 0 n0 (by decide +kernel))) ca_nil)) ca_nil))) (ca_cons (ce_tup (ca_cons ce_int (ca_cons (ce_mkX C.toCf0 hX m_NoText (by decide +kernel) (by decide +kernel) (ca_cons (ce_frz (ce_var C.toCf0 0 n0 (by decide +kernel))) ca_nil)) ca_nil))) (ca_cons (ce_tup (ca_cons ce_int (ca_cons (ce_mkX C.toCf0 hX m_NoName (by decide +kernel) (by decide +kernel) (ca_cons (ce_frz (ce_var C.toCf0 1 n1 (by decide +kernel))) ca_nil)) ca_nil))) (ca_cons (ce_tup (ca_cons ce_int (ca_cons (ce_mkX0 C.toCf0 hX z_NothingTold (by decide +kernel) (by decide +kernel)) ca_nil))) (ca_cons (ce_tup (ca_cons ce_int (ca_cons (ce_mkX0 C.toCf0 hX z_NoRow (by decide +kernel) (by decide +kernel)) ca_nil))) ca_nil)))))))))) (cs_cons (c1_for C [4, 5] (ci_seq (ce_var C.toCf0 3 n3 (by decide +kernel))) (cg_tup2 C (cg_name C.toCf0 4 n4 s4) (cg_name C.toCf0 5 n5 s5)) (cs_cons (c1_if (ct_not (ct_of (ce_x (cx_call C.toCf0 c_qown (by decide +kernel) (fun _ _ => .nil) (ca_cons (ce_var C.toCf0 5 n5 (by decide +kernel)) (ca_cons (ce_var C.toCf0 4 n4 (by decide +kernel)) ca_nil)))))) (cs_cons (c1_ret ce_bool) cs_nil) cs_nil) cs_nil)) (cs_cons (c1_set C.toCf0 6 n6 s6 (ce_ofN (cn_lst (ca_cons (ce_att C.toCf0 hX (n := "make") (by decide +kernel) (ce_ixB C.toCf0 (ce_ixB C.toCf0 (ce_var C.toCf0 3 n3 (by decide +kernel)) ce_int) ce_int)) (ca_cons (ce_att C.toCf0 hX (n := "place") (by decide +kernel) (ce_ixB C.toCf0 (ce_ixB C.toCf0 (ce_var C.toCf0 3 n3 (by decide +kernel)) ce_int) ce_int)) (ca_cons (ce_att C.toCf0 hX (n := "make") (by decide +kernel) (ce_ixB C.toCf0 (ce_ixB C.toCf0 (ce_var C.toCf0 3 n3 (by decide +kernel)) ce_int) ce_int)) (ca_cons (ce_att C.toCf0 hX (n := "place") (by decide +kernel) (ce_ixB C.toCf0 (ce_ixB C.toCf0 (ce_var C.toCf0 3 n3 (by decide +kernel)) ce_int) ce_int)) (ca_cons (ce_att C.toCf0 hX (n := "many") (by decide +kernel) (ce_ixB C.toCf0 (ce_ixB C.toCf0 (ce_var C.toCf0 3 n3 (by decide +kernel)) ce_int) ce_int)) (ca_cons (ce_att C.toCf0 hX (n := "row") (by decide +kernel) (ce_ixB C.toCf0 (ce_ixB C.toCf0 (ce_var C.toCf0 3 n3 (by decide +kernel)) ce_int) ce_int)) ca_nil))))))))) (cs_cons (c1_ret (ce_and (ce_eq C.toCf0 (ce_var C.toCf0 6 n6 (by decide +kernel)) (ce_ofN (cn_repL (cn_lst (ca_cons (ce_frz (ce_var C.toCf0 0 n0 (by decide +kernel))) ca_nil)) ce_int))) (ce_and (ce_eq C.toCf0 (ce_att C.toCf0 hX (n := "rows") (by decide +kernel) (ce_ixB C.toCf0 (ce_ixB C.toCf0 (ce_var C.toCf0 3 n3 (by decide +kernel)) ce_int) ce_int)) (ce_var C.toCf0 2 n2 (by decide +kernel))) (ce_one (ce_eq C.toCf0 (ce_att C.toCf0 hX (n := "name") (by decide +kernel) (ce_ixB C.toCf0 (ce_ixB C.toCf0 (ce_var C.toCf0 3 n3 (by decide +kernel)) ce_int) ce_int)) (ce_var C.toCf0 1 n1 (by decide +kernel))))))) cs_nil)))))
theorem ok_qone_field {P : Program} {w : World} {K : PySem.W.Frag} {mg : Str → Option Value} {base : Heap} (E : Env K mg) : Gv P w K mg base (2 + 1) "_law_one_field" [] (spU K mg u_qone_field) := by
  obtain ⟨f, fd, F, hmg⟩ := E.d_qone_field
  exact Gv.of F hmg (fo_qone_field E F) (F.bindsN fun _ _ _ _ _ _ us hl => match us, hl with | [_, _, _], _ => rfl) .nil
theorem xm_NoPlan {P : Program} {w : World} {K : PySem.W.Frag} {mg : Str → Option Value} {base : Heap} (E : Env K mg) {X : Cx} {W : WX} {sc : Scope} {N : List Str} {k : Nat} (h : Here X W P w K mg base sc N k) (hk : 2 ≤ k) : XMk X "NoPlan" ["path", "word"] := by
  obtain ⟨fd, F⟩ := E.i_NoPlan
  exact xm2 h hk F (F.bindsN fun _ _ _ _ _ _ us hl => match us, hl with | [_, _, _], _ => rfl) E.j_NoPlan E.x_all E.hunt.1 E.hunt.2 (by decide +kernel) (by decide +kernel) (by decide +kernel) ⟨rfl, rfl, rfl, by decide +kernel, rfl, by decide +kernel, by decide +kernel⟩ ⟨_, _, _, _, _, _, _, _, _, _, _, _, _, _, _, _, rfl, fun env => ⟨_, rfl⟩⟩ (by decide +kernel) (by decide +kernel) (by decide +kernel) (by decide +kernel)
theorem xm_NoBook {P : Program} {w : World} {K : PySem.W.Frag} {mg : Str → Option Value} {base : Heap} (E : Env K mg) {X : Cx} {W : WX} {sc : Scope} {N : List Str} {k : Nat} (h : Here X W P w K mg base sc N k) (hk : 2 ≤ k) : XMk X "NoBook" ["word", "place"] := by
  obtain ⟨fd, F⟩ := E.i_NoBook
  exact xm2 h hk F (F.bindsN fun _ _ _ _ _ _ us hl => match us, hl with | [_, _, _], _ => rfl) E.j_NoBook E.x_all E.hunt.1 E.hunt.2 (by decide +kernel) (by decide +kernel) (by decide +kernel) ⟨rfl, rfl, rfl, by decide +kernel, rfl, by decide +kernel, by decide +kernel⟩ ⟨_, _, _, _, _, _, _, _, _, _, _, _, _, _, _, _, rfl, fun env => ⟨_, rfl⟩⟩ (by decide +kernel) (by decide +kernel) (by decide +kernel) (by decide +kernel)
def b_qtwo_fields : DS := (bSeq (bSet 3 (dMkX "NoPlan" ["path", "word"] (dAc (dFrz (dVar 2)) (dAc (dFrz (dVar 1)) dA0)))) (bSeq (bSet 4 (dMkX "NoPlan" ["path", "word"] (dAc (dAdd (dVar 2) (dTup (dAc (dC (.str "bad")) dA0))) (dAc (dAdd (dVar 1) (dC (.str "x"))) dA0)))) (bSeq (bSet 5 (dMkX "NoBook" ["word", "place"] (dAc (dFrz (dVar 1)) (dAc (dFrz (dVar 0)) dA0)))) (bSeq (bIf (dTor (dTnot (dTst (eX (xCall u_qown [] (dAc (dVar 3) (dAc (dC (.int 5)) dA0)))))) (dTor (dTnot (dTst (eX (xCall u_qown [] (dAc (dVar 4) (dAc (dC (.int 5)) dA0)))))) (dTnot (dTst (eX (xCall u_qown [] (dAc (dVar 5) (dAc (dC (.int 6)) dA0)))))))) (bSeq (bRet (dC (.bool false))) bNil) bNil) (bSeq (bIf (dTor (dTst (dCmp kNe (dTup (dAc (dAtt ["NoBook", "NoMake", "NoName", "NoNet", "NoOrder", "NoPlan", "NoRow", "NoText", "NoTrial", "NoTruth", "NothingTold", "TooGreat"] "path" (dVar 3)) (dAc (dAtt ["NoBook", "NoMake", "NoName", "NoNet", "NoOrder", "NoPlan", "NoRow", "NoText", "NoTrial", "NoTruth", "NothingTold", "TooGreat"] "word" (dVar 3)) dA0))) (dTup (dAc (dFrz (dVar 2)) (dAc (dFrz (dVar 1)) dA0))))) (dTst (dCmp kNe (dTup (dAc (dAtt ["NoBook", "NoMake", "NoName", "NoNet", "NoOrder", "NoPlan", "NoRow", "NoText", "NoTrial", "NoTruth", "NothingTold", "TooGreat"] "path" (dVar 4)) (dAc (dAtt ["NoBook", "NoMake", "NoName", "NoNet", "NoOrder", "NoPlan", "NoRow", "NoText", "NoTrial", "NoTruth", "NothingTold", "TooGreat"] "word" (dVar 4)) dA0))) (dTup (dAc (dAdd (dVar 2) (dTup (dAc (dC (.str "bad")) dA0))) (dAc (dAdd (dVar 1) (dC (.str "x"))) dA0)))))) (bSeq (bRet (dC (.bool false))) bNil) bNil) (bSeq (bRet (dCmp kEq (dTup (dAc (dAtt ["NoBook", "NoMake", "NoName", "NoNet", "NoOrder", "NoPlan", "NoRow", "NoText", "NoTrial", "NoTruth", "NothingTold", "TooGreat"] "word" (dVar 5)) (dAc (dAtt ["NoBook", "NoMake", "NoName", "NoNet", "NoOrder", "NoPlan", "NoRow", "NoText", "NoTrial", "NoTruth", "NothingTold", "TooGreat"] "place" (dVar 5)) dA0))) (dTup (dAc (dFrz (dVar 1)) (dAc (dFrz (dVar 0)) dA0))))) bNil))))))
def u_qtwo_fields : List Ar → R (Rs × List Sl) := runB 6 3 b_qtwo_fields
theorem sc_qtwo_fields : FnScope ["_law_number_here", "_law_text_here", "_law_path_here", "_law_one", "_law_other", "_law_book"] ["_law_number_here", "_law_text_here", "_law_path_here"] (defScope (top 24)) := ⟨rfl, rfl, rfl, by decide +kernel, rfl, by decide +kernel, by decide +kernel⟩
theorem fo_qtwo_fields {P : Program} {w : World} {K : PySem.W.Frag} {mg : Str → Option Value} {base : Heap} (E : Env K mg) {f : Addr} {fd : FuncData} (F : FunD K "_law_two_fields" "_law_two_fields" (defArgs (top 24)) (defBody (top 24)) (defScope (top 24)) [] [] f fd) : FnOk P w K mg base (L2N.CX P w) (2 + 1) f fd ["_law_number_here", "_law_text_here", "_law_path_here"] (spU K mg u_qtwo_fields) := by
  refine fn_u (N := ["_law_number_here", "_law_text_here", "_law_path_here", "_law_one", "_law_other", "_law_book"]) (ps := ["_law_number_here", "_law_text_here", "_law_path_here"]) (k := 2) F sc_qtwo_fields (b := b_qtwo_fields) (by decide) fun X W h => ?_
  have C := h.cf
  have c_qown := (ok_qown (P := P) (w := w) (base := base) E).u h (by omega)
  have hX : XAll X.K X.mg ["NoBook", "NoMake", "NoName", "NoNet", "NoOrder", "NoPlan", "NoRow", "NoText", "NoTrial", "NoTruth", "NothingTold", "TooGreat"] ["HuntError", "NoBook", "NoMake", "NoName", "NoNet", "NoOrder", "NoPlan", "NoRow", "NoText", "NoTrial", "NoTruth", "NothingTold", "TooGreat", "ValueError"] ["HuntError", "NoBook"] ["make", "many", "name", "path", "place", "row", "rows", "word"] := by rw [h.K, h.mg]; exact E.x_all
  have m_NoPlan := xm_NoPlan E h (by omega)
  have m_NoBook := xm_NoBook E h (by omega)
  have n0 : (["_law_number_here", "_law_text_here", "_law_path_here", "_law_one", "_law_other", "_law_book"] : List Str)[0]? = some ("_law_number_here" : Str) := rfl
  have v0 : visB (defScope (top 24)) "_law_number_here" = true := by decide +kernel
  have s0 : Sto X (defScope (top 24)) "_law_number_here" := sto_c h.fn (by decide +kernel)
  have n1 : (["_law_number_here", "_law_text_here", "_law_path_here", "_law_one", "_law_other", "_law_book"] : List Str)[1]? = some ("_law_text_here" : Str) := rfl
  have v1 : visB (defScope (top 24)) "_law_text_here" = true := by decide +kernel
  have s1 : Sto X (defScope (top 24)) "_law_text_here" := sto_c h.fn (by decide +kernel)
  have n2 : (["_law_number_here", "_law_text_here", "_law_path_here", "_law_one", "_law_other", "_law_book"] : List Str)[2]? = some ("_law_path_here" : Str) := rfl
  have v2 : visB (defScope (top 24)) "_law_path_here" = true := by decide +kernel
  have s2 : Sto X (defScope (top 24)) "_law_path_here" := sto_c h.fn (by decide +kernel)
  have n3 : (["_law_number_here", "_law_text_here", "_law_path_here", "_law_one", "_law_other", "_law_book"] : List Str)[3]? = some ("_law_one" : Str) := rfl
  have v3 : visB (defScope (top 24)) "_law_one" = true := by decide +kernel
  have s3 : Sto X (defScope (top 24)) "_law_one" := sto_c h.fn (by decide +kernel)
  have n4 : (["_law_number_here", "_law_text_here", "_law_path_here", "_law_one", "_law_other", "_law_book"] : List Str)[4]? = some ("_law_other" : Str) := rfl
  have v4 : visB (defScope (top 24)) "_law_other" = true := by decide +kernel
  have s4 : Sto X (defScope (top 24)) "_law_other" := sto_c h.fn (by decide +kernel)
  have n5 : (["_law_number_here", "_law_text_here", "_law_path_here", "_law_one", "_law_other", "_law_book"] : List Str)[5]? = some ("_law_book" : Str) := rfl
  have v5 : visB (defScope (top 24)) "_law_book" = true := by decide +kernel
  have s5 : Sto X (defScope (top 24)) "_law_book" := sto_c h.fn (by decide +kernel)
  unfold b_qtwo_fields
  exact (cs_cons (c1_set C.toCf0 3 n3 s3 (ce_mkX C.toCf0 hX m_NoPlan (by decide +kernel) (by decide +kernel) (ca_cons (ce_frz (ce_var C.toCf0 2 n2 (by decide +kernel))) (ca_cons (ce_frz (ce_var C.toCf0 1 n1 (by decide +kernel))) ca_nil)))) (cs_cons (c1_set C.toCf0 4 n4 s4 (ce_mkX C.toCf0 hX m_NoPlan (by decide +kernel) (by decide +kernel) (ca_cons (ce_add (ce_var C.toCf0 2 n2 (by decide +kernel)) (ce_tup (ca_cons ce_str ca_nil))) (ca_cons (ce_add (ce_var C.toCf0 1 n1 (by decide +kernel)) ce_str) ca_nil)))) (cs_cons (c1_set C.toCf0 5 n5 s5 (ce_mkX C.toCf0 hX m_NoBook (by decide +kernel) (by decide +kernel) (ca_cons (ce_frz (ce_var C.toCf0 1 n1 (by decide +kernel))) (ca_cons (ce_frz (ce_var C.toCf0 0 n0 (by decide +kernel))) ca_nil)))) (cs_cons (c1_if (ct_w (cw_or (ct_not (ct_of (ce_x (cx_call C.toCf0 c_qown (by decide +kernel) (fun _ _ => .nil) (ca_cons (ce_var C.toCf0 3 n3 (by decide +kernel)) (ca_cons ce_int ca_nil)))))) (cw_or (ct_not (ct_of (ce_x (cx_call C.toCf0 c_qown (by decide +kernel) (fun _ _ => .nil) (ca_cons (ce_var C.toCf0 4 n4 (by decide +kernel)) (ca_cons ce_int ca_nil)))))) (cw_or1 (ct_not (ct_of (ce_x (cx_call C.toCf0 c_qown (by decide +kernel) (fun _ _ => .nil) (ca_cons (ce_var C.toCf0 5 n5 (by decide +kernel)) (ca_cons ce_int ca_nil)))))))))) (cs_cons (c1_ret ce_bool) cs_nil) cs_nil) (cs_cons (c1_if (ct_w (cw_or (ct_cmp (ce_ne C.toCf0 (ce_tup (ca_cons (ce_att C.toCf0 hX (n := "path") (by decide +kernel) (ce_var C.toCf0 3 n3 (by decide +kernel))) (ca_cons (ce_att C.toCf0 hX (n := "word") (by decide +kernel) (ce_var C.toCf0 3 n3 (by decide +kernel))) ca_nil))) (ce_tup (ca_cons (ce_frz (ce_var C.toCf0 2 n2 (by decide +kernel))) (ca_cons (ce_frz (ce_var C.toCf0 1 n1 (by decide +kernel))) ca_nil))))) (cw_or1 (ct_cmp (ce_ne C.toCf0 (ce_tup (ca_cons (ce_att C.toCf0 hX (n := "path") (by decide +kernel) (ce_var C.toCf0 4 n4 (by decide +kernel))) (ca_cons (ce_att C.toCf0 hX (n := "word") (by decide +kernel) (ce_var C.toCf0 4 n4 (by decide +kernel))) ca_nil))) (ce_tup (ca_cons (ce_add (ce_var C.toCf0 2 n2 (by decide +kernel)) (ce_tup (ca_cons ce_str ca_nil))) (ca_cons (ce_add (ce_var C.toCf0 1 n1 (by decide +kernel)) ce_str) ca_nil)))))))) (cs_cons (c1_ret ce_bool) cs_nil) cs_nil) (cs_cons (c1_ret (ce_eq C.toCf0 (ce_tup (ca_cons (ce_att C.toCf0 hX (n := "word") (by decide +kernel) (ce_var C.toCf0 5 n5 (by decide +kernel))) (ca_cons (ce_att C.toCf0 hX (n := "place") (by decide +kernel) (ce_var C.toCf0 5 n5 (by decide +kernel))) ca_nil))) (ce_tup (ca_cons (ce_frz (ce_var C.toCf0 1 n1 (by decide +kernel))) (ca_cons (ce_frz (ce_var C.toCf0 0 n0 (by decide +kernel))) ca_nil))))) cs_nil))))))
theorem ok_qtwo_fields {P : Program} {w : World} {K : PySem.W.Frag} {mg : Str → Option Value} {base : Heap} (E : Env K mg) : Gv P w K mg base (2 + 1) "_law_two_fields" [] (spU K mg u_qtwo_fields) := by
  obtain ⟨f, fd, F, hmg⟩ := E.d_qtwo_fields
  exact Gv.of F hmg (fo_qtwo_fields E F) (F.bindsN fun _ _ _ _ _ _ us hl => match us, hl with | [_, _, _], _ => rfl) .nil
def b_qpath : DS := (bSeq (bRet (dB kTuple (dAc (dOfN (nComp [1] (gN 1) (iRange1 (eX (xCallC uTake 0 [] (dAc (dVar 0) (dAc (dC (.int 7)) dA0))))) tYes (dFrz (dIxB (dOfN (dLst (dAc (dC (.str "bad")) (dAc (dC (.str "good")) dA0)))) (eX (xCallC uTake 0 [] (dAc (dVar 0) (dAc (dC (.int 2)) dA0)))))))) dA0))) bNil)
def u_qpath : List Ar → R (Rs × List Sl) := runB 2 1 b_qpath
theorem sc_qpath : FnScope ["_law_feed_here", "_law_k"] ["_law_feed_here"] (defScope (top 20)) := ⟨rfl, rfl, rfl, by decide +kernel, rfl, by decide +kernel, by decide +kernel⟩
theorem fo_qpath {P : Program} {w : World} {K : PySem.W.Frag} {mg : Str → Option Value} {base : Heap} (E : Env K mg) {f : Addr} {fd : FuncData} (F : FunD K "_law_path" "_law_path" (defArgs (top 20)) (defBody (top 20)) (defScope (top 20)) [] [] f fd) : FnOk P w K mg base (L2N.CX P w) (1 + 1) f fd ["_law_feed_here"] (spU K mg u_qpath) := by
  refine fn_u (N := ["_law_feed_here", "_law_k"]) (ps := ["_law_feed_here"]) (k := 1) F sc_qpath (b := b_qpath) (by decide) fun X W h => ?_
  have C := h.cf
  have hb_tuple : X.mg "tuple" = none := by rw [h.mg]; exact E.b_tuple
  have hb_range : X.mg "range" = none := by rw [h.mg]; exact E.b_range
  have c_qtake := (ok_qtake (P := P) (w := w) (base := base) E).u h (by omega)
  have n0 : (["_law_feed_here", "_law_k"] : List Str)[0]? = some ("_law_feed_here" : Str) := rfl
  have v0 : visB (defScope (top 20)) "_law_feed_here" = true := by decide +kernel
  have s0 : Sto X (defScope (top 20)) "_law_feed_here" := sto_c h.fn (by decide +kernel)
  have n1 : (["_law_feed_here", "_law_k"] : List Str)[1]? = some ("_law_k" : Str) := rfl
  unfold b_qpath
  exact (cs_cons (c1_ret (ce_tuple C.toCf0 (by decide +kernel) hb_tuple (ca_cons (ce_ofN (cn_comp C (CompU.mk (own := [("_law_k", 1)]) (ci_range1 C.toCf0 (by decide +kernel) hb_range (ce_x (cx_callC C.toCf0 0 c_qtake (by decide +kernel) (fun _ _ => .nil) (ca_cons (ce_var C.toCf0 0 n0 (by decide +kernel)) (ca_cons ce_int ca_nil))))) (by decide +kernel) (fun _ _ _ _ _ => (cg_name (Cf.blk C).toCf0 1 n1 (sto_l (by decide +kernel)))) (fun _ _ _ _ _ => cts_nil) (fun _ _ _ _ _ => (ce_frz (ce_ixB (Cf.blk C).toCf0 (ce_ofN (cn_lst (ca_cons ce_str (ca_cons ce_str ca_nil)))) (ce_x (cx_callC (Cf.blk C).toCf0 0 c_qtake.blk (by decide +kernel) (fun _ _ => .nil) (ca_cons (ce_var (Cf.blk C).toCf0 0 n0 (by decide +kernel)) (ca_cons ce_int ca_nil))))))) (by decide) (fun _ => rfl)))) ca_nil))) cs_nil)
theorem ok_qpath {P : Program} {w : World} {K : PySem.W.Frag} {mg : Str → Option Value} {base : Heap} (E : Env K mg) : Gv P w K mg base (1 + 1) "_law_path" [] (spU K mg u_qpath) := by
  obtain ⟨f, fd, F, hmg⟩ := E.d_qpath
  exact Gv.of F hmg (fo_qpath E F) (F.bindsN fun _ _ _ _ _ _ us hl => match us, hl with | [_], _ => rfl) .nil
theorem foq_qkinds {P : Program} {w : World} {K : PySem.W.Frag} {mg : Str → Option Value} {base : Heap} (E : Env K mg) {f : Addr} {fd : FuncData} (F : FunD K "_law_kinds" "_law_kinds" (defArgs (top 21)) (defBody (top 21)) (defScope (top 21)) [] [] f fd) : FnQ P w K mg base (0 + 1) f fd ["_law_e"] (spU K mg u_qkinds) := by
  refine fn_uQ (N := ["_law_e", "_law_kinds_here"]) (ps := ["_law_e"]) (k := 0) F sc_qkinds (b := b_qkinds) (by decide) fun X W h => ?_
  have C := h.cf
  have hb_isinstance : X.mg "isinstance" = none := by rw [h.mg]; exact E.b_isinstance
  have hX : XAll X.K X.mg ["NoBook", "NoMake", "NoName", "NoNet", "NoOrder", "NoPlan", "NoRow", "NoText", "NoTrial", "NoTruth", "NothingTold", "TooGreat"] ["HuntError", "NoBook", "NoMake", "NoName", "NoNet", "NoOrder", "NoPlan", "NoRow", "NoText", "NoTrial", "NoTruth", "NothingTold", "TooGreat", "ValueError"] ["HuntError", "NoBook"] ["make", "many", "name", "path", "place", "row", "rows", "word"] := by rw [h.K, h.mg]; exact E.x_all
  have n0 : (["_law_e", "_law_kinds_here"] : List Str)[0]? = some ("_law_e" : Str) := rfl
  have v0 : visB (defScope (top 21)) "_law_e" = true := by decide +kernel
  have s0 : Sto X (defScope (top 21)) "_law_e" := sto_c h.fn (by decide +kernel)
  have n1 : (["_law_e", "_law_kinds_here"] : List Str)[1]? = some ("_law_kinds_here" : Str) := rfl
  have v1 : visB (defScope (top 21)) "_law_kinds_here" = true := by decide +kernel
  have s1 : Sto X (defScope (top 21)) "_law_kinds_here" := sto_c h.fn (by decide +kernel)
  unfold b_qkinds
  exact (cs_cons (c1_set C 1 n1 s1 (ce_ofN (cn_lst (ca_cons (ce_isx C hX "NoNet" (by decide +kernel) hb_isinstance (by decide +kernel) (by decide +kernel) (fun z => absurd z (by decide +kernel)) (ce_var C 0 n0 (by decide +kernel))) (ca_cons (ce_isx C hX "NoOrder" (by decide +kernel) hb_isinstance (by decide +kernel) (by decide +kernel) (fun z => absurd z (by decide +kernel)) (ce_var C 0 n0 (by decide +kernel))) (ca_cons (ce_isx C hX "NoMake" (by decide +kernel) hb_isinstance (by decide +kernel) (by decide +kernel) (fun z => absurd z (by decide +kernel)) (ce_var C 0 n0 (by decide +kernel))) (ca_cons (ce_isx C hX "NoTrial" (by decide +kernel) hb_isinstance (by decide +kernel) (by decide +kernel) (fun z => absurd z (by decide +kernel)) (ce_var C 0 n0 (by decide +kernel))) ca_nil))))))) (cs_cons (c1_set C 1 n1 s1 (ce_ofN (cn_cat (ce_var C 1 n1 (by decide +kernel)) (ce_ofN (cn_lst (ca_cons (ce_isx C hX "NoTruth" (by decide +kernel) hb_isinstance (by decide +kernel) (by decide +kernel) (fun z => absurd z (by decide +kernel)) (ce_var C 0 n0 (by decide +kernel))) (ca_cons (ce_isx C hX "NoPlan" (by decide +kernel) hb_isinstance (by decide +kernel) (by decide +kernel) (fun z => absurd z (by decide +kernel)) (ce_var C 0 n0 (by decide +kernel))) (ca_cons (ce_isx C hX "NoBook" (by decide +kernel) hb_isinstance (by decide +kernel) (by decide +kernel) (fun z => absurd z (by decide +kernel)) (ce_var C 0 n0 (by decide +kernel))) (ca_cons (ce_isx C hX "TooGreat" (by decide +kernel) hb_isinstance (by decide +kernel) (by decide +kernel) (fun z => absurd z (by decide +kernel)) (ce_var C 0 n0 (by decide +kernel))) ca_nil))))))))) (cs_cons (c1_set C 1 n1 s1 (ce_ofN (cn_cat (ce_var C 1 n1 (by decide +kernel)) (ce_ofN (cn_lst (ca_cons (ce_isx C hX "NoText" (by decide +kernel) hb_isinstance (by decide +kernel) (by decide +kernel) (fun z => absurd z (by decide +kernel)) (ce_var C 0 n0 (by decide +kernel))) (ca_cons (ce_isx C hX "NoName" (by decide +kernel) hb_isinstance (by decide +kernel) (by decide +kernel) (fun z => absurd z (by decide +kernel)) (ce_var C 0 n0 (by decide +kernel))) (ca_cons (ce_isx C hX "NothingTold" (by decide +kernel) hb_isinstance (by decide +kernel) (by decide +kernel) (fun z => absurd z (by decide +kernel)) (ce_var C 0 n0 (by decide +kernel))) (ca_cons (ce_isx C hX "NoRow" (by decide +kernel) hb_isinstance (by decide +kernel) (by decide +kernel) (fun z => absurd z (by decide +kernel)) (ce_var C 0 n0 (by decide +kernel))) ca_nil))))))))) (cs_cons (c1_ret (ce_var C 1 n1 (by decide +kernel))) cs_nil))))
theorem okq_qkinds {P : Program} {w : World} {K : PySem.W.Frag} {mg : Str → Option Value} {base : Heap} (E : Env K mg) : GvQ P w K mg base (0 + 1) "_law_kinds" [] (spU K mg u_qkinds) := by
  obtain ⟨f, fd, F, hmg⟩ := E.d_qkinds
  exact ⟨f, fd, _, [], foq_qkinds E F, hmg, F.kp, F.bindsN fun _ _ _ _ _ _ us hl => match us, hl with | [_], _ => rfl, .nil⟩
theorem fot_qown {P : Program} {w : World} {K : PySem.W.Frag} {mg : Str → Option Value} {base : Heap} (E : Env K mg) {f : Addr} {fd : FuncData} (F : FunD K "_law_own" "_law_own" (defArgs (top 22)) (defBody (top 22)) (defScope (top 22)) [] [] f fd) : FnT P w K mg base (1 + 1) f fd ["_law_e", "_law_place"] (fun a => spUT K mg a u_qown) := by
  refine fn_uT (N := ["_law_e", "_law_place", "_law_k"]) (ps := ["_law_e", "_law_place"]) (k := 1) F sc_qown (b := b_qown) (by decide) fun X W xa h hd => ?_
  have C := h.cf
  have hb_isinstance : X.mg "isinstance" = none := by rw [h.mg]; exact E.b_isinstance
  have hb_ValueError : X.mg "ValueError" = none := by rw [h.mg]; exact E.b_ValueError
  have hb_range : X.mg "range" = none := by rw [h.mg]; exact E.b_range
  have hX : XAll X.K X.mg ["NoBook", "NoMake", "NoName", "NoNet", "NoOrder", "NoPlan", "NoRow", "NoText", "NoTrial", "NoTruth", "NothingTold", "TooGreat"] ["HuntError", "NoBook", "NoMake", "NoName", "NoNet", "NoOrder", "NoPlan", "NoRow", "NoText", "NoTrial", "NoTruth", "NothingTold", "TooGreat", "ValueError"] ["HuntError", "NoBook"] ["make", "many", "name", "path", "place", "row", "rows", "word"] := by rw [h.K, h.mg]; exact E.x_all
  have q_qkinds := (okq_qkinds (P := P) (w := w) (base := base) E).uq h (by omega)
  have n0 : (["_law_e", "_law_place", "_law_k"] : List Str)[0]? = some ("_law_e" : Str) := rfl
  have v0 : visB (defScope (top 22)) "_law_e" = true := by decide +kernel
  have s0 : Sto X (defScope (top 22)) "_law_e" := sto_c h.fn (by decide +kernel)
  have n1 : (["_law_e", "_law_place", "_law_k"] : List Str)[1]? = some ("_law_place" : Str) := rfl
  have v1 : visB (defScope (top 22)) "_law_place" = true := by decide +kernel
  have s1 : Sto X (defScope (top 22)) "_law_place" := sto_c h.fn (by decide +kernel)
  have n2 : (["_law_e", "_law_place", "_law_k"] : List Str)[2]? = some ("_law_k" : Str) := rfl
  unfold b_qown
  exact (cs_consP2 (c1_if (ct_w (cw_or (ct_not (ct_of (ce_isx C hX "HuntError" (by decide +kernel) hb_isinstance (by decide +kernel) (by decide +kernel) (fun z => absurd z (by decide +kernel)) (ce_var C 0 n0 (by decide +kernel))))) (cw_or1 (ct_not (ct_of (ce_isx C hX "ValueError" (by decide +kernel) hb_isinstance (by decide +kernel) (by decide +kernel) (fun _ => hb_ValueError) (ce_var C 0 n0 (by decide +kernel)))))))) (cs_cons (c1_ret ce_bool) cs_nil) cs_nil) (cs_consP (c1_retP (ce_eqP C (ce_x (cx_callQ C q_qkinds (by decide +kernel) (fun _ _ => .nil) (ca_cons (ce_var C 0 n0 (by decide +kernel)) ca_nil))) (ce_ofNP (cn_compP C hd (CompX.mk (own := [("_law_k", 2)]) (ci_range1P C (by decide +kernel) hb_range ce_int) (by decide +kernel) (fun _ _ _ _ _ => (cg_name (Cf0.blk C) 2 n2 (sto_l (by decide +kernel)))) (fun _ _ _ _ _ => cts_nil) (fun _ _ _ _ _ => (ce_frz (ce_eq (Cf0.blk C) (ce_var (Cf0.blk C) 2 n2 (by decide +kernel)) (ce_var (Cf0.blk C) 1 n1 (by decide +kernel))))) (by decide) (fun _ => rfl)))))) cs_nil))
theorem okt_qown {P : Program} {w : World} {K : PySem.W.Frag} {mg : Str → Option Value} {base : Heap} (E : Env K mg) : GvT P w K mg base (1 + 1) "_law_own" [] (fun a => spUT K mg a u_qown) := by
  obtain ⟨f, fd, F, hmg⟩ := E.d_qown
  exact ⟨f, fd, _, [], fot_qown E F, hmg, F.kp, F.bindsN fun _ _ _ _ _ _ us hl => match us, hl with | [_, _], _ => rfl, .nil⟩
def b_qcaught : DS := (bSeq (bSetX 2 (xC (nL (dLst dA0)))) (bSeq (bTry ["NoBook", "NoMake", "NoName", "NoNet", "NoOrder", "NoPlan", "NoRow", "NoText", "NoTrial", "NoTruth", "NothingTold", "TooGreat"] 3 "HuntError" (bSeq (bRaise "NoMake" ["make"] (dAc (dFrz (dVar 0)) dA0)) bNil) (bSeq (bExpr (dLm 2 qAppend (dAc (dFrz (eX (xCall u_qown [] (dAc (dVar 3) (dAc (dC (.int 2)) dA0))))) dA0))) bNil)) (bSeq (bTry ["NoBook", "NoMake", "NoName", "NoNet", "NoOrder", "NoPlan", "NoRow", "NoText", "NoTrial", "NoTruth", "NothingTold", "TooGreat"] 3 "NoBook" (bSeq (bRaise "NoBook" ["word", "place"] (dAc (dFrz (dVar 1)) (dAc (dFrz (dVar 0)) dA0))) bNil) (bSeq (bExpr (dLm 2 qAppend (dAc (dFrz (dAnd (dCmp kEq (dAtt ["NoBook", "NoMake", "NoName", "NoNet", "NoOrder", "NoPlan", "NoRow", "NoText", "NoTrial", "NoTruth", "NothingTold", "TooGreat"] "word" (dVar 3)) (dVar 1)) (dCmp kEq (dAtt ["NoBook", "NoMake", "NoName", "NoNet", "NoOrder", "NoPlan", "NoRow", "NoText", "NoTrial", "NoTruth", "NothingTold", "TooGreat"] "place" (dVar 3)) (dVar 0)))) dA0))) bNil)) (bSeq (bRet (dCmp kEq (dVar 2) (dOfN (dLst (dAc (dC (.bool true)) (dAc (dC (.bool true)) dA0)))))) bNil))))
def u_qcaught : List Ar → R (Rs × List Sl) := runB 4 2 b_qcaught
theorem sc_qcaught : FnScope ["_law_number_here", "_law_text_here", "_law_found", "_law_e"] ["_law_number_here", "_law_text_here"] (defScope (top 25)) := ⟨rfl, rfl, rfl, by decide +kernel, rfl, by decide +kernel, by decide +kernel⟩
theorem fo_qcaught {P : Program} {w : World} {K : PySem.W.Frag} {mg : Str → Option Value} {base : Heap} (E : Env K mg) {f : Addr} {fd : FuncData} (F : FunD K "_law_caught" "_law_caught" (defArgs (top 25)) (defBody (top 25)) (defScope (top 25)) [] [] f fd) : FnOk P w K mg base (L2N.CX P w) (2 + 1) f fd ["_law_number_here", "_law_text_here"] (spU K mg u_qcaught) := by
  refine fn_u (N := ["_law_number_here", "_law_text_here", "_law_found", "_law_e"]) (ps := ["_law_number_here", "_law_text_here"]) (k := 2) F sc_qcaught (b := b_qcaught) (by decide) fun X W h => ?_
  have C := h.cf
  have hX : XAll X.K X.mg ["NoBook", "NoMake", "NoName", "NoNet", "NoOrder", "NoPlan", "NoRow", "NoText", "NoTrial", "NoTruth", "NothingTold", "TooGreat"] ["HuntError", "NoBook", "NoMake", "NoName", "NoNet", "NoOrder", "NoPlan", "NoRow", "NoText", "NoTrial", "NoTruth", "NothingTold", "TooGreat", "ValueError"] ["HuntError", "NoBook"] ["make", "many", "name", "path", "place", "row", "rows", "word"] := by rw [h.K, h.mg]; exact E.x_all
  have m_NoMake := xm_NoMake E h (by omega)
  have m_NoBook := xm_NoBook E h (by omega)
  have t_qown := (okt_qown (P := P) (w := w) (base := base) E).u h (by omega)
  have n0 : (["_law_number_here", "_law_text_here", "_law_found", "_law_e"] : List Str)[0]? = some ("_law_number_here" : Str) := rfl
  have v0 : visB (defScope (top 25)) "_law_number_here" = true := by decide +kernel
  have s0 : Sto X (defScope (top 25)) "_law_number_here" := sto_c h.fn (by decide +kernel)
  have n1 : (["_law_number_here", "_law_text_here", "_law_found", "_law_e"] : List Str)[1]? = some ("_law_text_here" : Str) := rfl
  have v1 : visB (defScope (top 25)) "_law_text_here" = true := by decide +kernel
  have s1 : Sto X (defScope (top 25)) "_law_text_here" := sto_c h.fn (by decide +kernel)
  have n2 : (["_law_number_here", "_law_text_here", "_law_found", "_law_e"] : List Str)[2]? = some ("_law_found" : Str) := rfl
  have v2 : visB (defScope (top 25)) "_law_found" = true := by decide +kernel
  have s2 : Sto X (defScope (top 25)) "_law_found" := sto_c h.fn (by decide +kernel)
  have n3 : (["_law_number_here", "_law_text_here", "_law_found", "_law_e"] : List Str)[3]? = some ("_law_e" : Str) := rfl
  have v3 : visB (defScope (top 25)) "_law_e" = true := by decide +kernel
  have s3 : Sto X (defScope (top 25)) "_law_e" := sto_c h.fn (by decide +kernel)
  unfold b_qcaught
  exact (cs_cons (c1_setX C.toCf0 2 n2 s2 (cx_c (cc_l (cn_lst ca_nil)))) (cs_cons (c1_tryT C hX 3 h.stk h.frm n3 (by decide +kernel) (by decide +kernel) (by decide +kernel) (fun pn xe W1 C => (cs_cons (c1_raise C hX (xm_NoMake E (h.tr C) (by omega)) (by decide +kernel) (by decide +kernel) (ca_cons (ce_frz (ce_var C.toCf0 0 n0 (by decide +kernel))) ca_nil)) cs_nil)) (fun xa pn C hd => (cs_consP (c1_exprP (ce_appendP C 2 n2 (by decide +kernel) (ce_xP (cx_callT C hd (t_qown.suite xa pn) (by decide +kernel) (fun _ _ => .nil) (ca_cons (ce_var C 3 n3 (by decide +kernel)) (ca_cons ce_int ca_nil)))))) cs_nil))) (cs_cons (c1_try C hX 3 h.stk h.frm n3 (by decide +kernel) (by decide +kernel) (by decide +kernel) (fun pn xe W1 C => (cs_cons (c1_raise C hX (xm_NoBook E (h.tr C) (by omega)) (by decide +kernel) (by decide +kernel) (ca_cons (ce_frz (ce_var C.toCf0 1 n1 (by decide +kernel))) (ca_cons (ce_frz (ce_var C.toCf0 0 n0 (by decide +kernel))) ca_nil))) cs_nil)) (fun xa pn C => (cs_cons (c1_expr (ce_append C 2 n2 (by decide +kernel) (ce_and (ce_eq C (ce_att C hX (n := "word") (by decide +kernel) (ce_var C 3 n3 (by decide +kernel))) (ce_var C 1 n1 (by decide +kernel))) (ce_one (ce_eq C (ce_att C hX (n := "place") (by decide +kernel) (ce_var C 3 n3 (by decide +kernel))) (ce_var C 0 n0 (by decide +kernel))))))) cs_nil))) (cs_cons (c1_ret (ce_eq C.toCf0 (ce_var C.toCf0 2 n2 (by decide +kernel)) (ce_ofN (cn_lst (ca_cons ce_bool (ca_cons ce_bool ca_nil)))))) cs_nil))))
theorem ok_qcaught {P : Program} {w : World} {K : PySem.W.Frag} {mg : Str → Option Value} {base : Heap} (E : Env K mg) : Gv P w K mg base (2 + 1) "_law_caught" [] (spU K mg u_qcaught) := by
  obtain ⟨f, fd, F, hmg⟩ := E.d_qcaught
  exact Gv.of F hmg (fo_qcaught E F) (F.bindsN fun _ _ _ _ _ _ us hl => match us, hl with | [_, _], _ => rfl) .nil
def b_p_law : DS := (bSeq (bSetX 1 (xCall uFeed [] (dAc (dVar 0) dA0))) (bSeq (bFor [2, 3, 4, 5] (gN 2) (iRange1 (dC (.int 2))) (bSeq (bSet 3 (eX (xCallC u_qnumber 0 [] (dAc (dVar 1) dA0)))) (bSeq (bSet 4 (eX (xCallC u_qtext_k08 0 [] (dAc (dVar 1) dA0)))) (bSeq (bSet 5 (eX (xCallC u_qrows 0 [] (dAc (dVar 1) dA0)))) (bSeq (bIf (dTor (dTnot (dTst (eX (xCallM u_qone_field [false, false, true] [] (dAc (dVar 3) (dAc (dVar 4) (dAc (dFrz (dVar 5)) dA0))))))) (dTnot (dTst (eX (xCallM u_qtwo_fields [false, false, true] [] (dAc (dVar 3) (dAc (dVar 4) (dAc (eX (xCallC u_qpath 0 [] (dAc (dVar 1) dA0))) dA0)))))))) (bSeq (bRet (dC (.bool false))) bNil) bNil) (bSeq (bIf (dTnot (dTst (eX (xCall u_qcaught [] (dAc (dVar 3) (dAc (dVar 4) dA0)))))) (bSeq (bRet (dC (.bool false))) bNil) bNil) bNil)))))) (bSeq (bRet (dC (.bool true))) bNil)))
def u_p_law : List Ar → R (Rs × List Sl) := runB 6 1 b_p_law
theorem sc_p_law : FnScope ["_law_script", "_law_feed_here", "_law_turn", "_law_number_here", "_law_text_here", "_law_rows_here"] ["_law_script"] (defScope (top 26)) := ⟨rfl, rfl, rfl, by decide +kernel, rfl, by decide +kernel, by decide +kernel⟩
theorem fo_p_law {P : Program} {w : World} {K : PySem.W.Frag} {mg : Str → Option Value} {base : Heap} (E : Env K mg) {f : Addr} {fd : FuncData} (F : FunD K "law" "law" (defArgs (top 26)) (defBody (top 26)) (defScope (top 26)) [] [] f fd) : FnOk P w K mg base (L2N.CX P w) (3 + 1) f fd ["_law_script"] (spU K mg u_p_law) := by
  refine fn_u (N := ["_law_script", "_law_feed_here", "_law_turn", "_law_number_here", "_law_text_here", "_law_rows_here"]) (ps := ["_law_script"]) (k := 3) F sc_p_law (b := b_p_law) (by decide) fun X W h => ?_
  have C := h.cf
  have hb_range : X.mg "range" = none := by rw [h.mg]; exact E.b_range
  have c_qfeed := (ok_qfeed (P := P) (w := w) (base := base) E).u h (by omega)
  have c_qnumber := (ok_qnumber (P := P) (w := w) (base := base) E).u h (by omega)
  have c_qtext := (ok_qtext (P := P) (w := w) (base := base) E).u h (by omega)
  have c_qrows := (ok_qrows (P := P) (w := w) (base := base) E).u h (by omega)
  have c_qone_field := (ok_qone_field (P := P) (w := w) (base := base) E).u h (by omega)
  have c_qtwo_fields := (ok_qtwo_fields (P := P) (w := w) (base := base) E).u h (by omega)
  have c_qpath := (ok_qpath (P := P) (w := w) (base := base) E).u h (by omega)
  have c_qcaught := (ok_qcaught (P := P) (w := w) (base := base) E).u h (by omega)
  have n0 : (["_law_script", "_law_feed_here", "_law_turn", "_law_number_here", "_law_text_here", "_law_rows_here"] : List Str)[0]? = some ("_law_script" : Str) := rfl
  have v0 : visB (defScope (top 26)) "_law_script" = true := by decide +kernel
  have s0 : Sto X (defScope (top 26)) "_law_script" := sto_c h.fn (by decide +kernel)
  have n1 : (["_law_script", "_law_feed_here", "_law_turn", "_law_number_here", "_law_text_here", "_law_rows_here"] : List Str)[1]? = some ("_law_feed_here" : Str) := rfl
  have v1 : visB (defScope (top 26)) "_law_feed_here" = true := by decide +kernel
  have s1 : Sto X (defScope (top 26)) "_law_feed_here" := sto_c h.fn (by decide +kernel)
  have n2 : (["_law_script", "_law_feed_here", "_law_turn", "_law_number_here", "_law_text_here", "_law_rows_here"] : List Str)[2]? = some ("_law_turn" : Str) := rfl
  have v2 : visB (defScope (top 26)) "_law_turn" = true := by decide +kernel
  have s2 : Sto X (defScope (top 26)) "_law_turn" := sto_c h.fn (by decide +kernel)
  have n3 : (["_law_script", "_law_feed_here", "_law_turn", "_law_number_here", "_law_text_here", "_law_rows_here"] : List Str)[3]? = some ("_law_number_here" : Str) := rfl
  have v3 : visB (defScope (top 26)) "_law_number_here" = true := by decide +kernel
  have s3 : Sto X (defScope (top 26)) "_law_number_here" := sto_c h.fn (by decide +kernel)
  have n4 : (["_law_script", "_law_feed_here", "_law_turn", "_law_number_here", "_law_text_here", "_law_rows_here"] : List Str)[4]? = some ("_law_text_here" : Str) := rfl
  have v4 : visB (defScope (top 26)) "_law_text_here" = true := by decide +kernel
  have s4 : Sto X (defScope (top 26)) "_law_text_here" := sto_c h.fn (by decide +kernel)
  have n5 : (["_law_script", "_law_feed_here", "_law_turn", "_law_number_here", "_law_text_here", "_law_rows_here"] : List Str)[5]? = some ("_law_rows_here" : Str) := rfl
  have v5 : visB (defScope (top 26)) "_law_rows_here" = true := by decide +kernel
  have s5 : Sto X (defScope (top 26)) "_law_rows_here" := sto_c h.fn (by decide +kernel)
  unfold b_p_law
  exact (cs_cons (c1_setX C.toCf0 1 n1 s1 (cx_call C.toCf0 c_qfeed (by decide +kernel) (fun _ _ => .nil) (ca_cons (ce_var C.toCf0 0 n0 (by decide +kernel)) ca_nil))) (cs_cons (c1_for C [2, 3, 4, 5] (ci_range1 C.toCf0 (by decide +kernel) hb_range ce_int) (cg_name C.toCf0 2 n2 s2) (cs_cons (c1_set C.toCf0 3 n3 s3 (ce_x (cx_callC C.toCf0 0 c_qnumber (by decide +kernel) (fun _ _ => .nil) (ca_cons (ce_var C.toCf0 1 n1 (by decide +kernel)) ca_nil)))) (cs_cons (c1_set C.toCf0 4 n4 s4 (ce_x (cx_callC C.toCf0 0 c_qtext (by decide +kernel) (fun _ _ => .nil) (ca_cons (ce_var C.toCf0 1 n1 (by decide +kernel)) ca_nil)))) (cs_cons (c1_set C.toCf0 5 n5 s5 (ce_x (cx_callC C.toCf0 0 c_qrows (by decide +kernel) (fun _ _ => .nil) (ca_cons (ce_var C.toCf0 1 n1 (by decide +kernel)) ca_nil)))) (cs_cons (c1_if (ct_w (cw_or (ct_not (ct_of (ce_x (cx_callM C.toCf0 [false, false, true] c_qone_field (by decide +kernel) (fun _ _ => .nil) (ca_cons (ce_var C.toCf0 3 n3 (by decide +kernel)) (ca_cons (ce_var C.toCf0 4 n4 (by decide +kernel)) (ca_cons (ce_frz (ce_var C.toCf0 5 n5 (by decide +kernel))) ca_nil))))))) (cw_or1 (ct_not (ct_of (ce_x (cx_callM C.toCf0 [false, false, true] c_qtwo_fields (by decide +kernel) (fun _ _ => .nil) (ca_cons (ce_var C.toCf0 3 n3 (by decide +kernel)) (ca_cons (ce_var C.toCf0 4 n4 (by decide +kernel)) (ca_cons (ce_x (cx_callC C.toCf0 0 c_qpath (by decide +kernel) (fun _ _ => .nil) (ca_cons (ce_var C.toCf0 1 n1 (by decide +kernel)) ca_nil))) ca_nil)))))))))) (cs_cons (c1_ret ce_bool) cs_nil) cs_nil) (cs_cons (c1_if (ct_not (ct_of (ce_x (cx_call C.toCf0 c_qcaught (by decide +kernel) (fun _ _ => .nil) (ca_cons (ce_var C.toCf0 3 n3 (by decide +kernel)) (ca_cons (ce_var C.toCf0 4 n4 (by decide +kernel)) ca_nil)))))) (cs_cons (c1_ret ce_bool) cs_nil) cs_nil) cs_nil)))))) (cs_cons (c1_ret ce_bool) cs_nil)))
end PDW
set_option linter.all false
set_option maxRecDepth 100000
set_option autoImplicit false
namespace PD
open PySem L2
section
variable {Γ Γ1 Γ2 Γ3 : List Sl} {f g h : DF} {k : DA} {n : DN} {c : DC} {x : DX} {t t2 : DT} {fr fr2 z z2 : Bool} {d : PyData} {i j : Int} {ds es : List PyData} {a b : AV} {as : List AV} {P : Fw → List Sl → Prop} {r : DS} {m : Nat}
theorem e_x {s : Rs} (h1 : x Γ = .val (s, Γ1)) (h2 : rsF s = some d) : eX x Γ = .val (.d true d, Γ1) := by
  cases s with
  | d y => cases h2; exact e_xd h1
  | c y =>
    have h2 : frzC y = some d := h2
    unfold eX; rw [h1, bind_val]
    show ((R.ofO (frzC y)).bind fun e => R.val (AV.d true e, Γ1)) = _
    rw [h2]; rfl
theorem w_ifN {b c2 : DS} (h1 : t Γ = .val (z, Γ1)) (hz : z = false) (h : W (bSeq c2 r) Γ1 P) : W (bSeq (bIf t b c2) r) Γ P := w_if h1 (fun e => by rw [hz] at e; cases e) fun _ => h
theorem w_ifY {b c2 : DS} (h1 : t Γ = .val (z, Γ1)) (hz : z = true) (h : W (bSeq b r) Γ1 P) : W (bSeq (bIf t b c2) r) Γ P := w_if h1 (fun _ => h) (fun e => by rw [hz] at e; cases e)
theorem w_ifB {b c2 : DS} (h1 : t Γ = .val (z, Γ1)) (hT : z = true → W (bSeq b r) Γ1 P) (hF : z = false → W (bSeq c2 r) Γ1 P) : W (bSeq (bIf t b c2) r) Γ P := w_if h1 hT hF
theorem w_forL {α : Type} {enc : α → PyData} {is : List Nat} {gg : DG} {it : DI} {b : DS} (xs : List α) {S : Type} (Rel : Nat → S → Prop) (sh : S → List Sl) (s0 : S) (h1 : it Γ = .val ((xs.map enc, fr), Γ1)) (h0 : wipeG Γ1 is = sh s0) (hr : Rel 0 s0)
    (hb : ∀ (i : Nat) (x : α) (s : S), xs[i]? = some x → Rel i s → ∃ Γ1, gg fr (enc x) (sh s) = some Γ1 ∧ W b Γ1 fun w Γ2 => match w with
      | .nx => ∃ s', wipeG Γ2 is = sh s' ∧ Rel (i + 1) s'
      | .ct => ∃ s', wipeG Γ2 is = sh s' ∧ Rel (i + 1) s'
      | .bk => W r (wipeG Γ2 is) P
      | .rt q => P (.rt q) Γ2) (hd : ∀ s, Rel xs.length s → W r (sh s) P) : W (bSeq (bFor is gg it b) r) Γ P := by
  refine w_for (fun i Γ => ∃ s, Γ = sh s ∧ Rel i s) h1 ⟨s0, h0, hr⟩ ?_ ?_
  · rintro i d Γ hd ⟨s, rfl, hs⟩
    obtain ⟨x, hx, rfl⟩ := gmap hd
    exact hb i x s hx hs
  · rintro Γ ⟨s, rfl, hs⟩
    rw [List.length_map] at hs
    exact hd s hs
theorem w_forR {is : List Nat} {gg : DG} {it : DI} {b : DS} {N : Int} {S : Type} (Rel : Nat → S → Prop) (sh : S → List Sl) (s0 : S) (h1 : it Γ = .val (((rng 0 N).map PyData.int, fr), Γ1)) (h0 : wipeG Γ1 is = sh s0) (hr : Rel 0 s0)
    (hb : ∀ (i : Nat) (s : S), (i : Int) < N → Rel i s → ∃ Γ1, gg fr (.int (i : Nat)) (sh s) = some Γ1 ∧ W b Γ1 fun w Γ2 => match w with
      | .nx => ∃ s', wipeG Γ2 is = sh s' ∧ Rel (i + 1) s'
      | .ct => ∃ s', wipeG Γ2 is = sh s' ∧ Rel (i + 1) s'
      | .bk => W r (wipeG Γ2 is) P
      | .rt q => P (.rt q) Γ2) (hd : ∀ s, Rel N.toNat s → W r (sh s) P) : W (bSeq (bFor is gg it b) r) Γ P := by
  refine w_forL (rng 0 N) Rel sh s0 h1 h0 hr ?_ ?_
  · intro i x s hx hs
    obtain ⟨rfl, hi⟩ := rng_at hx
    exact hb i s hi hs
  · intro s hs
    rw [rng_len] at hs
    exact hd s (by simpa using hs)
theorem k_lenI {α : Type} {enc : α → PyData} {xs : List α} (h : rdD Γ a = some (.list (xs.map enc))) : kLen Γ [a] = .val (.d true (.int (xs.length : Nat))) := by rw [k_lenL h, List.length_map]
theorem k_lenJ {α : Type} {enc : α → PyData} {xs : List α} (h : rdD Γ a = some (.tuple (xs.map enc))) : kLen Γ [a] = .val (.d true (.int (xs.length : Nat))) := by rw [k_lenT h, List.length_map]
theorem t_orF (h1 : t Γ = .val (false, Γ1)) (h2 : t2 Γ1 = .val (z2, Γ2)) : dTor t t2 Γ = .val (z2, Γ2) := by
  unfold dTor; rw [h1, bind_val]; simp only [if_neg (show ¬ (false = true) by simp)]; rw [h2]; rfl
theorem k_mx2 : kMax2 Γ [.d fr (.int i), .d fr2 (.int j)] = .val (.d true (.int (max2 i j))) := rfl
theorem k_mn2 : kMin2 Γ [.d fr (.int i), .d fr2 (.int j)] = .val (.d true (.int (min2 i j))) := rfl
end
end PD
set_option linter.all false
set_option maxRecDepth 100000
set_option autoImplicit false
namespace PD
open PySem L2
theorem e_ap {Γ Γ1 : List Sl} {f : DF} {d : PyData} {ds es : List PyData} {m : Nat} {io : Bool} (h0 : cellL Γ m = some (io, es)) (h1 : dFrz f Γ = .val (.d true d, Γ1)) (h2 : cellL Γ1 m = some (io, ds)) (h3 : ltS ds = true) : dLm m qAppend (dAc (dFrz f) dA0) Γ = .val (.d true .none, Γ1.set m (mkS io (.lst (ds ++ [d])))) := by
  unfold dLm
  rw [h0, ofO_some, bind_val, a_cons h1 a_nil, bind_val, h2, ofO_some, bind_val]
  show ((qAppend ds [.d true d]).bind _) = _
  unfold qAppend
  simp only [h3]
  rfl
theorem ltS_map {α β : Type} {f : α → β} {xs : List α} (h : xs.length < 2 ^ 20) : ltS (xs.map f) = true := ltS_of (by rw [List.length_map]; exact h)
theorem szB_map {α β : Type} {f : α → β} {xs : List α} (h : xs.length < 2 ^ 20) : szB (xs.map f) = true := szB_of (by rw [List.length_map]; exact h)
section
variable {Γ : List Sl} {a b : AV} {α : Type} [DecidableEq α] {enc : α → PyData} {k : Nat} {x y : α}
end
abbrev dKV (kvs : List (Int × PyData)) : List (PyData × PyData) := kvs.map fun z => (PyData.int z.1, z.2)
def lookI (kvs : List (Int × PyData)) (k : Int) : Option PyData := (kvs.find? fun z => decide (z.1 = k)).map (·.2)
def putI (kvs : List (Int × PyData)) (k : Int) (v : PyData) : List (Int × PyData) := if kvs.any (fun z => decide (z.1 = k)) then kvs.map (fun z => if z.1 = k then (z.1, v) else z) else kvs ++ [(k, v)]
theorem getD_kv (kvs : List (Int × PyData)) (k : Int) : getD (dKV kvs) (.int k) = lookI kvs k := by
  unfold getD lookI
  rw [List.find?_map, Option.map_map]
  rfl
theorem lookI_nil (k : Int) : lookI [] k = none := rfl
theorem lookI_none {kvs : List (Int × PyData)} {k : Int} : lookI kvs k = none ↔ ∀ v, (k, v) ∉ kvs := by
  unfold lookI
  rw [Option.map_eq_none_iff, List.find?_eq_none]
  constructor
  · intro h v hv
    exact h _ hv (by simp)
  · intro h z hz e
    have e : z.1 = k := by simpa using e
    exact h z.2 (by rw [← e]; exact hz)
theorem lookI_cons (z : Int × PyData) (kvs : List (Int × PyData)) (k : Int) : lookI (z :: kvs) k = if z.1 = k then some z.2 else lookI kvs k := by
  unfold lookI
  rw [List.find?_cons]
  by_cases h : z.1 = k <;> simp [h]
theorem lookI_snoc (kvs : List (Int × PyData)) (a : Int) (v : PyData) (k : Int) : lookI (kvs ++ [(a, v)]) k = if (lookI kvs k).isSome then lookI kvs k else if a = k then some v else none := by
  induction kvs with
  | nil => simp [lookI_cons, lookI_nil]
  | cons z r ih =>
    rw [List.cons_append, lookI_cons, lookI_cons, ih]
    by_cases h : z.1 = k <;> simp [h]
theorem any_lookI (kvs : List (Int × PyData)) (k : Int) : kvs.any (fun z => decide (z.1 = k)) = (lookI kvs k).isSome := by
  induction kvs with
  | nil => rfl
  | cons z r ih => rw [List.any_cons, lookI_cons, ih]; by_cases h : z.1 = k <;> simp [h]
theorem lookI_put (kvs : List (Int × PyData)) (a : Int) (v : PyData) (k : Int) : lookI (putI kvs a v) k = if k = a then some v else lookI kvs k := by
  unfold putI
  rw [any_lookI]
  split
  · rename_i hs
    induction kvs with
    | nil => simp [lookI_nil] at hs
    | cons z r ih =>
      rw [List.map_cons, lookI_cons, lookI_cons]
      rw [lookI_cons] at hs
      by_cases h : z.1 = a
      · subst h
        simp only [if_true]
        by_cases h2 : z.1 = k
        · subst h2; simp
        · rw [if_neg h2, if_neg h2, if_neg (Ne.symm h2)]
          by_cases h3 : (lookI r z.1).isSome
          · rw [ih h3, if_neg (Ne.symm h2)]
          · have hn : lookI r z.1 = none := by simpa using h3
            have : r.map (fun y => if y.1 = z.1 then (y.1, v) else y) = r := by
              have e2 : r.map (fun y => if y.1 = z.1 then (y.1, v) else y) = r.map id := List.map_congr_left fun y hy => by
                rw [if_neg]
                · rfl
                · intro q
                  exact lookI_none.mp hn y.2 (by rw [← q]; exact hy)
              rw [e2, List.map_id]
            rw [this]
      · rw [if_neg h] at hs
        simp only [if_neg h]
        rw [ih hs]
        by_cases h2 : z.1 = k
        · subst h2; simp [h]
        · simp [h2]
  · rename_i hs
    rw [lookI_snoc]
    by_cases h : k = a
    · subst h; simp at hs; simp [hs]
    · rw [if_neg h, if_neg (Ne.symm h)]
      split
      · rfl
      · rename_i h2; simp at h2; rw [h2]
theorem putI_new {kvs : List (Int × PyData)} {a : Int} (v : PyData) (h : lookI kvs a = none) : putI kvs a v = kvs ++ [(a, v)] := by
  unfold putI
  rw [any_lookI, h]
  simp
section
variable {Γ : List Sl} {fr fr2 io : Bool} {k : Int} {kvs : List (Int × PyData)} {m : Nat} {v : PyData}
theorem k_ninKS (h : dicA Γ (.s m) = some (true, .k, dKV kvs)) : kNinB Γ (.d fr (.int k)) (.s m) = .val (!(lookI kvs k).isSome) := by
  unfold kNinB kInB
  simp only [h, rdD, getD_kv]
  rfl
theorem k_inKS (h : dicA Γ (.s m) = some (true, .k, dKV kvs)) : kInB Γ (.d fr (.int k)) (.s m) = .val (lookI kvs k).isSome := by
  unfold kInB
  simp only [h, rdD, getD_kv]
  rfl
end
theorem e_pop {Γ : List Sl} {m : Nat} {io : Bool} {ds : List PyData} {y : PyData} (h : cellL Γ m = some (io, ds ++ [y])) : dLm m qPop dA0 Γ = .val (.d true y, Γ.set m (mkS io (.lst ds))) := by
  unfold dLm
  rw [h, ofO_some, bind_val, a_nil, bind_val, h, ofO_some, bind_val]
  unfold qPop
  simp only [List.getLast?_concat, List.dropLast_concat]
  rfl
theorem shS {a : Str} (h : PyData.strOk a = true) : SeqAt.shaped (.str a) = true := by
  unfold SeqAt.shaped
  rw [PyData.canLay0, h]
  rfl
theorem k_neS {Γ : List Sl} {f1 f2 : Bool} {a b : Str} (h1 : PyData.strOk a = true := by decide +kernel) (h2 : PyData.strOk b = true := by decide +kernel) : kNe Γ (.d f1 (.str a)) (.d f2 (.str b)) = .val (!decide (a = b)) := k_ne rfl rfl (shS h1) (shS h2) (by show (a == b) = _; rfl)
theorem k_eqS {Γ : List Sl} {f1 f2 : Bool} {a b : Str} (h1 : PyData.strOk a = true := by decide +kernel) (h2 : PyData.strOk b = true := by decide +kernel) : kEq Γ (.d f1 (.str a)) (.d f2 (.str b)) = .val (decide (a = b)) := k_eq rfl rfl (shS h1) (shS h2) (by show (a == b) = _; rfl)
theorem x_callM {Γ Γ1 : List Sl} {k : DA} {as : List AV} {ars : List Ar} {ms : List Bool} {m : List Ar → R (Rs × List Sl)} {dds : List PyData} {r : Rs} {Z : List Sl} (h1 : k Γ = .val (as, Γ1)) (h2 : rdAs Γ1 none ms as = some ars) (h3 : m (ars ++ dds.map Ar.d) = .val (r, Z)) : xCallM m ms dds k Γ = .val (r, Γ1) := by
  unfold xCallM; rw [h1, bind_val, h2, ofO_some, bind_val, h3]; rfl
end PD
set_option linter.all false
set_option maxRecDepth 100000
set_option autoImplicit false
namespace PD
open PySem L2
theorem as_call {m : List Ar → R (Rs × List Sl)} {as : List Ar} {z : Rs × List Sl} (h : m as = .val z) : m as = .val z := h
local macro_rules
  | `(tactic| array_get_dec) => `(tactic| with_reducible first
  | exact e_C | exact a_nil | exact k_sub | exact k_and | exact k_or | exact k_eqI | exact k_neI | exact k_I | exact k_mx2 | exact k_mn2
  | apply e_I | apply e_add | apply e_neg | apply e_cmp | apply t_tst | apply t_not | apply e_not | apply t_or | apply t_and | apply e_and | apply e_or
  | apply k_mul | apply k_div | apply k_mod | apply k_pow | apply k_shl | apply k_shr
  | apply a_cons | apply n_lst | apply e_tup | apply e_ofN | apply c_l | apply x_c | apply e_B | apply n_B | apply e_isi
  | apply e_x | apply x_call | apply x_callE | apply x_callM | apply e_frzT | apply e_ap | apply i_seqL | apply i_seqT | apply i_enumL | apply i_enumT | apply i_range1 | apply i_range2 | apply n_lrng1 | apply n_lrng2)
local macro_rules
  | `(tactic| array_mem_dec) => `(tactic| repeat' first | exact e_frz (e_var rfl) | array_get_dec | exact e_var rfl | exact e_varO rfl | exact e_varI rfl | (refine as_call ?_; assumption) | exact k_neS | exact k_eqS | exact e_pop rfl | exact e_ixT (e_var rfl) e_C rfl | exact e_ixL (e_var rfl) e_C rfl | exact e_ixS (e_varI rfl) e_C rfl rfl | exact e_ixS (e_varO rfl) e_C rfl rfl | exact k_ninKS rfl | exact k_inKS rfl | exact k_lenI rfl | exact k_lenJ rfl | rfl | exact flat_int _ | (intro _))
local macro_rules
  | `(tactic| and_intros) => `(tactic| repeat (with_reducible first | apply w_seqN | apply w_seqA))
local macro_rules
  | `(tactic| bv_decide) => `(tactic| (and_intros; (with_reducible first | apply w_set | apply w_setX | apply w_setC | apply w_setG | apply w_expr | apply w_exprX | apply w_inc); array_mem_dec))
local macro_rules
  | `(tactic| bv_normalize) => `(tactic| (and_intros; apply w_ifN; array_mem_dec; (try (case hz => first | rfl | (simp [tyIs, isN, optI]; done) | (simp [tyIs, isN, optI]; omega))); and_intros))
local macro_rules
  | `(tactic| simp_all_arith) => `(tactic| (and_intros; apply w_ifY; array_mem_dec; (try (case hz => first | rfl | (simp [tyIs, isN, optI]; done) | (simp [tyIs, isN, optI]; omega))); and_intros))
local macro_rules
  | `(tactic| apply_assumption) => `(tactic| (and_intros; apply w_ifB; focus array_mem_dec))
local macro_rules
  | `(tactic| nofun) => `(tactic| (and_intros; (with_reducible first | apply w_ret | apply w_retX | apply w_retC | apply w_retO | apply w_ret0); array_mem_dec))
local macro_rules
  | `(tactic| ac_rfl) => `(tactic| (all_goals (try (with_reducible first | exact mulL (by decide) | exact mulR (by decide) | exact mulR (by omega) | exact mulL (by omega) | exact mulL (mod_64 (by decide) (by decide)) | exact modP (by first | assumption | decide | omega) | exact divP (by first | assumption | decide | omega) (by first | assumption | decide | omega) | exact cRng_of (by omega) (by omega) (by omega) (by omega)))))
end PD
section
open PySem L2 PD
local macro_rules
  | `(tactic| array_get_dec) => `(tactic| with_reducible first
  | exact e_C | exact a_nil | exact k_sub | exact k_and | exact k_or | exact k_eqI | exact k_neI | exact k_I | exact k_mx2 | exact k_mn2
  | apply e_I | apply e_add | apply e_neg | apply e_cmp | apply t_tst | apply t_not | apply e_not | apply t_or | apply t_and | apply e_and | apply e_or
  | apply k_mul | apply k_div | apply k_mod | apply k_pow | apply k_shl | apply k_shr
  | apply a_cons | apply n_lst | apply e_tup | apply e_ofN | apply c_l | apply x_c | apply e_B | apply n_B | apply e_isi
  | apply e_x | apply x_call | apply x_callE | apply x_callM | apply e_frzT | apply e_ap | apply i_seqL | apply i_seqT | apply i_enumL | apply i_enumT | apply i_range1 | apply i_range2 | apply n_lrng1 | apply n_lrng2)
local macro_rules
  | `(tactic| array_mem_dec) => `(tactic| repeat' first | exact e_frz (e_var rfl) | array_get_dec | exact e_var rfl | exact e_varO rfl | exact e_varI rfl | (refine as_call ?_; assumption) | exact k_neS | exact k_eqS | exact e_pop rfl | exact e_ixT (e_var rfl) e_C rfl | exact e_ixL (e_var rfl) e_C rfl | exact e_ixS (e_varI rfl) e_C rfl rfl | exact e_ixS (e_varO rfl) e_C rfl rfl | exact k_ninKS rfl | exact k_inKS rfl | exact k_lenI rfl | exact k_lenJ rfl | rfl | exact flat_int _ | (intro _))
local macro_rules
  | `(tactic| and_intros) => `(tactic| repeat (with_reducible first | apply w_seqN | apply w_seqA))
local macro_rules
  | `(tactic| bv_decide) => `(tactic| (and_intros; (with_reducible first | apply w_set | apply w_setX | apply w_setC | apply w_setG | apply w_expr | apply w_exprX | apply w_inc); array_mem_dec))
local macro_rules
  | `(tactic| bv_normalize) => `(tactic| (and_intros; apply w_ifN; array_mem_dec; (try (case hz => first | rfl | (simp [tyIs, isN, optI]; done) | (simp [tyIs, isN, optI]; omega))); and_intros))
local macro_rules
  | `(tactic| simp_all_arith) => `(tactic| (and_intros; apply w_ifY; array_mem_dec; (try (case hz => first | rfl | (simp [tyIs, isN, optI]; done) | (simp [tyIs, isN, optI]; omega))); and_intros))
local macro_rules
  | `(tactic| apply_assumption) => `(tactic| (and_intros; apply w_ifB; focus array_mem_dec))
local macro_rules
  | `(tactic| nofun) => `(tactic| (and_intros; (with_reducible first | apply w_ret | apply w_retX | apply w_retC | apply w_retO | apply w_ret0); array_mem_dec))
local macro_rules
  | `(tactic| ac_rfl) => `(tactic| (all_goals (try (with_reducible first | exact mulL (by decide) | exact mulR (by decide) | exact mulR (by omega) | exact mulL (by omega) | exact mulL (mod_64 (by decide) (by decide)) | exact modP (by first | assumption | decide | omega) | exact divP (by first | assumption | decide | omega) (by first | assumption | decide | omega) | exact cRng_of (by omega) (by omega) (by omega) (by omega)))))
set_option linter.all false
set_option maxRecDepth 100000
set_option autoImplicit false
namespace PD
open PySem L2
end PD
set_option linter.all false
set_option maxRecDepth 100000
set_option autoImplicit false
namespace PD
open PySem L2
end PD
set_option linter.all false
set_option maxRecDepth 100000
set_option autoImplicit false
namespace PD
open PySem L2
def El (net : List (List Int)) (m e : Nat) : Prop := ∃ row, net[m]? = some row ∧ ((e : Nat) : Int) ∈ row
inductive Wk (net : List (List Int)) (y : Nat) : Nat → Nat → Prop
  | nil : Wk net y y 0
  | snoc {m n e : Nat} : Wk net y m n → El net m e → Wk net y e (n + 1)
theorem El.lt {net : List (List Int)} (hN : NetOk net) {m e : Nat} (h : El net m e) : e < m := by
  obtain ⟨row, h1, h2⟩ := h
  have := ((hN m row h1).1 _ h2).2
  omega
theorem Wk.le {net : List (List Int)} (hN : NetOk net) {y o n : Nat} (h : Wk net y o n) : o + n ≤ y := by
  induction h with
  | nil => omega
  | snoc a b ih => have := b.lt hN; omega
def Lst (S : Nat → Prop) : Option Nat → Prop
  | none => ∀ n, ¬ S n
  | some n => S n ∧ ∀ k, S k → n ≤ k
abbrev Ds (net : List (List Int)) (y o : Nat) (a : Option Nat) : Prop := Lst (Wk net y o) a
end PD
set_option linter.all false
set_option maxRecDepth 100000
set_option autoImplicit false
namespace PD
open PySem L2
theorem nodup_len : ∀ (n : Nat) (xs : List Int), xs.Nodup → (∀ x ∈ xs, 0 ≤ x ∧ x < (n : Int)) → xs.length ≤ n
  | 0, xs, _, h => by
    cases xs with
    | nil => simp
    | cons a r => have := h a (by simp); omega
  | n + 1, xs, hn, h => by
    have h1 := nodup_len n (xs.filter fun x => decide (x ≠ (n : Int))) (hn.sublist List.filter_sublist) fun x hx => by
      have q := List.mem_filter.mp hx
      have q1 := h x q.1
      have q2 : x ≠ (n : Int) := by simpa using q.2
      omega
    have h2 : (xs.filter fun x => decide (x ≠ (n : Int))).length + xs.count (n : Int) = xs.length := by
      have : xs.count (n : Int) = (xs.filter fun x => !decide (x ≠ (n : Int))).length := by
        rw [List.count_eq_length_filter]
        congr 1
        apply List.filter_congr
        intro x _
        by_cases e : x = (n : Int) <;> simp [e]
      rw [this]
      exact filt_sum (fun x => decide (x ≠ (n : Int))) xs
    have h3 : xs.count (n : Int) ≤ 1 := List.nodup_iff_count.mp hn _
    show xs.length ≤ n + 1
    have h1 : (xs.filter fun x => decide (x ≠ (n : Int))).length ≤ n := h1
    generalize (xs.filter fun x => decide (x ≠ (n : Int))).length = q at h1 h2
    omega
structure Mid (net : List (List Int)) (y L : Nat) (E : Nat → Prop) (kvs : List (Int × PyData)) (found : List Int) : Prop where
  has : ∀ e : Nat, (lookI kvs (e : Int)).isSome = true ↔ (∃ n, n ≤ L ∧ Wk net y e n) ∨ E e
  nat : ∀ k ∈ kvs.map (·.1), 0 ≤ k ∧ k < ((y + 1 : Nat) : Int)
  val : ∀ (e : Nat) (v : PyData), lookI kvs (e : Int) = some v → (e = y ∧ v = .none) ∨ ∃ m n : Nat, v = .int (m : Int) ∧ Ds net y m (some n) ∧ Ds net y e (some (n + 1)) ∧ El net m e
  fnd : ∀ x : Int, x ∈ found ↔ ∃ e : Nat, x = (e : Int) ∧ E e ∧ ¬ ∃ n, n ≤ L ∧ Wk net y e n
  nd : (kvs.map (·.1)).Nodup
  fl : found.length ≤ kvs.length
  fv : ∀ z ∈ kvs, flat z.2 = true
theorem Mid.len {net : List (List Int)} {y L : Nat} {E : Nat → Prop} {kvs : List (Int × PyData)} {found : List Int} (h : Mid net y L E kvs found) : kvs.length ≤ y + 1 := by
  have := nodup_len (y + 1) _ h.nd h.nat
  rw [List.length_map] at this
  exact this
theorem Mid.old {net : List (List Int)} {y L : Nat} {E : Nat → Prop} {kvs : List (Int × PyData)} {found : List Int} (h : Mid net y L E kvs found) {e : Nat} (he : (lookI kvs (e : Int)).isSome = true) : Mid net y L (fun x => E x ∨ x = e) kvs found := by
  refine ⟨fun x => ?_, h.nat, h.val, fun x => ?_, h.nd, h.fl, h.fv⟩
  · rw [h.has]
    constructor
    · rintro (a | a)
      · exact .inl a
      · exact .inr (.inl a)
    · rintro (a | a | a)
      · exact .inl a
      · exact .inr a
      · subst a; exact (h.has _).mp he
  · rw [h.fnd]
    constructor
    · rintro ⟨z, h1, h2, h3⟩
      exact ⟨z, h1, .inl h2, h3⟩
    · rintro ⟨z, h1, h2 | h2, h3⟩
      · exact ⟨z, h1, h2, h3⟩
      · subst h2
        exact ⟨z, h1, ((h.has z).mp he).resolve_left h3, h3⟩
theorem Mid.new {net : List (List Int)} (hN : NetOk net) {y L : Nat} {E : Nat → Prop} {kvs : List (Int × PyData)} {found : List Int} (h : Mid net y L E kvs found) {m e : Nat} (he : lookI kvs (e : Int) = none) (hm : Ds net y m (some L)) (hl : El net m e) :
    Mid net y L (fun x => E x ∨ x = e) (putI kvs (e : Int) (.int (m : Int))) (found ++ [(e : Int)]) := by
  have hno : ¬ ((∃ n, n ≤ L ∧ Wk net y e n) ∨ E e) := fun z => by
    have := (h.has e).mpr z
    rw [he] at this; cases this
  have hle := (Wk.snoc hm.1 hl).le hN
  refine ⟨fun x => ?_, ?_, fun x v hv => ?_, fun x => ?_, ?_, ?_, ?_⟩
  · rw [lookI_put]
    by_cases q : ((x : Nat) : Int) = (e : Nat)
    · rw [if_pos q]
      have : x = e := by omega
      simp [this]
    · rw [if_neg q, h.has]
      have : x ≠ e := by omega
      simp [this]
  · rw [putI_new _ he]
    intro k hk
    rw [List.map_append, List.mem_append] at hk
    rcases hk with hk | hk
    · exact h.nat k hk
    · have : k = (e : Int) := by simpa using hk
      omega
  · rw [lookI_put] at hv
    by_cases q : ((x : Nat) : Int) = (e : Nat)
    · rw [if_pos q] at hv
      have : x = e := by omega
      subst this
      cases hv
      refine .inr ⟨m, L, rfl, hm, ⟨.snoc hm.1 hl, fun k hk => ?_⟩, hl⟩
      by_cases z : k ≤ L
      · exact absurd (.inl ⟨k, z, hk⟩) hno
      · omega
    · rw [if_neg q] at hv
      exact h.val x v hv
  · rw [List.mem_append, h.fnd]
    constructor
    · rintro (⟨z, h1, h2, h3⟩ | h1)
      · exact ⟨z, h1, .inl h2, h3⟩
      · exact ⟨e, by simpa using h1, .inr rfl, fun z => hno (.inl z)⟩
    · rintro ⟨z, h1, h2 | h2, h3⟩
      · exact .inl ⟨z, h1, h2, h3⟩
      · subst h2; exact .inr (by simp [h1])
  · rw [putI_new _ he, List.map_append, List.nodup_append]
    refine ⟨h.nd, by simp, fun a ha b hb => ?_⟩
    have : b = (e : Int) := by simpa using hb
    subst this
    rintro rfl
    obtain ⟨z, hz, hz2⟩ := List.mem_map.mp ha
    exact lookI_none.mp he z.2 (by rw [← hz2]; exact hz)
  · rw [putI_new _ he]
    have := h.fl
    simp; omega
  · rw [putI_new _ he]
    intro z hz
    rcases List.mem_append.mp hz with hz | hz
    · exact h.fv z hz
    · have : z = ((e : Int), PyData.int (m : Int)) := by simpa using hz
      subst this; rfl
theorem Mid.fc {net : List (List Int)} {y L : Nat} {E : Nat → Prop} {kvs : List (Int × PyData)} {found : List Int} (h : Mid net y L E kvs found) : (Cl.dic .k (dKV kvs)).fl = true := rfl
structure WayOk (net : List (List Int)) (y o n : Nat) (w : List Nat) : Prop where
  len : w.length = n + 1
  fst : w[0]? = some y
  lst : w[n]? = some o
  stp : ∀ (k a b : Nat), w[k]? = some a → w[k + 1]? = some b → El net a b
end PD
set_option linter.all false
set_option maxRecDepth 100000
set_option autoImplicit false
namespace PD
open PySem L2
end PD
set_option linter.all false
set_option maxRecDepth 100000
set_option autoImplicit false
namespace PD
open PySem L2
structure Ord (rows : List (List Int)) (order back : List Nat) : Prop where
  ol : order.length = rows.length
  bl : back.length = rows.length
  ob : ∀ p m : Nat, order[p]? = some m → back[m]? = some p
  bo : ∀ m p : Nat, back[m]? = some p → order[p]? = some m
  top : ∀ m e : Nat, El rows m e → ∀ p : Nat, back[m]? = some p → ∃ q : Nat, back[e]? = some q ∧ q < p
theorem Ord.lt {rows : List (List Int)} {order back : List Nat} (h : Ord rows order back) {p m : Nat} (hp : order[p]? = some m) : m < rows.length := by
  rw [← h.bl]
  exact (List.getElem?_eq_some_iff.mp (h.ob p m hp)).1
end PD
set_option linter.all false
set_option maxRecDepth 100000
set_option autoImplicit false
namespace PD
open PySem L2
end PD
set_option linter.all false
set_option maxRecDepth 100000
set_option autoImplicit false
namespace PD
open PySem L2
end PD
set_option linter.all false
set_option maxRecDepth 100000
set_option maxHeartbeats 0
set_option autoImplicit false
namespace PD
open PySem L2
theorem n_compS {α : Type} {enc : α → PyData} (xs : List α) {S : Type} (Rel : Nat → List PyData → S → Prop) (sh : S → List Sl) (s0 : S) {vs : List Nat} {g : DG} {it : DI} {t : DT} {e : DF} {Γ Γ1 : List Sl} {fr : Bool} (h1 : it Γ = .val ((xs.map enc, fr), Γ1)) (hs : xs.length < 2 ^ 20) (h0 : wipeG Γ1 vs = sh s0) (hr : Rel 0 [] s0)
    (hb : ∀ (i : Nat) (x : α) (out : List PyData) (s : S), xs[i]? = some x → Rel i out s → ∃ Γ2, g fr (enc x) (sh s) = some Γ2 ∧ ∃ z Γ3, t Γ2 = .val (z, Γ3) ∧ (z = true → ∃ o Γ4 s', e Γ3 = .val (.d true o, Γ4) ∧ wipeG Γ4 vs = sh s' ∧ Rel (i + 1) (out ++ [o]) s') ∧ (z = false → ∃ s', wipeG Γ3 vs = sh s' ∧ Rel (i + 1) out s')) :
    ∃ out s, nComp vs g it t e Γ = .val (out, sh s) ∧ Rel xs.length out s := by
  have key : Ok (nComp vs g it t e Γ) fun z => ∃ s, z.2 = sh s ∧ Rel xs.length z.1 s := by
    unfold nComp
    rw [h1, bind_val]
    have : szB (xs.map enc) = true := szB_map hs
    show Ok ((R.req (szB (xs.map enc))).bind _) _
    rw [this, req_true, bind_val, h0]
    refine ok_compU (fun i out Γ => ∃ s, Γ = sh s ∧ Rel i out s) (xs.map enc) ⟨s0, rfl, hr⟩ (fun i d out Γ hd hI => ?_) fun out Γ hI => ?_
    · obtain ⟨s, rfl, hI⟩ := hI
      obtain ⟨x, hx, rfl⟩ := gmap hd
      obtain ⟨Γ2, q1, z, Γ3, q2, hT, hF⟩ := hb i x out s hx hI
      refine ⟨Γ2, q1, ok_of q2 ?_⟩
      cases z with
      | true =>
        obtain ⟨o, Γ4, s', q3, q4, q5⟩ := hT rfl
        exact ok_of q3 ⟨o, rfl, s', q4, q5⟩
      | false =>
        obtain ⟨s', q4, q5⟩ := hF rfl
        exact ⟨s', q4, q5⟩
    · rw [List.length_map] at hI
      exact hI
  obtain ⟨⟨out, Γ'⟩, e1, s, h2, h3⟩ := key
  have h2 : Γ' = sh s := h2
  subst h2
  exact ⟨out, s, e1, h3⟩
theorem e_andT {Γ Γ1 Γ2 : List Sl} {f g : DF} {f1 f2 z x : Bool} (h1 : f Γ = .val (.d f1 (.bool x), Γ1)) (hx : x = true) (h2 : g Γ1 = .val (.d f2 (.bool z), Γ2)) : dAnd f g Γ = .val (.d true (.bool z), Γ2) := by
  subst hx
  unfold dAnd; rw [h1, bind_val]
  show ((g Γ1).bind _) = _
  rw [h2]; rfl
abbrev Dk3 := Int × Int × Int
def BB (d : Dk3) (B : Nat) : Prop := 0 ≤ d.2.1 ∧ d.2.1 ≤ (B : Int)
theorem BB.mono {d : Dk3} {B C : Nat} (h : BB d B) (hc : B ≤ C) : BB d C := ⟨h.1, by have := h.2; omega⟩
end PD
set_option linter.all false
set_option maxRecDepth 100000
set_option maxHeartbeats 0
set_option autoImplicit false
namespace PD
open PySem L2
end PD
set_option linter.all false
set_option maxRecDepth 100000
set_option autoImplicit false
namespace PD
open PySem L2
def WE (b : DS) (Γ : List Sl) (x : Exn) : Prop := b Γ = .exc x
section
variable {Γ Γ1 Γ2 : List Sl} {f g : DF} {b r r2 c2 : DS} {x : DX} {t : DT} {fr z : Bool} {d : PyData} {P : Fw → List Sl → Prop} {m i : Nat} {y : Exn} {k : DA} {as : List AV} {ds : List PyData}
theorem we_here (h : b Γ = .exc y) : WE (bSeq b r) Γ y := by
  unfold WE bSeq
  rw [h]; rfl
theorem we_seqN (h : WE r Γ y) : WE (bSeq bNil r) Γ y := h
theorem we_seqA (h : WE (bSeq b (bSeq r r2)) Γ y) : WE (bSeq (bSeq b r) r2) Γ y := by
  have e : bSeq (bSeq b r) r2 Γ = bSeq b (bSeq r r2) Γ := by
    unfold bSeq
    rw [R.bind_assoc]
    congr 1
    funext z
    obtain ⟨w, Γ1⟩ := z
    cases w <;> rfl
  unfold WE
  rw [e]
  exact h
theorem we_ifY (h1 : t Γ = .val (z, Γ1)) (hz : z = true) (h : WE (bSeq b r) Γ1 y) : WE (bSeq (bIf t b c2) r) Γ y := by
  subst hz
  have e : bSeq (bIf t b c2) r Γ = bSeq b r Γ1 := by
    unfold bSeq bIf
    rw [h1, bind_val]; rfl
  unfold WE
  rw [e]; exact h
theorem we_ifN (h1 : t Γ = .val (z, Γ1)) (hz : z = false) (h : WE (bSeq c2 r) Γ1 y) : WE (bSeq (bIf t b c2) r) Γ y := by
  subst hz
  have e : bSeq (bIf t b c2) r Γ = bSeq c2 r Γ1 := by
    unfold bSeq bIf
    rw [h1, bind_val]; rfl
  unfold WE
  rw [e]; exact h
theorem we_raise {c : Str} {fns : List Str} (h1 : k Γ = .val (as, Γ1)) (h2 : allF as = some (ds, true)) (h3 : ds.length = fns.length) (hy : y = ⟨c, (fns.zip ds).reverse, Γ1⟩) : WE (bSeq (bRaise c fns k) r) Γ y :=
  we_here (by unfold bRaise; rw [h1, bind_val]; simp only [h2]; rw [if_pos h3, hy])
theorem w_tryX {xs : List Str} {D : Str} {s : DS} (h : WE b Γ y) (hc : xs.contains y.cls = true) (hD : exIs y.cls D = true) (hs : W s (y.st.set i (.dat true (xcD y.cls y.flds))) fun w Γ1 => match w with
    | .nx => W r (Γ1.set i .un) P
    | w => P w (Γ1.set i .un)) : W (bSeq (bTry xs i D b s) r) Γ P := by
  refine w_seq ?_
  obtain ⟨z, e, q⟩ := hs
  obtain ⟨w, Γ1⟩ := z
  refine ⟨(w, Γ1.set i .un), ?_, ?_⟩
  · unfold bTry
    unfold WE at h
    rw [h]
    dsimp only
    rw [if_pos hc, if_pos hD, e]
  · cases w <;> exact q
theorem e_att {xs : List Str} {n c : Str} {kvs : List (PyData × PyData)} (h1 : f Γ = .val (.d fr (.dict ((.none, .str c) :: kvs)), Γ1)) (hc : xs.contains c = true) (hf : fldA n kvs = some d) : dAtt xs n f Γ = .val (.d fr d, Γ1) := by
  unfold dAtt; rw [h1, bind_val]; simp only [hc, hf]; rfl
end
local macro_rules
  | `(tactic| injections) => `(tactic| repeat (with_reducible first | apply we_seqN | apply we_seqA))
local macro_rules
  | `(tactic| false_or_by_contra) => `(tactic| (injections; apply we_ifN; array_mem_dec; (try (case hz => first | rfl | (simp [tyIs, isN, optI]; done) | (simp [tyIs, isN, optI]; omega))); injections))
local macro_rules
  | `(tactic| subst_eqs) => `(tactic| (injections; apply we_ifY; array_mem_dec; (try (case hz => first | rfl | (simp [tyIs, isN, optI]; done) | (simp [tyIs, isN, optI]; omega))); injections))
end PD
section
open PySem L2 PD
local macro_rules
  | `(tactic| injections) => `(tactic| repeat (with_reducible first | apply we_seqN | apply we_seqA))
local macro_rules
  | `(tactic| false_or_by_contra) => `(tactic| (injections; apply we_ifN; array_mem_dec; (try (case hz => first | rfl | (simp [tyIs, isN, optI]; done) | (simp [tyIs, isN, optI]; omega))); injections))
local macro_rules
  | `(tactic| subst_eqs) => `(tactic| (injections; apply we_ifY; array_mem_dec; (try (case hz => first | rfl | (simp [tyIs, isN, optI]; done) | (simp [tyIs, isN, optI]; omega))); injections))
set_option linter.all false
set_option maxRecDepth 100000
set_option autoImplicit false
namespace PD
open PySem L2
end PD
set_option linter.all false
set_option maxRecDepth 100000
set_option autoImplicit false
namespace PD
open PySem L2
end PD
set_option linter.all false
set_option maxRecDepth 100000
set_option autoImplicit false
namespace PD
open PySem L2
end PD
set_option linter.all false
set_option maxRecDepth 100000
set_option autoImplicit false
namespace PD
open PySem L2
end PD
set_option linter.all false
set_option maxRecDepth 100000
set_option autoImplicit false
namespace PD
open PySem L2
end PD
set_option linter.all false
set_option maxRecDepth 100000
set_option autoImplicit false
namespace PD
open PySem L2
end PD
set_option linter.all false
set_option maxRecDepth 100000
set_option autoImplicit false
namespace PD
open PySem L2
end PD
set_option linter.all false
set_option maxRecDepth 100000
set_option autoImplicit false
namespace PD
open PySem L2
end PD
set_option linter.all false
set_option maxRecDepth 100000
set_option maxHeartbeats 0
set_option autoImplicit false
namespace PD
open PySem L2
end PD
set_option linter.all false
set_option maxRecDepth 100000
set_option autoImplicit false
namespace PD
open PySem L2
inductive BarD : PyData → List Int → Prop
  | l (ns : List Int) : BarD (dL ns) ns
  | t (ns : List Int) : BarD (dT ns) ns
  | n : BarD .none []
end PD
set_option linter.all false
set_option maxRecDepth 100000
set_option maxHeartbeats 0
set_option autoImplicit false
namespace PD
open PySem L2
end PD
set_option linter.all false
set_option maxRecDepth 100000
set_option maxHeartbeats 0
set_option autoImplicit false
namespace PD
open PySem L2
end PD
set_option linter.all false
set_option maxRecDepth 100000
set_option maxHeartbeats 0
set_option autoImplicit false
namespace PD
open PySem L2
def Ow (n : Nat) (ks : List Int) (P : Nat → Prop) : Prop := ks.Nodup ∧ (∀ y ∈ ks, 0 ≤ y ∧ y < (n : Int)) ∧ ks ≠ [] ∧ ∀ j : Nat, (j : Int) ∈ ks ↔ P j
theorem Ow.len {n : Nat} {ks : List Int} {P : Nat → Prop} (h : Ow n ks P) : ks.length ≤ n := nodup_len n ks h.1 h.2.1
def ansL : List Str := ["good", "bad", "cannot"]
end PD
set_option linter.all false
set_option maxRecDepth 100000
set_option maxHeartbeats 0
set_option autoImplicit false
namespace PD
open PySem L2
abbrev Tr := Int × Str
def TrOk (n : Nat) (ts : List Tr) : Prop := ∀ q ∈ ts, 0 ≤ q.1 ∧ q.1 < (n : Int) ∧ q.2 ∈ ansL
section
variable (net : List (List Int)) (bs : List Int) (eb : uBitsOf [.d (dTT net)] = .val (.c (.lst (bs.map PyData.int)), [.un])) (hbl : bs.length = net.length) (hn : net.length ≤ 1000) (tp : Bool) (ts : List Tr) (hts : TrOk net.length ts) (hl : ts.length < 2 ^ 20) (lies : Int)
end
end PD
set_option linter.all false
set_option maxRecDepth 100000
set_option maxHeartbeats 0
set_option autoImplicit false
namespace PD
open PySem L2
section
variable (net : List (List Int)) (bs : List Int) (eb : uBitsOf [.d (dTT net)] = .val (.c (.lst (bs.map PyData.int)), [.un])) (hbl : bs.length = net.length) (hn : net.length ≤ 1000) (tp : Bool) (ts : List Tr) (hts : TrOk net.length ts) (hl : ts.length < 2 ^ 20) (lies : Int)
end
end PD
set_option linter.all false
set_option maxRecDepth 100000
set_option maxHeartbeats 0
set_option autoImplicit false
namespace PD
open PySem L2
inductive Pl where
  | lf (ms : List Int)
  | tr (m : Int) (b g : Pl)
def dpt : Pl → Nat
  | .lf _ => 0
  | .tr _ b g => 1 + max (dpt b) (dpt g)
theorem e_cat {Γ Γ1 Γ2 : List Sl} {f g : DF} {f1 f2 : Bool} {xs ys : List PyData} (h1 : f Γ = .val (.d f1 (.tuple xs), Γ1)) (h2 : g Γ1 = .val (.d f2 (.tuple ys), Γ2)) (h3 : szB (xs ++ ys) = true) : dAdd f g Γ = .val (.d (f1 && f2) (.tuple (xs ++ ys)), Γ2) := by
  unfold dAdd; rw [h1, bind_val, h2, bind_val]
  show (gq (szB (xs ++ ys)) _).bind _ = _
  rw [h3]; rfl
end PD
set_option linter.all false
set_option maxRecDepth 100000
set_option maxHeartbeats 0
set_option autoImplicit false
namespace PD
open PySem L2
end PD
set_option linter.all false
set_option maxRecDepth 100000
set_option maxHeartbeats 0
set_option autoImplicit false
namespace PD
open PySem L2
def room (lies : Int) : List (Int × Int) → Int
  | [] => 0
  | z :: st => (lies + 1 - z.2) + room lies st
end PD
set_option linter.all false
set_option maxRecDepth 100000
set_option maxHeartbeats 0
set_option autoImplicit false
namespace PD
open PySem L2
end PD
set_option linter.all false
set_option maxRecDepth 100000
set_option autoImplicit false
namespace PD
open PySem L2
end PD
set_option linter.all false
set_option maxRecDepth 100000
set_option maxHeartbeats 0
set_option autoImplicit false
namespace PD
open PySem L2
def prL (w : List Int) (m : Int) : Int := (w[m.toNat]?).getD 0
def lvs : Pl → List (List Str × List Int)
  | .lf ms => [([], ms)]
  | .tr _ b g => (lvs b).map (fun z => (("bad" : Str) :: z.1, z.2)) ++ (lvs g).map fun z => (("good" : Str) :: z.1, z.2)
end PD
set_option linter.all false
set_option maxRecDepth 100000
set_option maxHeartbeats 0
set_option autoImplicit false
namespace PDW
open PySem L2 PD
structure NKey {κ : Type} (kD : κ → PyData) : Prop where
  ok : ∀ k, nkOk (kD k) = true
  inj : ∀ a b, nkD (kD a) = nkD (kD b) → a = b
  eq : ∀ a, eqN (kD a) (kD a) = true
section
variable {κ ω : Type} {kD : κ → PyData} {vD : ω → PyData}
abbrev nD (kD : κ → PyData) (vD : ω → PyData) (l : List (κ × ω)) : List (PyData × PyData) := l.map fun z => (kD z.1, vD z.2)
variable {f g : DF} {Γ Γ1 Γ2 : List Sl} {fr fr2 : Bool} {m : Nat}
end
end PDW
set_option linter.all false
set_option maxRecDepth 100000
set_option autoImplicit false
namespace PD
open PySem L2
end PD
set_option linter.all false
set_option maxRecDepth 100000
set_option autoImplicit false
namespace PD
open PySem L2
end PD
set_option linter.all false
set_option maxRecDepth 100000
set_option autoImplicit false
namespace PD
open PySem L2
end PD
set_option linter.all false
set_option maxRecDepth 100000
set_option autoImplicit false
namespace PD
open PySem L2
end PD
set_option linter.all false
set_option maxRecDepth 100000
set_option autoImplicit false
namespace PD
open PySem L2
end PD
set_option linter.all false
set_option maxRecDepth 100000
set_option autoImplicit false
namespace PD
open PySem L2
section
variable {Γ Γ1 Γ2 Γ3 : List Sl} {f g h : DF} {b r s : DS} {P : Fw → List Sl → Prop} {i j m : Nat} {ds es : List PyData} {fr : Bool} {a a2 : AV}
end
end PD
set_option linter.all false
set_option maxRecDepth 100000
set_option maxHeartbeats 0
set_option autoImplicit false
namespace PDW
open PySem L2 PD
open PySem.W (dataLt dataLe alike)
structure TKey {κ : Type} [DecidableEq κ] (kD : κ → PyData) : Prop where
  eq : ∀ a b, eqK (kD a) (kD b) = decide (a = b)
  ok : ∀ a, kOk .t (kD a) = true
  tp : ∀ a, ∃ xs, kD a = .tuple xs
  fl : ∀ a, flat (kD a) = true
abbrev strT : List Str → PyData := fun a => .tuple (a.map .str)
section
variable {κ ω : Type} [DecidableEq κ] {kD : κ → PyData} {vD : ω → PyData} {Γ Γ1 Γ2 : List Sl} {f g : DF} {fr fr2 : Bool} {m : Nat}
end
end PDW
set_option linter.all false
set_option maxRecDepth 100000
set_option maxHeartbeats 0
set_option autoImplicit false
namespace PD
open PySem L2 PDW
open PySem.W (dataLt dataLe alike)
end PD
set_option linter.all false
set_option maxRecDepth 100000
set_option maxHeartbeats 0
set_option autoImplicit false
namespace PD
open PySem L2 PDW
section
variable {Γ Γ1 Γ2 : List Sl} {f g fe : DF} {k : DA} {cl : List (Str × List Str)} {c n : Str} {fr fr2 : Bool} {m : List Ar → R (Rs × List Sl)} {ms : List Bool} {dds : List PyData} {as : List AV} {ars : List Ar} {r : Rs} {Z : List Sl} {b : DS} {P : Fw → List Sl → Prop} {i : Nat}
end
end PD
set_option linter.all false
set_option maxRecDepth 100000
set_option maxHeartbeats 0
set_option autoImplicit false
namespace PD
open PySem L2
abbrev tl (s : Str) : List Nat := s.cps.toList
theorem tl_app (a b : Str) : tl (a ++ b) = tl a ++ tl b := by
  show (a.cps ++ b.cps).toList = _
  rw [Array.toList_append]
theorem len_tl (a : Str) : a.length = (tl a).length := by
  show a.cps.size = _
  rw [Array.length_toList]
theorem len_app (a b : Str) : (a ++ b).length = a.length + b.length := by rw [len_tl, tl_app, List.length_append, ← len_tl, ← len_tl]
def AsOk (s : Str) : Prop := ∀ c ∈ tl s, c < 1000
theorem AsOk.app {a b : Str} (h : AsOk a) (h2 : AsOk b) : AsOk (a ++ b) := fun c hc => by
  rw [tl_app] at hc
  rcases List.mem_append.mp hc with h3 | h3
  · exact h c h3
  · exact h2 c h3
theorem AsOk.ok {a : Str} (h : AsOk a) : PyData.strOk a = true := by
  unfold PyData.strOk
  rw [← Array.all_toList, List.all_eq_true]
  intro c hc
  have := h c hc
  exact decide_eq_true (by omega)
theorem k_eqTx {Γ : List Sl} {f1 f2 : Bool} {a b : Str} (h1 : AsOk a) (h2 : AsOk b) : kEq Γ (.d f1 (.str a)) (.d f2 (.str b)) = .val (decide (a = b)) := k_eqS h1.ok h2.ok
theorem len_sz {n : Nat} (h : n ≤ 100000) : decide (n ≤ sizeLine) = true := decide_eq_true (Nat.le_trans h (by decide))
section
variable {Γ Γ1 Γ2 Γ3 : List Sl} {f g : DF} {fr fr2 : Bool} {x y : Str}
theorem e_addS (h1 : f Γ = .val (.d fr (.str x), Γ1)) (h2 : g Γ1 = .val (.d fr2 (.str y), Γ2)) (h : x.length + y.length ≤ 100000) : dAdd f g Γ = .val (.d true (.str (x ++ y)), Γ2) := by
  unfold dAdd
  rw [h1, bind_val, h2, bind_val]
  show (gq _ _).bind _ = _
  rw [gq_of _ (len_sz h)]
  rfl
theorem e_ixStr {i : Int} {c : Nat} (h1 : f Γ = .val (.d fr (.str x), Γ1)) (h2 : g Γ1 = .val (.d fr2 (.int i), Γ2)) (h3 : atI (tl x) i = some c) (h : x.length ≤ 100000) : dIxS f g Γ = .val (.d true (.str ⟨#[c]⟩), Γ2) := by
  unfold dIxS
  rw [h1, bind_val, h2, bind_val]
  show ((R.ofO (atI (tl x) i)).bind _).bind _ = _
  rw [h3, ofO_some, bind_val, gq_of _ (len_sz h)]
  rfl
end
def IsNm (s : Str) : Prop := 1 ≤ s.length ∧ s.length ≤ 8 ∧ ∀ c ∈ tl s, 97 ≤ c ∧ c < 123
def ALPH : Str := "abcdefghijklmnopqrstuvwxyz"
theorem alph_tl : tl ALPH = (List.range 26).map (97 + ·) := by decide +kernel
theorem alph_len : ALPH.length = 26 := by decide +kernel
theorem alph_at {i : Int} (h0 : 0 ≤ i) (h1 : i < 26) : atI (tl ALPH) i = some (97 + i.toNat) := by
  obtain ⟨k, rfl⟩ : ∃ k : Nat, i = (k : Int) := ⟨i.toNat, by omega⟩
  refine atI_nat ?_
  rw [alph_tl, List.getElem?_map, List.getElem?_range (by omega)]
  rfl
def Ltr (l : List Nat) : Prop := ∀ c ∈ l, 97 ≤ c ∧ c < 123
theorem Ltr.app {a b : List Nat} (h : Ltr a) (h2 : Ltr b) : Ltr (a ++ b) := fun c hc => (List.mem_append.mp hc).elim (h c) (h2 c)
theorem Ltr.one {k : Nat} (h : k < 26) : Ltr [97 + k] := fun c hc => by have := List.mem_singleton.mp hc; omega
theorem Ltr.sub {a b : List Nat} (h : Ltr b) (h2 : ∀ c ∈ a, c ∈ b) : Ltr a := fun c hc => h c (h2 c hc)
theorem IsNm.as {s : Str} (h : IsNm s) : AsOk s := fun c hc => by have := h.2.2 c hc; omega
structure Nm where
  s : Str
  ok : PyData.strOk s = true
deriving DecidableEq
def nmD (t : Nm) : PyData := .str t.s
theorem nm_ext {a b : Nm} (h : a.s = b.s) : a = b := by cases a; cases b; cases h; rfl
theorem eqt_nm : EqT nmD 0 := ⟨fun x => x.ok, fun _ => Nat.le_refl _, fun x y => by
  show (x.s == y.s) = _
  by_cases h : x = y
  · subst h; simp
  · rw [decide_eq_false h]
    exact beq_eq_false_iff_ne.mpr fun e => h (nm_ext e)⟩
theorem nm_list : ∀ (xs : List Str), (∀ x ∈ xs, PyData.strOk x = true) → ∃ ys : List Nm, ys.map (·.s) = xs
  | [], _ => ⟨[], rfl⟩
  | x :: xs, h => by
    obtain ⟨ys, e⟩ := nm_list xs fun y hy => h y (List.mem_cons_of_mem _ hy)
    exact ⟨⟨x, h x List.mem_cons_self⟩ :: ys, by rw [List.map_cons, e]⟩
end PD
set_option linter.all false
set_option maxRecDepth 100000
set_option autoImplicit false
namespace PD
open PySem L2
end PD
set_option linter.all false
set_option maxRecDepth 100000
set_option maxHeartbeats 0
set_option autoImplicit false
namespace PDW
open PySem L2 PD
open PySem.W (dataLt dataLe alike)
def bad? (b : Bool) : Str := if b then "bad" else "good"
def ans (bs : List Int) (ts : List Int) (m : Int) : List Str := ts.map fun t => bad? (inb (bs[t.toNat]?.getD 0) m)
def InR (n : Nat) (ts : List Int) : Prop := ∀ t ∈ ts, 0 ≤ t ∧ t < (n : Int)
def adK {κ : Type} [DecidableEq κ] (ks : List κ) (a : κ) : List κ := if a ∈ ks then ks else ks ++ [a]
def kyS {κ : Type} [DecidableEq κ] (f : Int → κ) (ms : List Int) : List κ := ms.foldl (fun ks m => adK ks (f m)) []
theorem adK_mem {κ : Type} [DecidableEq κ] {ks : List κ} {a x : κ} : x ∈ adK ks a ↔ x ∈ ks ∨ x = a := by
  unfold adK
  split
  · constructor
    · exact .inl
    · rintro (h | rfl)
      · exact h
      · assumption
  · simp
theorem adK_nd {κ : Type} [DecidableEq κ] {ks : List κ} {a : κ} (h : ks.Nodup) : (adK ks a).Nodup := by
  unfold adK
  split
  · exact h
  · rename_i hn
    rw [List.nodup_append]
    refine ⟨h, by simp, ?_⟩
    intro x hx y hy e
    have hy : y = a := by simpa using hy
    rw [e, hy] at hx
    exact hn hx
theorem kyS_fold {κ : Type} [DecidableEq κ] (f : Int → κ) : ∀ (ms : List Int) (ks : List κ), ks.Nodup → (ms.foldl (fun ks m => adK ks (f m)) ks).Nodup ∧ ∀ x, x ∈ ms.foldl (fun ks m => adK ks (f m)) ks ↔ x ∈ ks ∨ ∃ m ∈ ms, f m = x
  | [], ks, h => ⟨h, fun x => by simp⟩
  | m :: ms, ks, h => by
    obtain ⟨i1, i2⟩ := kyS_fold f ms (adK ks (f m)) (adK_nd h)
    refine ⟨i1, fun x => ?_⟩
    rw [List.foldl_cons, i2 x, adK_mem]
    constructor
    · rintro ((h | rfl) | ⟨y, hy, e⟩)
      · exact .inl h
      · exact .inr ⟨m, by simp, rfl⟩
      · exact .inr ⟨y, by simp [hy], e⟩
    · rintro (h | ⟨y, hy, e⟩)
      · exact .inl (.inl h)
      · rcases List.mem_cons.mp hy with rfl | hy
        · exact .inl (.inr e.symm)
        · exact .inr ⟨y, hy, e⟩
theorem kyS_mem {κ : Type} [DecidableEq κ] {f : Int → κ} {ms : List Int} {x : κ} : x ∈ kyS f ms ↔ ∃ m ∈ ms, f m = x := by
  have := (kyS_fold f ms [] List.nodup_nil).2 x
  unfold kyS
  rw [this]; simp
def grpOf {κ : Type} [DecidableEq κ] (f : Int → κ) (ms : List Int) (a : κ) : List Int := ms.filter fun m => decide (f m = a)
abbrev mulL (f : Int → List Str) (ms : List Int) : List (PyData × List PyData) := (kyS f ms).map fun a => (strT a, (grpOf f ms a).map .int)
def ordA (ks : List (List Str)) : List (List Str) := ks.mergeSort (dataLe false strT)
theorem ordA_perm (ks : List (List Str)) : (ordA ks).Perm ks := List.mergeSort_perm _ _
def spl (bs ts ms : List Int) : List (List Str × List Int) := (ordA (kyS (ans bs ts) ms)).map fun a => (a, grpOf (ans bs ts) ms a)
end PDW
set_option linter.all false
set_option maxRecDepth 100000
set_option maxHeartbeats 0
set_option autoImplicit false
namespace PDW
open PySem L2 PD
open PySem.W (dataLt dataLe alike keyToksAll)
open PyProof.Rows (lexLt itemOrd)
theorem grp_sub {κ : Type} [DecidableEq κ] {f : Int → κ} {ms : List Int} {a : κ} : (grpOf f ms a).Sublist ms := List.filter_sublist
theorem spl_mem {bs ts ms : List Int} {z : List Str × List Int} (h : z ∈ spl bs ts ms) : (∃ m ∈ ms, ans bs ts m = z.1) ∧ z.2 = grpOf (ans bs ts) ms z.1 := by
  obtain ⟨a, ha, rfl⟩ := List.mem_map.mp h
  exact ⟨kyS_mem.mp ((ordA_perm _).mem_iff.mp ha), rfl⟩
end PDW
set_option linter.all false
set_option maxRecDepth 100000
set_option maxHeartbeats 0
set_option autoImplicit false
namespace PDW
open PySem L2 PD
open PySem.W (dataLt dataLe alike)
def lastI (xs : List Int) : Int := xs.getLast?.getD 0
def more (some : List Int) (one : List Int) : List (List Int) := (some.filter fun m => decide (one = []) || decide (lastI one < m)).map fun m => one ++ [m]
def rowN (some : List Int) : Nat → List (List Int)
  | 0 => [[]]
  | n + 1 => (rowN some n).flatMap (more some)
def chs (some : List Int) : Nat → List (List Int)
  | 0 => []
  | n + 1 => chs some n ++ rowN some (n + 1)
theorem rowN_mem {some : List Int} : ∀ {n : Nat} {t : List Int}, t ∈ rowN some n → (∀ x ∈ t, x ∈ some) ∧ t.length = n
  | 0, t, h => by
    have : t = [] := by simpa [rowN] using h
    subst this
    exact ⟨fun x h => absurd h List.not_mem_nil, rfl⟩
  | n + 1, t, h => by
    obtain ⟨one, h1, h2⟩ := List.mem_flatMap.mp h
    obtain ⟨m, h3, rfl⟩ := List.mem_map.mp h2
    obtain ⟨i1, i2⟩ := rowN_mem h1
    refine ⟨fun x hx => ?_, by rw [List.length_append, i2]; rfl⟩
    rcases List.mem_append.mp hx with h | h
    · exact i1 x h
    · have : x = m := by simpa using h
      rw [this]; exact (List.mem_filter.mp h3).1
theorem chs_mem {some : List Int} : ∀ {w : Nat} {t : List Int}, t ∈ chs some w → (∀ x ∈ t, x ∈ some) ∧ t ≠ [] ∧ t.length ≤ w
  | 0, t, h => absurd h List.not_mem_nil
  | w + 1, t, h => by
    rcases List.mem_append.mp h with h | h
    · obtain ⟨h1, h2, h3⟩ := chs_mem h
      exact ⟨h1, h2, by omega⟩
    · obtain ⟨h1, h2⟩ := rowN_mem h
      exact ⟨h1, fun e => (by rw [e] at h2; cases h2), by omega⟩
theorem chs_nil (w : Nat) : chs [] w = [] := by
  cases e : chs [] w with
  | nil => rfl
  | cons t r =>
    obtain ⟨h1, h2, _⟩ := chs_mem (show t ∈ chs [] w by rw [e]; simp)
    cases t with
    | nil => exact absurd rfl h2
    | cons x s => exact absurd (h1 x (by simp)) List.not_mem_nil
def hasI (b : Int) (ms : List Int) (z : Bool) : Bool := ms.any fun m => inb b m == z
def usr (n : Nat) (bs shut : List Int) (ms : List Int) : List Int := (rng 0 (n : Nat)).filter fun k => !decide (k ∈ shut) && (hasI (bs[k.toNat]?.getD 0) ms true && hasI (bs[k.toNat]?.getD 0) ms false)
theorem hasI_iff {b : Int} {ms : List Int} {z : Bool} : hasI b ms z = true ↔ ∃ m ∈ ms, inb b m = z := by
  unfold hasI
  rw [List.any_eq_true]
  constructor
  · rintro ⟨m, h1, h2⟩; exact ⟨m, h1, by simpa using h2⟩
  · rintro ⟨m, h1, h2⟩; exact ⟨m, h1, by simpa using h2⟩
theorem usr_mono {n : Nat} {bs shut ms ks : List Int} (h : ∀ x ∈ ks, x ∈ ms) : (usr n bs shut ks).Sublist (usr n bs shut ms) := by
  have : usr n bs shut ks = (usr n bs shut ms).filter fun k => hasI (bs[k.toNat]?.getD 0) ks true && hasI (bs[k.toNat]?.getD 0) ks false := by
    unfold usr
    rw [List.filter_filter]
    apply List.filter_congr
    intro k _
    rw [Bool.eq_iff_iff]
    simp only [Bool.and_eq_true, Bool.not_eq_true', decide_eq_false_iff_not, hasI_iff]
    constructor
    · rintro ⟨a, ⟨m, h1, h2⟩, ⟨m', h3, h4⟩⟩
      exact ⟨⟨⟨m, h1, h2⟩, ⟨m', h3, h4⟩⟩, a, ⟨m, h m h1, h2⟩, ⟨m', h m' h3, h4⟩⟩
    · rintro ⟨q, a, _⟩
      exact ⟨a, q⟩
  rw [this]
  exact List.filter_sublist
end PDW
set_option linter.all false
set_option maxRecDepth 100000
set_option maxHeartbeats 0
set_option autoImplicit false
namespace PDW
open PySem L2 PD
def mo : List Int → Int
  | [] => 0
  | x :: r => Builtin.bitOr ((1 : Int) * 2 ^ x.toNat) (mo r)
def gs (b : Int) (r : List Int) : List Int := r.filter fun m => inb b m
def ng (b : Int) (r : List Int) : List Int := r.filter fun m => !inb b m
theorem InR.sub {n : Nat} {r s : List Int} (h : InR n r) (hs : s.Sublist r) : InR n s := fun x hx => h x (hs.subset hx)
theorem gs_sub (b : Int) (r : List Int) : (gs b r).Sublist r := List.filter_sublist
theorem ng_sub (b : Int) (r : List Int) : (ng b r).Sublist r := List.filter_sublist
structure SW where
  n : Nat
  bs : List Int
  ws : List Int
  shut : List Int
  pr : Option (List Int)
  tw : Bool := false
  tq : Bool := false
def SW.c (W : SW) (t : Int) : Int := match W.pr with
  | none => 1
  | some l => prL l t
def SW.wt (W : SW) (r : List Int) : Int := (r.map (prL W.ws)).sum
def SW.us (W : SW) (r : List Int) : List Int := usr W.n W.bs W.shut r
def SW.b (W : SW) (t : Int) : Int := W.bs[t.toNat]?.getD 0
def SW.bd (W : SW) (t : Int) (r : List Int) : List Int := gs (W.b t) r
def SW.gd (W : SW) (t : Int) (r : List Int) : List Int := ng (W.b t) r
abbrev Sv := Int × Option Int
def stepS (best : Sv) (x : Int) (t : Int) : Sv := if (best.2.isNone || decide (x < best.1)) = true then (x, some t) else best
def sf (W : SW) : Nat → List Int → Sv
  | 0, _ => (0, none)
  | F + 1, r => (W.us r).foldl (fun best t => stepS best (W.c t * W.wt r + (sf W F (W.bd t r)).1 + (sf W F (W.gd t r)).1) t) (0, none)
def SW.v (W : SW) (r : List Int) : Sv := sf W (r.length + 1) r
def SW.x (W : SW) (t : Int) (r : List Int) : Int := W.c t * W.wt r + (W.v (W.bd t r)).1 + (W.v (W.gd t r)).1
inductive SW.R (W : SW) : List Int → List Int → Prop
  | rf (r) : SW.R W r r
  | bd {r k t} : SW.R W r k → t ∈ W.us k → SW.R W r (W.bd t k)
  | gd {r k t} : SW.R W r k → t ∈ W.us k → SW.R W r (W.gd t k)
theorem SR.sub {W : SW} {r k : List Int} (h : W.R r k) : k.Sublist r := by
  induction h with
  | rf => exact List.Sublist.refl _
  | bd _ _ ih => exact (gs_sub _ _).trans ih
  | gd _ _ ih => exact (ng_sub _ _).trans ih
structure SOk (net : List (List Int)) (W : SW) (row : List Int) : Prop where
  nl : net.length ≤ 1000
  en : W.n = net.length
  bk : BitsOk net W.bs
  wl : W.ws.length = net.length
  wb : ∀ w ∈ W.ws, w.natAbs < 2 ^ 200
  pl : ∀ l, W.pr = some l → l.length = net.length ∧ ∀ p ∈ l, p.natAbs < 2 ^ 200
  ri : InR net.length row
  rr : row.Pairwise (· < ·)
def SFn (W : SW) (row : List Int) : Prop := W.us row = [] ∨ row.length ≤ 10
theorem SFn.sub {W : SW} {row k : List Int} (O : SFn W row) (h : k.Sublist row) : SFn W k :=
  Or.imp (fun e => by
    have := usr_mono (n := W.n) (bs := W.bs) (shut := W.shut) fun x hx => h.subset hx
    unfold SW.us at e ⊢
    rw [e] at this
    exact List.sublist_nil.mp this) (fun e => Nat.le_trans h.length_le e) O
theorem SOk.sub {net : List (List Int)} {W : SW} {row k : List Int} (O : SOk net W row) (h : k.Sublist row) : SOk net W k :=
  ⟨O.nl, O.en, O.bk, O.wl, O.wb, O.pl, O.ri.sub h, O.rr.sublist h⟩
theorem SOk.len {net : List (List Int)} {W : SW} {row : List Int} (O : SOk net W row) : row.length ≤ net.length := by
  refine rise_len (S := fun j => (j : Int) ∈ row) ⟨O.rr, fun y => ?_⟩ fun j hj => by have := O.ri _ hj; omega
  constructor
  · intro h
    have := O.ri y h
    obtain ⟨j, rfl⟩ : ∃ j : Nat, y = (j : Int) := ⟨y.toNat, by omega⟩
    exact ⟨j, h, rfl⟩
  · rintro ⟨j, h, rfl⟩; exact h
def SW.tr (W : SW) : List Int := (rng 0 (W.n : Nat)).filter fun k => !decide (k ∈ W.shut)
section
variable {net : List (List Int)} {W : SW} {row : List Int} {kvs : List (PyData × PyData)} {Γ Γ1 : List Sl} {f : DF} {fr : Bool} {d : PyData} {n : Str}
end
end PDW
set_option linter.all false
set_option maxRecDepth 100000
set_option maxHeartbeats 0
set_option autoImplicit false
namespace PDW
open PySem L2 PD
open PySem.W (dataLt dataLe alike)
abbrev Rv := Int × Option (List Int)
structure Wd where
  n : Nat
  bs : List Int
  shut : List Int
  w : Nat
def Wd.ch (W : Wd) (ms : List Int) : List (List Int) := chs (usr W.n W.bs W.shut ms) W.w
def stepB (best : Rv) (x : Int) (t : List Int) : Rv := if (best.2.isNone || decide (1 + x < best.1)) = true then (1 + x, some t) else best
def rv (W : Wd) : Nat → List Int → Rv
  | 0, _ => (0, none)
  | F + 1, ms => (W.ch ms).foldl (fun best t => stepB best ((spl W.bs t ms).foldl (fun x z => max2 x (rv W F z.2).1) 0) t) (0, none)
theorem part_sub {bs ts ms : List Int} {z : List Str × List Int} (h : z ∈ spl bs ts ms) : z.2.Sublist ms := by
  obtain ⟨_, e⟩ := spl_mem h
  rw [e]; exact grp_sub
def Wd.v (W : Wd) (ms : List Int) : Rv := rv W ms.length ms
def Wd.Ch (W : Wd) (ms k : List Int) : Prop := ∃ t ∈ W.ch ms, ∃ z ∈ spl W.bs t ms, z.2 = k
inductive Wd.Rch (W : Wd) : List Int → List Int → Prop
  | rf (ms) : Wd.Rch W ms ms
  | st {ms k l} : Wd.Rch W ms k → W.Ch k l → Wd.Rch W ms l
theorem Rch.sub {W : Wd} {ms k : List Int} (h : W.Rch ms k) : k.Sublist ms := by
  induction h with
  | rf => exact List.Sublist.refl _
  | st _ h ih =>
    obtain ⟨t, _, z, hz, rfl⟩ := h
    exact (part_sub hz).trans ih
abbrev RB := List (List Int × Rv)
abbrev ksR (D : RB) : List (List Int) := D.map (·.1)
structure DOk (W : Wd) (row : List Int) (D : RB) : Prop where
  nd : (ksR D).Nodup
  vl : ∀ z ∈ D, z.2 = W.v z.1
  cl : ∀ k ∈ ksR D, ∀ l, W.Ch k l → l ∈ ksR D
  rc : ∀ k ∈ ksR D, W.Rch row k
structure WOk (net : List (List Int)) (W : Wd) (row : List Int) : Prop where
  nl : net.length ≤ 1000
  en : W.n = net.length
  bk : BitsOk net W.bs
  ri : InR net.length row
  rl : row.length ≤ 50
  wl : W.w ≤ 3
  us : (usr W.n W.bs W.shut row).length ≤ 10
  fin : ∀ L : List (List Int), L.Nodup → (∀ k ∈ L, W.Rch row k) → L.length ≤ 1000
end PDW
set_option linter.all false
set_option maxRecDepth 100000
set_option maxHeartbeats 0
set_option autoImplicit false
namespace PDW
open PySem L2 PD
open PySem.W (dataLt dataLe alike)
def subs : List Int → List (List Int)
  | [] => [[]]
  | x :: r => subs r ++ (subs r).map fun s => x :: s
theorem subs_len : ∀ r : List Int, (subs r).length = 2 ^ r.length
  | [] => rfl
  | x :: r => by rw [subs, List.length_append, List.length_map, subs_len r, List.length_cons, Nat.pow_succ]; omega
theorem subs_mem {k r : List Int} (h : k.Sublist r) : k ∈ subs r := by
  induction h with
  | slnil => simp [subs]
  | cons a _ ih => exact List.mem_append.mpr (.inl ih)
  | cons_cons a _ ih => exact List.mem_append.mpr (.inr (List.mem_map.mpr ⟨_, ih, rfl⟩))
theorem ch_none {W : Wd} {ms : List Int} (h : usr W.n W.bs W.shut ms = []) : W.ch ms = [] := by
  unfold Wd.ch; rw [h, chs_nil]
theorem rch_one {W : Wd} {row k : List Int} (h : usr W.n W.bs W.shut row = []) (hr : W.Rch row k) : k = row := by
  induction hr with
  | rf => rfl
  | st _ hc ih =>
    subst ih
    obtain ⟨t, ht, _⟩ := hc
    rw [ch_none h] at ht
    exact absurd ht List.not_mem_nil
theorem fin_of {W : Wd} {row : List Int} (h : usr W.n W.bs W.shut row = [] ∨ row.length ≤ 6) : ∀ L : List (List Int), L.Nodup → (∀ k ∈ L, W.Rch row k) → L.length ≤ 1000 := by
  intro L nd hL
  rcases h with h | h
  · have := nd.length_le_of_subset (l₂ := [row]) (fun k hk => by rw [rch_one h (hL k hk)]; simp)
    simp at this
    omega
  · have := nd.length_le_of_subset (l₂ := subs row) (fun k hk => subs_mem (Rch.sub (hL k hk)))
    rw [subs_len] at this
    have : 2 ^ row.length ≤ 2 ^ 6 := Nat.pow_le_pow_right (by decide) h
    omega
structure Hd (net : List (List Int)) (W : Wd) (row hs : List Int) (bd : PyData) : Prop where
  nl : net.length ≤ 1000
  en : W.n = net.length
  bk : BitsOk net W.bs
  eb : uBitsOf [.d (dTT net)] = .val (.c (.lst (W.bs.map PyData.int)), [.un])
  hh : InR net.length hs
  hr : row.Pairwise (· < ·)
  he : ∀ x, x ∈ row ↔ x ∈ hs
  rl : row.length ≤ 50
  wl : W.w ≤ 3
  bd : ∃ sh, BarD bd sh ∧ ∀ x, x ∈ sh ↔ x ∈ W.shut
theorem Hd.ri {net : List (List Int)} {W : Wd} {row hs : List Int} {bd : PyData} (H : Hd net W row hs bd) : InR net.length row := fun t h => H.hh t ((H.he t).mp h)
theorem Hd.ok {net : List (List Int)} {W : Wd} {row hs : List Int} {bd : PyData} (H : Hd net W row hs bd) (h1 : usr W.n W.bs W.shut row = [] ∨ row.length ≤ 6) (h2 : (usr W.n W.bs W.shut row).length ≤ 10) : WOk net W row :=
  ⟨H.nl, H.en, H.bk, H.ri, H.rl, H.wl, h2, fin_of h1⟩
end PDW
set_option linter.all false
set_option maxRecDepth 100000
set_option maxHeartbeats 0
set_option autoImplicit false
namespace PDW
open PySem L2 PD
abbrev kn (K : List (List Int)) : List (Int × PyData) := K.map fun k => (mo k, PyData.bool true)
structure RI (W : SW) (row : List Int) (M : Option (List Int)) (K Q : List (List Int)) : Prop where
  nd : K.Nodup
  fs : row ∈ K
  wk : ∀ k ∈ Q, k ∈ K
  rc : ∀ k ∈ K, W.R row k
  cl : ∀ k ∈ K, k ∈ Q ∨ M = some k ∨ ∀ t ∈ W.us k, W.bd t k ∈ K ∧ W.gd t k ∈ K
  qn : Q.length ≤ K.length
end PDW
set_option linter.all false
set_option maxRecDepth 100000
set_option maxHeartbeats 0
set_option autoImplicit false
namespace PDW
open PySem L2 PD
abbrev Wy := Int × List (Int × Int) × List (Int × Int)
end PDW
set_option linter.all false
set_option maxRecDepth 100000
set_option maxHeartbeats 0
set_option autoImplicit false
namespace PDW
open PySem L2 PD
abbrev Sd := List (Int × Int)
def nx (ws : List Wy) : List Sd := ws.flatMap fun w => [w.2.1, w.2.2]
structure Cls (F : Sd → List Wy) (L : List Sd) (U : Nat) : Prop where
  cl : ∀ s ∈ L, ∀ t ∈ nx (F s), t ∈ L
  up : ∀ s ∈ L, (F s).length ≤ U
structure TrI (F : Sd → List Wy) (L : List Sd) (st : Sd) (D : List (Sd × List Wy)) (wl : List Sd) : Prop where
  wm : ∀ s ∈ wl, s ∈ L
  kl : ∀ s ∈ D.map (·.1), s ∈ L
  nd : (D.map (·.1)).Nodup
  val : ∀ z ∈ D, z.2 = F z.1
  cl : ∀ s ∈ D.map (·.1), ∀ t ∈ nx (F s), t ∈ D.map (·.1) ∨ t ∈ wl
  st : st ∈ D.map (·.1) ∨ st ∈ wl
theorem TrI.old {F : Sd → List Wy} {L : List Sd} {st : Sd} {D : List (Sd × List Wy)} {wl : List Sd} {h : Sd} (I : TrI F L st D (wl ++ [h])) (hh : h ∈ D.map (·.1)) : TrI F L st D wl where
  wm s hs := I.wm s (List.mem_append.mpr (.inl hs))
  kl := I.kl
  nd := I.nd
  val := I.val
  cl s hs t ht := by
    rcases I.cl s hs t ht with h1 | h1
    · exact .inl h1
    · rcases List.mem_append.mp h1 with h1 | h1
      · exact .inr h1
      · rw [List.mem_singleton.mp h1]; exact .inl hh
  st := by
    rcases I.st with h1 | h1
    · exact .inl h1
    · rcases List.mem_append.mp h1 with h1 | h1
      · exact .inr h1
      · rw [List.mem_singleton.mp h1]; exact .inl hh
theorem TrI.new {F : Sd → List Wy} {L : List Sd} {U : Nat} (C : Cls F L U) {st : Sd} {D : List (Sd × List Wy)} {wl : List Sd} {h : Sd} (I : TrI F L st D (wl ++ [h])) (hh : h ∉ D.map (·.1)) : TrI F L st (D ++ [(h, F h)]) (wl ++ nx (F h)) := by
  have hL : h ∈ L := I.wm h (by simp)
  refine ⟨fun s hs => ?_, fun s hs => ?_, ?_, fun z hz => ?_, fun s hs t ht => ?_, ?_⟩
  · rcases List.mem_append.mp hs with hs | hs
    · exact I.wm s (List.mem_append.mpr (.inl hs))
    · exact C.cl h hL s hs
  · rw [List.map_append] at hs
    rcases List.mem_append.mp hs with hs | hs
    · exact I.kl s hs
    · have : s = h := by simpa using hs
      subst this; exact hL
  · rw [List.map_append, List.nodup_append]
    refine ⟨I.nd, by simp, ?_⟩
    intro a ha b hb e
    have hb : b = h := by simpa using hb
    subst hb
    rw [e] at ha
    exact hh ha
  · rcases List.mem_append.mp hz with hz | hz
    · exact I.val z hz
    · rw [List.mem_singleton.mp hz]
  · rw [List.map_append] at hs ⊢
    rcases List.mem_append.mp hs with hs | hs
    · rcases I.cl s hs t ht with h1 | h1
      · exact .inl (List.mem_append.mpr (.inl h1))
      · rcases List.mem_append.mp h1 with h1 | h1
        · exact .inr (List.mem_append.mpr (.inl h1))
        · rw [List.mem_singleton.mp h1]; exact .inl (by simp)
    · have : s = h := by simpa using hs
      subst this
      exact .inr (List.mem_append.mpr (.inr ht))
  · rw [List.map_append]
    rcases I.st with h1 | h1
    · exact .inl (List.mem_append.mpr (.inl h1))
    · rcases List.mem_append.mp h1 with h1 | h1
      · exact .inr (List.mem_append.mpr (.inl h1))
      · rw [List.mem_singleton.mp h1]; exact .inl (by simp)
end PDW
set_option linter.all false
set_option maxRecDepth 100000
set_option maxHeartbeats 0
set_option autoImplicit false
namespace PDW
open PySem L2 PD
end PDW
set_option linter.all false
set_option maxRecDepth 100000
set_option maxHeartbeats 0
set_option autoImplicit false
namespace PDW
open PySem L2 PD
section
variable {net : List (List Int)} {W : SW} {row : List Int} {kvs : List (PyData × PyData)} {l : List (Int × PyData)}
end
end PDW
set_option linter.all false
set_option maxRecDepth 100000
set_option maxHeartbeats 0
set_option autoImplicit false
namespace PDW
open PySem L2 PD
section
variable {Γ Γ1 Γ2 : List Sl} {f fe : DF} {cl : List (Str × List Str)} {c n : Str} {fr : Bool} {b : DS} {P : Fw → List Sl → Prop} {i : Nat} {rr : DK}
end
structure SH (net : List (List Int)) (W : SW) (row hs : List Int) (bd : PyData) : Prop where
  ok : SOk net W row
  eb : uBitsOf [.d (dTT net)] = .val (.c (.lst (W.bs.map PyData.int)), [.un])
  hh : InR net.length hs
  he : ∀ x, x ∈ row ↔ x ∈ hs
  bd : BarD bd W.shut
section
variable {net : List (List Int)} {W : SW} {row hs : List Int} {bd : PyData}
end
end PDW
set_option linter.all false
set_option maxRecDepth 100000
set_option maxHeartbeats 0
set_option autoImplicit false
namespace PDW
open PySem L2 PD
inductive PV (W : SW) : List Int → Pl → Prop
  | lf {r} : W.us r = [] → PV W r (.lf r)
  | tr {r t b g} : t ∈ W.us r → PV W (W.bd t r) b → PV W (W.gd t r) g → PV W r (.tr t b g)
section
variable {net : List (List Int)} {W : SW} {row hs : List Int} {rs : List (List Bool)}
structure LW (net : List (List Int)) (W : SW) (rs : List (List Bool)) (row hs : List Int) : Prop where
  ok : SOk net W row
  re : Reach net rs
  hh : InR net.length hs
  he : ∀ x, x ∈ row ↔ x ∈ hs
  hl : hs.length ≤ 63
theorem LW.has (H : LW net W rs row hs) (t : Int) (z : Bool) : hasI (W.b t) hs z = hasI (W.b t) row z := by
  rw [Bool.eq_iff_iff, hasI_iff, hasI_iff]
  constructor <;> (rintro ⟨m, h1, h2⟩; exact ⟨m, by first | exact (H.he m).mp h1 | exact (H.he m).mpr h1, h2⟩)
end
end PDW
set_option linter.all false
set_option maxRecDepth 100000
set_option autoImplicit false
namespace PD
open PySem L2
end PD
set_option linter.all false
set_option maxRecDepth 100000
set_option autoImplicit false
namespace PD
open PySem L2
end PD
set_option linter.all false
set_option maxRecDepth 100000
set_option maxHeartbeats 0
set_option autoImplicit false
namespace PD
open PySem L2
def Th : Nat → PyData → Prop
  | _, .none => True
  | _, .bool _ => True
  | _, .int _ => True
  | _, .str x => PyData.strOk x = true
  | 0, .tuple _ => False
  | 0, .list _ => False
  | n + 1, .tuple xs => xs.length ≤ 1000 ∧ ∀ x ∈ xs, Th n x
  | n + 1, .list xs => xs.length ≤ 1000 ∧ ∀ x ∈ xs, Th n x
  | _, .dict _ => False
theorem Th.mono : ∀ {n m : Nat} {d : PyData}, Th n d → n ≤ m → Th m d
  | n, m, .none, _, _ => by cases m <;> trivial
  | n, m, .bool _, _, _ => by cases m <;> trivial
  | n, m, .int _, _, _ => by cases m <;> trivial
  | n, m, .str x, h, _ => by cases n <;> cases m <;> exact h
  | 0, m, .tuple _, h, _ => h.elim
  | 0, m, .list _, h, _ => h.elim
  | n + 1, 0, .tuple _, h, l => by omega
  | n + 1, 0, .list _, h, l => by omega
  | n + 1, m + 1, .tuple xs, h, l => ⟨h.1, fun x hx => Th.mono (h.2 x hx) (by omega)⟩
  | n + 1, m + 1, .list xs, h, l => ⟨h.1, fun x hx => Th.mono (h.2 x hx) (by omega)⟩
  | 0, m, .dict _, h, _ => h.elim
  | n + 1, m, .dict _, h, _ => h.elim
theorem canLays {xs : List PyData} (h : ∀ x ∈ xs, x.canLay0 = true) : PyData.canLayAll0 xs = true := by
  induction xs with
  | nil => rw [PyData.canLayAll0]
  | cons x r ih =>
    rw [PyData.canLayAll0, h x (by simp), ih fun y hy => h y (by simp [hy])]; rfl
theorem depths {xs : List PyData} {n : Nat} (h : ∀ x ∈ xs, x.depth ≤ n) : PyData.depthAll xs ≤ n := by
  induction xs with
  | nil => rw [PyData.depthAll]; omega
  | cons x r ih =>
    rw [PyData.depthAll]
    have := h x (by simp)
    have := ih fun y hy => h y (by simp [hy])
    omega
theorem Th.lay : ∀ {n : Nat} {d : PyData}, Th n d → d.canLay0 = true ∧ d.depth ≤ n
  | n, .none, _ => ⟨by rw [PyData.canLay0], by rw [PyData.depth]; omega⟩
  | n, .bool _, _ => ⟨by rw [PyData.canLay0], by rw [PyData.depth]; omega⟩
  | n, .int _, _ => ⟨by rw [PyData.canLay0], by rw [PyData.depth]; omega⟩
  | n, .str x, h => ⟨by rw [PyData.canLay0]; cases n <;> exact h, by rw [PyData.depth]; omega⟩
  | 0, .tuple _, h => h.elim
  | 0, .list _, h => h.elim
  | n + 1, .tuple xs, h => ⟨by rw [PyData.canLay0]; exact canLays fun x hx => (Th.lay (h.2 x hx)).1, by rw [PyData.depth]; have := depths fun x hx => (Th.lay (h.2 x hx)).2; omega⟩
  | n + 1, .list xs, h => ⟨by rw [PyData.canLay0]; exact canLays fun x hx => (Th.lay (h.2 x hx)).1, by rw [PyData.depth]; have := depths fun x hx => (Th.lay (h.2 x hx)).2; omega⟩
  | 0, .dict _, h => h.elim
  | n + 1, .dict _, h => h.elim
theorem Th.sh {n : Nat} {d : PyData} (h : Th n d) (hn : n ≤ 64) : SeqAt.shaped d = true := by
  obtain ⟨h1, h2⟩ := h.lay
  unfold SeqAt.shaped
  rw [h1, decide_eq_true (show d.depth ≤ 64 by omega)]; rfl
theorem Th.tup {n : Nat} {xs : List PyData} (h : Th n (.tuple xs)) : xs.length ≤ 1000 ∧ ∀ x ∈ xs, Th (n - 1) x := by
  cases n with
  | zero => exact h.elim
  | succ n => exact h
theorem Th.lst {n : Nat} {xs : List PyData} (h : Th n (.list xs)) : xs.length ≤ 1000 ∧ ∀ x ∈ xs, Th (n - 1) x := by
  cases n with
  | zero => exact h.elim
  | succ n => exact h
end PD
set_option linter.all false
set_option maxRecDepth 100000
set_option maxHeartbeats 0
set_option autoImplicit false
namespace PDW
open PySem L2 PD
open PySem.W (dataLt dataLe alike alikeAll)
section
variable {net : List (List Int)} {W : SW} {row hs : List Int} {bd : PyData}
end
inductive SmD : Nat → PyData → Prop
  | int (n : Nat) (i : Int) : SmD n (.int i)
  | non (n : Nat) : SmD n .none
  | str (n : Nat) (s : Str) : SeqAt.shaped (.str s) = true → PyData.eqv (.str s) (.str s) = true → SmD n (.str s)
  | lst (n : Nat) (xs : List PyData) : (∀ x ∈ xs, SmD n x) → xs.length ≤ 100000 → SmD (n + 1) (.list xs)
  | tup (n : Nat) (xs : List PyData) : (∀ x ∈ xs, SmD n x) → xs.length ≤ 100000 → SmD (n + 1) (.tuple xs)
end PDW
set_option linter.all false
set_option maxRecDepth 100000
set_option autoImplicit false
namespace PD
open PySem L2
end PD
set_option linter.all false
set_option maxRecDepth 100000
set_option maxHeartbeats 0
set_option autoImplicit false
namespace PD
open PySem L2
theorem w_norm {b : DS} {Γ Γ' : List Sl} {P : Fw → List Sl → Prop} (e : Γ = Γ') (h : W b Γ' P) : W b Γ P := e ▸ h
def plL : Pl → PyData
  | .lf ms => .list [.str "left", dT ms]
  | .tr m b g => .list [.str "try", .int m, plL b, plL g]
inductive PT where
  | lf (k : Nat) (ms : List Int)
  | tr (k : Nat) (m : Int) (b g : PT)
def PT.id : PT → Nat
  | .lf k _ => k
  | .tr k _ _ _ => k
def PT.pl : PT → Pl
  | .lf _ ms => .lf ms
  | .tr _ m b g => .tr m b.pl g.pl
def PT.ids : PT → List Nat
  | .lf k _ => [k]
  | .tr k _ b g => k :: (b.ids ++ g.ids)
def PT.lv : PT → List Nat
  | .lf k _ => [k]
  | .tr _ _ b g => b.lv ++ g.lv
def lfI (ms : List Int) : List Itm := [.d (.str "left"), .d (dT ms)]
def trI (m : Int) (b g : Nat) : List Itm := [.d (.str "try"), .d (.int m), .r b, .r g]
def Rp (ns : List (List Itm)) : PT → Prop
  | .lf k ms => ns[k]? = some (lfI ms)
  | .tr k m b g => ns[k]? = some (trI m b.id g.id) ∧ Rp ns b ∧ Rp ns g
def PT.grow (k : Nat) (m : Int) (b : Nat) (mb : List Int) (g : Nat) (mg : List Int) : PT → PT
  | .lf j ms => if j = k then .tr k m (.lf b mb) (.lf g mg) else .lf j ms
  | .tr j n x y => .tr j n (x.grow k m b mb g mg) (y.grow k m b mb g mg)
section
variable {k b g : Nat} {m : Int} {mb mg ms : List Int} {ns ns' : List (List Itm)}
theorem grow_id : ∀ t : PT, (t.grow k m b mb g mg).id = t.id
  | .lf j ms => by
    unfold PT.grow
    split
    · rename_i h; rw [h]; rfl
    · rfl
  | .tr j n x y => rfl
theorem lv_ids : ∀ {t : PT} {j : Nat}, j ∈ t.lv → j ∈ t.ids
  | .lf k _, j, h => h
  | .tr k _ b g, j, h => by
    rcases List.mem_append.mp h with h | h
    · exact List.mem_cons_of_mem _ (List.mem_append_left _ (lv_ids h))
    · exact List.mem_cons_of_mem _ (List.mem_append_right _ (lv_ids h))
theorem lv_lf : ∀ {t : PT} {j : Nat}, Rp ns t → j ∈ t.lv → ∃ ms, ns[j]? = some (lfI ms)
  | .lf k ms, j, h, hj => by
    have : j = k := by simpa [PT.lv] using hj
    rw [this]; exact ⟨ms, h⟩
  | .tr k _ b g, j, h, hj => by
    rcases List.mem_append.mp hj with z | z
    · exact lv_lf h.2.1 z
    · exact lv_lf h.2.2 z
theorem lf_tr {ms : List Int} {m : Int} {b g : Nat} : lfI ms ≠ trI m b g := by
  intro h
  have := congrArg List.length h
  simp [lfI, trI] at this
theorem rp_grow (hk : ns[k]? = some (lfI ms)) (h1 : ns'[k]? = some (trI m b g)) (h2 : ns'[b]? = some (lfI mb)) (h3 : ns'[g]? = some (lfI mg)) : ∀ {t : PT}, (∀ j ∈ t.ids, j ≠ k → ns'[j]? = ns[j]?) → Rp ns t → Rp ns' (t.grow k m b mb g mg)
  | .lf j ms, e, h => by
    unfold PT.grow
    split
    · exact ⟨h1, h2, h3⟩
    · rename_i hj
      show ns'[j]? = _
      rw [e j (by simp [PT.ids]) hj]
      exact h
  | .tr j n x y, e, h => by
    obtain ⟨q1, q2, q3⟩ := h
    have hj : j ≠ k := fun z => by
      rw [z, hk] at q1
      exact lf_tr (Option.some.inj q1)
    refine ⟨?_, rp_grow hk h1 h2 h3 (fun i hi => e i (by simp [PT.ids, hi])) q2, rp_grow hk h1 h2 h3 (fun i hi => e i (by simp [PT.ids, hi])) q3⟩
    rw [grow_id, grow_id, e j (by simp [PT.ids]) hj]
    exact q1
theorem ids_grow : ∀ {t : PT} {j : Nat}, j ∈ (t.grow k m b mb g mg).ids → j ∈ t.ids ∨ j = b ∨ j = g
  | .lf i ms, j, h => by
    unfold PT.grow at h
    split at h
    · rename_i e
      simp [PT.ids] at h ⊢
      rcases h with h | h | h
      · exact .inl (h.trans e.symm)
      · exact .inr (.inl h)
      · exact .inr (.inr h)
    · exact .inl h
  | .tr i n x y, j, h => by
    have h : j ∈ i :: ((x.grow k m b mb g mg).ids ++ (y.grow k m b mb g mg).ids) := h
    rcases List.mem_cons.mp h with h | h
    · exact .inl (by simp [PT.ids, h])
    · rcases List.mem_append.mp h with h | h
      · exact (ids_grow h).imp (fun z => by simp [PT.ids, z]) id
      · exact (ids_grow h).imp (fun z => by simp [PT.ids, z]) id
theorem grow_out : ∀ {t : PT}, k ∉ t.lv → t.grow k m b mb g mg = t
  | .lf j ms, h => by
    unfold PT.grow
    rw [if_neg fun z => h (by simp [PT.lv, z])]
  | .tr j n x y, h => by
    have h : k ∉ x.lv ++ y.lv := h
    rw [List.mem_append, not_or] at h
    show PT.tr j n (x.grow k m b mb g mg) (y.grow k m b mb g mg) = _
    rw [grow_out h.1, grow_out h.2]
theorem lv_grow : ∀ {t : PT}, t.lv.Nodup → k ∈ t.lv → (t.grow k m b mb g mg).lv.Perm (b :: g :: t.lv.erase k)
  | .lf j ms, _, h => by
    have h : k = j := by simpa [PT.lv] using h
    subst h
    unfold PT.grow
    rw [if_pos rfl]
    simp [PT.lv]
  | .tr j n x y, hn, h => by
    have hn : (x.lv ++ y.lv).Nodup := hn
    have h : k ∈ x.lv ++ y.lv := h
    obtain ⟨n1, n2, n3⟩ := List.nodup_append.mp hn
    show ((x.grow k m b mb g mg).lv ++ (y.grow k m b mb g mg).lv).Perm (b :: g :: (x.lv ++ y.lv).erase k)
    by_cases hx : k ∈ x.lv
    · have hy : k ∉ y.lv := fun z => n3 k hx k z rfl
      rw [grow_out hy, List.erase_append_left _ hx]
      exact (lv_grow n1 hx).append_right y.lv
    · have hy : k ∈ y.lv := (List.mem_append.mp h).resolve_left hx
      rw [grow_out hx, List.erase_append_right _ hx]
      refine ((lv_grow n2 hy).append_left x.lv).trans ?_
      refine List.perm_middle.trans (List.Perm.cons _ ?_)
      exact List.perm_middle
theorem dpt_lv : ∀ t : PT, dpt t.pl + 1 ≤ t.lv.length
  | .lf _ _ => by simp [PT.pl, dpt, PT.lv]
  | .tr _ _ x y => by
    have h1 := dpt_lv x
    have h2 := dpt_lv y
    simp only [PT.pl, dpt, PT.lv, List.length_append]
    omega
theorem lvs_lv : ∀ t : PT, (lvs t.pl).length = t.lv.length
  | .lf _ _ => by simp [PT.pl, lvs, PT.lv]
  | .tr _ _ x y => by
    simp only [PT.pl, lvs, PT.lv, List.length_append, List.length_map, lvs_lv x, lvs_lv y]
theorem unr_rp : ∀ {F : Nat} {t : PT}, Rp ns t → dpt t.pl < F → unr ns F t.id = some (plL t.pl)
  | 0, t, _, h => by omega
  | F + 1, .lf k ms, h, _ => by
    have h : ns[k]? = some (lfI ms) := h
    show ((ns[k]?).bind fun nd => (unrL (unr ns F) nd).map PyData.list) = _
    rw [h]; rfl
  | F + 1, .tr k m x y, h, hd => by
    obtain ⟨q1, q2, q3⟩ := h
    have hd : 1 + max (dpt x.pl) (dpt y.pl) < F + 1 := hd
    show ((ns[k]?).bind fun nd => (unrL (unr ns F) nd).map PyData.list) = _
    rw [q1]
    have e1 := unr_rp (F := F) q2 (by omega)
    have e2 := unr_rp (F := F) q3 (by omega)
    show (unrL (unr ns F) (trI m x.id y.id)).map PyData.list = _
    simp [trI, unrL, e1, e2, PT.pl, plL]
end
def PlG (lim : Int) (Q : List Int → Prop) : Pl → Prop
  | .lf ms => Q ms
  | .tr m b g => (0 ≤ m ∧ m < lim) ∧ PlG lim Q b ∧ PlG lim Q g
theorem plG_grow {lim : Int} {Q : List Int → Prop} {k b g : Nat} {m : Int} {mb mg : List Int} (hm : 0 ≤ m ∧ m < lim) (hb : Q mb) (hg : Q mg) : ∀ {t : PT}, PlG lim Q t.pl → PlG lim Q (t.grow k m b mb g mg).pl
  | .lf j ms, h => by
    unfold PT.grow
    split
    · exact ⟨hm, hb, hg⟩
    · exact h
  | .tr j n x y, h => ⟨h.1, plG_grow hm hb hg h.2.1, plG_grow hm hb hg h.2.2⟩
section
variable {Γ Γ1 Γ2 : List Sl} {i j k x : Nat} {ns : List (List Itm)} {nd : List Itm} {f : DF} {r : DS} {P : Fw → List Sl → Prop}
end
end PD
set_option linter.all false
set_option maxRecDepth 100000
set_option maxHeartbeats 0
set_option autoImplicit false
namespace PD
open PySem L2
structure GrI (lim : Int) (Q : List Int → Prop) (i : Nat) (L : List Nat) (t : PT) (ns : List (List Itm)) : Prop where
  two : 2 ≤ ns.length
  id : t.id = 0
  rp : Rp ns t
  lv : ns[1]? = some (L.map Itm.r)
  pm : L.Perm t.lv
  nd : t.lv.Nodup
  lt : ∀ j ∈ t.ids, j < ns.length
  n1 : 1 ∉ t.ids
  ln : L.length = i + 1
  pg : PlG lim Q t.pl
theorem GrI.start {lim : Int} {Q : List Int → Prop} {ms : List Int} (h : Q ms) : GrI lim Q 0 [0] (.lf 0 ms) [lfI ms, [.r 0]] :=
  ⟨by simp, rfl, rfl, rfl, List.Perm.refl _, by simp [PT.lv], by simp [PT.ids], by simp [PT.ids], rfl, h⟩
theorem GrI.step {lim : Int} {Q : List Int → Prop} {i a k : Nat} {L : List Nat} {t : PT} {ns : List (List Itm)} {m : Int} {mb mg : List Int} (G : GrI lim Q i L t ns) (ha : L[a]? = some k) (hm : 0 ≤ m ∧ m < lim) (hb : Q mb) (hg : Q mg) :
    GrI lim Q (i + 1) (L.eraseIdx a ++ [ns.length, ns.length + 1]) (t.grow k m ns.length mb (ns.length + 1) mg)
      (((((ns.set 1 ((L.eraseIdx a).map Itm.r)).set k []) ++ [lfI mb] ++ [lfI mg]).set k (trI m ns.length (ns.length + 1))).set 1 ((L.eraseIdx a ++ [ns.length, ns.length + 1]).map Itm.r)) := by
  obtain ⟨two, id0, rp, lv, pm, nd, lt, n1, ln, pg⟩ := G
  have hkL : k ∈ L := List.mem_of_getElem? ha
  have hkv : k ∈ t.lv := pm.mem_iff.mp hkL
  have hki : k ∈ t.ids := lv_ids hkv
  have hk1 : k ≠ 1 := fun z => n1 (z ▸ hki)
  have hkl := lt k hki
  obtain ⟨ms, hms⟩ := lv_lf rp hkv
  have hal : a < L.length := (List.getElem?_eq_some_iff.mp ha).1
  have pme : (k :: L.eraseIdx a).Perm L := by
    have h1 : L = L.take a ++ k :: L.drop (a + 1) := by
      conv => lhs; rw [← List.take_append_drop a L]
      rw [List.drop_eq_getElem_cons hal]
      rw [List.getElem?_eq_getElem hal] at ha
      rw [Option.some.inj ha]
    rw [List.eraseIdx_eq_take_drop_succ]
    conv => rhs; rw [h1]
    exact List.perm_middle.symm
  have per : (L.eraseIdx a).Perm (t.lv.erase k) := by
    have := pme.trans pm
    have h2 := this.erase k
    rw [List.erase_cons_head] at h2
    exact h2
  have pl : (t.grow k m ns.length mb (ns.length + 1) mg).lv.Perm (ns.length :: (ns.length + 1) :: t.lv.erase k) := lv_grow nd hkv
  let N1 := (ns.set 1 ((L.eraseIdx a).map Itm.r)).set k []
  have l1 : N1.length = ns.length := by simp [N1]
  have big : ∀ j ∈ t.lv, j < ns.length := fun j h => lt j (lv_ids h)
  have at1 : ∀ (x : List Itm) (M : List (List Itm)), 1 < M.length → (M.set 1 x)[1]? = some x := fun x M h => List.getElem?_set_self h
  refine ⟨?_, by rw [grow_id]; exact id0, ?_, ?_, ?_, ?_, fun j hj => ?_, fun hj => ?_, ?_, plG_grow hm hb hg pg⟩
  · simp <;> omega
  · refine rp_grow hms ?_ ?_ ?_ (fun j hj hne => ?_) rp
    · rw [List.getElem?_set_ne (Ne.symm hk1), List.getElem?_set_self (by simp; omega)]
    · rw [List.getElem?_set_ne (by omega), List.getElem?_set_ne (by omega), List.append_assoc, List.getElem?_append_right (by simp)]
      simp
    · rw [List.getElem?_set_ne (by omega), List.getElem?_set_ne (by omega), List.append_assoc, List.getElem?_append_right (by simp)]
      simp
    · have hjl := lt j hj
      have hj1 : j ≠ 1 := fun z => n1 (z ▸ hj)
      rw [List.getElem?_set_ne (Ne.symm hj1), List.getElem?_set_ne (Ne.symm hne), List.append_assoc, List.getElem?_append_left (by simp; exact hjl), List.getElem?_set_ne (Ne.symm hne), List.getElem?_set_ne (Ne.symm hj1)]
  · rw [List.getElem?_set_self (by simp <;> omega)]
  · refine List.Perm.trans ?_ pl.symm
    exact List.perm_append_comm.trans ((per.cons _).cons _)
  · rw [pl.nodup_iff]
    have e1 : ∀ j ∈ t.lv.erase k, j < ns.length := fun j h => big j (List.mem_of_mem_erase h)
    refine List.nodup_cons.mpr ⟨fun h => ?_, List.nodup_cons.mpr ⟨fun h => ?_, nd.erase k⟩⟩
    · rcases List.mem_cons.mp h with h | h
      · omega
      · have := e1 _ h; omega
    · have := e1 _ h; omega
  · simp
    rcases ids_grow hj with h | h | h
    · have := lt j h; omega
    · omega
    · omega
  · rcases ids_grow hj with h | h | h
    · exact n1 h
    · omega
    · omega
  · rw [List.length_append, List.length_eraseIdx, if_pos hal]
    simp; omega
theorem GrI.out {lim : Int} {Q : List Int → Prop} {i : Nat} {L : List Nat} {t : PT} {ns : List (List Itm)} (G : GrI lim Q i L t ns) (hi : i < 90) : unr ns 100 0 = some (plL t.pl) ∧ dpt t.pl ≤ i ∧ (lvs t.pl).length = i + 1 := by
  have h1 := dpt_lv t
  have h2 : t.lv.length = i + 1 := by rw [← G.pm.length_eq]; exact G.ln
  refine ⟨?_, by omega, by rw [lvs_lv, h2]⟩
  rw [← G.id]
  exact unr_rp G.rp (by omega)
end PD
set_option linter.all false
set_option maxRecDepth 100000
set_option maxHeartbeats 0
set_option autoImplicit false
namespace PD
open PySem L2
end PD
set_option linter.all false
set_option maxRecDepth 100000
set_option maxHeartbeats 0
set_option autoImplicit false
namespace PD
open PySem L2
end PD
set_option linter.all false
set_option maxRecDepth 100000
set_option maxHeartbeats 0
set_option autoImplicit false
namespace PD
open PySem L2 PDW
open PySem.W (dataLt dataLe alike)
end PD
set_option linter.all false
set_option maxRecDepth 100000
set_option maxHeartbeats 0
set_option autoImplicit false
namespace PD
open PySem L2 PDW
end PD
set_option linter.all false
set_option maxRecDepth 100000
set_option maxHeartbeats 0
set_option autoImplicit false
namespace PDW
open PySem L2 PD
section
variable {net : List (List Int)} {W : SW} {rs : List (List Bool)}
end
end PDW
set_option linter.all false
set_option maxRecDepth 100000
set_option maxHeartbeats 0
set_option autoImplicit false
namespace PDW
open PySem L2 PD
theorem h9 : (20 : Int) ≤ 10 ^ 30 := by decide
theorem h10 : (10 : Int) ^ (30 : Int).toNat = 10 ^ 30 := by decide
end PDW
set_option linter.all false
set_option maxRecDepth 100000
set_option autoImplicit false
namespace PD
open PySem L2
end PD
set_option linter.all false
set_option maxRecDepth 100000
set_option maxHeartbeats 0
set_option autoImplicit false
namespace PDW
open PySem L2 PD
open PySem.W (dataLt dataLe alike)
section
variable {net : List (List Int)} {W : SW} {rs : List (List Bool)} {row hs : List Int}
end
end PDW
set_option linter.all false
set_option maxRecDepth 100000
set_option maxHeartbeats 0
set_option autoImplicit false
namespace PDW
open PySem L2 PD
open PySem.W (dataLt dataLe alike)
theorem n_repS {Γ Γ1 Γ2 : List Sl} {f : DN} {g : DF} {fr : Bool} {e : List PyData} {k : Int} (h1 : f Γ = .val (e, Γ1)) (h2 : g Γ1 = .val (.d fr (.int k), Γ2)) (hc : (decide (0 ≤ k) && decide (k ≤ 2000) && decide (e.length ≤ 1000)) = true) : dRepL f g Γ = .val (repD k e, Γ2) := by
  unfold dRepL
  rw [h1, bind_val, h2, bind_val]
  exact gq_of _ hc
section
variable {net : List (List Int)} {W : SW} {rs : List (List Bool)} {row hs : List Int}
def SW.tt (W : SW) (a b : Bool) : SW := { W with tw := a, tq := b }
theorem SOk.tt (O : SOk net W row) (a b : Bool) : SOk net (W.tt a b) row := ⟨O.nl, O.en, O.bk, O.wl, O.wb, O.pl, O.ri, O.rr⟩
end
end PDW
set_option linter.all false
set_option maxRecDepth 100000
set_option maxHeartbeats 0
set_option autoImplicit false
namespace PDW
open PySem L2 PD
theorem own0 (kvs : List (PyData × PyData)) : u_qown [.d (.dict ((.none, .str "NoNet") :: kvs)), .d (.int 0)] = .val (.d (.bool true), [.un, .un]) := by kernel_rfl
theorem own1 (kvs : List (PyData × PyData)) : u_qown [.d (.dict ((.none, .str "NoOrder") :: kvs)), .d (.int 1)] = .val (.d (.bool true), [.un, .un]) := by kernel_rfl
theorem own2 (kvs : List (PyData × PyData)) : u_qown [.d (.dict ((.none, .str "NoMake") :: kvs)), .d (.int 2)] = .val (.d (.bool true), [.un, .un]) := by kernel_rfl
theorem own3 (kvs : List (PyData × PyData)) : u_qown [.d (.dict ((.none, .str "NoTrial") :: kvs)), .d (.int 3)] = .val (.d (.bool true), [.un, .un]) := by kernel_rfl
theorem own4 (kvs : List (PyData × PyData)) : u_qown [.d (.dict ((.none, .str "NoTruth") :: kvs)), .d (.int 4)] = .val (.d (.bool true), [.un, .un]) := by kernel_rfl
theorem own5 (kvs : List (PyData × PyData)) : u_qown [.d (.dict ((.none, .str "NoPlan") :: kvs)), .d (.int 5)] = .val (.d (.bool true), [.un, .un]) := by kernel_rfl
theorem own6 (kvs : List (PyData × PyData)) : u_qown [.d (.dict ((.none, .str "NoBook") :: kvs)), .d (.int 6)] = .val (.d (.bool true), [.un, .un]) := by kernel_rfl
theorem own7 (kvs : List (PyData × PyData)) : u_qown [.d (.dict ((.none, .str "TooGreat") :: kvs)), .d (.int 7)] = .val (.d (.bool true), [.un, .un]) := by kernel_rfl
theorem own8 (kvs : List (PyData × PyData)) : u_qown [.d (.dict ((.none, .str "NoText") :: kvs)), .d (.int 8)] = .val (.d (.bool true), [.un, .un]) := by kernel_rfl
theorem own9 (kvs : List (PyData × PyData)) : u_qown [.d (.dict ((.none, .str "NoName") :: kvs)), .d (.int 9)] = .val (.d (.bool true), [.un, .un]) := by kernel_rfl
theorem own10 (kvs : List (PyData × PyData)) : u_qown [.d (.dict ((.none, .str "NothingTold") :: kvs)), .d (.int 10)] = .val (.d (.bool true), [.un, .un]) := by kernel_rfl
theorem own11 (kvs : List (PyData × PyData)) : u_qown [.d (.dict ((.none, .str "NoRow") :: kvs)), .d (.int 11)] = .val (.d (.bool true), [.un, .un]) := by kernel_rfl
theorem number8 (f : Fd) : ∃ (n : Int) (f' : Fd), u_qnumber [.c (.feed f)] = .val (.d (.int n), [.io (.feed f')]) := by
  have key : Ok (u_qnumber [.c (.feed f)]) fun z => ∃ (n : Int) (f' : Fd), z = (.d (.int n), [.io (.feed f')]) := by
    refine ok_run rfl ?_
    unfold b_qnumber
    obtain ⟨a, f1, ha, a0, a1⟩ := take_q f 60 (by decide) (by decide)
    apply w_set
    · apply_mod_cast ha
    obtain ⟨b, f2, hb, b0, b1⟩ := take_q f1 2 (by decide) (by decide)
    refine w_forR (fr := true) (N := 9 * b) (Γ1 := [.io (.feed f2), .dat true (.int a), .un]) (S := Int × Fd) (fun _ _ => True) (fun s => [.io (.feed s.2), .dat true (.int s.1), .un]) (a, f2) ?_ rfl trivial ?_ ?_
    · exact i_range1 (fr := true) (e_I e_C (by apply_mod_cast hb) (k_mul (PD.mulL (by decide)))) (cRng_of (by decide) (by decide) (by omega) (by omega))
    · rintro i ⟨x, g⟩ hi _
      dsimp only
      obtain ⟨c, g2, hc, c0, c1⟩ := take_q g (10 ^ 6) (by decide) (by decide)
      refine ⟨_, rfl, ?_⟩
      apply w_set
      · apply e_add
        · exact e_I (e_var rfl) (e_I (r := 10 ^ 6) e_C e_C rfl) (k_mul (PD.mulR (by decide)))
        · exact e_x (x_callE (a_cons (e_varI rfl) (a_cons (e_I (r := 10 ^ 6) e_C e_C rfl) a_nil)) rfl rfl rfl rfl hc rfl rfl) rfl
      exact w_nil ⟨(_, g2), rfl, trivial⟩
    · rintro ⟨x, g⟩ _
      dsimp only
      obtain ⟨c, g2, hc, c0, c1⟩ := take_q g 2 (by decide) (by decide)
      have hm : ∃ m : Int, atI [PyData.int x, .int (-1 - x)] c = some (.int m) := by
        rcases (by omega : c = 0 ∨ c = 1) with e | e <;> subst e
        · exact ⟨_, rfl⟩
        · exact ⟨_, rfl⟩
      obtain ⟨m, hm⟩ := hm
      apply w_ret
      · apply e_ixL
        · exact e_ofN (n_lst (a_cons (e_frz (e_var rfl)) (a_cons (e_I (r := -1 - x) (e_neg e_C) (e_var rfl) rfl) a_nil)) rfl rfl)
        · apply_mod_cast hc
        · exact hm
      exact ⟨_, _, rfl, rfl, m, g2, rfl⟩
  obtain ⟨z, e, n, f', rfl⟩ := key
  exact ⟨n, f', e⟩
theorem text8 (f : Fd) : ∃ (s : Str) (f' : Fd), u_qtext_k08 [.c (.feed f)] = .val (.d (.str s), [.io (.feed f')]) ∧ s.length ≤ 8 ∧ AsOk s := by
  have key : Ok (u_qtext_k08 [.c (.feed f)]) fun z => ∃ (s : Str) (f' : Fd), z = (.d (.str s), [.io (.feed f')]) ∧ s.length ≤ 8 ∧ AsOk s := by
    refine ok_run rfl ?_
    unfold b_qtext_k08
    apply w_set
    · exact e_C
    obtain ⟨n, f1, hn, n0, n1⟩ := take_q f 9 (by decide) (by decide)
    refine w_forR (fr := true) (N := n) (Γ1 := [.io (.feed f1), .dat true (.str ""), .un]) (S := Str × Fd) (fun i s => s.1.length = i ∧ Ltr (tl s.1)) (fun s => [.io (.feed s.2), .dat true (.str s.1), .un]) ("", f1) ?_ rfl ⟨rfl, fun c hc => by cases hc⟩ ?_ ?_
    · exact i_range1 (fr := true) (by apply_mod_cast hn) (cRng_of (by decide) (by decide) (by omega) (by omega))
    · rintro i ⟨s, f⟩ hi ⟨hs, hl⟩
      dsimp only at hs hl ⊢
      refine ⟨_, rfl, ?_⟩
      obtain ⟨t, f2, ht, t0, t1⟩ := take_q f 26 (by decide) (by decide)
      apply w_set
      · apply e_addS
        · exact e_var rfl
        · apply e_ixStr (x := ALPH)
          · exact e_C
          · apply_mod_cast ht
          · exact alph_at t0 t1
          · rw [alph_len]; decide
        · rw [hs]; show i + 1 ≤ _; omega
      refine w_nil ⟨(s ++ ⟨#[97 + t.toNat]⟩, f2), rfl, ?_, ?_⟩
      · dsimp only; rw [len_app, hs]; rfl
      · dsimp only; rw [tl_app]; exact hl.app (Ltr.one (by omega))
    · rintro ⟨s, f⟩ ⟨hs, hl⟩
      dsimp only at hs hl ⊢
      apply w_ret
      · exact e_var rfl
      exact ⟨_, _, rfl, rfl, s, f, rfl, by omega, fun c hc => by have := hl c hc; omega⟩
  obtain ⟨z, e, s, f', rfl, h⟩ := key
  exact ⟨s, f', e, h⟩
def RsG (rs : List (List Int)) : Prop := rs.length ≤ 6 ∧ ∀ r ∈ rs, r.length ≤ 4
theorem rows8 (f : Fd) : ∃ (rs : List (List Int)) (f' : Fd), u_qrows [.c (.feed f)] = .val (.c (.lst (rs.map dL)), [.io (.feed f')]) ∧ RsG rs := by
  have key : Ok (u_qrows [.c (.feed f)]) fun z => ∃ (rs : List (List Int)) (f' : Fd), z = (.c (.lst (rs.map dL)), [.io (.feed f')]) ∧ RsG rs := by
    refine ok_run rfl ?_
    unfold b_qrows
    apply w_setX
    · exact x_c (c_l (n_lst a_nil rfl rfl))
    obtain ⟨n, f1, hn, n0, n1⟩ := take_q f 7 (by decide) (by decide)
    refine w_forR (fr := true) (N := n) (Γ1 := [.io (.feed f1), .own (.lst []), .un, .un]) (S := List (List Int) × Fd) (fun i s => s.1.length = i ∧ ∀ r ∈ s.1, r.length ≤ 4) (fun s => [.io (.feed s.2), .own (.lst (s.1.map dL)), .un, .un]) ([], f1) ?_ rfl ⟨rfl, by simp⟩ ?_ ?_
    · exact i_range1 (fr := true) (by apply_mod_cast hn) (cRng_of (by decide) (by decide) (by omega) (by omega))
    · rintro i ⟨rs, g⟩ hi ⟨hs, hl⟩
      dsimp only at hs hl ⊢
      refine ⟨_, rfl, ?_⟩
      obtain ⟨m, g1, hm, m0, m1⟩ := take_q g 5 (by decide) (by decide)
      obtain ⟨out, g2, e, xs, rfl, hx⟩ := n_compS (enc := PyData.int) (rng 0 m) (S := Fd) (fun k out _ => ∃ xs : List Int, out = xs.map PyData.int ∧ xs.length = k) (fun g => [.io (.feed g), .own (.lst (rs.map dL)), .dat true (.int (i : Nat)), .un]) g1 (vs := [3]) (g := gN 3) (it := iRange1 (eX (xCallC uTake 0 [] (dAc (dVar 0) (dAc (dC (.int 5)) dA0))))) (t := PD.tYes) (e := dFrz (eX (xCallC uTake 0 [] (dAc (dVar 0) (dAc (dC (.int 200)) dA0))))) (Γ := [.io (.feed g), .own (.lst (rs.map dL)), .dat true (.int (i : Nat)), .un])
        (i_range1 (fr := true) (e_x (x_callE (a_cons (e_varI rfl) (a_cons e_C a_nil)) rfl rfl rfl rfl hm rfl rfl) rfl) (cRng_of (by decide) (by decide) (by omega) (by omega))) (by rw [rng_len]; omega) rfl ⟨[], rfl, rfl⟩ (by
          rintro k x out g3 hx ⟨xs, rfl, hr⟩
          obtain ⟨a, g4, ha, a0, a1⟩ := take_q g3 200 (by decide) (by decide)
          refine ⟨_, rfl, true, _, rfl, fun _ => ⟨_, _, g4, e_frz (e_x (x_callE (a_cons (e_varI rfl) (a_cons e_C a_nil)) rfl rfl rfl rfl ha rfl rfl) rfl), rfl, xs ++ [a], by rw [List.map_append]; rfl, by rw [List.length_append, hr]; rfl⟩, fun z => by cases z⟩)
      apply w_expr
      · apply e_ap
        · rfl
        · exact e_frz (e_ofN e)
        · rfl
        · exact ltS_map (by omega)
      rw [rng_len] at hx
      refine w_nil ⟨(rs ++ [xs], g2), ?_, ?_, ?_⟩
      · rw [List.map_append]; rfl
      · dsimp only; rw [List.length_append, hs]; rfl
      · intro r hr
        rcases List.mem_append.mp hr with h | h
        · exact hl r h
        · rw [List.mem_singleton.mp h]; omega
    · rintro ⟨rs, g⟩ ⟨hs, hl⟩
      dsimp only at hs hl ⊢
      refine w_retO (c := .lst (rs.map dL)) rfl ?_
      exact ⟨_, _, rfl, rfl, rs, g, rfl, by omega, hl⟩
  obtain ⟨z, e, s, f', rfl, h⟩ := key
  exact ⟨s, f', e, h⟩
theorem path8 (f : Fd) : ∃ (ps : List Str) (f' : Fd), u_qpath [.c (.feed f)] = .val (.d (.tuple (ps.map .str)), [.io (.feed f')]) ∧ ps.length ≤ 6 ∧ ∀ p ∈ ps, AsOk p := by
  have key : Ok (u_qpath [.c (.feed f)]) fun z => ∃ (ps : List Str) (f' : Fd), z = (.d (.tuple (ps.map .str)), [.io (.feed f')]) ∧ ps.length ≤ 6 ∧ ∀ p ∈ ps, AsOk p := by
    refine ok_run rfl ?_
    unfold b_qpath
    obtain ⟨m, g1, hm, m0, m1⟩ := take_q f 7 (by decide) (by decide)
    obtain ⟨out, g2, e, xs, rfl, hx, hok⟩ := n_compS (enc := PyData.int) (rng 0 m) (S := Fd) (fun k out _ => ∃ xs : List Str, out = xs.map PyData.str ∧ xs.length = k ∧ ∀ p ∈ xs, AsOk p) (fun g => [.io (.feed g), .un]) g1 (vs := [1]) (g := gN 1) (it := iRange1 (eX (xCallC uTake 0 [] (dAc (dVar 0) (dAc (dC (.int 7)) dA0))))) (t := PD.tYes) (e := dFrz (dIxB (dOfN (dLst (dAc (dC (.str "bad")) (dAc (dC (.str "good")) dA0)))) (eX (xCallC uTake 0 [] (dAc (dVar 0) (dAc (dC (.int 2)) dA0)))))) (Γ := [.io (.feed f), .un])
      (i_range1 (fr := true) (e_x (x_callE (a_cons (e_varI rfl) (a_cons e_C a_nil)) rfl rfl rfl rfl hm rfl rfl) rfl) (cRng_of (by decide) (by decide) (by omega) (by omega))) (by rw [rng_len]; omega) rfl ⟨[], rfl, rfl, by simp⟩ (by
        rintro k x out g3 hx ⟨xs, rfl, hr, hok⟩
        obtain ⟨a, g4, ha, a0, a1⟩ := take_q g3 2 (by decide) (by decide)
        obtain ⟨s, hs, hsk⟩ : ∃ s : Str, atI [PyData.str "bad", .str "good"] a = some (.str s) ∧ AsOk s := by
          rcases (by omega : a = 0 ∨ a = 1) with e | e <;> subst e
          · exact ⟨_, rfl, by unfold AsOk; decide +kernel⟩
          · exact ⟨_, rfl, by unfold AsOk; decide +kernel⟩
        refine ⟨_, rfl, true, _, rfl, fun _ => ⟨_, _, g4, e_frz (e_ixL (e_ofN (n_lst (a_cons e_C (a_cons e_C a_nil)) rfl rfl)) (e_x (x_callE (a_cons (e_varI rfl) (a_cons e_C a_nil)) rfl rfl rfl rfl ha rfl rfl) rfl) hs), rfl, xs ++ [s], by rw [List.map_append]; rfl, by rw [List.length_append, hr]; rfl, fun p hp => ?_⟩, fun z => by cases z⟩
        rcases List.mem_append.mp hp with h | h
        · exact hok p h
        · rw [List.mem_singleton.mp h]; exact hsk)
    apply w_ret
    · exact e_B (a_cons (e_ofN e) a_nil) rfl
    rw [rng_len] at hx
    exact ⟨_, _, rfl, rfl, xs, g2, rfl, by omega, hok⟩
  obtain ⟨z, e, s, f', rfl, h⟩ := key
  exact ⟨s, f', e, h⟩
end PDW
set_option linter.all false
set_option maxRecDepth 100000
set_option maxHeartbeats 0
set_option autoImplicit false
namespace PDW
open PySem L2 PD
theorem k_eq0 {Γ : List Sl} {a b : AV} {p : PyData} (h1 : rdD Γ a = some p) (h2 : rdD Γ b = some p) (s : SeqAt.shaped p = true) : kEq Γ a b = .val true := k_eq h1 h2 s s (SeqAt.eqv_refl p (SeqAt.canLay_of_shaped s))
theorem k_ne0 {Γ : List Sl} {a b : AV} {p : PyData} (h1 : rdD Γ a = some p) (h2 : rdD Γ b = some p) (s : SeqAt.shaped p = true) : kNe Γ a b = .val false := k_ne h1 h2 s s (SeqAt.eqv_refl p (SeqAt.canLay_of_shaped s))
theorem e_mkX {Γ Γ1 : List Sl} {c : Str} {fns : List Str} {k : DA} {as : List AV} {ds : List PyData} (h1 : k Γ = .val (as, Γ1)) (h2 : allF as = some (ds, true)) (h3 : ds.length = fns.length) : dMkX c fns k Γ = .val (.d true (xcD c (fns.zip ds).reverse), Γ1) := by
  unfold dMkX
  rw [h1, bind_val, h2]
  dsimp only
  rw [if_pos h3]
def md1 (n : Int) (R : PyData) : List PyData := [.tuple [.int 0, xcD "NoNet" [("make", .int n)]], .tuple [.int 1, xcD "NoOrder" [("place", .int n)]], .tuple [.int 2, xcD "NoMake" [("make", .int n)]], .tuple [.int 3, xcD "NoTrial" [("place", .int n)]], .tuple [.int 4, xcD "NoTruth" [("rows", R)]]]
def md2 (n : Int) (t : Str) : List PyData := [.tuple [.int 7, xcD "TooGreat" [("many", .int n)]], .tuple [.int 8, xcD "NoText" [("row", .int n)]], .tuple [.int 9, xcD "NoName" [("name", .str t)]], .tuple [.int 10, xcD "NothingTold" []], .tuple [.int 11, xcD "NoRow" []]]
theorem md_own (n : Int) (t : Str) (R : PyData) : ∀ x ∈ md1 n R ++ md2 n t, ∃ (k : Int) (d : PyData), x = .tuple [.int k, d] ∧ u_qown [.d d, .d (.int k)] = .val (.d (.bool true), [.un, .un]) := by
  intro x hx
  simp only [md1, md2, List.mem_cons, List.mem_append, List.not_mem_nil, or_false] at hx
  rcases hx with (rfl | rfl | rfl | rfl | rfl) | (rfl | rfl | rfl | rfl | rfl)
  · exact ⟨_, _, rfl, own0 _⟩
  · exact ⟨_, _, rfl, own1 _⟩
  · exact ⟨_, _, rfl, own2 _⟩
  · exact ⟨_, _, rfl, own3 _⟩
  · exact ⟨_, _, rfl, own4 _⟩
  · exact ⟨_, _, rfl, own7 _⟩
  · exact ⟨_, _, rfl, own8 _⟩
  · exact ⟨_, _, rfl, own9 _⟩
  · exact ⟨_, _, rfl, own10 _⟩
  · exact ⟨_, _, rfl, own11 _⟩
abbrev i1F (n : Int) (t : Str) (R : PyData) (q3 q6 : Sl) : List Sl := [.dat true (.int n), .dat true (.str t), .dat true R, q3, .un, .un, q6]
theorem one8 (n : Int) (t : Str) (ht : AsOk t) (rs : List (List Int)) : u_qone_field [.d (.int n), .d (.str t), .n (.list (rs.map dL))] = .val (.d (.bool true), [.un, .un, .un]) := by
  have hR : SeqAt.shaped (.list (rs.map dL)) = true := (eqt_list (eqt_list eqt_int)).sh (by decide) rs
  generalize (PyData.list (rs.map dL)) = R at hR
  refine ok_eq (ok_run rfl ?_)
  show PD.W b_qone_field (i1F n t R .un .un) _
  unfold b_qone_field
  refine w_set (fr := true) (d := .list (md1 n R)) (Γ1 := i1F n t R .un .un) ?_ ?_
  · exact e_ofN (n_lst (a_cons (e_tup (a_cons e_C (a_cons (e_mkX (a_cons (e_frz (e_var rfl)) a_nil) rfl rfl) a_nil)) rfl rfl) (a_cons (e_tup (a_cons e_C (a_cons (e_mkX (a_cons (e_frz (e_var rfl)) a_nil) rfl rfl) a_nil)) rfl rfl)
      (a_cons (e_tup (a_cons e_C (a_cons (e_mkX (a_cons (e_frz (e_var rfl)) a_nil) rfl rfl) a_nil)) rfl rfl) (a_cons (e_tup (a_cons e_C (a_cons (e_mkX (a_cons (e_frz (e_var rfl)) a_nil) rfl rfl) a_nil)) rfl rfl)
      (a_cons (e_tup (a_cons e_C (a_cons (e_mkX (a_cons (e_frz (e_var rfl)) a_nil) rfl rfl) a_nil)) rfl rfl) a_nil))))) rfl rfl)
  refine w_set (fr := true) (d := .list (md1 n R ++ md2 n t)) (Γ1 := i1F n t R (.dat true (.list (md1 n R))) .un) ?_ ?_
  · refine e_ofN (n_cat (e_var rfl) (e_ofN (ds := md2 n t) (n_lst (a_cons (e_tup (a_cons e_C (a_cons (e_mkX (a_cons (e_frz (e_var rfl)) a_nil) rfl rfl) a_nil)) rfl rfl) (a_cons (e_tup (a_cons e_C (a_cons (e_mkX (a_cons (e_frz (e_var rfl)) a_nil) rfl rfl) a_nil)) rfl rfl)
      (a_cons (e_tup (a_cons e_C (a_cons (e_mkX (a_cons (e_frz (e_var rfl)) a_nil) rfl rfl) a_nil)) rfl rfl) (a_cons (e_tup (a_cons e_C (a_cons rfl a_nil)) rfl rfl)
      (a_cons (e_tup (a_cons e_C (a_cons rfl a_nil)) rfl rfl) a_nil))))) rfl rfl)) rfl rfl rfl)
  refine w_norm (Γ' := i1F n t R (.dat true (.list (md1 n R ++ md2 n t))) .un) rfl ?_
  refine w_forL (enc := id) (fr := true) (Γ1 := i1F n t R (.dat true (.list (md1 n R ++ md2 n t))) .un) (md1 n R ++ md2 n t) (S := Unit) (fun _ _ => True) (fun _ => i1F n t R (.dat true (.list (md1 n R ++ md2 n t))) .un) () (by rw [List.map_id]; exact i_seqL (e_var rfl)) rfl trivial ?_ ?_
  · rintro i x _ hx _
    obtain ⟨k, d, rfl, hk⟩ := md_own n t R x (List.mem_of_getElem? hx)
    refine ⟨_, rfl, ?_⟩
    apply w_ifN
    · exact t_not (t_tst (e_x (x_call (a_cons (e_var rfl) (a_cons (e_var rfl) a_nil)) rfl hk) rfl))
    · rfl
    apply w_seqN
    exact w_nil ⟨(), rfl, trivial⟩
  · rintro _ _
    refine w_set (fr := true) (d := .list [.int n, .int n, .int n, .int n, .int n, .int n]) (Γ1 := i1F n t R (.dat true (.list (md1 n R ++ md2 n t))) .un) ?_ ?_
    · exact e_ofN (n_lst (a_cons (e_att (e_ixT (e_ixL (e_var rfl) e_C rfl) e_C rfl) rfl rfl) (a_cons (e_att (e_ixT (e_ixL (e_var rfl) e_C rfl) e_C rfl) rfl rfl) (a_cons (e_att (e_ixT (e_ixL (e_var rfl) e_C rfl) e_C rfl) rfl rfl)
        (a_cons (e_att (e_ixT (e_ixL (e_var rfl) e_C rfl) e_C rfl) rfl rfl) (a_cons (e_att (e_ixT (e_ixL (e_var rfl) e_C rfl) e_C rfl) rfl rfl) (a_cons (e_att (e_ixT (e_ixL (e_var rfl) e_C rfl) e_C rfl) rfl rfl) a_nil)))))) rfl rfl)
    refine w_norm (Γ' := i1F n t R (.dat true (.list (md1 n R ++ md2 n t))) (.dat true (.list [.int n, .int n, .int n, .int n, .int n, .int n]))) rfl ?_
    apply w_ret
    · refine e_andT (e_cmp (e_var rfl) (e_ofN (n_repS (n_lst (a_cons (e_frz (e_var rfl)) a_nil) rfl rfl) e_C rfl)) (k_eq0 (p := .list [.int n, .int n, .int n, .int n, .int n, .int n]) rfl rfl ?_)) rfl (e_andT (e_cmp (e_att (e_ixT (e_ixL (e_var rfl) e_C rfl) e_C rfl) rfl rfl) (e_var rfl) (k_eq0 (p := R) rfl rfl hR)) rfl (e_cmp (e_att (e_ixT (e_ixL (e_var rfl) e_C rfl) e_C rfl) rfl rfl) (e_var rfl) (k_eqTx ht ht)))
      exact (eqt_list eqt_int).sh (by decide) [n, n, n, n, n, n]
    exact ⟨_, _, rfl, rfl, by simp⟩
theorem as_x {t : Str} (h : AsOk t) : AsOk (t ++ ("x" : Str)) := h.app (by unfold AsOk; decide +kernel)
theorem sh_pair {ps : List Str} (hp : ∀ p ∈ ps, AsOk p) {t : Str} (ht : AsOk t) : SeqAt.shaped (.tuple [.tuple (ps.map .str), .str t]) = true := by
  obtain ⟨ys, hy⟩ := nm_list ps fun x hx => (hp x hx).ok
  have e : ps.map PyData.str = ys.map nmD := by rw [← hy, List.map_map]; rfl
  have := (eqt_p2 (eqt_tup eqt_nm) eqt_nm).sh (by decide) (ys, (⟨t, ht.ok⟩ : Nm))
  rw [e]
  exact this
abbrev i2F (n : Int) (t : Str) (P : PyData) (q3 q4 q5 : Sl) : List Sl := [.dat true (.int n), .dat true (.str t), .dat true P, q3, q4, q5]
theorem two8 (n : Int) (t : Str) (ht : AsOk t) (hl : t.length ≤ 8) (ps : List Str) (hp : ∀ p ∈ ps, AsOk p) (hpl : ps.length ≤ 6) : u_qtwo_fields [.d (.int n), .d (.str t), .n (.tuple (ps.map .str))] = .val (.d (.bool true), [.un, .un, .un]) := by
  have h1 := sh_pair hp ht
  have h2 : SeqAt.shaped (.tuple [.tuple (ps.map .str ++ [.str "bad"]), .str (t ++ ("x" : Str))]) = true := by
    have := sh_pair (ps := ps ++ [("bad" : Str)]) (fun p hq => by
      rcases List.mem_append.mp hq with h | h
      · exact hp p h
      · rw [List.mem_singleton.mp h]; unfold AsOk; decide +kernel) (as_x ht)
    rw [List.map_append] at this
    exact this
  have h3 : SeqAt.shaped (.tuple [.str t, .int n]) = true := (eqt_p2 eqt_nm eqt_int).sh (by decide) ((⟨t, ht.ok⟩ : Nm), n)
  have hz : szB (ps.map PyData.str ++ [.str "bad"]) = true := szB_of (by rw [List.length_append, List.length_map, List.length_singleton]; omega)
  have hx : t.length + ("x" : Str).length ≤ 100000 := by show t.length + 1 ≤ _; omega
  have hc1 : ∀ q3 q4 q5, dAdd (dVar 2) (dTup (dAc (dC (.str "bad")) dA0)) (i2F n t (.tuple (ps.map .str)) q3 q4 q5) = .val (.d true (.tuple (ps.map .str ++ [.str "bad"])), i2F n t (.tuple (ps.map .str)) q3 q4 q5) := fun q3 q4 q5 => e_cat (f1 := true) (f2 := true) (e_var rfl) (e_tup (a_cons e_C a_nil) rfl rfl) hz
  have hc2 : ∀ q3 q4 q5, dAdd (dVar 1) (dC (.str "x")) (i2F n t (.tuple (ps.map .str)) q3 q4 q5) = .val (.d true (.str (t ++ ("x" : Str))), i2F n t (.tuple (ps.map .str)) q3 q4 q5) := fun q3 q4 q5 => e_addS (e_var rfl) e_C hx
  generalize hP : ps.map PyData.str = P at h1 h2 hz hc1 hc2 ⊢
  generalize hT : t ++ ("x" : Str) = T at h2 hc2
  refine ok_eq (ok_run rfl ?_)
  show PD.W b_qtwo_fields (i2F n t (.tuple P) .un .un .un) _
  unfold b_qtwo_fields
  apply w_set
  · exact e_mkX (a_cons (e_frz (e_var rfl)) (a_cons (e_frz (e_var rfl)) a_nil)) rfl rfl
  refine w_norm (Γ' := i2F n t (.tuple P) (.dat true (xcD "NoPlan" [("word", .str t), ("path", .tuple P)])) .un .un) rfl ?_
  apply w_set
  · exact e_mkX (a_cons (hc1 _ _ _) (a_cons (hc2 _ _ _) a_nil)) rfl rfl
  refine w_norm (Γ' := i2F n t (.tuple P) (.dat true (xcD "NoPlan" [("word", .str t), ("path", .tuple P)])) (.dat true (xcD "NoPlan" [("word", .str T), ("path", .tuple (P ++ [.str "bad"]))])) .un) rfl ?_
  apply w_set
  · exact e_mkX (a_cons (e_frz (e_var rfl)) (a_cons (e_frz (e_var rfl)) a_nil)) rfl rfl
  refine w_norm (Γ' := i2F n t (.tuple P) (.dat true (xcD "NoPlan" [("word", .str t), ("path", .tuple P)])) (.dat true (xcD "NoPlan" [("word", .str T), ("path", .tuple (P ++ [.str "bad"]))])) (.dat true (xcD "NoBook" [("place", .int n), ("word", .str t)]))) rfl ?_
  apply w_ifN
  · refine t_orF (t_not (t_tst (z := true) (e_x (x_call (a_cons (e_var rfl) (a_cons e_C a_nil)) rfl (own5 _)) rfl))) (t_orF (t_not (t_tst (z := true) (e_x (x_call (a_cons (e_var rfl) (a_cons e_C a_nil)) rfl (own5 _)) rfl))) (t_not (t_tst (z := true) (e_x (x_call (a_cons (e_var rfl) (a_cons e_C a_nil)) rfl (own6 _)) rfl))))
  · rfl
  apply w_seqN
  refine w_ifN (z := false) (Γ1 := (i2F n t (.tuple P) (.dat true (xcD "NoPlan" [("word", .str t), ("path", .tuple P)])) (.dat true (xcD "NoPlan" [("word", .str T), ("path", .tuple (P ++ [.str "bad"]))])) (.dat true (xcD "NoBook" [("place", .int n), ("word", .str t)])))) (t_orF (t_tst (e_cmp (e_tup (a_cons (e_att (e_var rfl) rfl rfl) (a_cons (e_att (e_var rfl) rfl rfl) a_nil)) rfl rfl) (e_tup (a_cons (e_frz (e_var rfl)) (a_cons (e_frz (e_var rfl)) a_nil)) rfl rfl) (k_ne0 (p := .tuple [.tuple P, .str t]) rfl rfl h1)))
    (t_tst (e_cmp (e_tup (a_cons (e_att (e_var rfl) rfl rfl) (a_cons (e_att (e_var rfl) rfl rfl) a_nil)) rfl rfl) (e_tup (a_cons (hc1 _ _ _) (a_cons (hc2 _ _ _) a_nil)) rfl rfl) (k_ne0 (p := .tuple [.tuple (P ++ [.str "bad"]), .str T]) rfl rfl h2)))) rfl ?_
  apply w_seqN
  refine w_ret (d := .bool true) (Γ1 := i2F n t (.tuple P) (.dat true (xcD "NoPlan" [("word", .str t), ("path", .tuple P)])) (.dat true (xcD "NoPlan" [("word", .str T), ("path", .tuple (P ++ [.str "bad"]))])) (.dat true (xcD "NoBook" [("place", .int n), ("word", .str t)]))) ?_ ?_
  · exact e_cmp (e_tup (a_cons (e_att (e_var rfl) rfl rfl) (a_cons (e_att (e_var rfl) rfl rfl) a_nil)) rfl rfl) (e_tup (a_cons (e_frz (e_var rfl)) (a_cons (e_frz (e_var rfl)) a_nil)) rfl rfl) (k_eq0 (p := .tuple [.str t, .int n]) rfl rfl h3)
  exact ⟨_, _, rfl, rfl, rfl⟩
abbrev i3F (n : Int) (t : Str) (q2 q3 : Sl) : List Sl := [.dat true (.int n), .dat true (.str t), q2, q3]
theorem caught8 (n : Int) (t : Str) (ht : AsOk t) : u_qcaught [.d (.int n), .d (.str t)] = .val (.d (.bool true), [.un, .un]) := by
  refine ok_eq (ok_run rfl ?_)
  show PD.W b_qcaught (i3F n t .un .un) _
  unfold b_qcaught
  apply w_setX
  · exact x_c (c_l (n_lst a_nil rfl rfl))
  refine w_norm (Γ' := i3F n t (.own (.lst [])) .un) rfl ?_
  refine w_tryX (y := ⟨"NoMake", [("make", .int n)], i3F n t (.own (.lst [])) .un⟩) (we_raise (a_cons (e_frz (e_var rfl)) a_nil) rfl rfl rfl) rfl rfl ?_
  apply w_expr
  · apply e_ap
    · rfl
    · exact e_frz (e_x (x_call (a_cons (e_var rfl) (a_cons e_C a_nil)) rfl (own2 _)) rfl)
    · rfl
    · rfl
  refine w_nil ?_
  dsimp only
  refine w_norm (Γ' := i3F n t (.own (.lst [.bool true])) .un) rfl ?_
  refine w_tryX (y := ⟨"NoBook", [("place", .int n), ("word", .str t)], i3F n t (.own (.lst [.bool true])) .un⟩) (we_raise (a_cons (e_frz (e_var rfl)) (a_cons (e_frz (e_var rfl)) a_nil)) rfl rfl rfl) rfl rfl ?_
  apply w_expr
  · apply e_ap
    · rfl
    · exact e_frz (e_andT (e_cmp (e_att (e_var rfl) rfl rfl) (e_var rfl) (k_eqTx ht ht)) (by simp) (e_cmp (e_att (e_var rfl) rfl rfl) (e_var rfl) k_eqI))
    · rfl
    · rfl
  refine w_nil ?_
  dsimp only
  refine w_norm (Γ' := i3F n t (.own (.lst [.bool true, .bool true])) .un) (by simp [mkS]) ?_
  apply w_ret
  · exact e_cmp (e_varO rfl) (e_ofN (n_lst (a_cons e_C (a_cons e_C a_nil)) rfl rfl)) (k_eq0 (p := .list [.bool true, .bool true]) rfl rfl rfl)
  exact ⟨_, _, rfl, rfl, rfl⟩
theorem law_true (ns : List Int) (hns : ns.length ≤ 63) : u_p_law [.d (.list (ns.map PyData.int))] = .val (.d (.bool true), [.un]) := by
  refine ok_eq (ok_run rfl ?_)
  show PD.W b_p_law [.dat false (.list (ns.map PyData.int)), .un, .un, .un, .un, .un] _
  unfold b_p_law
  apply w_setX
  · exact x_call (a_cons (e_var rfl) a_nil) rfl (feed_q ns)
  refine w_norm (Γ' := [.dat false (.list (ns.map PyData.int)), .own (.feed (cutD ns none (some 63), 0, 0)), .un, .un, .un, .un]) rfl ?_
  refine w_forR (fr := true) (N := 2) (Γ1 := [.dat false (.list (ns.map PyData.int)), .own (.feed (cutD ns none (some 63), 0, 0)), .un, .un, .un, .un]) (S := Fd) (fun _ _ => True) (fun s => [.dat false (.list (ns.map PyData.int)), .own (.feed s), .un, .un, .un, .un]) (cutD ns none (some 63), 0, 0) (i_range1 e_C (cRng_of (by decide) (by decide) (by decide) (by decide))) rfl trivial ?_ ?_
  · rintro i f hi _
    refine ⟨_, rfl, ?_⟩
    obtain ⟨n, f1, hn⟩ := number8 f
    apply w_set
    · exact e_x (x_callE (a_cons (e_varO rfl) a_nil) rfl rfl rfl rfl hn rfl rfl) rfl
    obtain ⟨t, f2, ht, tl8, tok⟩ := text8 f1
    apply w_set
    · exact e_x (x_callE (a_cons (e_varO rfl) a_nil) rfl rfl rfl rfl ht rfl rfl) rfl
    obtain ⟨rs, f3, hr, _⟩ := rows8 f2
    apply w_set
    · exact e_xc (x_callE (a_cons (e_varO rfl) a_nil) rfl rfl rfl rfl hr rfl rfl)
    refine w_norm (Γ' := [.dat false (.list (ns.map PyData.int)), .own (.feed f3), .dat true (.int (i : Nat)), .dat true (.int n), .dat true (.str t), .dat true (.list (rs.map dL))]) rfl ?_
    obtain ⟨ps, f4, hpp, pl, pok⟩ := path8 f3
    have c1 : dTnot (dTst (eX (xCallM u_qone_field [false, false, true] [] (dAc (dVar 3) (dAc (dVar 4) (dAc (dFrz (dVar 5)) dA0)))))) [.dat false (.list (ns.map PyData.int)), .own (.feed f3), .dat true (.int (i : Nat)), .dat true (.int n), .dat true (.str t), .dat true (.list (rs.map dL))] = .val (false, [.dat false (.list (ns.map PyData.int)), .own (.feed f3), .dat true (.int (i : Nat)), .dat true (.int n), .dat true (.str t), .dat true (.list (rs.map dL))]) := t_not (t_tst (z := true) (e_x (x_callM (a_cons (e_var rfl) (a_cons (e_var rfl) (a_cons (e_frz (e_var rfl)) a_nil))) rfl (one8 n t tok rs)) rfl))
    have c0 : eX (xCallC u_qpath 0 [] (dAc (dVar 1) dA0)) [.dat false (.list (ns.map PyData.int)), .own (.feed f3), .dat true (.int (i : Nat)), .dat true (.int n), .dat true (.str t), .dat true (.list (rs.map dL))] = .val (.d true (.tuple (ps.map .str)), [.dat false (.list (ns.map PyData.int)), .own (.feed f4), .dat true (.int (i : Nat)), .dat true (.int n), .dat true (.str t), .dat true (.list (rs.map dL))]) := e_x (x_callE (a_cons (e_varO rfl) a_nil) rfl rfl rfl rfl hpp rfl rfl) rfl
    have c2 : dTnot (dTst (eX (xCallM u_qtwo_fields [false, false, true] [] (dAc (dVar 3) (dAc (dVar 4) (dAc (eX (xCallC u_qpath 0 [] (dAc (dVar 1) dA0))) dA0)))))) [.dat false (.list (ns.map PyData.int)), .own (.feed f3), .dat true (.int (i : Nat)), .dat true (.int n), .dat true (.str t), .dat true (.list (rs.map dL))] = .val (false, [.dat false (.list (ns.map PyData.int)), .own (.feed f4), .dat true (.int (i : Nat)), .dat true (.int n), .dat true (.str t), .dat true (.list (rs.map dL))]) := t_not (t_tst (z := true) (e_x (x_callM (a_cons (e_var rfl) (a_cons (e_var rfl) (a_cons c0 a_nil))) rfl (two8 n t tok tl8 ps pok pl)) rfl))
    refine w_ifN (t_orF c1 c2) rfl ?_
    apply w_seqN
    apply w_ifN
    · exact t_not (t_tst (z := true) (e_x (x_call (a_cons (e_var rfl) (a_cons (e_var rfl) a_nil)) rfl (caught8 n t tok)) rfl))
    · rfl
    apply w_seqN
    exact w_nil ⟨f4, rfl, trivial⟩
  · rintro f _
    apply w_ret
    · exact e_C
    exact ⟨_, _, rfl, rfl, rfl⟩
end PDW
end
end
end
end
set_option Elab.async false
set_option linter.all false
set_option maxRecDepth 100000
set_option maxHeartbeats 0
namespace PDW
open PySem PySem.Spec PyProof.Rows L2 PD
theorem envD {K : PySem.W.Frag} {hp : Heap} {mg : Str → Option Value} (X : K.In hp) (G : hp.Ns mainGlobals mg) (c : PD.SaysX fxD faD fnD K) : Env K mg where
  d_p_law := ⟨_, _, (c.d.def_ 0 (d := dd0) rfl).choose_spec, He.glo_ok X G (c.d.fact 0 (f := .glo "law") rfl)⟩
  d_qfeed := ⟨_, _, (c.d.def_ 1 (d := dd1) rfl).choose_spec, He.glo_ok X G (c.d.fact 1 (f := .glo "_law_feed") rfl)⟩
  d_qnumber := ⟨_, _, (c.d.def_ 2 (d := dd2) rfl).choose_spec, He.glo_ok X G (c.d.fact 2 (f := .glo "_law_number") rfl)⟩
  d_qtake := ⟨_, _, (c.d.def_ 3 (d := dd3) rfl).choose_spec, He.glo_ok X G (c.d.fact 3 (f := .glo "_law_take") rfl)⟩
  d_qtext := ⟨_, _, (c.d.def_ 4 (d := dd4) rfl).choose_spec, He.glo_ok X G (c.d.fact 4 (f := .glo "_law_text") rfl)⟩
  d_qrows := ⟨_, _, (c.d.def_ 5 (d := dd5) rfl).choose_spec, He.glo_ok X G (c.d.fact 5 (f := .glo "_law_rows") rfl)⟩
  d_qone_field := ⟨_, _, (c.d.def_ 6 (d := dd6) rfl).choose_spec, He.glo_ok X G (c.d.fact 6 (f := .glo "_law_one_field") rfl)⟩
  d_qown := ⟨_, _, (c.d.def_ 7 (d := dd7) rfl).choose_spec, He.glo_ok X G (c.d.fact 7 (f := .glo "_law_own") rfl)⟩
  d_qkinds := ⟨_, _, (c.d.def_ 8 (d := dd8) rfl).choose_spec, He.glo_ok X G (c.d.fact 8 (f := .glo "_law_kinds") rfl)⟩
  d_qtwo_fields := ⟨_, _, (c.d.def_ 9 (d := dd9) rfl).choose_spec, He.glo_ok X G (c.d.fact 9 (f := .glo "_law_two_fields") rfl)⟩
  d_qpath := ⟨_, _, (c.d.def_ 10 (d := dd10) rfl).choose_spec, He.glo_ok X G (c.d.fact 10 (f := .glo "_law_path") rfl)⟩
  d_qcaught := ⟨_, _, (c.d.def_ 11 (d := dd11) rfl).choose_spec, He.glo_ok X G (c.d.fact 11 (f := .glo "_law_caught") rfl)⟩
  b_list := He.free_ok X G (c.d.fact 12 (f := .free "list") rfl)
  b_range := He.free_ok X G (c.d.fact 13 (f := .free "range") rfl)
  b_isinstance := He.free_ok X G (c.d.fact 14 (f := .free "isinstance") rfl)
  b_ValueError := He.free_ok X G (c.d.fact 15 (f := .free "ValueError") rfl)
  b_tuple := He.free_ok X G (c.d.fact 16 (f := .free "tuple") rfl)
  x_all := PD.xall_ok (c.x 0) (PD.all_cons (He.glo_ok X G (c.d.fact 17 (f := .glo "NoBook") rfl)) (PD.all_cons (He.glo_ok X G (c.d.fact 18 (f := .glo "NoMake") rfl)) (PD.all_cons (He.glo_ok X G (c.d.fact 19 (f := .glo "NoName") rfl)) (PD.all_cons (He.glo_ok X G (c.d.fact 20 (f := .glo "NoNet") rfl)) (PD.all_cons (He.glo_ok X G (c.d.fact 21 (f := .glo "NoOrder") rfl)) (PD.all_cons (He.glo_ok X G (c.d.fact 22 (f := .glo "NoPlan") rfl)) (PD.all_cons (He.glo_ok X G (c.d.fact 23 (f := .glo "NoRow") rfl)) (PD.all_cons (He.glo_ok X G (c.d.fact 24 (f := .glo "NoText") rfl)) (PD.all_cons (He.glo_ok X G (c.d.fact 25 (f := .glo "NoTrial") rfl)) (PD.all_cons (He.glo_ok X G (c.d.fact 26 (f := .glo "NoTruth") rfl)) (PD.all_cons (He.glo_ok X G (c.d.fact 27 (f := .glo "NothingTold") rfl)) (PD.all_cons (He.glo_ok X G (c.d.fact 28 (f := .glo "TooGreat") rfl)) PD.all_nil)))))))))))) (PD.all_cons (fun _ => (He.glo_ok X G (c.d.fact 29 (f := .glo "HuntError") rfl))) (PD.all_cons (fun _ => (He.glo_ok X G (c.d.fact 17 (f := .glo "NoBook") rfl))) (PD.all_cons (fun _ => (He.glo_ok X G (c.d.fact 18 (f := .glo "NoMake") rfl))) (PD.all_cons (fun _ => (He.glo_ok X G (c.d.fact 19 (f := .glo "NoName") rfl))) (PD.all_cons (fun _ => (He.glo_ok X G (c.d.fact 20 (f := .glo "NoNet") rfl))) (PD.all_cons (fun _ => (He.glo_ok X G (c.d.fact 21 (f := .glo "NoOrder") rfl))) (PD.all_cons (fun _ => (He.glo_ok X G (c.d.fact 22 (f := .glo "NoPlan") rfl))) (PD.all_cons (fun _ => (He.glo_ok X G (c.d.fact 23 (f := .glo "NoRow") rfl))) (PD.all_cons (fun _ => (He.glo_ok X G (c.d.fact 24 (f := .glo "NoText") rfl))) (PD.all_cons (fun _ => (He.glo_ok X G (c.d.fact 25 (f := .glo "NoTrial") rfl))) (PD.all_cons (fun _ => (He.glo_ok X G (c.d.fact 26 (f := .glo "NoTruth") rfl))) (PD.all_cons (fun _ => (He.glo_ok X G (c.d.fact 27 (f := .glo "NothingTold") rfl))) (PD.all_cons (fun _ => (He.glo_ok X G (c.d.fact 28 (f := .glo "TooGreat") rfl))) (PD.all_cons (fun z => absurd rfl z) PD.all_nil)))))))))))))) (PD.all_cons (He.glo_ok X G (c.d.fact 29 (f := .glo "HuntError") rfl)) (PD.all_cons (He.glo_ok X G (c.d.fact 17 (f := .glo "NoBook") rfl)) PD.all_nil))
  hunt := ⟨PD.huntB_ok (c.x 1), (He.glo_ok X G (c.d.fact 29 (f := .glo "HuntError") rfl))⟩
  i_NoNet := c.d.def_ 12 (d := dd12) rfl
  j_NoNet := PD.iniB_ok (c.x 2)
  i_NoOrder := c.d.def_ 13 (d := dd13) rfl
  j_NoOrder := PD.iniB_ok (c.x 3)
  i_NoMake := c.d.def_ 14 (d := dd14) rfl
  j_NoMake := PD.iniB_ok (c.x 4)
  i_NoTrial := c.d.def_ 15 (d := dd15) rfl
  j_NoTrial := PD.iniB_ok (c.x 5)
  i_NoTruth := c.d.def_ 16 (d := dd16) rfl
  j_NoTruth := PD.iniB_ok (c.x 6)
  i_TooGreat := c.d.def_ 17 (d := dd17) rfl
  j_TooGreat := PD.iniB_ok (c.x 7)
  i_NoText := c.d.def_ 18 (d := dd18) rfl
  j_NoText := PD.iniB_ok (c.x 8)
  i_NoName := c.d.def_ 19 (d := dd19) rfl
  j_NoName := PD.iniB_ok (c.x 9)
  i_NoPlan := c.d.def_ 20 (d := dd20) rfl
  j_NoPlan := PD.iniB_ok (c.x 10)
  i_NoBook := c.d.def_ 21 (d := dd21) rfl
  j_NoBook := PD.iniB_ok (c.x 11)
  z_NothingTold := PD.exc0B_ok (c.x 12)
  z_NoRow := PD.exc0B_ok (c.x 13)
theorem lawD {P : Program} {w : World} {K : PySem.W.Frag} {hp : Heap} {mg : Str → Option Value} {f : Addr} (X : K.In hp) (G : hp.Ns mainGlobals mg) (hf : mg ("law" : Str) = some (.ref f)) (c : PD.SaysX fxD faD fnD K) :
    ∃ fd : FuncData, (∀ (z : Shared) (v : Value), BindsTo z fd ⟨[v], []⟩ [("_law_script", v)]) ∧ ∀ base : Heap, FnOk P w K mg base (L2N.CX P w) 4 f fd ["_law_script"] (spU K mg u_p_law) := by
  obtain ⟨fd, F⟩ := c.d.def_ 0 (d := dd0) rfl
  have e := hf.symm.trans (He.glo_ok X G (c.d.fact 0 (f := .glo "law") rfl))
  cases e
  have b := FunD.bindsA (ps := ["_law_script"]) F fun _ _ _ _ _ _ us hl => match us, hl with | [_], _ => rfl
  exact ⟨fd, fun z v => b z [v] rfl, fun base => fo_p_law (envD X G c) F⟩
theorem spD {K : PySem.W.Frag} {mg : Str → Option Value} {H : Hp} {a : Addr} {ns : List Int} (hl : ns.length ≤ 63) (hS : SqL K H a (ns.map V.int)) : spU K mg u_p_law [.ref a] H (fun v _ => v = .bl true) fun _ _ _ => False := spU_law (law_true ns hl) hS
theorem walkD {l : PySem.W.OpenLaw} {n k : Nat} {q : Program} {loose : List Str} {XP : (Str → Option Value) → Heap → Prop} {YP : World → Heap → Prop} {d : DefRec} {x : Str} (hn : l.most = some n) (hn2 : n ≤ sizeLine) (hdf : d.params.defaults = []) (hr : Room k callerA)
    (F : ∀ (w : World) (mg : Str → Option Value) (fa : Addr) (h : Heap), YP w h → h.Ns mainGlobals mg → mg d.name = some (.ref fa) →
      ∃ (K : PySem.W.Frag) (fd : FuncData) (sp : Sp), K.In h ∧ (∀ (z : Shared) (u : Value), BindsTo z fd ⟨[u], []⟩ [(x, u)]) ∧
        (∀ (H : Hp) (a : Addr) (ns : List Int), ns.length ≤ n → Only H → SqL K H a (ns.map V.int) → sp [.ref a] H (fun v _ => v = .bl true) fun _ _ _ => False) ∧
        ∀ base : Heap, K.In base → base.Ns mainGlobals mg → FnOk l.prog w K mg base (L2N.CX l.prog w) k fa fd [x] sp) :
    PySem.W.WalkO q loose XP YP l.row.toRowW d [] (fun f vs => PySem.call f vs) := by
  refine Att.attach_call hn hdf fun w s0 s1 mg mb fa o pm cd doc a vs ns G Y ho hd hcd hmg hobj hints hlen hg => ?_
  obtain ⟨K, fd, sp, KX, hb, hsp, hF⟩ := F w mg fa _ Y G.T.g hmg
  exact law_call KX G.T.g G.T.b G.T.builtins G.T.nolimit hg hobj hints (Nat.le_trans hlen hn2) hr hF hb (fun H hO hS => hsp H a ns hlen hO hS) fun H e s' ⟨_, _, _, _, _, _, _, _, _, _, _, _, z⟩ => z
end PDW
open PySem PySem.W PySem.Calls PyProof.Rows
theorem PySem.Challenge.cw_badbegins_k08_refusals_made_by_hand_holds : PySem.Challenge.rw_badbegins_k08_refusals_made_by_hand.Holds := by
  w_on; o_law
  refine HandSHeadRun.head_any (r := OpenLaw.row PySem.Challenge.rw_badbegins_k08_refusals_made_by_hand) (q := view (OpenLaw.row PySem.Challenge.rw_badbegins_k08_refusals_made_by_hand).prog [26]) (H := PDW.hkD) (ob := PDW.obD) (M := 4000) (loose := PDW.looseD) (d := HandSHeadRun.topDef (OpenLaw.row PySem.Challenge.rw_badbegins_k08_refusals_made_by_hand).prog 26) (kwd := []) PDW.obD_eq
    (by kernel_rfl) (fun z => by kernel_rfl) PDW.runD (by kernel_rfl) (by kernel_rfl) (by kernel_rfl) (by rfl) (by first | assumption | decide +kernel) (by decide +kernel) ⟨rfl, rfl, rfl, rfl, rfl, by decide +kernel⟩ ?hw ?hc
  case hw => w_witness2
  case hc =>
    refine PDW.walkD (l := PySem.Challenge.rw_badbegins_k08_refusals_made_by_hand) (n := 63) (k := 4) (x := "_law_script") rfl (by decide) (by kernel_rfl) ⟨rfl, by decide, by decide⟩ ?F
    intro w mg fa hp Y G hmg0
    obtain ⟨K, KX, c⟩ := Y
    have hmg : mg ("law" : PySem.Str) = some (.ref fa) := by
      have e : (HandSHeadRun.topDef (OpenLaw.row PySem.Challenge.rw_badbegins_k08_refusals_made_by_hand).prog 26).name = ("law" : PySem.Str) := by kernel_rfl
      rw [← e]
      exact hmg0
    obtain ⟨fd, hb, hF⟩ := PDW.lawD (P := PySem.Challenge.rw_badbegins_k08_refusals_made_by_hand.prog) (w := w) KX G hmg c
    exact ⟨K, fd, _, KX, hb, fun H a ns hl _ hS => PDW.spD hl hS, fun base _ _ => hF base⟩
